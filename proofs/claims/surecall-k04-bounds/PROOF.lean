import PyProof.Rows.All
import Wide.All
import OpenK.AllK
import Wide.FinOn
import HandS.ForMost
import HandS.Sort
import HandS.SortOrd
import HandS.SortRule
import KE.KSortTupAny
import KE.SortKeyed
import HandS.Strs
import HandS.Evl
import HandS.Walk
import HandS.Zip
import HandS.Wide
import HandS.Style
import HandS.TupAny
import HandS.TupMul
import HandS.IsInst
import HandS.Deep
import HandS.NoneIn
import HandS.SetKeys
import HandS.Conv
import HandS.Flow
import HandS.More
import HandS.Defaults
import KE.KeyNested
import KE.KDictCopyH
import KE.KDictKeyed
import KE.KDictPairs
import KE.KDictDisplayH
import HandS.TupLen
import KE.KDictList
import HandS.TupLe
import KE.KRevSl
import KE.GoesEnum
import KE.KDictZip
import HandS.Zip0
import HandS.Head0
import HandS.Head1
import HandS.Head2
import HandS.HeadEnd
import HandS.HeadHook1
import HandS.HeadHook2
import PySem.Challenge.RW_surecall_k04_programs_at_their_bounds
set_option Elab.async false
set_option linter.all false
set_option maxRecDepth 100000
section
set_option maxHeartbeats 200000
namespace TT
open PySem PySem.Spec PyProof.Rows L2 SrtO
def key (x : List Str) : List (List Nat) := x.map fun s => s.cps.toList
def lexT (x y : List Str) : Bool := decide (key x < key y)
theorem key_inj {x y : List Str} (h : key x = key y) : x = y := by
 induction x generalizing y with
 | nil => cases y with
  | nil => rfl
  | cons _ _ => cases h
 | cons a r ih =>
  cases y with
  | nil => cases h
  | cons b r2 =>
   have h2 : a.cps.toList :: key r = b.cps.toList :: key r2 := h
   injection h2 with h3 h4
   have e : a = b := by
    cases a; cases b
    simp only at h3
    have := Array.toList_inj.mp h3
    rw [this]
   rw [e, ih h4]
theorem swo_lexT : Swo lexT := by
 refine ⟨fun x y h => decide_eq_false fun c => List.lt_asymm (of_decide_eq_true h) c, fun x y z h1 h2 => decide_eq_false fun c => ?_⟩
 have h1 := List.not_lt.mp (of_decide_eq_false h1)
 have h2 := List.not_lt.mp (of_decide_eq_false h2)
 exact List.not_lt.mpr (List.le_trans h1 h2) c
theorem swo_map {α : Type} (k : α → List Str) : Swo fun v u => lexT (k v) (k u) := ⟨fun x y h => swo_lexT.asym _ _ h, fun x y z h1 h2 => swo_lexT.tr _ _ _ h1 h2⟩
def IsTS (h : Heap) (v : Value) (ks : List Str) : Prop := ∃ (a : Addr) (o : Obj) (its : Array Value) (n : Nat), v = .ref a ∧ h.get? a = some o ∧ o.cls = .type "tuple" ∧ o.data = .seq its n ∧ Vals (ks.map V.str) its.toList ∧ ks ≠ []
theorem IsTS.keeps {h h' : Heap} {v : Value} {ks : List Str} (x : IsTS h v ks) (k : ∀ b o, h.get? b = some o → o.cls = .type "tuple" → h'.get? b = some o) : IsTS h' v ks := by
 obtain ⟨a, o, its, n, e, ho, hc, hd, r, ne⟩ := x
 exact ⟨a, o, its, n, e, k _ _ ho hc, hc, hd, r, ne⟩
section
variable {prog : Program} {w : World} {A : Around} {E : Value → Shared → Prop} {s : Shared}
theorem katlex {fin : Bool} {Q : Bool → Shared → Prop} : ∀ (r1 r2 : List Str) (us1 us2 : List Value) (i : Nat), Vals (r1.map V.str) us1 → Vals (r2.map V.str) us2 → fin = decide (r1.length < r2.length) → Q (lexT r1 r2) s → PySem.W.KatLex prog w A true fin Q (us1.zip us2) i s
 | [], r2, _, us2, i, .nil, v2, hf, h => by
  rw [List.zip_nil_left]
  refine PySem.W.kat_nil ?_
  have e : lexT [] r2 = fin := by
   rw [hf]
   cases r2 with
   | nil => rfl
   | cons b r => exact decide_eq_decide.mpr ⟨fun _ => by simp, fun _ => List.nil_lt_cons _ _⟩
  rw [← e]; exact h
 | a :: r1, [], us1, _, i, v1, .nil, hf, h => by
  rw [List.zip_nil_right]
  refine PySem.W.kat_nil ?_
  have e : lexT (a :: r1) [] = fin := by
   rw [hf]
   exact decide_eq_decide.mpr ⟨fun c => absurd c (List.not_lt_nil _), fun c => absurd c (by simp)⟩
  rw [← e]; exact h
 | a :: r1, b :: r2, _, _, i, .cons h1 v1, .cons h2 v2, hf, h => by
  obtain ⟨t, rfl⟩ := h1
  obtain ⟨t', rfl⟩ := h2
  rw [List.zip_cons_cons]
  refine PySem.W.kat_cons (SeqAt.EqAt.str_str a t b t' prog w _ _ ?_)
  refine PySem.W.kat_go (fun e1 => ?_) (fun e1 => ?_)
  ·have ex : a = b := by simpa using e1
   subst ex
   refine PySem.W.kat_yes (katlex r1 r2 _ _ (i + 1) v1 v2 (by rw [hf]; simp) ?_)
   have e : lexT (a :: r1) (a :: r2) = lexT r1 r2 := by
    refine decide_eq_decide.mpr ?_
    show a.cps.toList :: key r1 < a.cps.toList :: key r2 ↔ key r1 < key r2
    rw [List.cons_lt_cons_iff]
    exact ⟨fun c => c.elim (fun c => absurd c (List.lt_irrefl _)) (fun c => c.2), fun c => .inr ⟨rfl, c⟩⟩
   rw [← e]; exact h
  ·have ex : ¬ a = b := by simpa using e1
   have e : lexT (a :: r1) (b :: r2) = decide (a.cps.toList < b.cps.toList) := by
    refine decide_eq_decide.mpr ?_
    show a.cps.toList :: key r1 < b.cps.toList :: key r2 ↔ a.cps.toList < b.cps.toList
    rw [List.cons_lt_cons_iff]
    refine ⟨fun c => c.elim id (fun c => absurd ?_ ex), fun c => .inl c⟩
    have := key_inj (x := [a]) (y := [b]) (by unfold key; rw [List.map_cons, List.map_cons, c.1])
    injection this
   rw [e] at h
   exact PySem.W.kat_no (oneLt_any_str h)
theorem tt_cmp {vs : List Value} {k : Value → List Str} (hp : ∀ v ∈ vs, IsTS s.heap v (k v)) : Cmp prog w A s (tuples' true) (fun p => p.1 ∈ vs) (lt2 fun v u => lexT (k v) (k u)) := by
 intro p q hm hm'
 obtain ⟨a, o, its, n, e, ho, hc, hd, r, _⟩ := hp _ hm
 obtain ⟨a', o', its', n', e', ho', hc', hd', r', _⟩ := hp _ hm'
 show wpAny (model prog w) A (keyLt' (tuples' true) p.1 q.1) (fun r s' => s' = s ∧ r = lexT (k p.1) (k q.1)) (fun _ _ => False) s
 generalize k p.1 = x at r ⊢
 generalize k q.1 = y at r' ⊢
 rw [e, e']
 refine PySem.W.kat_lt ho hd ho' hd' ?_
 refine katlex x y _ _ 0 r r' ?_ ⟨rfl, rfl⟩
 have h1 : x.length = its.size := by
  have := r.length
  rw [List.length_map] at this
  rw [this, Array.length_toList]
 have h2 : y.length = its'.size := by
  have := r'.length
  rw [List.length_map] at this
  rw [this, Array.length_toList]
 rw [h1, h2]
theorem firsts_tt {h : Heap} {k : Value → List Str} : ∀ {vs : List Value}, (∀ v ∈ vs, IsTS h v (k v)) → ∃ fs : List Value, PySem.W.KatTups h vs fs ∧ fs.length = vs.length ∧ ∀ f ∈ fs, ∃ x t, f = Value.str x t
 | [], _ => ⟨[], PySem.W.KatTups.nil, rfl, fun f hf => by simp at hf⟩
 | v :: vs, x => by
  obtain ⟨fs, kt, hl, hi⟩ := firsts_tt (vs := vs) fun u hu => x u (List.mem_cons_of_mem _ hu)
  obtain ⟨a, o, its, n, rfl, ho, hc, hd, r, ne⟩ := x v List.mem_cons_self
  cases hk : k (.ref a) with
  | nil => exact absurd hk ne
  | cons y ys =>
   rw [hk, List.map_cons] at r
   cases hi2 : its.toList with
   | nil => rw [hi2] at r; cases r
   | cons u us =>
    rw [hi2] at r
    cases r with
    | cons h1 _ =>
     obtain ⟨t, rfl⟩ := h1
     have h0 : its[0]? = some (Value.str y t) := by
      rw [← Array.getElem?_toList, hi2]; rfl
     refine ⟨.str y t :: fs, PySem.W.KatTups.cons ho hc hd h0 kt, by rw [List.length_cons, List.length_cons, hl], fun f hf => ?_⟩
     rcases List.mem_cons.mp hf with rfl | hf
     ·exact ⟨y, t, rfl⟩
     ·exact hi f hf
theorem tt_sortableO {a : Addr} {vs : List Value} {k : Value → List Str} (h0 : 0 < vs.length) (hp : ∀ v ∈ vs, IsTS s.heap v (k v)) (ha : ∀ o, s.heap.get? a = some o → o.cls ≠ .type "tuple") : SortableO prog w A s a vs fun v u => lexT (k v) (k u) := by
 intro h' keep
 have hp' : ∀ v ∈ vs, IsTS h' v (k v) := fun v hm => (hp v hm).keeps fun b o e c => keep b o (fun z => by subst z; exact ha o e c) e
 obtain ⟨fs, h1, h2, h3⟩ := firsts_tt hp'
 refine ⟨tuples' true, fun Q E hq => ?_, tt_cmp hp'⟩
 refine PySem.W.kat_kind (T := .type "str") h1 (by omega) (fun f hm => ?_) (by rfl) ?_
 ·obtain ⟨x, t, rfl⟩ := h3 f hm
  exact PySem.W.Looks.now
 ·have e : (Value.type "str" != Value.type "tuple") = true := by first | decide +kernel | rfl | decide
  rw [e]
  exact hq
theorem sorted_ttsO {l : Addr} {vs : List Value} {k : Value → List Str} {Q : Value → Shared → Prop} (hl : s.heap.IsList l vs.toArray) (hz : vs.length ≤ sizeLine) (hp : ∀ v ∈ vs, IsTS s.heap v (k v))
  (h : ∀ (h' : Heap) (d : Addr) (out : List Value), Srtd (fun v u => lexT (k v) (k u)) out → Stb (fun v u => lexT (k v) (k u)) out vs → (∀ b o, s.heap.get? b = some o → h'.get? b = some o) → s.heap.objs.size ≤ d → (∃ n, h'.get? d = some (seqObj "list" out.toArray n)) → Q (.ref d) { s with heap := h' }) :
  wpAny (model prog w) A (call (.builtin "sorted") [.ref l]) Q E s := by
 refine sorted_ord (swo_map k) hl hz (fun h2 h₁ a ha kk => ?_) fun out hs hb => ?_
 ·refine tt_sortableO (s := { s with heap := h₁ }) (by omega) (fun v hm => (hp v hm).keeps fun b o e _ => (kk b o e).2) fun o e => ?_
  have e' : some o = some (seqObj "list" vs.toArray 0) := e.symm.trans ha
  cases e'
  intro c
  exact absurd (Value.type.inj c) (by decide)
 ·exact h _ _ out hs hb (fun b o e => sortedAll_old e) (Nat.le_succ _) (sortedAll_at s.heap vs out.toArray)
end
def leT (x y : List Str) : Bool := !lexT y x
def sortT (xs : List (List Str)) : List (List Str) := xs.mergeSort leT
theorem leT_trans (a b c : List Str) (x : leT a b = true) (y : leT b c = true) : leT a c = true := by
 unfold leT at *
 rw [Bool.not_eq_true'] at *
 exact swo_lexT.tr _ _ _ x y
theorem leT_total (a b : List Str) : (leT a b || leT b a) = true := by
 unfold leT
 cases h : lexT b a with
 | false => rfl
 | true => rw [swo_lexT.asym _ _ h]; rfl
theorem leT_anti (a b : List Str) (x : leT a b = true) (y : leT b a = true) : a = b := by
 unfold leT at x y
 rw [Bool.not_eq_true'] at x y
 exact key_inj (List.le_antisymm (List.not_lt.mp (of_decide_eq_false x)) (List.not_lt.mp (of_decide_eq_false y)))
theorem sortT_eq {xs ys : List (List Str)} (p : ys.Perm xs) (h : Srtd lexT ys) : ys = sortT xs := by
 have h1 : ys.Pairwise fun a b => leT a b = true := h.imp fun {a b} q => by unfold leT; rw [q]; rfl
 have h2 : (sortT xs).Pairwise fun a b => leT a b = true := List.pairwise_mergeSort leT_trans leT_total xs
 exact List.Perm.eq_of_pairwise (fun a b _ _ x y => leT_anti a b x y) h1 h2 (p.trans (List.mergeSort_perm _ _).symm)
theorem strs_inj : ∀ {a b : List Str} {us : List Value}, Vals (a.map V.str) us → Vals (b.map V.str) us → a = b
 | [], [], _, _, _ => rfl
 | [], _ :: _, _, .nil, h => by cases h
 | _ :: _, [], _, h, .nil => by cases h
 | x :: a, y :: b, _, .cons h1 t1, .cons h2 t2 => by
  obtain ⟨t, e1⟩ := h1
  obtain ⟨t', e2⟩ := h2
  rw [e1] at e2
  injection e2 with e3 _
  rw [e3, strs_inj t1 t2]
theorem IsTS.one {h : Heap} {v : Value} {a b : List Str} (x : IsTS h v a) (y : IsTS h v b) : a = b := by
 obtain ⟨p, o, its, n, rfl, ho, hc, hd, r, ne⟩ := x
 obtain ⟨p2, o2, its2, n2, e, ho2, hc2, hd2, r2, ne2⟩ := y
 cases e
 rw [ho] at ho2
 cases ho2
 rw [hd] at hd2
 cases hd2
 exact strs_inj r r2
open Classical in
noncomputable def keyOf (h : Heap) (v : Value) : List Str := if q : ∃ ks, IsTS h v ks then choose q else []
theorem keyOf_eq {h : Heap} {v : Value} {ks : List Str} (x : IsTS h v ks) : keyOf h v = ks := by
 unfold keyOf
 have q : ∃ ks, IsTS h v ks := ⟨ks, x⟩
 rw [dif_pos q]
 exact (Classical.choose_spec q).one x
end TT
namespace L2
open PySem PySem.Spec PyProof.Rows
def TupS (K : PySem.W.Frag) (H : Hp) (x : V) (ks : List Str) : Prop := ∃ t, x = V.ref t ∧ SqT K H t (ks.map V.str) ∧ ks ≠ []
section
variable {X : Cx} {pins : List (Addr × Obj)} {σ : St} {H : Hp} {s : Shared}
theorem tupS_raw (I : Inv X pins σ H s) {x : V} {ks : List Str} (h : TupS X.K H x ks) : ∃ t, x = V.ref t ∧ TT.IsTS s.heap (.ref t) ks := by
 obtain ⟨t, rfl, hs, ne⟩ := h
 obtain ⟨its, rv, ⟨o, ho, hc, n, hd⟩, _⟩ := I.tuple hs
 exact ⟨t, rfl, t, o, _, n, rfl, ho, hc, hd, by simpa using rv, ne⟩
theorem sort_pairs {h : Heap} {us out : List Value} {xs : List V} {ks : List (List Str)} (e1 : xs = us.map backV) (hk : us.map (TT.keyOf h) = ks) (h1 : SrtO.Srtd (fun v u => TT.lexT (TT.keyOf h v) (TT.keyOf h u)) out) (h2 : out.Perm us) :
  ((out.map backV).zip (TT.sortT ks)).Perm (xs.zip ks) ∧ (out.map backV).length = ks.length := by
 have e2 : out.map (TT.keyOf h) = TT.sortT ks := by
  refine TT.sortT_eq ?_ (SrtO.srtd_map (lt := TT.lexT) (f := fun u => TT.keyOf h u) h1)
  rw [← hk]
  exact h2.map _
 refine ⟨?_, ?_⟩
 ·rw [← e2, e1, ← hk]
  have z : ∀ l : List Value, (l.map backV).zip (l.map (TT.keyOf h)) = l.map fun u => (backV u, TT.keyOf h u) := fun l => by
   induction l with
   | nil => rfl
   | cons a l ih => simp only [List.map_cons, List.zip_cons_cons, ih]
  rw [z, z]
  exact h2.map _
 ·rw [List.length_map, h2.length_eq, ← hk, List.length_map]
def rSortTT (K : PySem.W.Frag) : List V → Hp → VK → Prop := fun vs H Q => ∃ (a : Addr) (xs : List V) (ks : List (List Str)), vs = [V.ref a] ∧ SqL K H a xs ∧ Paired (TupS K H) xs ks ∧
 ∀ ys p, (ys.zip (TT.sortT ks)).Perm (xs.zip ks) → ys.length = ks.length → H p = none → Q (.ref p) (upd H p (.lst ys))
theorem tup_keys (I : Inv X pins σ H s) : ∀ {xs : List V} {ks : List (List Str)} {us : List Value}, Paired (TupS X.K H) xs ks → Vals xs us → xs = us.map backV ∧ us.map (TT.keyOf s.heap) = ks ∧ ∀ v ∈ us, TT.IsTS s.heap v (TT.keyOf s.heap v) ∧ ∃ a, v = Value.ref a
 | _, _, _, .nil, .nil => ⟨rfl, rfl, fun _ h => by cases h⟩
 | _, _, _, .cons h t, .cons r rs => by
  obtain ⟨g1, g2, g3⟩ := tup_keys I t rs
  obtain ⟨a, rfl, ht⟩ := tupS_raw I h
  cases r
  have e := TT.keyOf_eq ht
  refine ⟨by rw [List.map_cons, ← g1]; rfl, by rw [List.map_cons, g2, e], fun v hv => ?_⟩
  rcases List.mem_cons.mp hv with q | q
  ·subst q; rw [e]; exact ⟨ht, _, rfl⟩
  ·exact g3 v q
theorem cr_sortTT : CallR X (.builtin "sorted") (rSortTT X.K) := by
 intro pins s σ H vs us Q I r h
 obtain ⟨a, xs, ks, rfl, hs, hx, q⟩ := h
 obtain ⟨its, rv, hl, hz⟩ := I.list hs
 obtain ⟨u, rfl, ru⟩ := vals1 r
 obtain rfl : u = Value.ref a := ru
 obtain ⟨e1, e2, e3⟩ := tup_keys I hx rv
 refine TT.sorted_ttsO (k := TT.keyOf s.heap) hl.isList (by rw [← rv.length]; exact hz) (fun v hv => (e3 v hv).1) fun h' d out h1 h2 kp hd hn => ?_
 obtain ⟨hp, hlen⟩ := sort_pairs e1 e2 h1 h2.perm
 have h3 : ∀ u ∈ out, ∃ a, u = Value.ref a := fun u hu => (e3 u (h2.perm.mem_iff.mp hu)).2
 obtain ⟨n, hn⟩ := hn
 refine ⟨.ref d, upd H d (.lst (out.map backV)), I.laid (t' := s.toks) kp hd ⟨?_, out, n, vals_back h3, hn⟩, rfl, q _ d hp hlen (I.hok.fresh hd)⟩
 rw [hlen, ← e2, List.length_map, ← rv.length]
 exact hz
def rSortDt (K : PySem.W.Frag) : List V → Hp → VK → Prop := fun vs H Q => ∃ (a : Addr) (xs : List V) (ks : List PyData), vs = [V.ref a] ∧ SqL K H a xs ∧ Paired (Dp K H) xs ks ∧ PySem.W.AllAlike ks ∧ PySem.W.Sortable ks ∧ (∀ d ∈ ks, d.depth ≤ 60) ∧
 ∀ p, H p = none → Q (.ref p) (upd H p (.lst (((xs.zip ks).mergeSort (PySem.W.dataLe false Prod.snd)).map Prod.fst)))
theorem dt_reads (I : Inv X pins σ H s) : ∀ {xs : List V} {ks : List PyData} {us : List Value}, Paired (Dp X.K H) xs ks → Vals xs us → PySem.W.EachIs (fun v d => ∃ as, Reads s.heap v d as) us ks
 | _, _, _, .nil, .nil => .nil
 | _, _, _, .cons h t, .cons r rs => .cons (Dp.reads I _ _ _ h r) (dt_reads I t rs)
theorem dt_zip : ∀ {xs : List V} {ks : List PyData} {us : List Value}, Vals xs us → xs.length = ks.length → PySem.W.EachIs (fun v (z : V × PyData) => RelV z.1 v) us (xs.zip ks)
 | [], [], _, .nil, _ => .nil
 | x :: xs, k :: ks, _, .cons r rs, h => .cons r (dt_zip rs (by simpa using h))
 | [], _ :: _, _, _, h => by cases h
 | _ :: _, [], _, _, h => by cases h
theorem dt_vals : ∀ {us : List Value} {zs : List (V × PyData)}, PySem.W.EachIs (fun v (z : V × PyData) => RelV z.1 v) us zs → Vals (zs.map Prod.fst) us
 | _, _, .nil => .nil
 | _, _, .cons r rs => .cons r (dt_vals rs)
theorem dt_snd : ∀ {xs : List V} {ks : List PyData}, xs.length = ks.length → (xs.zip ks).map Prod.snd = ks
 | [], [], _ => rfl
 | x :: xs, k :: ks, h => by rw [List.zip_cons_cons, List.map_cons, dt_snd (by simpa using h)]
 | [], _ :: _, h => by cases h
 | _ :: _, [], h => by cases h
theorem cr_sortDt (hu : X.A.units + 64 < cLine) : CallR X (.builtin "sorted") (rSortDt X.K) := by
 intro pins s σ H vs us Q I r h
 obtain ⟨a, xs, ks, rfl, hs, hx, hal, hso, hdp, q⟩ := h
 obtain ⟨its, rv, hl, hz⟩ := I.list hs
 obtain ⟨u, rfl, ru⟩ := vals1 r
 obtain rfl : u = Value.ref a := ru
 have hlen : xs.length = ks.length := hx.length
 have hz2 : its.length ≤ sizeLine := by rw [← rv.length]; exact hz
 have e1 := dt_reads I hx rv
 have e2 : PySem.W.EachIs (fun v d => ∃ as, Reads (PySem.W.sortingHeap (PySem.W.copyHeap s.heap its) (s.heap.objs.size + 1) its) v d as) its ks := e1.mono fun _ _ ⟨as, r⟩ => ⟨as, Reads.keeps (fun b o e => PySem.W.sorting_copy_old e) r⟩
 refine PySem.W.sorted_vals hl.isList (PySem.W.SortsAt.data (s := { s with heap := PySem.W.sortingHeap (PySem.W.copyHeap s.heap its) (s.heap.objs.size + 1) its }) e2 hal hso fun d hd => ?_) hz2 ?_
 ·have := hdp d hd
  show X.A.units + 1 + 1 + d.depth < cLine
  omega
 ·have k1 := PySem.W.keyedOut_each (rev := false) (bs := xs.zip ks) Prod.snd (by rw [dt_snd hlen]; exact ⟨_, its, hal, rfl, e2⟩) (dt_zip rv hlen)
  have k2 := dt_vals k1
  obtain ⟨n, hn⟩ := sortedAll_at s.heap its (PySem.W.sortVals (PySem.W.dataKind (PySem.W.sortingHeap (PySem.W.copyHeap s.heap its) (s.heap.objs.size + 1) its) ks) false its its).toArray
  have hd : s.heap.objs.size ≤ s.heap.objs.size + 1 := Nat.le_succ _
  refine ⟨.ref (s.heap.objs.size + 1), _, I.laid (t' := s.toks) (o := .lst (((xs.zip ks).mergeSort (PySem.W.dataLe false Prod.snd)).map Prod.fst)) (fun b o e => sortedAll_old e) hd ⟨?_, _, n, k2, hn⟩, rfl, q _ (I.hok.fresh hd)⟩
  rw [List.length_map, (List.mergeSort_perm _ _).length_eq, List.length_zip, hlen, Nat.min_self, ← hlen]
  exact hz
end
end L2
end
section
set_option maxHeartbeats 200000
namespace Mn
open PySem
def metS (xs : List Str) : List Str := xs.foldl (fun acc x => if acc.any (· == x) = true then acc else acc ++ [x]) []
theorem metS_snoc (xs : List Str) (x : Str) : metS (xs ++ [x]) = if (metS xs).any (· == x) = true then metS xs else metS xs ++ [x] := by
 unfold metS
 rw [List.foldl_append]; rfl
theorem metS_any (z : Str) : ∀ (n : Nat) (xs : List Str), xs.length = n → (metS xs).any (· == z) = xs.any (· == z) := by
 intro n
 induction n with
 | zero => intro xs h; rw [List.length_eq_zero_iff.mp h]; rfl
 | succ n ih =>
  intro xs h
  obtain ⟨ys, y, rfl⟩ : ∃ ys y, xs = ys ++ [y] := ⟨xs.dropLast, xs.getLast (fun c => by rw [c] at h; cases h), (List.dropLast_concat_getLast _).symm⟩
  have hy : ys.length = n := by rw [List.length_append] at h; simpa using h
  rw [metS_snoc, List.any_append]
  split
  ·rename_i hm
   rw [ih ys hy, List.any_cons, List.any_nil, Bool.or_false]
   cases e : (y == z) with
   | false => rw [Bool.or_false]
   | true =>
    have : y = z := by simpa using e
    subst this
    rw [← ih ys hy, hm]; rfl
  ·rw [List.any_append, ih ys hy]
theorem metS_len : ∀ (n : Nat) (xs : List Str), xs.length = n → (metS xs).length ≤ n := by
 intro n
 induction n with
 | zero => intro xs h; rw [List.length_eq_zero_iff.mp h]; exact Nat.le_refl 0
 | succ n ih =>
  intro xs h
  obtain ⟨ys, y, rfl⟩ : ∃ ys y, xs = ys ++ [y] := ⟨xs.dropLast, xs.getLast (fun c => by rw [c] at h; cases h), (List.dropLast_concat_getLast _).symm⟩
  have hy : ys.length = n := by rw [List.length_append] at h; simpa using h
  rw [metS_snoc]
  have := ih ys hy
  split
  ·omega
  ·rw [List.length_append, List.length_singleton]; omega
namespace ST
open PyProof.Rows PySem.Spec
section
variable {prog : Program} {w : World} {A : Around} {R : Result → Shared → Prop} {J : Addr} {fp wr : List Addr} {G : Array GenState → Array GenState → Prop} {n : Nat} {Y : Nat → Value → Prop} {St : Nat → Shared → Prop}
theorem fill (W : WalksS prog w A.in1 J fp wr G n Y St) {B : Addr} (hB : B ∉ fp) (xs : List Str) (hxn : xs.length = n) (hbd : n + 1 < scanBound) (hY : ∀ i v, Y i v → ∃ t, v = .str (xs.getD i Str.empty) t) :
  ∀ (m i : Nat) (s : Shared), n - i = m → i ≤ n → St i s → s.heap.SetOf (PySem.strKind prog w) B (fun z => (xs.take i).any (· == z)) (metS (xs.take i)).length →
   (∀ s', Moved (B :: wr) G s s' → s'.heap.SetOf (PySem.strKind prog w) B (fun z => xs.any (· == z)) (metS xs).length → R (.ok (.ret .none)) s') →
   codeAny (model prog w) A (.builtin "set.update.loop" ⟨[.ref B, .ref J], []⟩) R s := by
 have up : ∀ b ∈ wr, b ∈ B :: wr := fun b hb => List.mem_cons_of_mem _ hb
 have move : ∀ {s s' : Shared} {S : Str → Bool} {c : Nat}, Moved wr G s s' → s.heap.SetOf (PySem.strKind prog w) B S c → s'.heap.SetOf (PySem.strKind prog w) B S c := fun hm ⟨o, es, ep, t, ho, r⟩ => ⟨o, es, ep, t, hm.heap B _ (fun h => hB (W.sub _ h)) ho, r⟩
 intro m
 induction m with
 | zero =>
  intro i s hm hi hst hs k
  have ei : i = n := by omega
  rw [ei, ← hxn, List.take_length] at hs
  refine codeAny_builtin F.entry_set_update_loop ?_
  rw [Around.under_plainId F.plain_set_update_loop _]
  show wpAny _ A.in1 (pyNext (.ref J) >>= fun _ => _) _ _ s
  exact wpAny_bind (W.done s _ _ (ei ▸ hst) fun s' mv => wpAny_pure (k s' (mv.mono up) (move mv hs)))
 | succ m ih =>
  intro i s hm hi hst hs k
  have lt : i < n := by omega
  have lx : i < xs.length := by omega
  refine codeAny_builtin F.entry_set_update_loop ?_
  rw [Around.under_plainId F.plain_set_update_loop _]
  show wpAny _ A.in1 (pyNext (.ref J) >>= fun _ => _) _ _ s
  refine wpAny_bind (W.item i s _ _ lt hst fun v s' hv hst' mv => ?_)
  obtain ⟨t, rfl⟩ := hY i v hv
  have hs' := move mv hs
  generalize hx : xs.getD i Str.empty = x at *
  have ex : xs.take (i + 1) = xs.take i ++ [x] := by
   rw [List.take_succ, List.getElem?_eq_getElem lx, ← hx, List.getD_eq_getElem?_getD, List.getElem?_eq_getElem lx]; rfl
  have small := metS_len _ (xs.take i) rfl
  rw [List.length_take] at small
  show wpAny _ A.in1 (holding [Value.str x t] (setAdd B (.str x t)) >>= fun _ => _) _ _ s'
  refine wpAny_bind (wpAny_holding ?_)
  unfold setAdd
  refine wpAny_holding (wpAny_bind ((PySem.strKind prog w).pyHash (k := x) (strKind_is _ _ _ _) ?_))
  refine wpAny_setAddHashed_of (knd := PySem.strKind prog w) (s := { s' with toks := s'.toks + 1 }) (strKind_is _ _ _ _) rfl hs' (by omega) fun h2 but hs2 => ?_
  have hs3 : h2.SetOf (PySem.strKind prog w) B (fun z => (xs.take (i + 1)).any (· == z)) (metS (xs.take (i + 1))).length := by
   refine SetOf_congr hs2 (fun z => ?_) ?_
   ·rw [ex, List.any_append, List.any_cons, List.any_nil, Bool.or_false]
    congr 1
    by_cases e : z = x
    ·subst e; simp
    ·rw [decide_eq_false e]
     exact (beq_eq_false_iff_ne.mpr fun c => e c.symm).symm
   ·rw [ex, metS_snoc, metS_any x _ (xs.take i) rfl]
    split
    ·rfl
    ·rw [List.length_append]; rfl
  refine wpAny_pure ⟨plainId_quiet F.plain_set_update_loop _, ih (i + 1) _ (by omega) lt (W.frame _ s' _ _ hst' (Nat.le_succ _) fun b hb o e => ?_) hs3 fun s4 mv4 hs4 => k s4 (Moved.trans W.gtrans ((mv.mono up).then_heap (Nat.le_succ _) fun b o hb e => ?_) mv4) hs4⟩
  ·rw [but.2 b fun h => hB (h ▸ hb)]; exact e
  ·rw [but.2 b fun h => hb (h ▸ List.mem_cons_self)]; exact e
end
section
variable {prog : Program} {w : World} {A : Around} {E : Value → Shared → Prop} {s : Shared}
abbrev bare (led : Bool) : Obj := { cls := .type "set", dict := none, data := .set #[] 0 (.fresh 0 0 led) }
set_option maxHeartbeats 3200000 in
theorem of_list {l : Addr} {vs : Array Value} {xs : List Str} {Q : Value → Shared → Prop} (calm : A.handled = none) (hl : s.heap.IsList l vs) (hx : StrsAre vs.toList xs) (hb : xs.length + 1 < scanBound)
  (k : ∀ (h2 : Heap) (tk : Nat), h2.SetOf (PySem.strKind prog w) s.heap.objs.size (fun z => xs.any (· == z)) (metS xs).length → (∀ b o, b < s.heap.objs.size → s.heap.get? b = some o → h2.get? b = some o) → Q (.ref s.heap.objs.size) { s with heap := h2, toks := tk }) :
  wpAny (model prog w) A (call (.type "set") [.ref l]) Q E s := by
 have ⟨_, _, mro⟩ := PySem.F.called_set.mro
 have mk := PySem.F.called_set.made
 have sb := PySem.F.called_set.sub
 refine wpAny_call (codeAny_of_tree (show wpAny _ _ (callAny (.type "set") _) _ _ _ from wpAny_pure ⟨Code.quiet_builtin _ (by decide +kernel), codeAny_builtin PySem.F.entry_type_call ?_⟩))
 rw [Around.under_plain (weight_type_call_type "set" [Value.ref l] []) rfl]
 have nt := PySem.F.called_set.notType
 have cc := PySem.F.called_set.canCreate
 have tc := PySem.F.typeCall_set_1 (Value.ref l)
 repeat (any_goals (first | assumption | wp_step))
 refine codeAny_mono (code_set_new_1 (Value.ref l) (E := E) (Q₁ := fun q z => ∃ led : Bool, q = .ref s.heap.objs.size ∧ z = { s with heap := s.heap.push (bare led) }) fun led => ⟨led, rfl, rfl⟩) fun r z hr => ?_
 match r, hr with
 | .error e, hr => exact hr
 | .ok (.next), hr => exact hr.elim
 | .ok (.brk), hr => exact hr.elim
 | .ok (.cont), hr => exact hr.elim
 | .ok (.ret q), hr =>
  obtain ⟨led, rfl, rfl⟩ := hr
  have at0 : (s.heap.push (bare led)).get? s.heap.objs.size = some (bare led) := Heap.get?_push_size _ rfl
  have ty0 : Shared.TypeIs { s with heap := s.heap.push (bare led) } (.ref s.heap.objs.size) "set" := ⟨_, at0, rfl⟩
  have il := PySem.F.called_set.init.lookup
  have ib := PySem.F.called_set.init.bind (Value.ref s.heap.objs.size)
  repeat (any_goals (first | assumption | wp_step))
  refine codeAny_mono (codeAny_call_builtin (R := wants (fun u z => u = .none ∧ ∃ h2 tk, z = { s with heap := h2, toks := tk } ∧ h2.SetOf (PySem.strKind prog w) s.heap.objs.size (fun y => xs.any (· == y)) (metS xs).length ∧ (∀ b o, b < s.heap.objs.size → s.heap.get? b = some o → h2.get? b = some o)) E) PySem.F.called_set.init.plain PySem.F.entry_set_init (check_set_init_1 ty0 ?_)) fun u z hu => ?_
  ·have lt0 : l < s.heap.objs.size := by obtain ⟨o, ho, _⟩ := hl; exact Heap.lt_size ho
   obtain ⟨⟨ocl, odc, odt, osl⟩, ho, hc, m, hd⟩ := hl
   simp only at hc hd
   subst hc hd
   have ho1 : (s.heap.push (bare led)).get? l = some { cls := .type "list", dict := odc, data := .seq vs m, slots := osl } := Heap.get?_push_of_some _ ho
   have s1 := PySem.F.sub_list_set
   have s2 := PySem.F.sub_list_frozenset
   have s3 : (Value.type "list" == Value.type "dict") = false := by decide
   have hl1 : (s.heap.push (bare led)).IsList l vs := ⟨_, ho1, rfl, m, rfl⟩
   unfold Builtin.«set.__init__» noKeywords Builtin.Frozenset.updateFrom
   generalize e0 : pyIter = it
   wp_walk
   subst e0
   refine wpAny_pyIter_list hl1 (wpAny_bind (wpAny_runValue ?_))
   have sz : (s.heap.push (bare led)).objs.size = s.heap.objs.size + 1 := Heap.size_push _ _
   have ln : xs.length = vs.size := by rw [← StrsAre.len_eq hx, Array.length_toList]
   have c3 : A.in1.in1.in1.handled = none := by simp [calm]
   refine fill ((Walks.list c3 _ l (by rw [sz]; exact Nat.ne_of_lt (Nat.lt_succ_of_lt lt0)) vs).toS) (B := s.heap.objs.size) (by rw [sz]; simp only [List.mem_cons, List.not_mem_nil, or_false, not_or]; exact ⟨Nat.ne_of_lt (Nat.lt_succ_self _), Nat.ne_of_gt lt0⟩) xs ln (by rw [← ln]; exact hb)
    (fun i v hv => SS.strs_at hx i v (by rw [Array.getElem?_toList]; exact hv)) vs.size 0 _ rfl (Nat.zero_le _) ⟨⟨_, Heap.get?_push_size _ rfl, rfl, rfl⟩, hl1.push _⟩ ?_ ?_
   ·exact SetOf_congr ((setObjOf_fresh (knd := PySem.strKind prog w) led).setOf (Heap.get?_push_of_some _ at0) (by unfold scanBound; omega)) (fun _ => rfl) rfl
   ·intro z mv hz
    obtain ⟨h2, g2, d2, k2, o2⟩ := z
    obtain rfl : g2 = s.gens := mv.gens
    obtain rfl : d2 = s.drawn := mv.drawn
    obtain rfl : o2 = s.os := mv.os
    refine wpAny_pure (show wpAny _ _ (ret Value.none) _ _ _ from wpAny_pure ⟨rfl, h2, k2, rfl, hz, fun b o hb e => ?_⟩)
    refine mv.heap b o ?_ (Heap.get?_push_of_some _ (Heap.get?_push_of_some _ e))
    rw [sz]
    simp only [List.mem_cons, List.not_mem_nil, or_false, not_or]
    exact ⟨Nat.ne_of_lt hb, Nat.ne_of_lt (Nat.lt_succ_of_lt hb)⟩
  ·match u, hu with
   | .error e, hu => exact hu
   | .ok (.next), hu => exact hu.elim
   | .ok (.brk), hu => exact hu.elim
   | .ok (.cont), hu => exact hu.elim
   | .ok (.ret q), hu =>
    obtain ⟨rfl, h2, tk, rfl, hs, hk⟩ := hu
    repeat (any_goals (first | assumption | wp_step))
    exact k _ _ hs hk
set_option maxHeartbeats 3200000 in
theorem of_tuple {l : Addr} {vs : Array Value} {xs : List Str} {Q : Value → Shared → Prop} (calm : A.handled = none) (hl : s.heap.IsTuple l vs) (hx : StrsAre vs.toList xs) (hb : xs.length + 1 < scanBound)
  (k : ∀ (h2 : Heap) (tk : Nat), h2.SetOf (PySem.strKind prog w) s.heap.objs.size (fun z => xs.any (· == z)) (metS xs).length → (∀ b o, b < s.heap.objs.size → s.heap.get? b = some o → h2.get? b = some o) → Q (.ref s.heap.objs.size) { s with heap := h2, toks := tk }) :
  wpAny (model prog w) A (call (.type "set") [.ref l]) Q E s := by
 have ⟨_, _, mro⟩ := PySem.F.called_set.mro
 have mk := PySem.F.called_set.made
 have sb := PySem.F.called_set.sub
 refine wpAny_call (codeAny_of_tree (show wpAny _ _ (callAny (.type "set") _) _ _ _ from wpAny_pure ⟨Code.quiet_builtin _ (by decide +kernel), codeAny_builtin PySem.F.entry_type_call ?_⟩))
 rw [Around.under_plain (weight_type_call_type "set" [Value.ref l] []) rfl]
 have nt := PySem.F.called_set.notType
 have cc := PySem.F.called_set.canCreate
 have tc := PySem.F.typeCall_set_1 (Value.ref l)
 repeat (any_goals (first | assumption | wp_step))
 refine codeAny_mono (code_set_new_1 (Value.ref l) (E := E) (Q₁ := fun q z => ∃ led : Bool, q = .ref s.heap.objs.size ∧ z = { s with heap := s.heap.push (bare led) }) fun led => ⟨led, rfl, rfl⟩) fun r z hr => ?_
 match r, hr with
 | .error e, hr => exact hr
 | .ok (.next), hr => exact hr.elim
 | .ok (.brk), hr => exact hr.elim
 | .ok (.cont), hr => exact hr.elim
 | .ok (.ret q), hr =>
  obtain ⟨led, rfl, rfl⟩ := hr
  have at0 : (s.heap.push (bare led)).get? s.heap.objs.size = some (bare led) := Heap.get?_push_size _ rfl
  have ty0 : Shared.TypeIs { s with heap := s.heap.push (bare led) } (.ref s.heap.objs.size) "set" := ⟨_, at0, rfl⟩
  have il := PySem.F.called_set.init.lookup
  have ib := PySem.F.called_set.init.bind (Value.ref s.heap.objs.size)
  repeat (any_goals (first | assumption | wp_step))
  refine codeAny_mono (codeAny_call_builtin (R := wants (fun u z => u = .none ∧ ∃ h2 tk, z = { s with heap := h2, toks := tk } ∧ h2.SetOf (PySem.strKind prog w) s.heap.objs.size (fun y => xs.any (· == y)) (metS xs).length ∧ (∀ b o, b < s.heap.objs.size → s.heap.get? b = some o → h2.get? b = some o)) E) PySem.F.called_set.init.plain PySem.F.entry_set_init (check_set_init_1 ty0 ?_)) fun u z hu => ?_
  ·have lt0 : l < s.heap.objs.size := by obtain ⟨o, ho, _⟩ := hl; exact Heap.lt_size ho
   obtain ⟨⟨ocl, odc, odt, osl⟩, ho, hc, m, hd⟩ := hl
   simp only at hc hd
   subst hc hd
   have ho1 : (s.heap.push (bare led)).get? l = some { cls := .type "tuple", dict := odc, data := .seq vs m, slots := osl } := Heap.get?_push_of_some _ ho
   have s1 := PySem.F.sub_tuple_set
   have s2 := PySem.F.sub_tuple_frozenset
   have s3 : (Value.type "tuple" == Value.type "dict") = false := by decide
   have hl1 : (s.heap.push (bare led)).IsTuple l vs := ⟨_, ho1, rfl, m, rfl⟩
   unfold Builtin.«set.__init__» noKeywords Builtin.Frozenset.updateFrom
   generalize e0 : pyIter = it
   wp_walk
   subst e0
   refine wpAny_pyIter_tuple hl1 (wpAny_bind (wpAny_runValue ?_))
   have sz : (s.heap.push (bare led)).objs.size = s.heap.objs.size + 1 := Heap.size_push _ _
   have ln : xs.length = vs.size := by rw [← StrsAre.len_eq hx, Array.length_toList]
   have c3 : A.in1.in1.in1.handled = none := by simp [calm]
   refine fill ((Walks.tuple c3 _ l (by rw [sz]; exact Nat.ne_of_lt (Nat.lt_succ_of_lt lt0)) vs).toS) (B := s.heap.objs.size) (by rw [sz]; simp only [List.mem_cons, List.not_mem_nil, or_false, not_or]; exact ⟨Nat.ne_of_lt (Nat.lt_succ_self _), Nat.ne_of_gt lt0⟩) xs ln (by rw [← ln]; exact hb)
    (fun i v hv => SS.strs_at hx i v (by rw [Array.getElem?_toList]; exact hv)) vs.size 0 _ rfl (Nat.zero_le _) ⟨⟨_, Heap.get?_push_size _ rfl, rfl, rfl⟩, hl1.push _⟩ ?_ ?_
   ·exact SetOf_congr ((setObjOf_fresh (knd := PySem.strKind prog w) led).setOf (Heap.get?_push_of_some _ at0) (by unfold scanBound; omega)) (fun _ => rfl) rfl
   ·intro z mv hz
    obtain ⟨h2, g2, d2, k2, o2⟩ := z
    obtain rfl : g2 = s.gens := mv.gens
    obtain rfl : d2 = s.drawn := mv.drawn
    obtain rfl : o2 = s.os := mv.os
    refine wpAny_pure (show wpAny _ _ (ret Value.none) _ _ _ from wpAny_pure ⟨rfl, h2, k2, rfl, hz, fun b o hb e => ?_⟩)
    refine mv.heap b o ?_ (Heap.get?_push_of_some _ (Heap.get?_push_of_some _ e))
    rw [sz]
    simp only [List.mem_cons, List.not_mem_nil, or_false, not_or]
    exact ⟨Nat.ne_of_lt hb, Nat.ne_of_lt (Nat.lt_succ_of_lt hb)⟩
  ·match u, hu with
   | .error e, hu => exact hu
   | .ok (.next), hu => exact hu.elim
   | .ok (.brk), hu => exact hu.elim
   | .ok (.cont), hu => exact hu.elim
   | .ok (.ret q), hu =>
    obtain ⟨rfl, h2, tk, rfl, hs, hk⟩ := hu
    repeat (any_goals (first | assumption | wp_step))
    exact k _ _ hs hk
end
open L2
def tLenM (K : PySem.W.Frag) (ta : TE) : TE := fun σ H Q => ta σ H fun x H1 => ∃ (l : Addr) (xs : List Str), x = .ref l ∧ (SqL K H1 l (xs.map V.str) ∨ SqT K H1 l (xs.map V.str)) ∧ xs.length + 1 < scanBound ∧ Q (.int (metS xs).length) H1
theorem pe_lenM {X : Cx} {e : Expr} {ta : TE} {p1 p2 p3 p4 : Pos} (hc : X.calm = true) (g1 : Gl X "len") (m1 : X.mg "len" = none) (g2 : Gl X "set") (m2 : X.mg "set" = none) (he : PE X e ta) (na : starEach [e] X.env = (false, eval e X.env) :: starEach [] X.env) : PE X (.Call (.Name "len" p1) [.Call (.Name "set" p2) [e] [] p3] [] p4) (tLenM X.K ta) := by
 refine ⟨fun pins s σ H Q I h => Call_ (ld_blt I g1 m1 boot_len (callWith_builtin1 (args_cons (Call_ (ld_blt I g2 m2 boot_set (callWith_type1 (args_cons (thn (he.run pins s σ H _ I h) fun v s1 ⟨x, H1, I1, rx, hx⟩ => args_nil ?_) na) na rfl))) rfl) rfl rfl))⟩
 obtain ⟨l, xs, rfl, hq, hb, q⟩ := hx
 cases rx
 have go : ∀ (h2 : Heap) (tk : Nat), h2.SetOf (PySem.strKind X.prog X.w) s1.heap.objs.size (fun z => xs.any (· == z)) (metS xs).length → (∀ b o, b < s1.heap.objs.size → s1.heap.get? b = some o → h2.get? b = some o) →
   wpAny (model X.prog X.w) X.A (spliced (backTo p4 (starEach [] X.env))) (fun us z => wpAny (model X.prog X.w) X.A (call (.builtin "len") (Value.ref s1.heap.objs.size :: us)) (EP X pins σ Q) X.xe z) X.xe { s1 with heap := h2, toks := tk } := fun h2 tk ⟨o, es, ep, t, ho, hex, hd, _, _, _, hf, hn⟩ hk => by
  have sm := metS_len _ xs rfl
  have J : Inv X pins σ H1 { s1 with heap := h2, toks := tk } := I1.kept fun b o e => hk b o (Heap.lt_size e) e
  exact args_nil (call_len_set ho hex hd hf (by unfold scanBound at hb; omega) ⟨.int (metS xs).length, H1, J.tok _, ⟨_, by rw [hn]⟩, q⟩)
 have sa : ∀ {ys : List Str} {us : List Value}, Vals (ys.map V.str) us → StrsAre us.toArray.toList ys := fun r => by
  simpa using strsAre_of r
 rcases hq with hq | hq
 ·obtain ⟨its, r, pl, _⟩ := I1.list hq
  exact of_list (I1.ok.hd hc) pl.isList (sa r) hb go
 ·obtain ⟨its, r, pl, _⟩ := I1.tuple hq
  exact of_tuple (I1.ok.hd hc) pl (sa r) hb go
end ST
end Mn
end
section
set_option maxHeartbeats 200000
namespace Mn
open PySem
abbrev P := PyData
abbrev Key := L2.Key
abbrev RK := Sum (Option Key) (List Key)
abbrev NK := NestedKey
inductive M where
 | v (p : P) | l (ps : List P) | d (kvs : List (Key × P)) | t (kvs : List (List Key × P)) | n (kvs : List (Key × M)) | s (ns : List Int) | k (m : M) | r (kvs : List (RK × P)) | u (kvs : List (NK × P)) | h (kvs : List (NK × M)) | gone
abbrev Env := List (Option M)
inductive R where
 | pl (i : Nat) | vl (m : M)
inductive BOp where | add | sub | mul | mod | div | pow
inductive COp where | eq | ne | lt | le | gt | ge | inn | nin | isN | notN | isB | notB
inductive BI where | len | tup | list | dict | int | str | isTup | isStr | isBool | isInt | isList | isST | sorted | all | any | min2 | max2 | abs | sum | setLen | listZip | min1 | max1 | dictU | listRg
inductive MT where | get | join | index | count | split | upper | values | items
inductive Tg where | nm (i : Nat) | tp (ts : List Tg)
mutual
inductive E where
 | pl (i : Nat) | getf (i : Nat) (f : Str) (j : Nat)
 | tk (i : Nat) | mv (i : Nat)
 | g (c : Nat) | ki (i : Int) | kb (b : Bool) | kn | ks (s : Str)
 | tup (es : EL) | lst (es : EL) | dnw (t : Nat) | dd (t : Nat) (kvs : EL)
 | bin (op : BOp) (a b : E) | neg (a : E)
 | cmp (op : COp) (a b : E) | cmp2 (op op2 : COp) (a b c : E)
 | ban (a b : E) | bor (a b : E) | nt (a : E) | ifx (c a b : E)
 | sub (a k : E) | slc (a : E) (lo hi : E) | rev (a : E) | no
 | call (f : Nat) (es : EL) | bi (b : BI) (es : EL) | mt (m : MT) (a : E) (es : EL)
 | pop (i : Nat) (es : EL) | getn (i : Nat) (k : E)
 | comp (own : List Nat) (tg : Tg) (it : It) (ts : EL) (e : E)
 | dr (k e : E)
 | cm (f : Nat) (es : EL) (fs : List Nat)
 | lgt (i : Nat) (k : E) | hln (i j : Nat) | hst (i : Nat) (k : E)
 | fni (i : Nat) (f : Str) (j : Nat) | fgu (i : Nat) (f : Str) (j : Nat) | dpop (i : Nat) (e : E) | sln (e : E) | lgk (nm : Str) (kvs : List (Str × Int)) (e : E) (d : Int)
inductive EL where | nil | cons (e : E) (r : EL)
inductive It where | of (e : E) | lk (i : Nat) | vals (i : Nat) | rg (es : EL) | en (e : E) | zp (a b : E)
end
mutual
inductive S where
 | asg (tg : Tg) (e : E) | par (i j : Nat) (a b : E)
 | stn (i : Nat) (k e : E) | sto (i : Nat) (k e : E) | stt (i : Nat) (ks : EL) (e : E) | stf (i : Nat) (f : Str) (k e : E) | stg (i : Nat) (f : Str) (k e : E)
 | app (i : Nat) (e : E) | ext (i : Nat) (e : E) | upd (i : Nat) (e : E) | sda (i : Nat) (k e : E)
 | sdu (i : Nat) (k e : E) | sdh (i : Nat) (k e : E) | sdd (i : Nat) (k j e : E)
 | expr (e : E) | aug (i : Nat) (op : BOp) (e : E)
 | ifs (c : E) (a b : SL) | fr (tg : Tg) (it : It) (b : SL) | wh (c : E) (b : SL)
 | ret (e : E) | ret0 | cont | brk | pass
inductive SL where | nil | cons (s : S) (r : SL)
end
def LIM : Nat := 1000000
section
variable {κ α : Type} [DecidableEq κ]
def getA (kvs : List (κ × α)) (k : κ) : Option α := (kvs.find? fun kv => decide (kv.1 = k)).map (·.2)
def putA (kvs : List (κ × α)) (k : κ) (v : α) : List (κ × α) :=
 if (kvs.any fun kv => decide (kv.1 = k)) = true then kvs.map (fun kv => if kv.1 = k then (kv.1, v) else kv) else kvs ++ [(k, v)]
def mergeA (kvs more : List (κ × α)) : List (κ × α) := more.foldl (fun acc kv => putA acc kv.1 kv.2) kvs
end
def keyOf : P → Option Key
 | .int i => some (.inl i)
 | .str s => some (.inr s)
 | _ => none
def keysAll : List P → Option (List Key)
 | [] => some []
 | p :: ps => match keyOf p with
  | some k => match keysAll ps with
   | some ks => some (k :: ks)
   | none => none
  | none => none
def keysOf : P → Option (List Key)
 | .tuple ps => keysAll ps
 | _ => none
def rkOf : P → Option RK
 | .none => some (.inl none)
 | .int i => some (.inl (some (.inl i)))
 | .str s => some (.inl (some (.inr s)))
 | _ => none
def rkN : RK → Bool
 | .inl _ => true
 | .inr _ => false
mutual
def nkV : P → Option NK
 | .none => some .none
 | .int i => some (.num i)
 | .str s => some (.text s)
 | .tuple ps => (nkL ps).map .tup
 | _ => none
def nkL : List P → Option (List NK)
 | [] => some []
 | p :: ps => match nkV p with
  | some k => match nkL ps with
   | some ks => some (k :: ks)
   | none => none
  | none => none
end
def nkOf : P → Option NK
 | .tuple ps => match nkL ps with
  | some ks => if (NestedKey.tup ks).depth ≤ 8 then some (.tup ks) else none
  | none => none
 | _ => none
abbrev nkP (k : NK) : P := k.data
def ofKey : Key → P
 | .inl i => .int i
 | .inr s => .str s
def ofKeys (ks : List Key) : P := .tuple (ks.map ofKey)
def sgn (c : Nat) : P := .str ⟨#[c]⟩
def frzD (kvs : List (Key × P)) : P := .dict (kvs.map fun kv => (ofKey kv.1, kv.2))
def frzT (kvs : List (List Key × P)) : P := .dict ((.none, .none) :: kvs.map fun kv => (ofKeys kv.1, kv.2))
def getF (kvs : List (P × P)) (p : P) : Option (Option P) := match kvs with
 | (.none, _) :: r => match keysOf p with
  | some ks => some ((r.find? fun kv => decide (keysOf kv.1 = some ks)).map (·.2))
  | none => none
 | r => match keyOf p with
  | some k => some ((r.find? fun kv => decide (keyOf kv.1 = some k)).map (·.2))
  | none => none
def frzL : M → M
 | .l ps => .v (.list ps)
 | m => m
def vw : M → M
 | .k m => m
 | m => m
def toP : M → Option P
 | .v p => some p
 | .l ps => some (.list ps)
 | .d kvs => some (frzD kvs)
 | .t kvs => some (frzT kvs)
 | _ => none
def asP (m : M) : Option P := match vw m with
 | .v p => some p
 | .l ps => some (.list ps)
 | _ => none
def listOf (m : M) : Option (List P) := match vw m with
 | .l ps => some ps
 | .v (.list ps) => some ps
 | _ => none
def seqOf (m : M) : Option (List P) := match vw m with
 | .l ps => some ps
 | .v (.list ps) => some ps
 | .v (.tuple ps) => some ps
 | _ => none
def lenM (m : M) : Option Nat := match vw m with
 | .v (.str s) => some s.length
 | .v (.tuple ps) => some ps.length
 | .v (.list ps) => some ps.length
 | .l ps => some ps.length
 | .d kvs => some kvs.length
 | .s ns => some ns.length
 | .u kvs => some kvs.length
 | _ => none
def mulS (x : Str) (n : Nat) : Str := ⟨(List.replicate n x.cps.toList).flatten.toArray⟩
def mulOk (i j : Int) : Bool := (decide (-(2 ^ 64) < i) && decide (i < 2 ^ 64)) || (decide (-(2 ^ 64) < j) && decide (j < 2 ^ 64)) || decide (i.natAbs.log2 + j.natAbs.log2 < 1000000)
def binM (op : BOp) (a b : M) : Option M := match op, vw a, vw b with
 | .add, .v (.int i), .v (.int j) => some (.v (.int (i + j)))
 | .sub, .v (.int i), .v (.int j) => some (.v (.int (i - j)))
 | .mul, .v (.int i), .v (.int j) => if mulOk i j then some (.v (.int (i * j))) else none
 | .mod, .v (.int i), .v (.int j) => if 0 < j then some (.v (.int (i % j))) else none
 | .div, .v (.int i), .v (.int j) => if 0 < j ∧ j < 1073741824 then some (.v (.int (i / j))) else none
 | .pow, .v (.int i), .v (.int j) => if 0 ≤ j ∧ j ≤ 1000 ∧ i.natAbs < 2 ^ 64 then some (.v (.int (i ^ j.toNat))) else none
 | .add, .v (.str x), .v (.str y) => if x.length + y.length ≤ LIM then some (.v (.str (x ++ y))) else none
 | .add, .v (.tuple x), .v (.tuple y) => if x.length + y.length ≤ LIM then some (.v (.tuple (x ++ y))) else none
 | .add, .l x, .l y => if x.length + y.length ≤ LIM then some (.l (x ++ y)) else none
 | .add, .l x, .v (.list y) => if x.length + y.length ≤ LIM then some (.l (x ++ y)) else none
 | .add, .v (.list x), .l y => if x.length + y.length ≤ LIM then some (.l (x ++ y)) else none
 | .add, .v (.list x), .v (.list y) => if x.length + y.length ≤ LIM then some (.l (x ++ y)) else none
 | .mul, .l x, .v (.int j) => if -(2 ^ 63) ≤ j ∧ j < 2 ^ 63 ∧ x.length * j.toNat ≤ LIM then some (.l (List.replicate j.toNat x).flatten) else none
 | .mul, .v (.list x), .v (.int j) => if -(2 ^ 63) ≤ j ∧ j < 2 ^ 63 ∧ x.length * j.toNat ≤ LIM then some (.l (List.replicate j.toNat x).flatten) else none
 | .mul, .v (.str x), .v (.int j) => if 0 ≤ j ∧ j < 2 ^ 62 ∧ x.length * j.toNat ≤ LIM then some (.v (.str (mulS x j.toNat))) else none
 | .mul, .v (.tuple x), .v (.int j) => if x ≠ [] then (if j = 1 then some (.v (.tuple x)) else if j = 0 then some (.v (.tuple [])) else none) else none
 | _, _, _ => none
mutual
def noD : P → Bool
 | .dict _ => false
 | .tuple ps => noDs ps
 | .list ps => noDs ps
 | _ => true
def noDs : List P → Bool
 | [] => true
 | p :: ps => noD p && noDs ps
end
def eqNil : P → P → Option Bool
 | .tuple ps, .tuple [] => some ps.isEmpty
 | _, _ => none
def eqP (p q : P) : Option Bool := if p.depth ≤ 64 ∧ q.depth ≤ 64 ∧ noD p = true ∧ noD q = true then some (PyData.eqv p q) else eqNil p q
def flatP : P → Bool
 | .none => true | .bool _ => true | .int _ => true | .str _ => true
 | _ => false
def strsOf : List P → Option (List Str)
 | [] => some []
 | .str b :: r => (strsOf r).map (b :: ·)
 | _ => none
def ltP : P → P → Option Bool
 | .int i, .int j => some (decide (i < j))
 | .str x, .str y => some (decide (x.cps.toList < y.cps.toList))
 | .tuple xs, .tuple ys => match strsOf xs, strsOf ys with
  | some a, some b => some (TT.lexT a b)
  | _, _ => none
 | _, _ => none
def inSeq (x : P) (ps : List P) : Option Bool := if flatP x = true ∧ ps.all flatP = true then some (ps.any fun y => PyData.eqv y x) else
 if x.depth ≤ 60 ∧ noD x = true ∧ noDs ps = true then some (ps.any fun y => PyData.eqv y x) else none
def inM (x a : M) : Option Bool := match vw x, vw a with
 | .v p, .l ps => inSeq p ps
 | .v p, .v (.list ps) => inSeq p ps
 | .v p, .v (.tuple ps) => inSeq p ps
 | .v (.str c), .v (.str z) => if c.length = 1 then some (decide (c.cps.getD 0 0 ∈ z.cps.toList)) else none
 | .v .none, .d _ => some false
 | .v p, .d kvs => match keyOf p with
  | some k => some (getA kvs k).isSome
  | none => none
 | .v p, .n kvs => match keyOf p with
  | some k => some (getA kvs k).isSome
  | none => none
 | .v p, .v (.dict kvs) => (getF kvs p).map (·.isSome)
 | .v p, .t kvs => match keysOf p with
  | some k => some (getA kvs k).isSome
  | none => none
 | .v p, .u kvs => match nkOf p with
  | some k => some (getA kvs k).isSome
  | none => none
 | _, _ => none
def eqM (a b : M) : Option Bool := match asP a, asP b with
 | some p, some q => eqP p q
 | _, _ => none
def isNone : M → Bool
 | .v .none => true
 | _ => false
def cmpM (op : COp) (a b : M) : Option M := match op with
 | .eq => (eqM a b).map fun c => .v (.bool c)
 | .ne => (eqM a b).map fun c => .v (.bool (!c))
 | .inn => (inM a b).map fun c => .v (.bool c)
 | .nin => (inM a b).map fun c => .v (.bool (!c))
 | .isN => match a with
  | .gone => none
  | a => some (.v (.bool (isNone a)))
 | .notN => match a with
  | .gone => none
  | a => some (.v (.bool (!isNone a)))
 | .isB => match a, b with
  | .v (.bool x), .v (.bool y) => some (.v (.bool (decide (x = y))))
  | _, _ => none
 | .notB => match a, b with
  | .v (.bool x), .v (.bool y) => some (.v (.bool (!decide (x = y))))
  | _, _ => none
 | .lt => match vw a, vw b with
  | .v p, .v q => (ltP p q).map fun c => .v (.bool c)
  | _, _ => none
 | .gt => match vw a, vw b with
  | .v (.int i), .v (.int j) => some (.v (.bool (decide (j < i))))
  | _, _ => none
 | .le => match vw a, vw b with
  | .v (.int i), .v (.int j) => some (.v (.bool (decide (i ≤ j))))
  | _, _ => none
 | .ge => match vw a, vw b with
  | .v (.int i), .v (.int j) => some (.v (.bool (decide (j ≤ i))))
  | _, _ => none
def subM (a k : M) : Option M := match vw a, vw k with
 | .l ps, .v (.int i) => (L2.atI ps i).map .v
 | .v (.list ps), .v (.int i) => (L2.atI ps i).map .v
 | .v (.tuple ps), .v (.int i) => (L2.atI ps i).map .v
 | .v (.str z), .v (.int i) => (L2.atI z.cps.toList i).map fun c => .v (sgn c)
 | .v (.dict kvs), .v p => match getF kvs p with
  | some (some q) => some (.v q)
  | _ => none
 | .s ns, .v (.int i) => (L2.atI ns i).map fun n => .v (.int n)
 | .d kvs, .v p => match keyOf p with
  | some k => (getA kvs k).map .v
  | none => none
 | .t kvs, .v p => match keysOf p with
  | some k => (getA kvs k).map .v
  | none => none
 | .n kvs, .v p => match keyOf p with
  | some k => match getA kvs k with
   | some (.v p) => some (.v p)
   | _ => none
  | none => none
 | .r kvs, .v p => match rkOf p with
  | some k => if rkN k = true then (getA kvs k).map .v else none
  | none => none
 | .u kvs, .v p => match nkOf p with
  | some k => (getA kvs k).map .v
  | none => none
 | _, _ => none
def cut {α : Type} (xs : List α) (lo hi : Option Int) : List α := (xs.drop (HT.sIx xs.length 0 lo)).take (HT.sIx xs.length xs.length hi - HT.sIx xs.length 0 lo)
def slcM (a : M) (lo hi : Option Int) : Option M := match vw a with
 | .l ps => some (.l (cut ps lo hi))
 | .v (.list ps) => some (.l (cut ps lo hi))
 | .v (.tuple ps) => some (.v (.tuple (cut ps lo hi)))
 | .v (.str z) => some (.v (.str (L2.cutS z lo hi)))
 | _ => none
def revM (a : M) : Option M := match vw a with
 | .v (.tuple ps) => some (.v (.tuple ps.reverse))
 | _ => (listOf a).map fun ps => .l ps.reverse
def boolsOf : List P → Option (List Bool)
 | [] => some []
 | .bool b :: r => (boolsOf r).map (b :: ·)
 | _ => none
def intsOf : List P → Option (List Int)
 | [] => some []
 | .int b :: r => (intsOf r).map (b :: ·)
 | _ => none
def sortS (xs : List Str) : List Str := xs.mergeSort fun a b => decide (a.cps.toList ≤ b.cps.toList)
def sortI (xs : List Int) : List Int := xs.mergeSort fun a b => decide (a ≤ b)
def pairsK : List P → Option (List (Key × P))
 | [] => some []
 | .tuple [a, b] :: r => match keyOf a, pairsK r with
  | some k, some kvs => some ((k, b) :: kvs)
  | _, _ => none
 | _ => none
def pairsU : List P → Option (List (NK × P))
 | [] => some []
 | .tuple [a, b] :: r => match nkOf a, pairsU r with
  | some k, some kvs => some ((k, b) :: kvs)
  | _, _ => none
 | _ => none
def tupsOf : List P → Option (List (List Str))
 | [] => some []
 | .tuple (x :: xs) :: r => match strsOf (x :: xs), tupsOf r with
  | some s, some ss => some (s :: ss)
  | _, _ => none
 | _ => none
def strT (xs : List Str) : P := .tuple (xs.map .str)
def zipP (xs ys : List P) : List P := (xs.zip ys).map fun z => .tuple [z.1, z.2]
def zipM (a b : M) : Option (List P) := match toP a, toP b with
 | some (.tuple x), some (.tuple y) => some (zipP x y)
 | some (.list x), some (.list y) => some (zipP x y)
 | _, _ => none
def enumP (xs : List P) : List P := (List.range xs.length).zip xs |>.map fun z => .tuple [.int z.1, z.2]
def dedupS (xs : List Str) : List Str := xs.eraseDups
inductive Ty where | non | bl | int | str | tup | lst | dct
def tyM (m : M) : Option Ty := match vw m with
 | .v .none => some .non
 | .v (.bool _) => some .bl
 | .v (.int _) => some .int
 | .v (.str _) => some .str
 | .v (.tuple _) => some .tup
 | .v (.list _) => some .lst
 | .v (.dict ((.none, _) :: _)) => none
 | .v (.dict _) => some .dct
 | .l _ => some .lst
 | .d _ => some .dct
 | .n _ => some .dct
 | _ => none
def tyLe : Ty → Ty → Bool
 | .non, .non => true | .bl, .bl => true | .bl, .int => true | .int, .int => true | .str, .str => true | .tup, .tup => true | .lst, .lst => true | .dct, .dct => true
 | _, _ => false
def alk (ps : List P) : Bool := ps.all fun d => (match d with | .tuple (_ :: _) => true | _ => false) && (noD d && (decide (d.depth ≤ 60) && ps.all fun e => PySem.W.alike d e))
def sortD (ps : List P) : List P := ps.mergeSort (PySem.W.dataLe false id)
def biM (b : BI) (ms : List M) : Option M := match b, ms with
 | .len, [a] => (lenM a).map fun (n : Nat) => .v (.int (n : Int))
 | .tup, [a] => (seqOf a).map fun ps => .v (.tuple ps)
 | .list, [a] => match a with
  | .d kvs => some (.l (kvs.map fun kv => ofKey kv.1))
  | .u kvs => some (.l (kvs.map fun kv => nkP kv.1))
  | m => (seqOf m).map .l
 | .dict, [a] => match seqOf a with
  | some ps => match pairsK ps with
   | some kvs => some (.d (mergeA [] kvs))
   | none => (pairsU ps).map fun kvs => .u (mergeA [] kvs)
  | none => none
 | .dictU, [a] => match seqOf a with
  | some ps => (pairsU ps).map fun kvs => .u (mergeA [] kvs)
  | none => none
 | .int, [a] => match vw a with
  | .v (.int i) => some (.v (.int i))
  | .v (.bool b) => some (.v (.int (if b then 1 else 0)))
  | _ => none
 | .isTup, [a] => (tyM a).map fun t => .v (.bool (tyLe t .tup))
 | .isList, [a] => (tyM a).map fun t => .v (.bool (tyLe t .lst))
 | .isStr, [a] => (tyM a).map fun t => .v (.bool (tyLe t .str))
 | .isBool, [a] => (tyM a).map fun t => .v (.bool (tyLe t .bl))
 | .isInt, [a] => (tyM a).map fun t => .v (.bool (tyLe t .int))
 | .isST, [a] => (tyM a).map fun t => .v (.bool (tyLe t .str || tyLe t .tup))
 | .sorted, [a] => match a with
  | .u kvs => (tupsOf (kvs.map fun kv => nkP kv.1)).map fun xs => .l ((TT.sortT xs).map strT)
  | .h kvs => (tupsOf (kvs.map fun kv => nkP kv.1)).map fun xs => .l ((TT.sortT xs).map strT)
  | .d kvs => if kvs.length < 64 then (strsOf (kvs.map fun kv => ofKey kv.1)).map fun xs => .l ((sortS xs).map .str) else none
  | a => match listOf a with
   | some ps => match tupsOf ps with
    | some xs => some (.l ((TT.sortT xs).map strT))
    | none => if ps.length < 64 then match strsOf ps with
      | some xs => some (.l ((sortS xs).map .str))
      | none => match intsOf ps with
       | some ns => some (.l ((sortI ns).map .int))
       | none => if alk ps = true then some (.l (sortD ps)) else none
     else if alk ps = true then some (.l (sortD ps)) else none
   | none => match vw a with
    | .v (.tuple ps) => match tupsOf ps with
     | some xs => some (.l ((TT.sortT xs).map strT))
     | none => if ps.length < 64 then (strsOf ps).map fun xs => .l ((sortS xs).map .str) else none
    | _ => none
 | .all, [a] => match listOf a with
  | some ps => (boolsOf ps).map fun bs => .v (.bool (bs.all id))
  | none => none
 | .any, [a] => match listOf a with
  | some ps => (boolsOf ps).map fun bs => .v (.bool (bs.any id))
  | none => none
 | .sum, [a] => match listOf a with
  | some ps => (intsOf ps).map fun ns => .v (.int ns.sum)
  | none => none
 | .abs, [a] => match vw a with
  | .v (.int i) => some (.v (.int (if i < 0 then -i else i)))
  | _ => none
 | .max2, [a, b] => match vw a, vw b with
  | .v (.int i), .v (.int j) => some (.v (.int (if j > i then j else i)))
  | _, _ => none
 | .min2, [a, b] => match vw a, vw b with
  | .v (.int i), .v (.int j) => some (.v (.int (if j < i then j else i)))
  | _, _ => none
 | .setLen, [a] => match seqOf a with
  | some ps => (strsOf ps).map fun xs => .v (.int (dedupS xs).length)
  | none => none
 | .listRg, [a, b] => match vw a, vw b with
  | .v (.int i), .v (.int j) => if -(2 ^ 62) ≤ i ∧ i < 2 ^ 62 ∧ -(2 ^ 62) ≤ j ∧ j < 2 ^ 62 ∧ (j - i).toNat ≤ LIM then some (.l ((List.range (j - i).toNat).map fun n => .int (i + (n : Nat)))) else none
  | _, _ => none
 | .listZip, [a, b] => match seqOf a, seqOf b with
  | some x, some y => if min x.length y.length ≤ LIM then some (.l (zipP x y)) else none
  | _, _ => none
 | _, _ => none
def mtM (m : MT) (a : M) (ms : List M) : Option M := match m, vw a, ms with
 | .get, .d _, [.v .none] => some (.v .none)
 | .get, .d _, [.v .none, d] => some d
 | .get, .d kvs, [.v p] => match keyOf p with
  | some k => some (.v ((getA kvs k).getD .none))
  | none => none
 | .get, .d kvs, [.v p, d] => match keyOf p with
  | some k => match getA kvs k with
   | some q => some (.v q)
   | none => some d
  | none => none
 | .get, .t kvs, [.v p] => match keysOf p with
  | some k => some (.v ((getA kvs k).getD .none))
  | none => none
 | .get, .t kvs, [.v p, d] => match keysOf p with
  | some k => match getA kvs k with
   | some q => some (.v q)
   | none => some d
  | none => none
 | .get, .u kvs, [.v p] => match nkOf p with
  | some k => some (.v ((getA kvs k).getD .none))
  | none => none
 | .get, .u kvs, [.v p, d] => match nkOf p with
  | some k => match getA kvs k with
   | some q => some (.v q)
   | none => some d
  | none => none
 | .get, .v (.dict kvs), [.v p] => match getF kvs p with
  | some q => some (.v (q.getD .none))
  | none => none
 | .get, .v (.dict kvs), [.v p, d] => match getF kvs p with
  | some (some q) => some (.v q)
  | some none => some d
  | none => none
 | .index, .l ps, [.v x] => if flatP x = true ∧ ps.all flatP = true then match ps.findIdx? fun y => PyData.eqv y x with
   | some j => some (.v (.int j))
   | none => none
  else none
 | .count, .l ps, [.v x] => if flatP x = true ∧ ps.all flatP = true then some (.v (.int ((ps.countP fun y => PyData.eqv y x : Nat) : Int))) else none
 | _, _, _ => none
def mtBase (m : MT) (a : Option M) : Bool := match m, a with
 | .get, some a => match vw a with
  | .d _ => true
  | .t _ => true
  | .u _ => true
  | .v (.dict _) => true
  | _ => false
 | .index, some (.l _) => true
 | .count, some (.l _) => true
 | _, _ => false
def isNd : Option M → Bool
 | some (.n _) => true
 | _ => false
def sdN (kvs : List (Key × M)) (k : Key) : Option (List P) := match getA kvs k with
 | some (.l ps) => if ps.length < LIM ∧ kvs.length < LIM then some ps else none
 | none => if kvs.length < LIM then some [] else none
 | _ => none
def updM (c m : M) : Option M := match c, m with
 | .d kvs, .d more => if kvs.length + more.length ≤ LIM then some (.d (mergeA kvs more)) else none
 | .d kvs, .l ps => match pairsK ps with
  | some more => if kvs.length + more.length ≤ LIM then some (.d (mergeA kvs more)) else none
  | none => none
 | .u kvs, .l ps => match pairsU ps with
  | some more => if kvs.length + more.length ≤ LIM then some (.u (mergeA kvs more)) else none
  | none => none
 | .u kvs, .u more => if kvs ≠ [] ∧ kvs.length + more.length ≤ LIM then some (.u (mergeA kvs more)) else none
 | .u kvs, .d [] => if kvs ≠ [] then some (.u kvs) else none
 | _, _ => none
def isDU : Option M → Bool
 | some (.d _) => true
 | some (.u _) => true
 | _ => false
def isH : Option M → Bool
 | some (.h _) => true
 | _ => false
def isUd : Option M → Bool
 | some (.u _) => true
 | _ => false
def isUH : Option M → Bool
 | some m => match vw m with
  | .u _ => true
  | .h _ => true
  | _ => false
 | none => false
def sdH (kvs : List (NK × M)) (k : NK) : Option (List P) := match getA kvs k with
 | some (.l ps) => if ps.length < LIM ∧ kvs.length < LIM then some ps else none
 | none => if kvs.length < LIM then some [] else none
 | _ => none
def sdD (kvs : List (NK × M)) (k : NK) : Option (List (Key × P)) := match getA kvs k with
 | some (.d ps) => if ps.length < LIM ∧ kvs.length < LIM then some ps else none
 | none => if kvs.length < LIM then some [] else none
 | _ => none
def lgtM (m : M) (p : P) : Option (List P) := match vw m, nkOf p with
 | .u kvs, some k => match getA kvs k with
  | some (.tuple ps) => some ps
  | some (.list ps) => some ps
  | some _ => none
  | none => some []
 | .h kvs, some k => match getA kvs k with
  | some (.d ps) => some (ps.map fun kv => ofKey kv.1)
  | some (.l ps) => some ps
  | some _ => none
  | none => some []
 | _, _ => none
def hlens : List (NK × M) → Option (List Nat)
 | [] => some []
 | (_, .d ps) :: r => (hlens r).map (ps.length :: ·)
 | (_, .l ps) :: r => (hlens r).map (ps.length :: ·)
 | _ => none
def hlnM (m : M) : Option (List P) := match m with
 | .h kvs => if kvs.length ≤ LIM then (hlens kvs).map fun ns => ns.map fun (n : Nat) => .int n else none
 | _ => none
def hstM (m : M) (p : P) : Option (List P) := match m, nkOf p with
 | .h kvs, some k => match getA kvs k with
  | some (.d ps) => if ps.length < 64 then (strsOf (ps.map fun kv => ofKey kv.1)).map fun xs => (sortS xs).map .str else none
  | some (.l ps) => if ps.length < 64 then (strsOf ps).map fun xs => (sortS xs).map .str else none
  | _ => none
 | _, _ => none
def slnM (a : M) : Option M := match seqOf a with
 | some ps => match strsOf ps with
  | some xs => if xs.length < 4000 then some (.v (.int (metS xs).length)) else none
  | none => none
 | none => none
def lgkV (kvs : List (Str × Int)) (s : Str) (d : Int) : Int := match kvs.find? fun kv => decide (kv.1 = s) with
 | some kv => kv.2
 | none => d
def isL : Option M → Bool
 | some (.l _) => true
 | _ => false
structure Cxt where
 C : Nat → List M → Option (M × List M)
 gs : Nat → Option P
 pm : List Bool
def slot (ρ : Env) (i : Nat) : Option M := (ρ[i]?).join
def isLk : Option M → Bool
 | some (.k _) => true
 | _ => false
def field (m : M) (f : Str) : Option M := match m with
 | .n kvs => getA kvs (.inr f)
 | _ => none
def rd (ρ : Env) : R → Option M
 | .pl i => slot ρ i
 | .vl m => some m
def rds (ρ : Env) : List R → Option (List M)
 | [] => some []
 | r :: rs => match rd ρ r, rds ρ rs with
  | some m, some ms => some (m :: ms)
  | _, _ => none
def opE (e : E) (g : Env → Option (M × Env)) (ρ : Env) : Option (R × Env) := match e with
 | .pl i => match slot ρ i with
  | some _ => some (.pl i, ρ)
  | none => none
 | _ => match g ρ with
  | some (m, ρ) => some (.vl m, ρ)
  | none => none
def take (ρ : Env) (i : Nat) : Option (M × Env) := match slot ρ i with
 | some (.v p) => some (.v p, ρ)
 | some (.l ps) => some (.v (.list ps), ρ.set i (some (.v (.list ps))))
 | some (.d kvs) => some (.v (frzD kvs), ρ.set i (some (.v (frzD kvs))))
 | some (.t kvs) => some (.v (frzT kvs), ρ.set i (some (.v (frzT kvs))))
 | _ => none
def pmAt (X : Cxt) (i : Nat) : Bool := (X.pm[i]?).getD false
def sto (X : Cxt) (i : Nat) (m : M) (ρ : Env) : Option Env := if isLk (slot ρ i) = true ∨ pmAt X i = true ∨ ρ.length ≤ i then none else some (ρ.set i (some m))
mutual
def bindT (X : Cxt) : Tg → P → Env → Option Env
 | .nm i, p, ρ => sto X i (.v p) ρ
 | .tp ts, .tuple ps, ρ => bindTs X ts ps ρ
 | .tp ts, .list ps, ρ => bindTs X ts ps ρ
 | _, _, _ => none
def bindTs (X : Cxt) : List Tg → List P → Env → Option Env
 | [], [], ρ => some ρ
 | t :: ts, p :: ps, ρ => match bindT X t p ρ with
  | some ρ1 => bindTs X ts ps ρ1
  | none => none
 | _, _, _ => none
end
def ownOk (X : Cxt) (ρ : Env) (own : List Nat) : Bool := own.all fun i => !pmAt X i && match slot ρ i with
 | none => true
 | some (.v _) => true
 | _ => false
def wipeE (ρ : Env) : List Nat → Env
 | [] => ρ
 | i :: is => (wipeE ρ is).set i none
def backE (ρ0 ρ : Env) : List Nat → Env
 | [] => ρ
 | i :: is => (backE ρ0 ρ is).set i (slot ρ0 i)
def compL (bd : P → Env → Option Env) (tst : Env → Option (Bool × Env)) (elt : Env → Option (P × Env)) (own : List Nat) : List P → Env → List P → Option (List P × Env)
 | [], ρ, acc => some (acc, ρ)
 | p :: ps, ρ, acc => match bd p (wipeE ρ own) with
  | none => none
  | some ρ1 => match tst ρ1 with
   | none => none
   | some (false, ρ2) => compL bd tst elt own ps ρ2 acc
   | some (true, ρ2) => match elt ρ2 with
    | none => none
    | some (q, ρ3) => if acc.length < LIM then compL bd tst elt own ps ρ3 (acc ++ [q]) else none
def allVs : List (Key × M) → Option (List (Key × P))
 | [] => some []
 | (k, .v p) :: r => (allVs r).map ((k, p) :: ·)
 | _ => none
def ddM (t : Nat) (xs : List (Key × M)) : M := if t = 5 then match allVs xs with
 | some ps => .d ps
 | none => .n xs
 else .n xs
def toPg (g : Env → Option (M × Env)) (ρ : Env) : Option (P × Env) := match g ρ with
 | some (m, ρ1) => match toP m with
  | some p => some (p, ρ1)
  | none => none
 | none => none
def elNo : E → Bool
 | .no => true
 | _ => false
def itemsP (p : P) : Option (List P) := match p with
 | .tuple ps => some ps
 | .list ps => some ps
 | .dict ((.none, _) :: _) => none
 | .dict r => some (r.map (·.1))
 | .str z => some (z.cps.toList.map sgn)
 | _ => none
def itemsM (m : M) : Option (List P) := match toP m with
 | some p => itemsP p
 | none => none
def lockV (i : Nat) (ρ : Env) : Option (Option (Nat × M) × Env) := match slot ρ i with
 | some (.l ps) => some (some (i, .l ps), ρ.set i (some (.k (.l ps))))
 | some (.d ps) => some (some (i, .d ps), ρ.set i (some (.k (.d ps))))
 | some (.u ps) => some (some (i, .u ps), ρ.set i (some (.k (.u ps))))
 | some (.v p) => some (none, ρ)
 | some (.k m) => some (none, ρ)
 | _ => none
def lockE (it : It) (ρ : Env) : Option (Option (Nat × M) × Env) := match it with
 | .lk i => lockV i ρ
 | .vals i => lockV i ρ
 | _ => some (none, ρ)
def lkItems (m : M) : Option (List P) := match m with
 | .l ps => some ps
 | .d kvs => some (kvs.map fun kv => ofKey kv.1)
 | .u kvs => some (kvs.map fun kv => nkP kv.1)
 | _ => none
def valItems (m : M) : Option (List P) := match m with
 | .d kvs => some (kvs.map (·.2))
 | _ => none
def rgItems (ms : List M) : Option (List P) := match ms with
 | [.v (.int j)] => if -(2 ^ 62) ≤ j ∧ j < 2 ^ 62 then some ((List.range j.toNat).map fun (i : Nat) => .int (0 + (i : Int))) else none
 | [.v (.int i), .v (.int j)] => if -(2 ^ 62) ≤ i ∧ i < 2 ^ 62 ∧ -(2 ^ 62) ≤ j ∧ j < 2 ^ 62 then some ((List.range (j - i).toNat).map fun (k : Nat) => .int (i + (k : Int))) else none
 | [.v (.int i), .v (.int j), .v (.int c)] => if c = -1 ∧ -(2 ^ 62) ≤ i ∧ i < 2 ^ 62 ∧ -(2 ^ 62) ≤ j ∧ j < 2 ^ 62 then some ((List.range (i - j).toNat).map fun (k : Nat) => .int (i + (k : Nat) * -1)) else none
 | _ => none
def pull : List R → Env → Option (List M × Env)
 | [], ρ => some ([], ρ)
 | .pl i :: rs, ρ => match slot ρ i with
  | some m => match pull rs (ρ.set i none) with
   | some (ms, ρ1) => some (m :: ms, ρ1)
   | none => none
  | none => none
 | .vl m :: rs, ρ => match pull rs ρ with
  | some (ms, ρ1) => some (m :: ms, ρ1)
  | none => none
def putBack : List R → List M → Env → Env
 | .pl i :: rs, m :: ms, ρ => putBack rs ms (ρ.set i (some m))
 | _ :: rs, _ :: ms, ρ => putBack rs ms ρ
 | _, _, ρ => ρ
def getN (ρ : Env) (i : Nat) (p : P) : Option (M × Env) := match slot ρ i, keyOf p with
 | some (.n kvs), some k => match getA kvs k with
  | some (.v q) => some (.v q, ρ)
  | some (.l ps) => some (.v (.list ps), ρ.set i (some (.n (putA kvs k (.v (.list ps))))))
  | some _ => none
  | none => some (.v (.list []), ρ)
 | _, _ => none
def fldU (m : Option M) (f : Str) (k : Option M) : Option (List (NK × P) × NK) := match m, k with
 | some m, some (.v p) => match field m f, nkOf p with
  | some (.u kvs), some kk => some (kvs, kk)
  | _, _ => none
 | _, _ => none
mutual
def ev (X : Cxt) : E → Env → Option (M × Env)
  | .pl _, _ => none
  | .getf i f j, ρ => match slot ρ i, slot ρ j with
    | some m, some (.v p) => match field m f with
      | some (.d kvs) => match keyOf p with
        | some k => some (.v ((getA kvs k).getD .none), ρ)
        | none => none
      | _ => none
    | _, _ => none
  | .dpop i e, ρ => match slot ρ i with
    | some (.d _) => match ev X e ρ with
      | some (.v p, ρ1) => match slot ρ1 i, keyOf p with
        | some (.d kvs), some k => match getA kvs k with
          | some q => some (.v q, ρ1.set i (some (.d (kvs.filter fun kv => decide (kv.1 ≠ k)))))
          | none => none
        | _, _ => none
      | _ => none
    | _ => none
  | .fni i f j, ρ => match fldU (slot ρ i) f (slot ρ j) with
    | some (kvs, k) => some (.v (.bool (!(getA kvs k).isSome)), ρ)
    | none => none
  | .fgu i f j, ρ => match fldU (slot ρ i) f (slot ρ j) with
    | some (kvs, k) => match getA kvs k with
      | some q => some (.v q, ρ)
      | none => none
    | none => none
  | .no, _ => none
  | .tk i, ρ => take ρ i
  | .mv i, ρ => if isLk (slot ρ i) = true then none else match slot ρ i with
    | some m => some (m, ρ.set i (if pmAt X i = true then some .gone else none))
    | none => none
  | .g c, ρ => match X.gs c with
    | some p => some (.v p, ρ)
    | none => none
  | .ki i, ρ => some (.v (.int i), ρ)
  | .kb b, ρ => some (.v (.bool b), ρ)
  | .kn, ρ => some (.v .none, ρ)
  | .ks s, ρ => some (.v (.str s), ρ)
  | .tup es, ρ => match evp X es ρ with
    | some (ps, ρ1) => some (.v (.tuple ps), ρ1)
    | none => none
  | .lst es, ρ => match evp X es ρ with
    | some (ps, ρ1) => some (.l ps, ρ1)
    | none => none
  | .dnw t, ρ => match t with
    | 0 => some (.d [], ρ)
    | 1 => some (.t [], ρ)
    | 3 => some (.u [], ρ)
    | 4 => some (.h [], ρ)
    | _ => some (.n [], ρ)
  | .dd t kvs, ρ => match evkv X kvs ρ with
    | some (xs, ρ1) => some (ddM t xs, ρ1)
    | none => none
  | .dr k e, ρ => match ev X k ρ with
    | some (.v p, ρ1) => match ev X e ρ1 with
      | some (m, ρ2) => match toP m with
        | some x => match rkOf p, nkOf p with
          | some k, _ => some (.r [(k, x)], ρ2)
          | none, some k => some (.u [(k, x)], ρ2)
          | none, none => none
        | none => none
      | none => none
    | _ => none
  | .cm f es fs, ρ => match evl X es ρ with
    | some (rs, ρ1) => match pull (rs ++ fs.map .pl) ρ1 with
      | some (ms, ρ2) => match X.C f ms with
        | some (m, ms1) => some (m, putBack (rs ++ fs.map .pl) ms1 ρ2)
        | none => none
      | none => none
    | none => none
  | .lgt i k, ρ => if isUH (slot ρ i) = false then none else match ev X k ρ with
    | some (.v p, ρ1) => match slot ρ1 i with
      | some m => match lgtM m p with
        | some ps => some (.l ps, ρ1)
        | none => none
      | none => none
    | _ => none
  | .hln i j, ρ => if ρ.length ≤ j then none else match slot ρ i with
    | some m => match hlnM m with
      | some ps => some (.l ps, ρ)
      | none => none
    | none => none
  | .hst i k, ρ => if isH (slot ρ i) = false then none else match ev X k ρ with
    | some (.v p, ρ1) => match slot ρ1 i with
      | some m => match hstM m p with
        | some ps => some (.l ps, ρ1)
        | none => none
      | none => none
    | _ => none
  | .bin op a b, ρ => match opE a (ev X a) ρ with
    | some (r1, ρ1) => match opE b (ev X b) ρ1 with
      | some (r2, ρ2) => match rd ρ2 r1, rd ρ2 r2 with
        | some m1, some m2 => match binM op m1 m2 with
          | some m => some (m, ρ2)
          | none => none
        | _, _ => none
      | none => none
    | none => none
  | .neg a, ρ => match ev X a ρ with
    | some (.v (.int i), ρ1) => some (.v (.int (-i)), ρ1)
    | _ => none
  | .cmp op a b, ρ => match opE a (ev X a) ρ with
    | some (r1, ρ1) => match opE b (ev X b) ρ1 with
      | some (r2, ρ2) => match rd ρ2 r1, rd ρ2 r2 with
        | some m1, some m2 => match cmpM op m1 m2 with
          | some m => some (m, ρ2)
          | none => none
        | _, _ => none
      | none => none
    | none => none
  | .cmp2 op op2 a b c, ρ => match ev X a ρ with
    | some (m1, ρ1) => match ev X b ρ1 with
      | some (m2, ρ2) => match cmpM op m1 m2 with
        | some (.v (.bool false)) => some (.v (.bool false), ρ2)
        | some (.v (.bool true)) => match ev X c ρ2 with
          | some (m3, ρ3) => match cmpM op2 m2 m3 with
            | some m => some (m, ρ3)
            | none => none
          | none => none
        | _ => none
      | none => none
    | none => none
  | .ban a b, ρ => match ev X a ρ with
    | some (.v (.bool c), ρ1) => if c = true then ev X b ρ1 else some (.v (.bool false), ρ1)
    | _ => none
  | .bor a b, ρ => match ev X a ρ with
    | some (.v (.bool c), ρ1) => if c = true then some (.v (.bool true), ρ1) else ev X b ρ1
    | _ => none
  | .nt a, ρ => match ev X a ρ with
    | some (.v (.bool c), ρ1) => some (.v (.bool (!c)), ρ1)
    | _ => none
  | .ifx c a b, ρ => match ev X c ρ with
    | some (.v (.bool c), ρ1) => if c = true then ev X a ρ1 else ev X b ρ1
    | _ => none
  | .sub a k, ρ => match opE a (ev X a) ρ with
    | some (r1, ρ1) => match ev X k ρ1 with
      | some (m2, ρ2) => match rd ρ2 r1 with
        | some m1 => match subM m1 m2 with
          | some m => some (m, ρ2)
          | none => none
        | none => none
      | none => none
    | none => none
  | .slc a lo hi, ρ => match opE a (ev X a) ρ with
    | some (r1, ρ1) => match (if elNo lo = true then some (none, ρ1) else match ev X lo ρ1 with
        | some (.v (.int i), ρ2) => some (some i, ρ2)
        | _ => none) with
      | some (x, ρ2) => match (if elNo hi = true then some (none, ρ2) else match ev X hi ρ2 with
          | some (.v (.int i), ρ3) => some (some i, ρ3)
          | _ => none) with
        | some (y, ρ3) => match rd ρ3 r1 with
          | some m1 => match slcM m1 x y with
            | some m => some (m, ρ3)
            | none => none
          | none => none
        | none => none
      | none => none
    | none => none
  | .rev a, ρ => match opE a (ev X a) ρ with
    | some (r1, ρ1) => match rd ρ1 r1 with
      | some m1 => match revM m1 with
        | some m => some (m, ρ1)
        | none => none
      | none => none
    | none => none
  | .sln a, ρ => match opE a (ev X a) ρ with
    | some (r1, ρ1) => match rd ρ1 r1 with
      | some m1 => match slnM m1 with
        | some m => some (m, ρ1)
        | none => none
      | none => none
    | none => none
  | .lgk _ kvs k d, ρ => match ev X k ρ with
    | some (.v (.str s), ρ1) => some (.v (.int (lgkV kvs s d)), ρ1)
    | _ => none
  | .call f es, ρ => match evl X es ρ with
    | some (rs, ρ1) => match pull rs ρ1 with
      | some (ms, ρ2) => match X.C f ms with
        | some (m, ms1) => some (m, putBack rs ms1 ρ2)
        | none => none
      | none => none
    | none => none
  | .bi b es, ρ => match evl X es ρ with
    | some (rs, ρ1) => match rds ρ1 rs with
      | some ms => match biM b ms with
        | some m => some (m, ρ1)
        | none => none
      | none => none
    | none => none
  | .mt m a es, ρ => match opE a (ev X a) ρ with
    | some (r1, ρ1) => if mtBase m (rd ρ1 r1) = true then match evl X es ρ1 with
        | some (rs, ρ2) => match rd ρ2 r1, rds ρ2 rs with
          | some m1, some ms => match mtM m m1 ms with
            | some x => some (x, ρ2)
            | none => none
          | _, _ => none
        | none => none
      else none
    | none => none
  | .pop i es, ρ => if isL (slot ρ i) = false then none else match evl X es ρ with
    | some (rs, ρ1) => match slot ρ1 i, rds ρ1 rs with
      | some (.l ps), some [] => match ps[ps.length - 1]? with
        | some p => some (.v p, ρ1.set i (some (.l ps.dropLast)))
        | none => none
      | some (.l ps), some [.v (.int j)] => if 0 ≤ j ∧ j < ps.length ∧ ps.length ≤ LIM then match ps[j.toNat]? with
          | some p => some (.v p, ρ1.set i (some (.l (ps.eraseIdx j.toNat))))
          | none => none
        else none
      | _, _ => none
    | none => none
  | .getn i k, ρ => if isNd (slot ρ i) = false then none else match ev X k ρ with
    | some (.v p, ρ1) => getN ρ1 i p
    | _ => none
  | .comp own tg it ts e, ρ => match lockE it ρ with
   | none => none
   | some (lk, ρ0) => match evit X it ρ0 with
    | none => none
    | some (ps, ρ1) => if ownOk X ρ1 own = false then none else match compL (bindT X tg) (evt X ts) (toPg (ev X e)) own ps ρ1 [] with
      | none => none
      | some (qs, ρ2) =>
        let ρ3 := backE ρ1 ρ2 own
        match lk with
        | none => some (.l qs, ρ3)
        | some (i, m) => some (.l qs, ρ3.set i (some m))
def evl (X : Cxt) : EL → Env → Option (List R × Env)
 | .nil, ρ => some ([], ρ)
 | .cons e r, ρ => match opE e (ev X e) ρ with
  | some (x, ρ1) => match evl X r ρ1 with
   | some (xs, ρ2) => some (x :: xs, ρ2)
   | none => none
  | none => none
def evp (X : Cxt) : EL → Env → Option (List P × Env)
 | .nil, ρ => some ([], ρ)
 | .cons e r, ρ => match ev X e ρ with
  | some (m, ρ1) => match toP m with
   | some p => match evp X r ρ1 with
    | some (ps, ρ2) => some (p :: ps, ρ2)
    | none => none
   | none => none
  | none => none
def evkv (X : Cxt) : EL → Env → Option (List (Key × M) × Env)
 | .nil, ρ => some ([], ρ)
 | .cons (.ks k) (.cons e r), ρ => match ev X e ρ with
  | some (m, ρ1) => match evkv X r ρ1 with
   | some (xs, ρ2) => if (getA xs (.inr k)).isSome = true then none else some ((.inr k, frzL m) :: xs, ρ2)
   | none => none
  | none => none
 | .cons (.ki k) (.cons e r), ρ => match ev X e ρ with
  | some (m, ρ1) => match evkv X r ρ1 with
   | some (xs, ρ2) => if (getA xs (.inl k)).isSome = true then none else some ((.inl k, frzL m) :: xs, ρ2)
   | none => none
  | none => none
 | _, _ => none
def evt (X : Cxt) : EL → Env → Option (Bool × Env)
 | .nil, ρ => some (true, ρ)
 | .cons e .nil, ρ => match ev X e ρ with
  | some (.v (.bool b), ρ1) => some (b, ρ1)
  | _ => none
 | _, _ => none
def evit (X : Cxt) : It → Env → Option (List P × Env)
 | .of e, ρ => match ev X e ρ with
  | some (m, ρ1) => match itemsM m with
   | some ps => some (ps, ρ1)
   | none => none
  | none => none
 | .lk i, ρ => match slot ρ i with
  | some (.v p) => match itemsP p with
   | some ps => some (ps, ρ)
   | none => none
  | some (.k m) => match lkItems m with
   | some ps => some (ps, ρ)
   | none => none
  | _ => none
 | .vals i, ρ => match slot ρ i with
  | some (.k m) => match valItems m with
   | some ps => some (ps, ρ)
   | none => none
  | _ => none
 | .rg es, ρ => match evl X es ρ with
  | some (rs, ρ1) => match rds ρ1 rs with
   | some ms => match rgItems ms with
    | some ps => some (ps, ρ1)
    | none => none
   | none => none
  | none => none
 | .en e, ρ => match ev X e ρ with
  | some (m, ρ1) => match toP m with
   | some (.list ps) => some (enumP ps, ρ1)
   | some (.tuple ps) => some (enumP ps, ρ1)
   | _ => none
  | none => none
 | .zp a b, ρ => match ev X a ρ with
  | some (m1, ρ1) => match ev X b ρ1 with
   | some (m2, ρ2) => match zipM m1 m2 with
    | some x => some (x, ρ2)
    | none => none
   | none => none
  | none => none
end
inductive Fl where | nx | ct | bk | rt (m : M)
def forL (bd : P → Env → Option Env) (body : Env → Option (Fl × Env)) : List P → Env → Option (Fl × Env)
 | [], ρ => some (.nx, ρ)
 | p :: ps, ρ => match bd p ρ with
  | none => none
  | some ρ1 => match body ρ1 with
   | none => none
   | some (.bk, ρ2) => some (.nx, ρ2)
   | some (.rt m, ρ2) => some (.rt m, ρ2)
   | some (_, ρ2) => forL bd body ps ρ2
def whL (c : Env → Option (Bool × Env)) (body : Env → Option (Fl × Env)) : Nat → Env → Option (Fl × Env)
 | 0, _ => none
 | n + 1, ρ => match c ρ with
  | none => none
  | some (false, ρ1) => some (.nx, ρ1)
  | some (true, ρ1) => match body ρ1 with
   | none => none
   | some (.bk, ρ2) => some (.nx, ρ2)
   | some (.rt m, ρ2) => some (.rt m, ρ2)
   | some (_, ρ2) => whL c body n ρ2
def WF : Nat := 2 ^ 40
def ofB : Option (M × Env) → Option (Bool × Env)
 | some (.v (.bool b), ρ) => some (b, ρ)
 | _ => none
def putM (m : M) (k : P) (x : P) : Option M := match m with
 | .l ps => match k with
  | .int i => (L2.ixN ps.length i).map fun j => .l (ps.set j x)
  | _ => none
 | .d kvs => match keyOf k with
  | some k => if kvs.length < LIM then some (.d (putA kvs k x)) else none
  | none => none
 | .n kvs => match keyOf k with
  | some k => match getA kvs k with
   | some (.v _) => if kvs.length < LIM then some (.n (putA kvs k (.v x))) else none
   | none => if kvs.length < LIM then some (.n (putA kvs k (.v x))) else none
   | _ => none
  | none => none
 | .u kvs => match nkOf k with
  | some k => if kvs.length < LIM then some (.u (putA kvs k x)) else none
  | none => none
 | _ => none
mutual
def evs (X : Cxt) : S → Env → Option (Fl × Env)
  | .asg tg e, ρ => match ev X e ρ with
    | some (m, ρ1) => match tg, m with
      | .nm i, m => (sto X i m ρ1).map fun ρ2 => (.nx, ρ2)
      | tg, .v p => (bindT X tg p ρ1).map fun ρ2 => (.nx, ρ2)
      | _, _ => none
    | none => none
  | .par i j a b, ρ => match ev X a ρ with
    | some (m1, ρ1) => match ev X b ρ1 with
      | some (m2, ρ2) => match sto X i m1 ρ2 with
        | some ρ3 => match sto X j m2 ρ3 with
          | some ρ4 => some (.nx, ρ4)
          | none => none
        | none => none
      | none => none
    | none => none
  | .sto i k e, ρ => if (slot ρ i).isSome = false then none else match ev X e ρ with
    | some (m, ρ1) => match toP m with
      | some x => match ev X k ρ1 with
        | some (.v p, ρ2) => match slot ρ2 i with
          | some c => match putM c p x with
            | some c2 => some (.nx, ρ2.set i (some c2))
            | none => none
          | none => none
        | _ => none
      | none => none
    | none => none
  | .stn i k e, ρ => if (slot ρ i).isSome = false then none else match ev X e ρ with
    | some (m, ρ1) => match toP m with
      | some x => match ev X k ρ1 with
        | some (.v p, ρ2) => match slot ρ2 i, rkOf p with
          | some (.r kvs), some k => if kvs.length < LIM ∧ kvs.isEmpty = false ∧ rkN k = true ∧ (kvs.all fun kv => rkN kv.1) = true then some (.nx, ρ2.set i (some (.r (putA kvs k x)))) else none
          | _, _ => none
        | _ => none
      | none => none
    | none => none
  | .stt i ks e, ρ => if (slot ρ i).isSome = false then none else match ev X e ρ with
    | some (m, ρ1) => match toP m with
      | some x => match evp X ks ρ1 with
        | some (ps, ρ2) => match slot ρ2 i, keysAll ps with
          | some (.t kvs), some k => if kvs.length < LIM then some (.nx, ρ2.set i (some (.t (putA kvs k x)))) else none
          | _, _ => none
        | none => none
      | none => none
    | none => none
  | .stf i f k e, ρ => if isNd (slot ρ i) = false then none else match ev X e ρ with
    | some (m, ρ1) => match toP m with
      | some x => match slot ρ1 i with
        | some (.n kvs) => match getA kvs (.inr f) with
          | some (.d kv2) => match ev X k (ρ1.set i none) with
            | some (.v p, ρ2) => match slot ρ2 i, keyOf p with
              | none, some kk => if kv2.length < LIM then some (.nx, ρ2.set i (some (.n (putA kvs (.inr f) (.d (putA kv2 kk x)))))) else none
              | _, _ => none
            | _ => none
          | _ => none
        | _ => none
      | none => none
    | none => none
  | .stg i f k e, ρ => if isNd (slot ρ i) = false then none else match ev X e ρ with
    | some (m, ρ1) => match toP m with
      | some x => match slot ρ1 i with
        | some (.n kvs) => match getA kvs (.inr f) with
          | some (.u kv2) => match ev X k (ρ1.set i none) with
            | some (.v p, ρ2) => match slot ρ2 i, nkOf p with
              | none, some kk => if kv2.length < LIM then some (.nx, ρ2.set i (some (.n (putA kvs (.inr f) (.u (putA kv2 kk x)))))) else none
              | _, _ => none
            | _ => none
          | _ => none
        | _ => none
      | none => none
    | none => none
  | .app i e, ρ => if isL (slot ρ i) = false then none else match ev X e ρ with
    | some (m, ρ1) => match toP m, slot ρ1 i with
      | some p, some (.l ps) => if ps.length < LIM then some (.nx, ρ1.set i (some (.l (ps ++ [p])))) else none
      | _, _ => none
    | none => none
  | .ext i e, ρ => if isL (slot ρ i) = false then none else match ev X e ρ with
    | some (m, ρ1) => match toP m, slot ρ1 i with
      | some (.list qs), some (.l ps) => if ps.length + qs.length ≤ LIM then some (.nx, ρ1.set i (some (.l (ps ++ qs)))) else none
      | _, _ => none
    | none => none
  | .upd i e, ρ => if isDU (slot ρ i) = false then none else match ev X e ρ with
    | some (m, ρ1) => match slot ρ1 i with
      | some c => match updM c m with
        | some c2 => some (.nx, ρ1.set i (some c2))
        | none => none
      | none => none
    | none => none
  | .sda i k e, ρ => if isNd (slot ρ i) = false then none else match ev X k ρ with
    | some (.v p, ρ1) => match slot ρ1 i, keyOf p with
      | some (.n kvs), some k => match sdN kvs k with
        | none => none
        | some ps => match ev X e (ρ1.set i none) with
          | some (m, ρ2) => match toP m, slot ρ2 i with
            | some x, none => some (.nx, ρ2.set i (some (.n (putA kvs k (.l (ps ++ [x]))))))
            | _, _ => none
          | none => none
      | _, _ => none
    | _ => none
  | .sdu i k e, ρ => if isUd (slot ρ i) = false then none else match ev X k ρ with
    | some (.v p, ρ1) => match ev X e ρ1 with
      | some (m, ρ2) => match toP m, slot ρ2 i, nkOf p with
        | some x, some (.u kvs), some k => if kvs.length < LIM then some (.nx, ρ2.set i (some (.u (if (getA kvs k).isSome = true then kvs else putA kvs k x)))) else none
        | _, _, _ => none
      | none => none
    | _ => none
  | .sdh i k e, ρ => if isH (slot ρ i) = false then none else match ev X k ρ with
    | some (.v p, ρ1) => match slot ρ1 i, nkOf p with
      | some (.h kvs), some k => match sdH kvs k with
        | none => none
        | some ps => match ev X e (ρ1.set i none) with
          | some (m, ρ2) => match toP m, slot ρ2 i with
            | some x, none => some (.nx, ρ2.set i (some (.h (putA kvs k (.l (ps ++ [x]))))))
            | _, _ => none
          | none => none
      | _, _ => none
    | _ => none
  | .sdd i k j e, ρ => if isH (slot ρ i) = false then none else match ev X e ρ with
    | some (m, ρ0) => match toP m with
      | some x => if isH (slot ρ0 i) = false then none else match ev X k ρ0 with
        | some (.v p, ρ1) => match slot ρ1 i, nkOf p with
          | some (.h kvs), some k => match sdD kvs k with
            | none => none
            | some ps => match ev X j (ρ1.set i none) with
              | some (.v q, ρ2) => match slot ρ2 i, keyOf q with
                | none, some kk => some (.nx, ρ2.set i (some (.h (putA kvs k (.d (putA ps kk x))))))
                | _, _ => none
              | _ => none
          | _, _ => none
        | _ => none
      | none => none
    | none => none
  | .expr e, ρ => match ev X e ρ with
    | some (_, ρ1) => some (.nx, ρ1)
    | none => none
  | .aug i op e, ρ => match slot ρ i, ev X e ρ with
    | some (.v (.int a)), some (.v (.int b), ρ1) => match op with
      | .add => (sto X i (.v (.int (a + b))) ρ1).map fun ρ2 => (.nx, ρ2)
      | .sub => (sto X i (.v (.int (a - b))) ρ1).map fun ρ2 => (.nx, ρ2)
      | _ => none
    | _, _ => none
  | .ifs c a b, ρ => match ofB (ev X c ρ) with
    | some (c, ρ1) => if c = true then evss X a ρ1 else evss X b ρ1
    | none => none
  | .fr tg it b, ρ => match lockE it ρ with
   | none => none
   | some (lk, ρ0) => match evit X it ρ0 with
    | none => none
    | some (ps, ρ1) => match forL (bindT X tg) (evss X b) ps ρ1 with
      | none => none
      | some (f, ρ2) => match lk with
        | none => some (f, ρ2)
        | some (i, m) => some (f, ρ2.set i (some m))
  | .wh c b, ρ => whL (fun ρ => ofB (ev X c ρ)) (evss X b) WF ρ
  | .ret e, ρ => match ev X e ρ with
    | some (m, ρ1) => some (.rt m, ρ1)
    | none => none
  | .ret0, ρ => some (.rt (.v .none), ρ)
  | .cont, ρ => some (.ct, ρ)
  | .brk, ρ => some (.bk, ρ)
  | .pass, ρ => some (.nx, ρ)
def evss (X : Cxt) : SL → Env → Option (Fl × Env)
 | .nil, ρ => some (.nx, ρ)
 | .cons s r, ρ => match evs X s ρ with
  | none => none
  | some (.nx, ρ1) => evss X r ρ1
  | some (f, ρ1) => some (f, ρ1)
end
structure Fn where
 name : Str
 np : Nat
 N : List Str
 body : SL
structure MFn where
 cls : Str
 name : Str
 np : Nat
 N : List Str
 fl : List Str
 body : SL
structure EFn where
 name : Str
 np : Nat
 g : Nat → (Nat → List M → Option (M × List M)) → List M → Option (M × List M)
structure Tab where
 fs : List Fn
 gs : List (Str × P)
 ms : List (Nat × MFn) := []
 ex : List (Nat × EFn) := []
 ds : List (Str × List (Str × Int)) := []
def isMut : M → Bool
 | .v _ => false
 | _ => true
def headOr (m : M) : Bool → Env → M
 | true, some x :: _ => x
 | _, _ => m
def outs : List M → Env → List M
 | [], _ => []
 | m :: ms, ρ => headOr m (isMut m) ρ :: outs ms ρ.tail
def resM : Fl → Option M
 | .nx => some (.v .none)
 | .rt m => some m
 | _ => none
def cxt (T : Tab) (C : Nat → List M → Option (M × List M)) (ms : List M) : Cxt := ⟨C, fun c => (T.gs[c]?).map (·.2), ms.map isMut⟩
def runF (T : Tab) (C : Nat → List M → Option (M × List M)) (F : Fn) (ms : List M) : Option (M × List M) :=
 if ms.length = F.np then match evss (cxt T C ms) F.body (ms.map some ++ List.replicate (F.N.length - ms.length) none) with
  | some (f, ρ) => match resM f with
   | some m => some (m, outs ms ρ)
   | none => none
  | none => none
 else none
def rhoM (F : MFn) (ms : List M) : Env := none :: (ms.take F.np).map some ++ List.replicate (F.N.length - 1 - F.np) none ++ (ms.drop F.np).map some
def cxtM (T : Tab) (C : Nat → List M → Option (M × List M)) (F : MFn) (ms : List M) : Cxt := ⟨C, fun c => (T.gs[c]?).map (·.2), true :: (ms.take F.np).map isMut ++ List.replicate (F.N.length - 1 - F.np) false ++ (ms.drop F.np).map fun _ => true⟩
def outsM (F : MFn) (ms : List M) (ρ : Env) : List M := outs (ms.take F.np) ρ.tail ++ outs (ms.drop F.np) (ρ.drop F.N.length)
def runM (T : Tab) (C : Nat → List M → Option (M × List M)) (F : MFn) (ms : List M) : Option (M × List M) :=
 if ms.length = F.np + F.fl.length then match evss (cxtM T C F ms) F.body (rhoM F ms) with
  | some (f, ρ) => match resM f with
   | some m => some (m, outsM F ms ρ)
   | none => none
  | none => none
 else none
def callF (T : Tab) : Nat → Nat → List M → Option (M × List M)
 | 0, _, _ => none
 | k + 1, f, ms => match T.fs[f]? with
  | some F => runF T (callF T k) F ms
  | none => match T.ms.lookup f with
   | some F => runM T (callF T k) F ms
   | none => match T.ex.lookup f with
    | some e => e.g k (callF T k) ms
    | none => none
end Mn
end
section
set_option maxHeartbeats 200000
namespace Mn
open PySem L2
class WW where
 P : Program
 w : World
structure FO where
 cn : Str
 p : Addr
 o : Obj
 C : Addr
 dx : Addr
 fs : List (Str × V)
 N : List Str
class FX where
 ob : Option FO
def selfDot (f : Str) : Str := (Str.ofString "self.") ++ f
def FXok [FX] (σ : List (Option V)) (H : Hp) : Prop := ∀ q : FO, FX.ob = some q → H q.p = some (.frz q.o (.ins q.C q.dx q.fs)) ∧ σ[0]? = some (some (.ref q.p)) ∧ ∀ (i : Nat) (f : Str), q.N[i]? = some (selfDot f) → ∃ v, q.fs.lookup f = some v ∧ σ[i]? = some (some v)
def fxAt [FX] (i : Nat) : Prop := ∃ q : FO, FX.ob = some q ∧ (i = 0 ∨ ∃ f, q.N[i]? = some (selfDot f))
theorem FXok.stay [FX] {σ : List (Option V)} {H H' : Hp} (h : FXok σ H) (k : ∀ a o u, H a = some (.frz o u) → H' a = some (.frz o u)) : FXok σ H' := fun q e => ⟨k _ _ _ (h q e).1, (h q e).2⟩
theorem FXok.set [FX] {σ : List (Option V)} {H : Hp} (h : FXok σ H) {i : Nat} (x : Option V) (n : ¬ fxAt i) : FXok (σ.set i x) H := fun q e => by
 obtain ⟨h1, h2, h3⟩ := h q e
 refine ⟨h1, ?_, fun j f hf => ?_⟩
 ·rw [List.getElem?_set_ne (fun z => n ⟨q, e, .inl z⟩)]; exact h2
 ·obtain ⟨v, h4, h5⟩ := h3 j f hf
  refine ⟨v, h4, ?_⟩
  rw [List.getElem?_set_ne (fun z => n ⟨q, e, .inr ⟨f, by rw [z]; exact hf⟩⟩)]; exact h5
variable [WW]
def NoneO (a : Addr) (vs : List (Option Key × V)) : HO := .ext fun h => ∃ us : List (Option Key × Value), KV vs us ∧ us.length ≤ sizeLine ∧ h.DictOf (noneKind WW.P WW.w) a us
abbrev UV : List (NK × Addr × V) → List (NK × Addr × Value) → Prop := Paired fun p q => p.1 = q.1 ∧ p.2.1 = q.2.1 ∧ RelV p.2.2 q.2.2
def TupO (a : Addr) (vs : List (NK × Addr × V)) : HO := .ext fun h => (a == sysModules) = false ∧ ∃ (o : Obj) (es : Array DictEntry) (ep : Nat) (xs : List (NK × Addr × Value)), h.get? a = some o ∧ o.ExactDict ∧ o.data = .dict es ep ∧ es.toList = xs.map (entryOfKey (nestedKind WW.P WW.w)) ∧ (xs.map (·.1)).Nodup ∧ xs.length ≤ sizeLine ∧ UV vs xs
def TupD (K : PySem.W.Frag) (Z : Hp) (a : Addr) (vs : List V) : Prop := (∃ o : Obj, Z a = some (.frz o (.tup vs)) ∧ o.dict = none) ∨
 ∃ (o : Obj) (its : Array Value) (n : Nat), K.lookup a = some o ∧ o.cls = .type "tuple" ∧ o.dict = none ∧ o.data = .seq its n ∧ its.size ≤ sizeLine ∧ Vals vs its.toList
theorem TupD.sq {K : PySem.W.Frag} {Z : Hp} {a : Addr} {vs : List V} (h : TupD K Z a vs) : SqT K Z a vs := by
 rcases h with ⟨o, h, _⟩ | ⟨o, its, n, h1, h2, _, h4, h5, h6⟩
 ·exact .inl (.inr ⟨o, h⟩)
 ·exact .inr ⟨o, its, n, h1, h2, h4, h5, h6⟩
mutual
inductive NkV (K : PySem.W.Frag) (Z : Hp) : NK → V → Prop
 | non : NkV K Z .none .non
 | num (i : Int) : NkV K Z (.num i) (.int i)
 | text (x : Str) : PyData.strOk x = true → x.length ≤ sizeLine → NkV K Z (.text x) (.str x)
 | tup {a : Addr} {vs : List V} {ks : List NK} : TupD K Z a vs → NkVs K Z ks vs → NkV K Z (.tup ks) (.ref a)
inductive NkVs (K : PySem.W.Frag) (Z : Hp) : List NK → List V → Prop
 | nil : NkVs K Z [] []
 | cons {k : NK} {v : V} {ks : List NK} {vs : List V} : NkV K Z k v → NkVs K Z ks vs → NkVs K Z (k :: ks) (v :: vs)
end
def NkAt (K : PySem.W.Frag) (Z : Hp) (k : NK) (b : Addr) : Prop := NkV K Z k (.ref b) ∧ k.depth ≤ 8
def Sub (A B : Hp) : Prop := ∀ a o, A a = some o → B a = some o
theorem Sub.rfl' (A : Hp) : Sub A A := fun _ _ h => h
theorem Sub.trans {A B C : Hp} (h : Sub A B) (h2 : Sub B C) : Sub A C := fun a o e => h2 a o (h a o e)
def KeyOk : Key → Prop
 | .inl _ => True
 | .inr x => PyData.strOk x = true ∧ x.length ≤ sizeLine
mutual
inductive Rep (K : PySem.W.Frag) (Z : Hp) : V → P → Prop
 | non : Rep K Z .non .none
 | bl (b : Bool) : Rep K Z (.bl b) (.bool b)
 | int (i : Int) : Rep K Z (.int i) (.int i)
 | str (x : Str) : PyData.strOk x = true → x.length ≤ sizeLine → Rep K Z (.str x) (.str x)
 | tup {a : Addr} {vs : List V} {ps : List P} : TupD K Z a vs → RepL K Z vs ps → Rep K Z (.ref a) (.tuple ps)
 | lst {a : Addr} {vs : List V} {ps : List P} : Z a = some (.lst vs) → RepL K Z vs ps → Rep K Z (.ref a) (.list ps)
 | dk {a : Addr} {o : Obj} {kvs : List (Key × V)} {ps : List (P × P)} : Z a = some (.frz o (.dK kvs)) → RepK K Z kvs ps → Rep K Z (.ref a) (.dict ps)
 | dt {a : Addr} {o : Obj} {kvs : List (List Key × V)} {ps : List (P × P)} : Z a = some (.frz o (.dT kvs)) → RepT K Z kvs ps → Rep K Z (.ref a) (.dict ((.none, .none) :: ps))
inductive RepL (K : PySem.W.Frag) (Z : Hp) : List V → List P → Prop
 | nil : RepL K Z [] []
 | cons {v : V} {vs : List V} {p : P} {ps : List P} : Rep K Z v p → RepL K Z vs ps → RepL K Z (v :: vs) (p :: ps)
inductive RepK (K : PySem.W.Frag) (Z : Hp) : List (Key × V) → List (P × P) → Prop
 | nil : RepK K Z [] []
 | cons {k : Key} {v : V} {kvs : List (Key × V)} {p : P} {ps : List (P × P)} : KeyOk k → Rep K Z v p → RepK K Z kvs ps → RepK K Z ((k, v) :: kvs) ((ofKey k, p) :: ps)
inductive RepT (K : PySem.W.Frag) (Z : Hp) : List (List Key × V) → List (P × P) → Prop
 | nil : RepT K Z [] []
 | cons {k : List Key} {v : V} {kvs : List (List Key × V)} {p : P} {ps : List (P × P)} : (∀ x ∈ k, KeyOk x) → Rep K Z v p → RepT K Z kvs ps → RepT K Z ((k, v) :: kvs) ((ofKeys k, p) :: ps)
end
section
variable {K : PySem.W.Frag} {Z Z' : Hp}
theorem sqT_sub (s : Sub Z Z') {a : Addr} {vs : List V} (h : SqT K Z a vs) : SqT K Z' a vs := by
 rcases h with (h | ⟨o, h⟩) | h
 ·exact .inl (.inl (s _ _ h))
 ·exact .inl (.inr ⟨o, s _ _ h⟩)
 ·exact .inr h
theorem sqL_sub (s : Sub Z Z') {a : Addr} {vs : List V} (h : SqL K Z a vs) : SqL K Z' a vs := by
 rcases h with (h | ⟨o, h⟩) | h
 ·exact .inl (.inl (s _ _ h))
 ·exact .inl (.inr ⟨o, s _ _ h⟩)
 ·exact .inr h
theorem tupD_sub (s : Sub Z Z') {a : Addr} {vs : List V} (h : TupD K Z a vs) : TupD K Z' a vs := by
 rcases h with ⟨o, h, d⟩ | h
 ·exact .inl ⟨o, s _ _ h, d⟩
 ·exact .inr h
mutual
theorem Rep.sub (s : Sub Z Z') : ∀ {v : V} {p : P}, Rep K Z v p → Rep K Z' v p
 | _, _, .non => .non
 | _, _, .bl b => .bl b
 | _, _, .int i => .int i
 | _, _, .str x h h2 => .str x h h2
 | _, _, .tup h r => .tup (tupD_sub s h) (RepL.sub s r)
 | _, _, .lst h r => .lst (s _ _ h) (RepL.sub s r)
 | _, _, .dk h r => .dk (s _ _ h) (RepK.sub s r)
 | _, _, .dt h r => .dt (s _ _ h) (RepT.sub s r)
theorem RepL.sub (s : Sub Z Z') : ∀ {v : List V} {p : List P}, RepL K Z v p → RepL K Z' v p
 | _, _, .nil => .nil
 | _, _, .cons h r => .cons (Rep.sub s h) (RepL.sub s r)
theorem RepK.sub (s : Sub Z Z') : ∀ {v : List (Key × V)} {p : List (P × P)}, RepK K Z v p → RepK K Z' v p
 | _, _, .nil => .nil
 | _, _, .cons k h r => .cons k (Rep.sub s h) (RepK.sub s r)
theorem RepT.sub (s : Sub Z Z') : ∀ {v : List (List Key × V)} {p : List (P × P)}, RepT K Z v p → RepT K Z' v p
 | _, _, .nil => .nil
 | _, _, .cons k h r => .cons k (Rep.sub s h) (RepT.sub s r)
end
mutual
theorem NkV.sub (s : Sub Z Z') : ∀ {k : NK} {v : V}, NkV K Z k v → NkV K Z' k v
 | _, _, .non => .non
 | _, _, .num i => .num i
 | _, _, .text x h h2 => .text x h h2
 | _, _, .tup h r => .tup (tupD_sub s h) (NkVs.sub s r)
theorem NkVs.sub (s : Sub Z Z') : ∀ {k : List NK} {v : List V}, NkVs K Z k v → NkVs K Z' k v
 | _, _, .nil => .nil
 | _, _, .cons h r => .cons (NkV.sub s h) (NkVs.sub s r)
end
mutual
theorem NkV.rep : ∀ {k : NK} {v : V}, NkV K Z k v → Rep K Z v (nkP k)
 | _, _, .non => .non
 | _, _, .num i => .int i
 | _, _, .text x h h2 => .str x h h2
 | _, _, .tup h r => .tup h (NkVs.rep r)
theorem NkVs.rep : ∀ {k : List NK} {v : List V}, NkVs K Z k v → RepL K Z v (NestedKey.datas k)
 | _, _, .nil => .nil
 | _, _, .cons h r => .cons (NkV.rep h) (NkVs.rep r)
end
theorem NkAt.sub (s : Sub Z Z') {k : NK} {b : Addr} (h : NkAt K Z k b) : NkAt K Z' k b := ⟨h.1.sub s, h.2⟩
theorem RepL.length : ∀ {vs : List V} {ps : List P}, RepL K Z vs ps → vs.length = ps.length
 | _, _, .nil => rfl
 | _, _, .cons _ r => congrArg (· + 1) r.length
theorem RepL.app : ∀ {vs ws : List V} {ps qs : List P}, RepL K Z vs ps → RepL K Z ws qs → RepL K Z (vs ++ ws) (ps ++ qs)
 | _, _, _, _, .nil, h => h
 | _, _, _, _, .cons a r, h => .cons a (r.app h)
theorem RepL.one {v : V} {p : P} (h : Rep K Z v p) : RepL K Z [v] [p] := .cons h .nil
theorem RepL.get : ∀ {vs : List V} {ps : List P} {i : Nat} {p : P}, RepL K Z vs ps → ps[i]? = some p → ∃ v, vs[i]? = some v ∧ Rep K Z v p
 | _, _, _, _, .nil, h => by simp at h
 | _, _, 0, _, .cons a _, h => by simp at h; subst h; exact ⟨_, rfl, a⟩
 | _, _, i + 1, _, .cons _ r, h => by
  obtain ⟨v, h1, h2⟩ := r.get (i := i) (by simpa using h)
  exact ⟨v, by simpa using h1, h2⟩
theorem RepL.getV : ∀ {vs : List V} {ps : List P} {i : Nat} {v : V}, RepL K Z vs ps → vs[i]? = some v → ∃ p, ps[i]? = some p ∧ Rep K Z v p
 | _, _, _, _, .nil, h => by simp at h
 | _, _, 0, _, .cons a _, h => by simp at h; subst h; exact ⟨_, rfl, a⟩
 | _, _, i + 1, _, .cons _ r, h => by
  obtain ⟨v, h1, h2⟩ := r.getV (i := i) (by simpa using h)
  exact ⟨v, by simpa using h1, h2⟩
theorem RepL.drop : ∀ {vs : List V} {ps : List P} (n : Nat), RepL K Z vs ps → RepL K Z (vs.drop n) (ps.drop n)
 | _, _, 0, r => r
 | _, _, _ + 1, .nil => .nil
 | _, _, n + 1, .cons _ r => r.drop n
theorem RepL.take : ∀ {vs : List V} {ps : List P} (n : Nat), RepL K Z vs ps → RepL K Z (vs.take n) (ps.take n)
 | _, _, 0, _ => .nil
 | _, _, _ + 1, .nil => .nil
 | _, _, n + 1, .cons a r => .cons a (r.take n)
theorem RepL.set {v : V} {p : P} (h : Rep K Z v p) : ∀ {vs : List V} {ps : List P} (n : Nat), RepL K Z vs ps → RepL K Z (vs.set n v) (ps.set n p)
 | _, _, _, .nil => .nil
 | _, _, 0, .cons _ r => .cons h r
 | _, _, n + 1, .cons a r => .cons a (r.set h n)
theorem RepL.rev {vs : List V} {ps : List P} (h : RepL K Z vs ps) : RepL K Z vs.reverse ps.reverse := by
 induction vs generalizing ps with
 | nil => cases h; exact .nil
 | cons v vs ih =>
  cases h with
  | cons a r =>
   rw [List.reverse_cons, List.reverse_cons]
   exact (ih r).app (.one a)
theorem RepL.dropLast : ∀ {vs : List V} {ps : List P}, RepL K Z vs ps → RepL K Z vs.dropLast ps.dropLast := fun {vs ps} r => by
 rw [List.dropLast_eq_take, List.dropLast_eq_take, r.length]
 exact r.take _
theorem RepL.erase : ∀ {vs : List V} {ps : List P} (n : Nat), RepL K Z vs ps → RepL K Z (vs.eraseIdx n) (ps.eraseIdx n)
 | _, _, _, .nil => .nil
 | _, _, 0, .cons _ r => r
 | _, _, n + 1, .cons a r => .cons a (r.erase n)
theorem RepL.rep {vs : List V} {ps : List P} (h : RepL K Z vs ps) : ∀ n : Nat, RepL K Z (List.replicate n vs).flatten (List.replicate n ps).flatten
 | 0 => .nil
 | n + 1 => by
  rw [List.replicate_succ, List.replicate_succ, List.flatten_cons, List.flatten_cons]
  exact h.app (h.rep n)
mutual
theorem Rep.dp {H : Hp} (s : Sub Z H) : ∀ {v : V} {p : P}, Rep K Z v p → (¬ PyData.canLay0 p = true) ∨ Dp K H v p
 | _, _, .non => .inr .non
 | _, _, .bl b => .inr (.bl b)
 | _, _, .int i => .inr (.int i)
 | _, _, .str x _ _ => .inr (.str x)
 | _, _, .tup (ps := ps) h r => by
  rcases RepL.dp s r with q | q
  ·exact .inl (by simpa only [PyData.canLay0] using q)
  ·exact .inr (.tup (sqT_sub s h.sq) q)
 | _, _, .lst (ps := ps) h r => by
  rcases RepL.dp s r with q | q
  ·exact .inl (by simpa only [PyData.canLay0] using q)
  ·exact .inr (.lst (.inl (.inl (s _ _ h))) q)
 | _, _, .dk _ _ => .inl (by simp [PyData.canLay0])
 | _, _, .dt _ _ => .inl (by simp [PyData.canLay0])
theorem RepL.dp {H : Hp} (s : Sub Z H) : ∀ {v : List V} {p : List P}, RepL K Z v p → (¬ PyData.canLayAll0 p = true) ∨ DpAll K H v p
 | _, _, .nil => .inr .nil
 | _, _, .cons h r => by
  rcases Rep.dp s h with q | q
  ·exact .inl (by simp [PyData.canLayAll0, q])
  ·rcases RepL.dp s r with q2 | q2
   ·exact .inl (by simp [PyData.canLayAll0, q2])
   ·exact .inr (.cons q q2)
end
mutual
theorem Rep.lay : ∀ {v : V} {p : P}, Rep K Z v p → noD p = true → PyData.canLay0 p = true
 | _, _, .non, _ => by simp [PyData.canLay0]
 | _, _, .bl b, _ => by simp [PyData.canLay0]
 | _, _, .int i, _ => by simp [PyData.canLay0]
 | _, _, .str x h _, _ => by simpa [PyData.canLay0] using h
 | _, _, .tup _ r, h => by
  simp only [PyData.canLay0]
  exact RepL.lay r (by simpa [noD] using h)
 | _, _, .lst _ r, h => by
  simp only [PyData.canLay0]
  exact RepL.lay r (by simpa [noD] using h)
 | _, _, .dk _ _, h => by simp [noD] at h
 | _, _, .dt _ _, h => by simp [noD] at h
theorem RepL.lay : ∀ {v : List V} {p : List P}, RepL K Z v p → noDs p = true → PyData.canLayAll0 p = true
 | _, _, .nil, _ => by simp [PyData.canLayAll0]
 | _, _, .cons h r, q => by
  simp only [noDs, Bool.and_eq_true] at q
  simp [PyData.canLayAll0, Rep.lay h q.1, RepL.lay r q.2]
end
end
abbrev DRel (K : PySem.W.Frag) (Z : Hp) : List (Key × V) → List (Key × P) → Prop := Paired fun x y => x.1 = y.1 ∧ KeyOk y.1 ∧ Rep K Z x.2 y.2
abbrev NRel (K : PySem.W.Frag) (Z : Hp) : List (Option Key × V) → List (RK × P) → Prop := Paired fun x y => y.1 = .inl x.1 ∧ (∀ k, x.1 = some k → KeyOk k) ∧ Rep K Z x.2 y.2
abbrev URel (K : PySem.W.Frag) (Z : Hp) : List (NK × Addr × V) → List (NK × P) → Prop := Paired fun x y => y.1 = x.1 ∧ NkAt K Z x.1 x.2.1 ∧ Rep K Z x.2.2 y.2
abbrev TRel (K : PySem.W.Frag) (Z : Hp) : List (List Key × V) → List (List Key × P) → Prop := Paired fun x y => x.1 = y.1 ∧ (∀ k ∈ y.1, KeyOk k) ∧ Rep K Z x.2 y.2
mutual
inductive Own (K : PySem.W.Frag) (Z H : Hp) : M → V → List Addr → Prop
 | v {x : V} {p : P} : Rep K Z x p → Own K Z H (.v p) x []
 | l {a : Addr} {vs : List V} {ps : List P} : H a = some (.lst vs) → Z a = none → RepL K Z vs ps → Own K Z H (.l ps) (.ref a) [a]
 | d {a : Addr} {vs : List (Key × V)} {ps : List (Key × P)} : H a = some (.dK vs) → Z a = none → DRel K Z vs ps → Own K Z H (.d ps) (.ref a) [a]
 | t {a : Addr} {vs : List (List Key × V)} {ps : List (List Key × P)} : H a = some (.dT vs) → Z a = none → TRel K Z vs ps → Own K Z H (.t ps) (.ref a) [a]
 | n {a : Addr} {vs : List (Key × V)} {ms : List (Key × M)} {G : List Addr} : H a = some (.dK vs) → Z a = none → OwnN K Z H ms vs G → a ∉ G → Own K Z H (.n ms) (.ref a) (a :: G)
 | s {a : Addr} {ns : List Int} : SqL K Z a (ns.map V.int) → ns.length ≤ sizeLine → Own K Z H (.s ns) (.ref a) []
 | kl {a : Addr} {vs : List V} {ps : List P} : H a = some (.lst vs) → Z a = none → RepL K Z vs ps → Own K Z H (.k (.l ps)) (.ref a) [a]
 | kd {a : Addr} {o : Obj} {vs : List (Key × V)} {ps : List (Key × P)} : H a = some (.frz o (.dK vs)) → Z a = none → DRel K Z vs ps → Own K Z H (.k (.d ps)) (.ref a) [a]
 | kt {a : Addr} {o : Obj} {vs : List (List Key × V)} {ps : List (List Key × P)} : H a = some (.frz o (.dT vs)) → Z a = none → TRel K Z vs ps → Own K Z H (.k (.t ps)) (.ref a) [a]
 | rn {a : Addr} {vs : List (Option Key × V)} {ps : List (RK × P)} : H a = some (NoneO a vs) → Z a = none → NRel K Z vs ps → Own K Z H (.r ps) (.ref a) [a]
 | uo {a : Addr} {vs : List (NK × Addr × V)} {ps : List (NK × P)} : H a = some (TupO a vs) → Z a = none → URel K Z vs ps → Own K Z H (.u ps) (.ref a) [a]
 | ku {a : Addr} {o : Obj} {vs : List (NK × Addr × V)} {ps : List (NK × P)} : H a = some (.frz o (TupO a vs)) → Z a = none → URel K Z vs ps → Own K Z H (.k (.u ps)) (.ref a) [a]
 | ho {a : Addr} {vs : List (NK × Addr × V)} {ms : List (NK × M)} {G : List Addr} : H a = some (TupO a vs) → Z a = none → OwnH K Z H ms vs G → a ∉ G → Own K Z H (.h ms) (.ref a) (a :: G)
 | gone {v : V} : Own K Z H .gone v []
inductive OwnN (K : PySem.W.Frag) (Z H : Hp) : List (Key × M) → List (Key × V) → List Addr → Prop
 | nil : OwnN K Z H [] [] []
 | cons {k : Key} {m : M} {v : V} {ms : List (Key × M)} {vs : List (Key × V)} {G G2 : List Addr} : KeyOk k → getA ms k = none → Own K Z H m v G → OwnN K Z H ms vs G2 → (∀ a ∈ G, a ∉ G2) → OwnN K Z H ((k, m) :: ms) ((k, v) :: vs) (G ++ G2)
inductive OwnH (K : PySem.W.Frag) (Z H : Hp) : List (NK × M) → List (NK × Addr × V) → List Addr → Prop
 | nil : OwnH K Z H [] [] []
 | cons {k : NK} {b : Addr} {m : M} {v : V} {ms : List (NK × M)} {vs : List (NK × Addr × V)} {G G2 : List Addr} : NkAt K Z k b → getA ms k = none → Own K Z H m v G → OwnH K Z H ms vs G2 → (∀ a ∈ G, a ∉ G2) → OwnH K Z H ((k, m) :: ms) ((k, b, v) :: vs) (G ++ G2)
end
section
variable {K : PySem.W.Frag} {Z Z' H H' : Hp}
theorem dRel_sub (s : Sub Z Z') {vs : List (Key × V)} {ps : List (Key × P)} (h : DRel K Z vs ps) : DRel K Z' vs ps := Paired.mapP h fun _ _ q => ⟨q.1, q.2.1, q.2.2.sub s⟩
theorem tRel_sub (s : Sub Z Z') {vs : List (List Key × V)} {ps : List (List Key × P)} (h : TRel K Z vs ps) : TRel K Z' vs ps := Paired.mapP h fun _ _ q => ⟨q.1, q.2.1, q.2.2.sub s⟩
theorem nRel_sub (s : Sub Z Z') {vs : List (Option Key × V)} {ps : List (RK × P)} (h : NRel K Z vs ps) : NRel K Z' vs ps := Paired.mapP h fun _ _ q => ⟨q.1, q.2.1, q.2.2.sub s⟩
theorem uRel_sub (s : Sub Z Z') {vs : List (NK × Addr × V)} {ps : List (NK × P)} (h : URel K Z vs ps) : URel K Z' vs ps := Paired.mapP h fun _ _ q => ⟨q.1, q.2.1.sub s, q.2.2.sub s⟩
def notTup : HO → Prop
 | .tup _ => False
 | _ => True
mutual
theorem Own.at_ : ∀ {m : M} {v : V} {G : List Addr}, Own K Z H m v G → ∀ a ∈ G, Z a = none ∧ ∃ o, H a = some o ∧ notTup o
 | _, _, _, .v _ => fun _ h => nomatch h
 | _, _, _, .l h z _ => fun a e => by simp at e; subst e; exact ⟨z, _, h, trivial⟩
 | _, _, _, .d h z _ => fun a e => by simp at e; subst e; exact ⟨z, _, h, trivial⟩
 | _, _, _, .t h z _ => fun a e => by simp at e; subst e; exact ⟨z, _, h, trivial⟩
 | _, _, _, .n h z r _ => fun a e => by
  rcases List.mem_cons.mp e with e | e
  ·subst e; exact ⟨z, _, h, trivial⟩
  ·exact OwnN.at_ r a e
 | _, _, _, .s _ _ => fun _ h => nomatch h
 | _, _, _, .kl h z _ => fun a e => by simp at e; subst e; exact ⟨z, _, h, trivial⟩
 | _, _, _, .kd h z _ => fun a e => by simp at e; subst e; exact ⟨z, _, h, trivial⟩
 | _, _, _, .kt h z _ => fun a e => by simp at e; subst e; exact ⟨z, _, h, trivial⟩
 | _, _, _, .rn h z _ => fun a e => by simp at e; subst e; exact ⟨z, _, h, trivial⟩
 | _, _, _, .uo h z _ => fun a e => by simp at e; subst e; exact ⟨z, _, h, trivial⟩
 | _, _, _, .ku h z _ => fun a e => by simp at e; subst e; exact ⟨z, _, h, trivial⟩
 | _, _, _, .gone => fun _ h => nomatch h
 | _, _, _, .ho h z r _ => fun a e => by
  rcases List.mem_cons.mp e with e | e
  ·subst e; exact ⟨z, _, h, trivial⟩
  ·exact OwnH.at_ r a e
theorem OwnN.at_ : ∀ {m : List (Key × M)} {v : List (Key × V)} {G : List Addr}, OwnN K Z H m v G → ∀ a ∈ G, Z a = none ∧ ∃ o, H a = some o ∧ notTup o
 | _, _, _, .nil => fun _ h => nomatch h
 | _, _, _, .cons _ _ h r _ => fun a e => by
  rcases List.mem_append.mp e with e | e
  ·exact Own.at_ h a e
  ·exact OwnN.at_ r a e
theorem OwnH.at_ : ∀ {m : List (NK × M)} {v : List (NK × Addr × V)} {G : List Addr}, OwnH K Z H m v G → ∀ a ∈ G, Z a = none ∧ ∃ o, H a = some o ∧ notTup o
 | _, _, _, .nil => fun _ h => nomatch h
 | _, _, _, .cons _ _ h r _ => fun a e => by
  rcases List.mem_append.mp e with e | e
  ·exact Own.at_ h a e
  ·exact OwnH.at_ r a e
end
mutual
theorem Own.keep (s : Sub Z Z') : ∀ {m : M} {v : V} {G : List Addr}, Own K Z H m v G → (∀ a ∈ G, ∀ o, H a = some o → H' a = some o) → (∀ a ∈ G, Z' a = none) → Own K Z' H' m v G
 | _, _, _, .v h => fun _ _ => .v (h.sub s)
 | _, _, _, .l h z r => fun k n => .l (k _ (by simp) _ h) (n _ (by simp)) (r.sub s)
 | _, _, _, .d h z r => fun k n => .d (k _ (by simp) _ h) (n _ (by simp)) (dRel_sub s r)
 | _, _, _, .t h z r => fun k n => .t (k _ (by simp) _ h) (n _ (by simp)) (tRel_sub s r)
 | _, _, _, .n h z r q => fun k n => .n (k _ (by simp) _ h) (n _ (by simp)) (OwnN.keep s r (fun a e => k a (List.mem_cons_of_mem _ e)) fun a e => n a (List.mem_cons_of_mem _ e)) q
 | _, _, _, .s h z => fun _ _ => .s (sqL_sub s h) z
 | _, _, _, .kl h z r => fun k n => .kl (k _ (by simp) _ h) (n _ (by simp)) (r.sub s)
 | _, _, _, .kd h z r => fun k n => .kd (k _ (by simp) _ h) (n _ (by simp)) (dRel_sub s r)
 | _, _, _, .kt h z r => fun k n => .kt (k _ (by simp) _ h) (n _ (by simp)) (tRel_sub s r)
 | _, _, _, .rn h z r => fun k n => .rn (k _ (by simp) _ h) (n _ (by simp)) (nRel_sub s r)
 | _, _, _, .uo h z r => fun k n => .uo (k _ (by simp) _ h) (n _ (by simp)) (uRel_sub s r)
 | _, _, _, .ku h z r => fun k n => .ku (k _ (by simp) _ h) (n _ (by simp)) (uRel_sub s r)
 | _, _, _, .gone => fun _ _ => .gone
 | _, _, _, .ho h z r q => fun k n => .ho (k _ (by simp) _ h) (n _ (by simp)) (OwnH.keep s r (fun a e => k a (List.mem_cons_of_mem _ e)) fun a e => n a (List.mem_cons_of_mem _ e)) q
theorem OwnN.keep (s : Sub Z Z') : ∀ {m : List (Key × M)} {v : List (Key × V)} {G : List Addr}, OwnN K Z H m v G → (∀ a ∈ G, ∀ o, H a = some o → H' a = some o) → (∀ a ∈ G, Z' a = none) → OwnN K Z' H' m v G
 | _, _, _, .nil => fun _ _ => .nil
 | _, _, _, .cons ko kn h r q => fun k n => .cons ko kn (Own.keep s h (fun a e => k a (List.mem_append_left _ e)) fun a e => n a (List.mem_append_left _ e)) (OwnN.keep s r (fun a e => k a (List.mem_append_right _ e)) fun a e => n a (List.mem_append_right _ e)) q
theorem OwnH.keep (s : Sub Z Z') : ∀ {m : List (NK × M)} {v : List (NK × Addr × V)} {G : List Addr}, OwnH K Z H m v G → (∀ a ∈ G, ∀ o, H a = some o → H' a = some o) → (∀ a ∈ G, Z' a = none) → OwnH K Z' H' m v G
 | _, _, _, .nil => fun _ _ => .nil
 | _, _, _, .cons ko kn h r q => fun k n => .cons (ko.sub s) kn (Own.keep s h (fun a e => k a (List.mem_append_left _ e)) fun a e => n a (List.mem_append_left _ e)) (OwnH.keep s r (fun a e => k a (List.mem_append_right _ e)) fun a e => n a (List.mem_append_right _ e)) q
end
end
abbrev AS := Addr → Prop
def U (F : Nat → List Addr) : AS := fun a => ∃ i, a ∈ F i
structure Rel [FX] (K : PySem.W.Frag) (Z H : Hp) (σ : St) (ρ : Env) (F : Nat → List Addr) : Prop where
 sub : Sub Z H
 len : σ.length = ρ.length
 own : ∀ i m, slot ρ i = some m → ∃ v, σ[i]? = some (some v) ∧ Own K Z H m v (F i)
 no : ∀ i, slot ρ i = none → F i = []
 dj : ∀ i j a, a ∈ F i → a ∈ F j → i = j
 fx : FXok σ H
def PmOk [FX] (X : Cxt) : Prop := ∀ i, fxAt i → pmAt X i = true
structure Step (Z H Z' H' : Hp) (A A' : AS) : Prop where
 fr : ∀ a o, H a = some o → ¬ A a → H' a = some o
 zz : Sub Z Z'
 zn : ∀ a o, Z' a = some o → Z a = some o ∨ A a ∨ H a = none ∨ ∃ xs, o = .tup xs
 an : ∀ a, A' a → A a ∨ H a = none
 fz : ∀ a o u, H a = some (.frz o u) → H' a = some (.frz o u)
section
variable {K : PySem.W.Frag} {Z H Z' H' Z2 H2 : Hp} {A A' A2 : AS} {σ : St} {ρ ρ' : Env} {F F' : Nat → List Addr}
theorem Step.refl (A : AS) : Step Z H Z H A A := ⟨fun _ _ h _ => h, Sub.rfl' _, fun _ _ h => .inl h, fun _ h => .inl h, fun _ _ _ h => h⟩
theorem Step.trans (x : Step Z H Z' H' A A') (y : Step Z' H' Z2 H2 A' A2) : Step Z H Z2 H2 A A2 where
 fr := fun a o h n => y.fr a o (x.fr a o h n) fun q => by
  rcases x.an a q with q | q
  ·exact n q
  ·rw [q] at h; cases h
 zz := x.zz.trans y.zz
 zn := fun a o h => by
  rcases y.zn a o h with h | h | h | h
  ·exact x.zn a o h
  ·rcases x.an a h with h | h
   ·exact .inr (.inl h)
   ·exact .inr (.inr (.inl h))
  ·by_cases q : A a
   ·exact .inr (.inl q)
   ·cases e : H a with
    | none => exact .inr (.inr (.inl rfl))
    | some u => rw [x.fr a u e q] at h; cases h
  ·exact .inr (.inr (.inr h))
 an := fun a h => by
  rcases y.an a h with h | h
  ·exact x.an a h
  ·by_cases q : A a
   ·exact .inl q
   ·cases e : H a with
    | none => exact .inr rfl
    | some u => rw [x.fr a u e q] at h; cases h
 fz := fun a o u h => y.fz a o u (x.fz a o u h)
theorem Own.step {m : M} {v : V} {G : List Addr} (o : Own K Z H m v G) (d : ∀ a ∈ G, ¬ A a) (x : Step Z H Z' H' A A') (s : Sub Z' H') : Own K Z' H' m v G ∧ ∀ a ∈ G, ¬ A' a := by
 refine ⟨o.keep x.zz (fun a e u h => x.fr a u h (d a e)) fun a e => ?_, fun a e q => ?_⟩
 ·obtain ⟨z, u, hu, nt⟩ := o.at_ a e
  cases q : Z' a with
  | none => rfl
  | some w =>
   have h1 := s a w q
   rw [x.fr a u hu (d a e)] at h1
   cases h1
   rcases x.zn a _ q with h | h | h | ⟨xs, h⟩
   ·rw [z] at h; cases h
   ·exact absurd h (d a e)
   ·rw [hu] at h; cases h
   ·subst h; exact nt.elim
 ·obtain ⟨z, u, hu, nt⟩ := o.at_ a e
  rcases x.an a q with h | h
  ·exact d a e h
  ·rw [hu] at h; cases h
theorem OwnN.step {m : List (Key × M)} {v : List (Key × V)} {G : List Addr} (o : OwnN K Z H m v G) (d : ∀ a ∈ G, ¬ A a) (x : Step Z H Z' H' A A') (s : Sub Z' H') : OwnN K Z' H' m v G ∧ ∀ a ∈ G, ¬ A' a := by
 refine ⟨o.keep x.zz (fun a e u h => x.fr a u h (d a e)) fun a e => ?_, fun a e q => ?_⟩
 ·obtain ⟨z, u, hu, nt⟩ := o.at_ a e
  cases q : Z' a with
  | none => rfl
  | some w =>
   have h1 := s a w q
   rw [x.fr a u hu (d a e)] at h1
   cases h1
   rcases x.zn a _ q with h | h | h | ⟨xs, h⟩
   ·rw [z] at h; cases h
   ·exact absurd h (d a e)
   ·rw [hu] at h; cases h
   ·subst h; exact nt.elim
 ·obtain ⟨z, u, hu, nt⟩ := o.at_ a e
  rcases x.an a q with h | h
  ·exact d a e h
  ·rw [hu] at h; cases h
theorem OwnH.step {m : List (NK × M)} {v : List (NK × Addr × V)} {G : List Addr} (o : OwnH K Z H m v G) (d : ∀ a ∈ G, ¬ A a) (x : Step Z H Z' H' A A') (s : Sub Z' H') : OwnH K Z' H' m v G ∧ ∀ a ∈ G, ¬ A' a := by
 refine ⟨o.keep x.zz (fun a e u h => x.fr a u h (d a e)) fun a e => ?_, fun a e q => ?_⟩
 ·obtain ⟨z, u, hu, nt⟩ := o.at_ a e
  cases q : Z' a with
  | none => rfl
  | some w =>
   have h1 := s a w q
   rw [x.fr a u hu (d a e)] at h1
   cases h1
   rcases x.zn a _ q with h | h | h | ⟨xs, h⟩
   ·rw [z] at h; cases h
   ·exact absurd h (d a e)
   ·rw [hu] at h; cases h
   ·subst h; exact nt.elim
 ·obtain ⟨z, u, hu, nt⟩ := o.at_ a e
  rcases x.an a q with h | h
  ·exact d a e h
  ·rw [hu] at h; cases h
theorem RepL.step {vs : List V} {ps : List P} (r : RepL K Z vs ps) (x : Step Z H Z' H' A A') : RepL K Z' vs ps := r.sub x.zz
structure Alloc (Z H Z' H' : Hp) (G : List Addr) : Prop where
 hh : Sub H H'
 zz : Sub Z Z'
 zh : Sub Z' H'
 zn : ∀ a o, Z' a = some o → Z a = some o ∨ H a = none ∨ ∃ xs, o = .tup xs
 gn : ∀ a ∈ G, H a = none
theorem Alloc.refl (s : Sub Z H) : Alloc Z H Z H [] := ⟨Sub.rfl' _, Sub.rfl' _, s, fun _ _ h => .inl h, fun _ h => nomatch h⟩
theorem sub_upd {H : Hp} {p : Addr} {o : HO} (h : H p = none) : Sub H (upd H p o) := fun a u e => by rw [upd_ne (ne_of_none e h)]; exact e
theorem Alloc.own {p : Addr} {o : HO} (s : Sub Z H) (h : H p = none) : Alloc Z H Z (upd H p o) [p] :=
 ⟨sub_upd h, Sub.rfl' _, s.trans (sub_upd h), fun _ _ h => .inl h, fun a e => by simp at e; subst e; exact h⟩
theorem Alloc.imm {p : Addr} {o : HO} (s : Sub Z H) (h : H p = none) : Alloc Z H (upd Z p o) (upd H p o) [] := by
 have hz : Z p = none := by
  cases e : Z p with
  | none => rfl
  | some u => rw [s _ _ e] at h; cases h
 refine ⟨sub_upd h, sub_upd hz, fun a u e => ?_, fun a u e => ?_, fun _ h => nomatch h⟩
 ·by_cases q : a = p
  ·subst q; rw [upd_same] at e; rw [upd_same]; exact e
  ·rw [upd_ne q] at e; rw [upd_ne q]; exact s _ _ e
 ·by_cases q : a = p
  ·subst q; exact .inr (.inl h)
  ·rw [upd_ne q] at e; exact .inl e
theorem Alloc.step {G : List Addr} (x : Alloc Z H Z' H' G) (A : AS) : Step Z H Z' H' A A :=
 ⟨fun a o h _ => x.hh a o h, x.zz, fun a o h => by
  rcases x.zn a o h with h | h | h
  ·exact .inl h
  ·exact .inr (.inr (.inl h))
  ·exact .inr (.inr (.inr h)), fun _ h => .inl h, fun a o u h => x.hh a _ h⟩
theorem Own.alloc {m : M} {v : V} {G G' : List Addr} (o : Own K Z H m v G) (x : Alloc Z H Z' H' G') : Own K Z' H' m v G :=
 (o.step (A := fun _ => False) (fun _ _ h => h) (x.step _) x.zh).1
variable [FX]
theorem Rel.alloc {G : List Addr} (R : Rel K Z H σ ρ F) (x : Alloc Z H Z' H' G) : Rel K Z' H' σ ρ F :=
 ⟨x.zh, R.len, fun i m e => by
  obtain ⟨v, h1, h2⟩ := R.own i m e
  exact ⟨v, h1, h2.alloc x⟩, R.no, R.dj, R.fx.stay fun a o u h => x.hh a _ h⟩
theorem Rel.apart {G : List Addr} (R : Rel K Z H σ ρ F) (h : ∀ a ∈ G, H a = none) : ∀ a ∈ G, ¬ U F a := fun a e ⟨i, q⟩ => by
 cases s : slot ρ i with
 | none => rw [R.no i s] at q; cases q
 | some m =>
  obtain ⟨v, _, o⟩ := R.own i m s
  obtain ⟨_, u, hu, _⟩ := o.at_ a q
  rw [h a e] at hu; cases hu
theorem Rel.mem (R : Rel K Z H σ ρ F) {a : Addr} (h : U F a) : Z a = none ∧ ∃ o, H a = some o ∧ notTup o := by
 obtain ⟨i, q⟩ := h
 cases s : slot ρ i with
 | none => rw [R.no i s] at q; cases q
 | some m =>
  obtain ⟨v, _, o⟩ := R.own i m s
  exact o.at_ a q
end
structure AtW (X : Cx) : Prop where
 P : X.prog = WW.P
 w : X.w = WW.w
end Mn
end
section
set_option maxHeartbeats 200000
namespace Mn
open PySem L2 PySem.Spec PyProof.Rows
section
variable {X : Cx}
def tTupD (t : TA) : TE := fun σ H Q => t σ H fun xs H1 => xs.length ≤ sizeLine ∧ ∀ p o, o.dict = none → H1 p = none → Q (.ref p) (upd H1 p (.frz o (.tup xs)))
theorem pe_tupD {x1} {es : List Expr} {pos : Pos} {t : TA} (h : PA X es t) : PE X (.Tuple es x1 pos) (tTupD t) := by
 refine ⟨fun pins s σ H Q I hq => wpAny_Tuple_spliced (thn (h.run pos pins s σ H _ I hq) fun us s1 ⟨xs, H1, I1, r, z, q⟩ => ⟨by rw [← r.length]; exact z, ?_⟩)⟩
 refine ⟨.ref s1.heap.objs.size, _, I1.laid (t' := s1.toks) (fun b u e => Heap.get?_push_of_some _ e) (Nat.le_refl _) ?_, rfl, q _ { cls := .type "tuple", data := .seq us.toArray } rfl (I1.hok.fresh (Nat.le_refl _))⟩
 exact ⟨Heap.get?_push_size _ rfl, z, us, r, ⟨_, Heap.get?_push_size _ rfl, rfl, _, rfl⟩⟩
theorem call_tupleD : CallR X (.type "tuple") (fun xs H Q => ∃ p ys, xs = [.ref p] ∧ ((SqL X.K H p ys ∧ ∀ l o, o.dict = none → H l = none → Q (.ref l) (upd H l (.frz o (.tup ys)))) ∨ (SqT X.K H p ys ∧ Q (.ref p) H))) := by
 intro pins s σ H xs us Q I r h
 obtain ⟨p, ys, rfl, h⟩ := h
 obtain ⟨u, rfl, rx⟩ := vals1 r
 cases rx
 rcases h with ⟨hq, q⟩ | ⟨hq, q⟩
 ·obtain ⟨its, r', pl, hz⟩ := I.list hq
  have hlen := r'.length
  refine call_tuple_list pl.isList (fun h' kp => ?_) (by simp only [List.size_toArray] <;> omega)
  have I1 : Inv X pins σ H { s with heap := h' } := I.kept (t' := s.toks) kp
  exact ⟨.ref h'.objs.size, _, I1.laid (t' := s.toks) (h' := h'.push { cls := .type "tuple", data := .seq its.toArray }) (fun b o e => Heap.get?_push_of_some _ e) (Nat.le_refl _)
   (show ObjOk X.prog X.w _ _ _ (.frz { cls := .type "tuple", data := .seq its.toArray } (.tup ys)) from ⟨Heap.get?_push_size _ rfl, hz, its, r', IsTup.new _ _⟩), rfl, q _ _ rfl (I1.hok.fresh (Nat.le_refl _))⟩
 ·obtain ⟨its, r', pl, hz⟩ := I.tuple hq
  exact call_tuple_same pl ⟨.ref p, H, I, rfl, q⟩
def rCatD (K : PySem.W.Frag) : R2 := fun x y H Q => ∃ a b xs ys, x = .ref a ∧ y = .ref b ∧ SqT K H a xs ∧ SqT K H b ys ∧ xs.length + ys.length ≤ sizeLine ∧ (xs = [] → Q (.ref b) H) ∧ (xs ≠ [] → ys = [] → Q (.ref a) H) ∧
 (xs ≠ [] → ys ≠ [] → ∀ p o, o.dict = none → H p = none → Q (.ref p) (upd H p (.frz o (.tup (xs ++ ys)))))
theorem op_catD : OpR X (binaryOp .Add) (rCatD X.K) := by
 intro pins s σ H x y v u Q I rx ry h
 obtain ⟨a, b, xs, ys, rfl, rfl, ha, hb, hz, q0, q1, q2⟩ := h
 cases rx
 cases ry
 obtain ⟨its, r1, p1, _⟩ := I.tuple ha
 obtain ⟨its2, r2, p2, _⟩ := I.tuple hb
 by_cases hx : xs = []
 ·subst hx
  cases r1
  exact cat_tup0 p1 p2 ⟨.ref b, H, I, rfl, q0 rfl⟩
 ·refine HT.cat_tup p1 p2 (fun z => hx (r1.nil_iff.mp z)) (fun z => ⟨.ref a, H, I, rfl, q1 hx (r2.nil_iff.mp z)⟩) (fun z => ?_) (by rw [← r1.length, ← r2.length]; exact hz)
  refine ⟨.ref s.heap.objs.size, _, I.laid (t' := s.toks) (o := .frz { cls := .type "tuple", data := .seq (its ++ its2).toArray } (.tup (xs ++ ys))) (fun b ob q => Heap.get?_push_of_some _ q) (Nat.le_refl _) ?_, rfl, q2 hx (fun w => z (r2.nil_iff.mpr w)) _ _ rfl (I.hok.fresh (Nat.le_refl _))⟩
  exact ⟨Heap.get?_push_size _ rfl, by rw [List.length_append]; exact hz, _, r1.append r2, IsTup.new _ _⟩
def rSlD (K : PySem.W.Frag) : V → Option Int → Option Int → Hp → VK → Prop := fun x lo hi H Q => ∃ a xs, x = .ref a ∧ SqT K H a xs ∧
 (HT.sIx xs.length 0 lo = 0 ∧ HT.sIx xs.length xs.length hi = xs.length → Q (.ref a) H) ∧ (¬ (HT.sIx xs.length 0 lo = 0 ∧ HT.sIx xs.length xs.length hi = xs.length) → ∀ p o, o.dict = none → H p = none → Q (.ref p) (upd H p (.frz o (.tup (cutV xs lo hi)))))
theorem sl_tupD : SlR X (rSlD X.K) := by
 intro pins s σ H x v vl vu lo hi sl Q I rx hs pl pu h
 obtain ⟨a, xs, rfl, hx, q1, q2⟩ := h
 cases rx
 obtain ⟨its, r, ht, hz⟩ := I.tuple hx
 have hlen : its.toArray.size = xs.length := by rw [List.size_toArray]; exact r.length.symm
 refine ⟨"tuple", _, PyProof.Rows.slot_tuple_getitem.lookup, ht.typeIs, ?_⟩
 by_cases hw : HT.sIx xs.length 0 lo = 0 ∧ HT.sIx xs.length xs.length hi = xs.length
 ·exact getItem_tuple_whole ht hs pl pu (by rw [hlen]; exact hw) ⟨.ref a, H, I, rfl, q1 hw⟩
 ·refine HT.getItem_tuple_cut ht hs pl pu (by rw [hlen]; exact hw) ?_ (by rw [hlen]; exact hz)
  rw [hlen]
  refine ⟨.ref s.heap.objs.size, _, I.laid (t' := s.toks) (o := .frz { cls := .type "tuple", data := .seq ((its.drop (HT.sIx xs.length 0 lo)).take (HT.sIx xs.length xs.length hi - HT.sIx xs.length 0 lo)).toArray } (.tup (cutV xs lo hi))) (fun b ob q => Heap.get?_push_of_some _ q) (Nat.le_refl _) ?_, rfl, q2 hw _ _ rfl (I.hok.fresh (Nat.le_refl _))⟩
  exact ⟨Heap.get?_push_size _ rfl, Nat.le_trans (cutV_length xs lo hi) hz, _, (r.drop (HT.sIx xs.length 0 lo)).take (HT.sIx xs.length xs.length hi - HT.sIx xs.length 0 lo), IsTup.new _ _⟩
end
theorem tuple_mul1 (l : Addr) (items : Array Value) (n : Nat) (dd : Option Addr) (sl : Array (Option Value)) (u : Tok) :
  Meets (Builtin.«tuple.__mul__» ⟨[.ref l, .int 1 u], []⟩) (fun _ R s => s.heap.get? l = some { cls := .type "tuple", dict := dd, data := .seq items n, slots := sl } ∧ R (.ok (.ret (Value.ref l))) s) :=
 .of_wp fun prog w A R s h => by
  obtain ⟨hp, g, d, tk, os⟩ := s
  obtain ⟨hl, h⟩ := h
  have f1 := AutoSeq1.idx_int
  wp_walk using wpAny_loadPart' hl
  exact ⟨_, rfl, h⟩
theorem tuple_mul0 (l : Addr) (items : Array Value) (n : Nat) (dd : Option Addr) (sl : Array (Option Value)) (u : Tok) (hi : items.isEmpty = false) :
  Meets (Builtin.«tuple.__mul__» ⟨[.ref l, .int 0 u], []⟩) (fun _ R s => s.heap.get? l = some { cls := .type "tuple", dict := dd, data := .seq items n, slots := sl } ∧ R (.ok (.ret (Value.ref s.heap.objs.size))) { s with heap := s.heap.push { cls := Value.type "tuple", data := Data.seq #[] }, toks := s.toks }) :=
 .of_wp fun prog w A R s h => by
  obtain ⟨hp, g, d, tk, os⟩ := s
  obtain ⟨hl, h⟩ := h
  have f1 := AutoSeq1.idx_int
  wp_walk using wpAny_loadPart' hl
  exact ⟨_, rfl, h⟩
def rRepB (K : PySem.W.Frag) : R2 := fun x y H Q => ∃ l xs, x = .ref l ∧ SqT K H l xs ∧ xs ≠ [] ∧ ((y = .int 1 ∧ Q (.ref l) H) ∨ (y = .int 0 ∧ ∀ p o, o.dict = none → H p = none → Q (.ref p) (upd H p (.frz o (.tup [])))))
section
variable {X : Cx}
theorem op_repB : OpR X (binaryOp .Mult) (rRepB X.K) := by
 intro pins s σ H x y v u Q I rx ry h
 obtain ⟨l, xs, rfl, hT, hne, h⟩ := h
 cases rx
 obtain ⟨its, r, ⟨⟨cls, dd, data, sl⟩, ho, hc, n, hd⟩, hs⟩ := I.tuple hT
 simp only at hc hd
 subst hc hd
 have hn : its ≠ [] := fun e => hne (by
  have hle : its.length = xs.length := r.length.symm
  rw [e] at hle
  exact List.eq_nil_of_length_eq_zero hle.symm)
 have hi : its.toArray.isEmpty = false := by
  cases its with
  | nil => exact absurd rfl hn
  | cons a b => rfl
 rcases h with ⟨rfl, q⟩ | ⟨rfl, q⟩
 ·obtain ⟨t, rfl⟩ := ry
  exact wpAny_binaryOp_repeat_ref (T := "tuple") (U := "int") (by decide) ⟨_, ho, rfl⟩ (fun s' => typeIs_int s' 1 t) noFill_tuple_mul F.fills_int_mul F.slot_int_rmul repeat_tuple F.slot_int_index.lookup
   (call_meets F.slot_int_rmul (typeIs_int s 1 t) F.entry_int_rmul (F.args_int_rmul_2 _ _) (int_rmul_tuple 1 t l its.toArray n dd sl)
    ⟨ho, rfl, ⟨_, ho, rfl⟩, call_meets F.slot_tuple_mul ⟨_, ho, rfl⟩ F.entry_tuple_mul (F.args_tuple_mul_2 _ _) (tuple_mul1 l its.toArray n dd sl t) ⟨ho, ⟨.ref l, H, I, rfl, q⟩⟩⟩)
 ·obtain ⟨t, rfl⟩ := ry
  refine wpAny_binaryOp_repeat_ref (T := "tuple") (U := "int") (by decide) ⟨_, ho, rfl⟩ (fun s' => typeIs_int s' 0 t) noFill_tuple_mul F.fills_int_mul F.slot_int_rmul repeat_tuple F.slot_int_index.lookup
   (call_meets F.slot_int_rmul (typeIs_int s 0 t) F.entry_int_rmul (F.args_int_rmul_2 _ _) (int_rmul_tuple 0 t l its.toArray n dd sl)
    ⟨ho, rfl, ⟨_, ho, rfl⟩, call_meets F.slot_tuple_mul ⟨_, ho, rfl⟩ F.entry_tuple_mul (F.args_tuple_mul_2 _ _) (tuple_mul0 l its.toArray n dd sl t hi) ⟨ho, ?_⟩⟩)
  refine ⟨.ref s.heap.objs.size, _, I.laid (t' := s.toks) (fun b u e => Heap.get?_push_of_some _ e) (Nat.le_refl _) ?_, rfl, q _ { cls := .type "tuple", data := .seq #[] } rfl (I.hok.fresh (Nat.le_refl _))⟩
  exact ⟨Heap.get?_push_size _ rfl, by decide, [], .nil, ⟨_, Heap.get?_push_size _ rfl, rfl, _, rfl⟩⟩
end
end Mn
end
section
set_option maxHeartbeats 200000
namespace Mn
open PySem L2
variable [WW]
abbrev Ask (K : PySem.W.Frag) (Z H : Hp) (m : M) (Q : VK) : Prop := ∀ Z' H' v G, Alloc Z H Z' H' G → Own K Z' H' m v G → Q v H'
section
variable {K : PySem.W.Frag} {Z H : Hp} {a b m : M} {x y : V} {Ga Gb : List Addr} {Q : VK}
theorem Ask.imm (q : Ask K Z H (.v p) Q) (s : Sub Z H) (h : Rep K Z v p) : Q v H := q Z H v [] (.refl s) (.v h)
theorem Ask.lst {qs : List P} {vs : List V} (q : Ask K Z H (.l qs) Q) (s : Sub Z H) (r : RepL K Z vs qs) : ∀ p, H p = none → Q (.ref p) (upd H p (.lst vs)) := fun p hp =>
 q Z _ (.ref p) [p] (.own s hp) (.l upd_same (by
  cases e : Z p with
  | none => rfl
  | some u => rw [s _ _ e] at hp; cases hp) r)
theorem Ask.tup {qs : List P} {vs : List V} (q : Ask K Z H (.v (.tuple qs)) Q) (s : Sub Z H) (r : RepL K Z vs qs) : ∀ p o, o.dict = none → H p = none → Q (.ref p) (upd H p (.frz o (.tup vs))) := fun p o hd hp =>
 q (upd Z p (.frz o (.tup vs))) _ (.ref p) [] (.imm s hp) (.v (.tup (.inl ⟨o, upd_same, hd⟩) (r.sub (sub_upd (by
  cases e : Z p with
  | none => rfl
  | some u => rw [s _ _ e] at hp; cases hp)))))
inductive View (K : PySem.W.Frag) (Z H : Hp) : M → V → Prop
 | v {x : V} {p : P} : Rep K Z x p → View K Z H (.v p) x
 | l {a : Addr} {vs : List V} {ps : List P} : H a = some (.lst vs) → RepL K Z vs ps → View K Z H (.l ps) (.ref a)
 | d {a : Addr} {vs : List (Key × V)} {ps : List (Key × P)} : Rd H a (.dK vs) → DRel K Z vs ps → View K Z H (.d ps) (.ref a)
 | t {a : Addr} {vs : List (List Key × V)} {ps : List (List Key × P)} : Rd H a (.dT vs) → TRel K Z vs ps → View K Z H (.t ps) (.ref a)
 | n {a : Addr} {vs : List (Key × V)} {ms : List (Key × M)} {G : List Addr} : H a = some (.dK vs) → OwnN K Z H ms vs G → View K Z H (.n ms) (.ref a)
 | s {a : Addr} {ns : List Int} : SqL K Z a (ns.map V.int) → ns.length ≤ sizeLine → View K Z H (.s ns) (.ref a)
 | rn {a : Addr} {vs : List (Option Key × V)} {ps : List (RK × P)} : H a = some (NoneO a vs) → NRel K Z vs ps → View K Z H (.r ps) (.ref a)
 | uo {a : Addr} {vs : List (NK × Addr × V)} {ps : List (NK × P)} : Rd H a (TupO a vs) → URel K Z vs ps → View K Z H (.u ps) (.ref a)
 | ho {a : Addr} {vs : List (NK × Addr × V)} {ms : List (NK × M)} {G : List Addr} : H a = some (TupO a vs) → OwnH K Z H ms vs G → View K Z H (.h ms) (.ref a)
 | gone {x : V} : View K Z H .gone x
theorem Own.view : ∀ {m : M} {x : V} {G : List Addr}, Own K Z H m x G → View K Z H (vw m) x
 | _, _, _, .v h => .v h
 | _, _, _, .l h _ r => .l h r
 | _, _, _, .d h _ r => .d (.inl h) r
 | _, _, _, .t h _ r => .t (.inl h) r
 | _, _, _, .n h _ r _ => .n h r
 | _, _, _, .s h z => .s h z
 | _, _, _, .kl h _ r => .l h r
 | _, _, _, .kd h _ r => .d (.inr ⟨_, h⟩) r
 | _, _, _, .kt h _ r => .t (.inr ⟨_, h⟩) r
 | _, _, _, .rn h _ r => .rn h r
 | _, _, _, .uo h _ r => .uo (.inl h) r
 | _, _, _, .ku h _ r => .uo (.inr ⟨_, h⟩) r
 | _, _, _, .ho h _ r _ => .ho h r
 | _, _, _, .gone => .gone
theorem View.int {i : Int} (h : View K Z H (.v (.int i)) x) : x = .int i := by
 cases h with
 | v h => cases h; rfl
theorem View.bl {i : Bool} (h : View K Z H (.v (.bool i)) x) : x = .bl i := by
 cases h with
 | v h => cases h; rfl
theorem View.str {i : Str} (h : View K Z H (.v (.str i)) x) : x = .str i ∧ PyData.strOk i = true ∧ i.length ≤ sizeLine := by
 cases h with
 | v h => cases h; exact ⟨rfl, by assumption, by assumption⟩
theorem View.tup {ps : List P} (h : View K Z H (.v (.tuple ps)) x) : ∃ a vs, x = .ref a ∧ TupD K Z a vs ∧ RepL K Z vs ps := by
 cases h with
 | v h => cases h; exact ⟨_, _, rfl, by assumption, by assumption⟩
theorem View.lstv (s : Sub Z H) {ps : List P} (h : View K Z H (.v (.list ps)) x) : ∃ a vs, x = .ref a ∧ H a = some (.lst vs) ∧ RepL K Z vs ps := by
 cases h with
 | v h =>
  cases h
  rename_i h r
  exact ⟨_, _, rfl, s _ _ h, r⟩
theorem View.lstl {ps : List P} (h : View K Z H (.l ps) x) : ∃ a vs, x = .ref a ∧ H a = some (.lst vs) ∧ RepL K Z vs ps := by
 cases h with
 | l h r => exact ⟨_, _, rfl, h, r⟩
theorem LIM_line : LIM ≤ sizeLine := by rw [sizeLine_eq]; decide
theorem lim_le {n : Nat} (h : n ≤ LIM) : n ≤ sizeLine := Nat.le_trans h LIM_line
theorem strOk_iff {z : Str} : PyData.strOk z = true ↔ ∀ c ∈ z.cps.toList, c < 0x110000 := by
 unfold PyData.strOk
 rw [← Array.all_toList, List.all_eq_true]
 simp
theorem app_list (x y : Str) : (x ++ y).cps.toList = x.cps.toList ++ y.cps.toList := by
 show (x.cps ++ y.cps).toList = _
 simp
theorem app_len (x y : Str) : (x ++ y).length = x.length + y.length := by
 show (x.cps ++ y.cps).size = x.cps.size + y.cps.size
 simp
theorem rep_str_app {x y : Str} (h1 : PyData.strOk x = true) (h2 : PyData.strOk y = true) (h : x.length + y.length ≤ LIM) : Rep K Z (.str (x ++ y)) (.str (x ++ y)) := by
 refine .str _ ?_ (by rw [app_len]; exact lim_le h)
 rw [strOk_iff] at h1 h2 ⊢
 intro c hc
 rw [app_list] at hc
 rcases List.mem_append.mp hc with hc | hc
 ·exact h1 c hc
 ·exact h2 c hc
theorem rep_sub {x y : Str} (h1 : PyData.strOk x = true) (hl : x.length ≤ sizeLine) (h : ∀ c ∈ y.cps.toList, c ∈ x.cps.toList) (hy : y.length ≤ x.length) : Rep K Z (.str y) (.str y) := by
 refine .str _ ?_ (Nat.le_trans hy hl)
 rw [strOk_iff] at h1 ⊢
 exact fun c hc => h1 c (h c hc)
theorem mulS_list (x : Str) (n : Nat) : (mulS x n).cps.toList = (List.replicate n x.cps.toList).flatten := by
 unfold mulS
 simp
theorem flat_len {α : Type} (l : List α) (n : Nat) : (List.replicate n l).flatten.length = l.length * n := by
 simp [Nat.mul_comm]
theorem mulS_len (x : Str) (n : Nat) : (mulS x n).length = x.length * n := by
 show (mulS x n).cps.size = x.cps.size * n
 rw [← Array.length_toList, mulS_list, flat_len, Array.length_toList]
theorem rep_mulS {x : Str} {n : Nat} (h1 : PyData.strOk x = true) (h : x.length * n ≤ LIM) : Rep K Z (.str (mulS x n)) (.str (mulS x n)) := by
 refine .str _ ?_ (by rw [mulS_len]; exact lim_le h)
 rw [strOk_iff] at h1 ⊢
 intro c hc
 rw [mulS_list] at hc
 obtain ⟨l, h2, h3⟩ := List.mem_flatten.mp hc
 rw [List.mem_replicate] at h2
 rw [h2.2] at h3
 exact h1 c h3
theorem str_ext {x y : Str} (h : x.cps.toList = y.cps.toList) : x = y := by
 cases x with
 | mk a => cases y with
  | mk b =>
   have : a = b := Array.toList_inj.mp h
   rw [this]
theorem foldl_rep (x : Array Nat) : ∀ (n : Nat) (acc : Array Nat), ((List.replicate n x).foldl (· ++ ·) acc).toList = acc.toList ++ (List.replicate n x.toList).flatten
 | 0, acc => by simp
 | n + 1, acc => by
  rw [List.replicate_succ, List.foldl_cons, foldl_rep x n, List.replicate_succ, List.flatten_cons]
  simp
def rRepS : R2 := fun x y H Q => ∃ z j, x = .str z ∧ y = .int j ∧ 0 ≤ j ∧ j < 2 ^ 62 ∧ z.length * j.toNat ≤ LIM ∧ Q (.str (mulS z j.toNat)) H
theorem op_repS {X : Cx} : OpR X (binaryOp .Mult) rRepS := by
 intro pins s σ H x y v u Q I rx ry h
 obtain ⟨z, j, rfl, rfl, h0, h1, h2, q⟩ := h
 obtain ⟨t, rfl⟩ := rx
 obtain ⟨u, rfl⟩ := ry
 have hL : (LIM : Nat) = 1000000 := rfl
 refine P.mul_str ?_ (fun a b => ?_) (fun a b => ?_) ?_
 ·rw [decide_eq_false (by omega), decide_eq_false (by omega)]; rfl
 ·have b1 : (z.length : Int) * j ≤ 1000000 := by
   have h3 : (z.length : Int) * (j.toNat : Int) ≤ (LIM : Nat) := by exact_mod_cast h2
   rw [Int.toNat_of_nonneg h0, hL] at h3
   exact h3
  have hz : (0 : Int) ≤ z.length := by omega
  have b2 : (z.length : Int) ≤ 1000000 := by
   have : (z.length : Int) * 1 ≤ z.length * j := Int.mul_le_mul_of_nonneg_left (by omega) hz
   omega
  have b3 : (z.length : Int) ≤ (2 ^ 63 - 1) / j := by
   rw [Int.le_ediv_iff_mul_le (by omega)]
   omega
  omega
 ·have h5 := lim_le h2
  show decide (_ > _) = false
  exact decide_eq_false (by omega)
 ·have e0 : ∀ t2, RelV (V.str (mulS z j.toNat)) (Value.str (mulS z j.toNat) t2) := fun t2 => ⟨t2, rfl⟩
  by_cases c1 : j < 1
  ·rw [if_pos c1]
   have ej : j = 0 := by omega
   subst ej
   refine ⟨by decide, ?_⟩
   refine ⟨.str (mulS z 0), H, I.tok _, ⟨_, rfl⟩, q⟩
  ·rw [if_neg c1]
   by_cases c2 : (j == 1 || z.length == 0) = true
   ·rw [if_pos c2]
    have ez : mulS z j.toNat = z := by
     apply str_ext
     rw [mulS_list]
     simp only [Bool.or_eq_true, beq_iff_eq] at c2
     rcases c2 with c2 | c2
     ·subst c2; simp
     ·have : z.cps.toList = [] := List.eq_nil_of_length_eq_zero (by rw [Array.length_toList]; exact c2)
      rw [this]; simp
    rw [ez] at q
    exact ⟨.str z, H, I, ⟨_, rfl⟩, q⟩
   ·rw [if_neg c2]
    have ez : (⟨(List.replicate j.toNat z.cps).foldl (· ++ ·) #[]⟩ : Str) = mulS z j.toNat := by
     apply str_ext
     rw [mulS_list]
     show ((List.replicate j.toNat z.cps).foldl (· ++ ·) #[]).toList = _
     rw [foldl_rep]; simp
    rw [ez]
    exact ⟨by rw [mulS_len]; exact lim_le h2, ⟨.str (mulS z j.toNat), H, I.tok _, ⟨_, rfl⟩, q⟩⟩
def oMul (K : PySem.W.Frag) : R2 := fun x y H Q => rI CMul (fun i j => .int (i * j)) x y H Q ∨ rI CMulW (fun i j => .int (i * j)) x y H Q ∨ rRep x y H Q ∨ rRepS x y H Q ∨ rRepB K x y H Q
def oAdd (K : PySem.W.Frag) : R2 := fun x y H Q => rI0 (fun i j => .int (i + j)) x y H Q ∨ (∃ i j, x = .str i ∧ y = .str j ∧ i.length + j.length ≤ sizeLine ∧ Q (.str (i ++ j)) H) ∨ rCat x y H Q ∨ rCatD K x y H Q
def rBin (K : PySem.W.Frag) : BOp → R2
 | .add => oAdd K
 | .sub => rI0 fun i j => .int (i - j)
 | .mul => oMul K
 | .mod => rI (fun _ j => 0 < j) fun i j => .int (i % j)
 | .div => rI CDiv fun i j => .int (i / j)
 | .pow => rI CPow fun i j => .int (i ^ j.toNat)
def bOp : BOp → Operator
 | .add => .Add | .sub => .Sub | .mul => .Mult | .mod => .Mod | .div => .FloorDiv | .pow => .Pow
theorem bin_R {X : Cx} : ∀ op : BOp, OpR X (binaryOp (bOp op)) (rBin X.K op)
 | .add => op_add.or (op_add_str.or (op_cat.or op_catD))
 | .sub => op_sub
 | .mul => op_mul.or (op_mulW.or (op_rep.or (op_repS.or op_repB)))
 | .mod => op_mod
 | .div => op_fdiv
 | .pow => op_pow
theorem cat_ok {pa pb : List P} (s : Sub Z H) (ha : ∃ p vs, x = .ref p ∧ H p = some (.lst vs) ∧ RepL K Z vs pa) (hb : ∃ p vs, y = .ref p ∧ H p = some (.lst vs) ∧ RepL K Z vs pb) (hl : pa.length + pb.length ≤ LIM) (q : Ask K Z H (.l (pa ++ pb)) Q) :
  rBin K .add x y H Q := by
 obtain ⟨p, vs, rfl, h1, r1⟩ := ha
 obtain ⟨p2, vs2, rfl, h2, r2⟩ := hb
 exact .inr (.inr (.inl ⟨p, p2, vs, vs2, rfl, rfl, h1, h2, by rw [r1.length, r2.length]; exact lim_le hl, q.lst s (r1.app r2)⟩))
theorem rep_ok {pa : List P} {j : Int} (s : Sub Z H) (ha : ∃ p vs, x = .ref p ∧ H p = some (.lst vs) ∧ RepL K Z vs pa) (hb : y = .int j) (hl : -(2 ^ 63) ≤ j ∧ j < 2 ^ 63 ∧ pa.length * j.toNat ≤ LIM) (q : Ask K Z H (.l (List.replicate j.toNat pa).flatten) Q) :
  rBin K .mul x y H Q := by
 obtain ⟨p, vs, rfl, h1, r1⟩ := ha
 subst hb
 exact .inr (.inr (.inl ⟨p, j, vs, rfl, rfl, h1, hl.1, hl.2.1, by rw [r1.length]; exact lim_le hl.2.2, q.lst s (r1.rep _)⟩))
theorem bin_ok (op : BOp) (s : Sub Z H) (ha : View K Z H (vw a) x) (hb : View K Z H (vw b) y) (e : binM op a b = some m) (q : Ask K Z H m Q) : rBin K op x y H Q := by
 unfold binM at e
 split at e <;> rename_i e1 e2
 ·rw [e1] at ha; rw [e2] at hb; cases e; cases ha.int; cases hb.int
  exact .inl ⟨_, _, rfl, rfl, q.imm s (.int _)⟩
 ·rw [e1] at ha; rw [e2] at hb; cases e; cases ha.int; cases hb.int
  exact ⟨_, _, rfl, rfl, q.imm s (.int _)⟩
 ·rw [e1] at ha; rw [e2] at hb; cases ha.int; cases hb.int
  split at e
  ·rename_i c
   cases e
   unfold mulOk at c
   simp only [Bool.or_eq_true, Bool.and_eq_true, decide_eq_true_eq] at c
   rcases c with c | c
   ·exact .inl ⟨_, _, rfl, rfl, c, q.imm s (.int _)⟩
   ·exact .inr (.inl ⟨_, _, rfl, rfl, c, q.imm s (.int _)⟩)
  ·cases e
 ·rw [e1] at ha; rw [e2] at hb; cases ha.int; cases hb.int
  split at e
  ·rename_i c
   cases e
   exact ⟨_, _, rfl, rfl, c, q.imm s (.int _)⟩
  ·cases e
 ·rw [e1] at ha; rw [e2] at hb; cases ha.int; cases hb.int
  split at e
  ·rename_i c
   cases e
   exact ⟨_, _, rfl, rfl, c, q.imm s (.int _)⟩
  ·cases e
 ·rw [e1] at ha; rw [e2] at hb; cases ha.int; cases hb.int
  split at e
  ·rename_i c
   cases e
   exact ⟨_, _, rfl, rfl, ⟨c.1, by omega, c.2.2⟩, q.imm s (.int _)⟩
  ·cases e
 ·rw [e1] at ha; rw [e2] at hb
  obtain ⟨rfl, k1, k2⟩ := ha.str
  obtain ⟨rfl, k3, k4⟩ := hb.str
  split at e
  ·rename_i c
   cases e
   exact .inr (.inl ⟨_, _, rfl, rfl, lim_le c, q.imm s (rep_str_app k1 k3 c)⟩)
  ·cases e
 ·rw [e1] at ha; rw [e2] at hb
  obtain ⟨p, vs, rfl, h1, r1⟩ := ha.tup
  obtain ⟨p2, vs2, rfl, h2, r2⟩ := hb.tup
  split at e
  ·rename_i c
   cases e
   refine .inr (.inr (.inr ⟨p, p2, vs, vs2, rfl, rfl, sqT_sub s h1.sq, sqT_sub s h2.sq, by rw [r1.length, r2.length]; exact lim_le c, fun z => ?_, fun _ z => ?_, fun _ _ => q.tup s (r1.app r2)⟩))
   ·subst z; cases r1; exact q.imm s (.tup h2 r2)
   ·subst z; cases r2; rw [List.append_nil] at q; exact q.imm s (.tup h1 r1)
  ·cases e
 ·rw [e1] at ha; rw [e2] at hb
  split at e
  ·rename_i c
   cases e
   exact cat_ok s ha.lstl hb.lstl c q
  ·cases e
 ·rw [e1] at ha; rw [e2] at hb
  split at e
  ·rename_i c
   cases e
   exact cat_ok s ha.lstl (hb.lstv s) c q
  ·cases e
 ·rw [e1] at ha; rw [e2] at hb
  split at e
  ·rename_i c
   cases e
   exact cat_ok s (ha.lstv s) hb.lstl c q
  ·cases e
 ·rw [e1] at ha; rw [e2] at hb
  split at e
  ·rename_i c
   cases e
   exact cat_ok s (ha.lstv s) (hb.lstv s) c q
  ·cases e
 ·rw [e1] at ha; rw [e2] at hb
  split at e
  ·rename_i c
   cases e
   exact rep_ok s ha.lstl hb.int c q
  ·cases e
 ·rw [e1] at ha; rw [e2] at hb
  split at e
  ·rename_i c
   cases e
   exact rep_ok s (ha.lstv s) hb.int c q
  ·cases e
 ·rw [e1] at ha; rw [e2] at hb
  obtain ⟨rfl, k1, k2⟩ := ha.str
  cases hb.int
  split at e
  ·rename_i c
   cases e
   exact .inr (.inr (.inr (.inl ⟨_, _, rfl, rfl, c.1, c.2.1, c.2.2, q.imm s (rep_mulS k1 c.2.2)⟩)))
  ·cases e
 ·rw [e1] at ha; rw [e2] at hb
  obtain ⟨p, vs, rfl, h1, r1⟩ := ha.tup
  cases hb.int
  split at e
  ·rename_i c
   have hne : vs ≠ [] := fun z => by subst z; cases r1; exact c rfl
   split at e
   ·rename_i c1
    subst c1
    cases e
    exact .inr (.inr (.inr (.inr ⟨p, vs, rfl, sqT_sub s h1.sq, hne, .inl ⟨rfl, q.imm s (.tup h1 r1)⟩⟩)))
   ·split at e
    ·rename_i c2
     subst c2
     cases e
     exact .inr (.inr (.inr (.inr ⟨p, vs, rfl, sqT_sub s h1.sq, hne, .inr ⟨rfl, q.tup s .nil⟩⟩)))
    ·cases e
  ·cases e
 ·cases e
end
end Mn
end
section
set_option maxHeartbeats 200000
namespace Mn
open PySem L2 PySem.Spec PyProof.Rows
variable [WW]
section
variable {X : Cx} {pins : List (Addr × Obj)} {σ : L2.St} {H : Hp} {s : Shared} {a b : Addr} {vs ws : List (NK × Addr × V)} {k : NK} {v : V} {u : Value} {A : Around} {E : Value → Shared → Prop}
mutual
theorem nk_is (J : Inv X pins σ H s) : ∀ {k : NK} {v : V} {u : Value}, NkV X.K H k v → RelV v u → NestedIs s.heap k u
 | _, _, _, .non, r => by cases r; exact .none
 | _, _, _, .num i, r => by obtain ⟨t, rfl⟩ := r; exact .int i t
 | _, _, _, .text x _ _, r => by obtain ⟨t, rfl⟩ := r; exact .text x t
 | _, _, _, .tup h q, r => by
  cases r
  obtain ⟨its, rv, ⟨o, h1, h2, n, h3⟩, _⟩ := J.tuple h.sq
  exact .tup h1 h2 h3 (by simpa using nks_is J q rv)
theorem nks_is (J : Inv X pins σ H s) : ∀ {ks : List NK} {vs : List V} {us : List Value}, NkVs X.K H ks vs → Vals vs us → NestedAll s.heap ks us
 | _, _, _, .nil, .nil => .nil
 | _, _, _, .cons h t, .cons r q => .cons (nk_is J h r) (nks_is J t q)
end
theorem key_is {b : Addr} {k : NK} (J : Inv X pins σ H s) (h : NkAt X.K H k b) : (nestedKind X.prog X.w).is s.heap k b := ⟨nk_is J h.1 rfl, h.2⟩
theorem nk_room {prog : Program} {w : World} (hu : A.units + 16 < cLine) : (nestedKind prog w).room A.in1 := show A.units + 1 + 8 < cLine by omega
theorem nk_room2 {prog : Program} {w : World} (hu : A.units + 16 < cLine) : (nestedKind prog w).room A.in1.in1 := show A.units + 1 + 1 + 8 < cLine by omega
theorem nk_room0 {prog : Program} {w : World} (hu : A.units + 16 < cLine) : (nestedKind prog w).room A := show A.units + 8 < cLine by omega
abbrev tkX (X : Cx) : HeapKind X.prog X.w NK := nestedKind X.prog X.w
def KeysAt (K : PySem.W.Frag) (H : Hp) (vs : List (NK × Addr × V)) : Prop := ∀ x ∈ vs, NkAt K H x.1 x.2.1
theorem uv_mem {xs : List (NK × Addr × Value)} (r : UV vs xs) : ∀ q ∈ xs, ∃ p ∈ vs, p.1 = q.1 ∧ p.2.1 = q.2.1 := by
 induction r with
 | nil => intro q hq; cases hq
 | cons h _ ih =>
  intro q hq
  rcases List.mem_cons.mp hq with c | c
  ·subst c; exact ⟨_, List.mem_cons_self, h.1, h.2.1⟩
  ·obtain ⟨p, hp, h2⟩ := ih q c
   exact ⟨p, List.mem_cons_of_mem _ hp, h2⟩
theorem uu_get (J : Inv X pins σ H s) (hw : AtW X) (e : Rd H a (TupO a vs)) (hk : KeysAt X.K H vs) : ∃ xs, UV vs xs ∧ (a == sysModules) = false ∧ xs.length ≤ sizeLine ∧ s.heap.DictOfH (tkX X) a xs := by
 obtain ⟨lo, o, es, ep, xs, h1, h2, h3, h4, h5, h6, h7⟩ : (a == sysModules) = false ∧ ∃ (o : Obj) (es : Array DictEntry) (ep : Nat) (xs : List (NK × Addr × Value)), s.heap.get? a = some o ∧ o.ExactDict ∧ o.data = .dict es ep ∧ es.toList = xs.map (entryOfKey (nestedKind WW.P WW.w)) ∧ (xs.map (·.1)).Nodup ∧ xs.length ≤ sizeLine ∧ UV vs xs := by
  rcases e with e | ⟨o, e⟩
  ·exact (J.hok a _ e).1
  ·exact (show ObjOk X.prog X.w H s.heap a (.frz o (TupO a vs)) from J.hok a _ e).2.1
 rw [← hw.P, ← hw.w] at h4
 refine ⟨xs, h7, lo, h6, o, es, ep, h1, h2, h3, h4, fun x hx => ?_, h5⟩
 obtain ⟨p, hp, e1, e2⟩ := uv_mem h7 x hx
 have := key_is J (hk p hp)
 rw [e1, e2] at this
 exact this
theorem uu_new {H' : Hp} {h : Heap} {xs : List (NK × Addr × Value)} (hw : AtW X) (rel : UV vs xs) (lo : (a == sysModules) = false) (z : xs.length ≤ sizeLine) (dd : h.DictOfH (tkX X) a xs) : ObjOk X.prog X.w H' h a (TupO a vs) := by
 obtain ⟨o, es, ep, h1, h2, h3, h4, _, h5⟩ := dd
 rw [show tkX X = nestedKind X.prog X.w from rfl, hw.P, hw.w] at h4
 exact ⟨⟨lo, o, es, ep, xs, h1, h2, h3, h4, h5, z, rel⟩, ⟨o, h1⟩, fun h1 h2 ⟨lo, o, es, ep, xs, g1, g2⟩ k => ⟨lo, o, es, ep, xs, k o g1, g2⟩⟩
def putU (vs : List (NK × Addr × V)) (k : NK) (b : Addr) (v : V) : List (NK × Addr × V) := if (vs.any fun x => decide (x.1 = k)) = true then vs.map (fun x => if x.1 = k then (x.1, x.2.1, v) else x) else vs ++ [(k, b, v)]
def mergeU (vs ws : List (NK × Addr × V)) : List (NK × Addr × V) := ws.foldl (fun acc p => putU acc p.1 p.2.1 p.2.2) vs
theorem uv_any {xs : List (NK × Addr × Value)} (r : UV vs xs) (k : NK) : (vs.any fun x => decide (x.1 = k)) = (atKey xs k).isSome := by
 induction r with
 | nil => rfl
 | @cons p q ps qs h t ih =>
  obtain ⟨h1, _⟩ := h
  unfold atKey at ih ⊢
  rw [List.any_cons, List.find?_cons, h1]
  by_cases e : q.1 = k
  ·simp [e]
  ·simp only [e, decide_false, Bool.false_or]
   exact ih
theorem uv_put {xs : List (NK × Addr × Value)} (r : UV vs xs) (k : NK) (b : Addr) (rv : RelV v u) : UV (putU vs k b v) (storedH xs k b u) := by
 have e := uv_any r k
 unfold putU storedH
 rw [e]
 by_cases c : (atKey xs k).isSome = true
 ·rw [if_pos c, if_pos c]
  clear e c
  induction r with
  | nil => exact .nil
  | @cons p q ps qs h t ih =>
   rw [List.map_cons, List.map_cons]
   refine .cons ?_ ih
   obtain ⟨h1, h2, h3⟩ := h
   unfold putAt
   by_cases e : p.1 = k
   ·rw [if_pos e, if_pos (h1 ▸ e)]; exact ⟨h1, h2, rv⟩
   ·rw [if_neg e, if_neg (fun z => e (h1.trans z))]; exact ⟨h1, h2, h3⟩
 ·rw [if_neg c, if_neg c]
  exact Paired.snoc r ⟨rfl, rfl, rv⟩
theorem uv_merge : ∀ {ws : List (NK × Addr × V)} {ys : List (NK × Addr × Value)} {vs : List (NK × Addr × V)} {xs : List (NK × Addr × Value)}, UV ws ys → UV vs xs → UV (mergeU vs ws) (storedAllH xs ys)
 | _, _, _, _, .nil, r => r
 | _, _, _, _, @Paired.cons _ _ _ p q ps qs h t, r => by
  obtain ⟨h1, h2, h3⟩ := h
  unfold mergeU storedAllH
  rw [List.foldl_cons, List.foldl_cons, h1, h2]
  exact uv_merge t (uv_put r q.1 q.2.1 h3)
theorem putU_len : (putU vs k b v).length ≤ vs.length + 1 := by
 unfold putU
 split
 ·rw [List.length_map]; omega
 ·rw [List.length_append]; simp
theorem mergeU_len : ∀ (ws vs : List (NK × Addr × V)), (mergeU vs ws).length ≤ vs.length + ws.length
 | [], vs => by show vs.length ≤ vs.length + 0; omega
 | p :: ps, vs => by
  have h1 := mergeU_len ps (putU vs p.1 p.2.1 p.2.2)
  have h2 : (putU vs p.1 p.2.1 p.2.2).length ≤ vs.length + 1 := putU_len
  show (mergeU (putU vs p.1 p.2.1 p.2.2) ps).length ≤ _
  rw [List.length_cons]; omega
theorem uv_len {xs : List (NK × Addr × Value)} (r : UV vs xs) : vs.length = xs.length := Paired.length r
def valU (vs : List (NK × Addr × V)) (k : NK) : Option V := (vs.find? fun x => decide (x.1 = k)).map (·.2.2)
theorem uv_at {xs : List (NK × Addr × Value)} (r : UV vs xs) (k : NK) : RelO (valU vs k) ((atKey xs k).map (·.2)) := by
 induction r with
 | nil => exact trivial
 | @cons p q ps qs h t ih =>
  obtain ⟨h1, _, h3⟩ := h
  unfold valU atKey at ih ⊢
  rw [List.find?_cons, List.find?_cons, h1]
  by_cases e : q.1 = k
  ·simp only [e, decide_true]; exact h3
  ·simp only [e, decide_false]; exact ih
theorem relO_get {o : Option V} {p : Option Value} {d : V} {r : Value} (h : RelO o p) (rd : RelV d r) : RelV (o.getD d) (p.getD r) := by
 cases o <;> cases p <;> first | exact h.elim | exact rd | exact h
theorem uu_len {Q : Value → Shared → Prop} (J : Inv X pins σ H s) (hw : AtW X) (e : Rd H a (TupO a vs)) (hk : KeysAt X.K H vs) (h : ∀ t s', Inv X pins σ H s' → Q (.int vs.length t) s') : wpAny (model X.prog X.w) A (call (.builtin "len") [.ref a]) Q E s := by
 obtain ⟨xs, r, lo, z, dd⟩ := uu_get J hw e hk
 have hl := uv_len r
 refine call_len_dictH lo dd ?_ ?_
 ·have := sizeLine_eq; omega
 ·rw [hl] at h
  exact h _ _ (J.tok _)
theorem uu_in {Q : Value → Shared → Prop} (hu : A.units + 16 < cLine) (J : Inv X pins σ H s) (hw : AtW X) (e : Rd H a (TupO a vs)) (hk : KeysAt X.K H vs) (hb : NkAt X.K H k b) (h : ∀ s', Inv X pins σ H s' → Q (.bool (vs.any fun x => decide (x.1 = k))) s') : wpAny (model X.prog X.w) A (compareOp .In (.ref b) (.ref a)) Q E s := by
 obtain ⟨xs, r, lo, z, dd⟩ := uu_get J hw e hk
 refine wpAny_in_heap (nk_room hu) (key_is J hb) lo dd ?_
 rw [← uv_any r k]
 exact h _ (J.tok _)
theorem uu_nin {Q : Value → Shared → Prop} (hu : A.units + 16 < cLine) (J : Inv X pins σ H s) (hw : AtW X) (e : Rd H a (TupO a vs)) (hk : KeysAt X.K H vs) (hb : NkAt X.K H k b) (h : ∀ s', Inv X pins σ H s' → Q (.bool (!(vs.any fun x => decide (x.1 = k)))) s') : wpAny (model X.prog X.w) A (compareOp .NotIn (.ref b) (.ref a)) Q E s := by
 obtain ⟨xs, r, lo, z, dd⟩ := uu_get J hw e hk
 refine wpAny_notIn_heap (nk_room hu) (key_is J hb) lo dd ?_
 rw [← uv_any r k]
 exact h _ (J.tok _)
theorem uu_item {Q : Value → Shared → Prop} (hu : A.units + 16 < cLine) (J : Inv X pins σ H s) (hw : AtW X) (e : Rd H a (TupO a vs)) (hk : KeysAt X.K H vs) (hb : NkAt X.K H k b) (l : valU vs k = some v) (h : ∀ w' s', Inv X pins σ H s' → RelV v w' → Q w' s') : wpAny (model X.prog X.w) A (getItem (.ref a) (.ref b)) Q E s := by
 obtain ⟨xs, r, lo, z, dd⟩ := uu_get J hw e hk
 have rr := uv_at r k
 rw [l] at rr
 cases q : (atKey xs k).map (·.2) with
 | none => rw [q] at rr; exact rr.elim
 | some w' =>
  rw [q] at rr
  obtain ⟨p, hp, hp2⟩ := Option.map_eq_some_iff.mp q
  exact wpAny_getItem_heap (nk_room hu) (key_is J hb) dd hp (by rw [hp2]; exact h w' _ (J.tok _) rr)
theorem uu_get1 {Q : Value → Shared → Prop} (hu : A.units + 16 < cLine) (J : Inv X pins σ H s) (hw : AtW X) (e : Rd H a (TupO a vs)) (hk : KeysAt X.K H vs) (hb : NkAt X.K H k b) (h : ∀ w' s', Inv X pins σ H s' → RelV ((valU vs k).getD .non) w' → Q w' s') : wpAny (model X.prog X.w) A (call (.builtin "dict.get") [.ref a, .ref b]) Q E s := by
 obtain ⟨xs, r, lo, z, dd⟩ := uu_get J hw e hk
 exact call_meetsIn PySem.F.slot_dict_get dd.typeIs PySem.F.entry_dict_get (PySem.F.args_dict_get_2 _ _) (meetsH_dict_get (tkX X) a b lo)
  ⟨nk_room hu, k, xs, key_is J hb, dd, h _ _ (J.tok _) (relO_get (uv_at r k) rfl)⟩
theorem uu_get2 {d : V} {rr : Value} {Q : Value → Shared → Prop} (hu : A.units + 16 < cLine) (J : Inv X pins σ H s) (hw : AtW X) (e : Rd H a (TupO a vs)) (hk : KeysAt X.K H vs) (hb : NkAt X.K H k b) (rd : RelV d rr) (h : ∀ w' s', Inv X pins σ H s' → RelV ((valU vs k).getD d) w' → Q w' s') : wpAny (model X.prog X.w) A (call (.builtin "dict.get") [.ref a, .ref b, rr]) Q E s := by
 obtain ⟨xs, r, lo, z, dd⟩ := uu_get J hw e hk
 exact call_meetsIn PySem.F.slot_dict_get dd.typeIs PySem.F.entry_dict_get (PySem.F.args_dict_get_3 _ _ _) (meetsH_dict_get_default (tkX X) a b lo rr)
  ⟨nk_room hu, k, xs, key_is J hb, dd, h _ _ (J.tok _) (relO_get (uv_at r k) rd)⟩
theorem uu_set {Q : Unit → Shared → Prop} (hu : A.units + 16 < cLine) (J : Inv X pins σ H s) (hw : AtW X) (e : H a = some (TupO a vs)) (hk : KeysAt X.K H vs) (hb : NkAt X.K H k b) (rv : RelV v u) (hl : vs.length < sizeLine)
  (h : ∀ s', Inv X pins σ (upd H a (TupO a (putU vs k b v))) s' → Q () s') : wpAny (model X.prog X.w) A (setItem (.ref a) (.ref b) u) Q E s := by
 obtain ⟨xs, r, lo, z, dd⟩ := uu_get J hw (.inl e) hk
 have hxl : vs.length = xs.length := Paired.length r
 refine wpAny_setItem_heap (nk_room hu) (key_is J hb) dd (fun h' dd' hs => h _ ?_)
 have he : ∃ q, h'.get? a = some q := let ⟨q, _, _, hq, _⟩ := dd'; ⟨q, hq⟩
 have rm := uv_put r k b rv
 refine d_write J (by rw [e]; exact True.intro) hs he (uu_new hw rm lo ?_ dd')
 have h1 : (putU vs k b v).length = (storedH xs k b u).length := Paired.length rm
 have h2 : (putU vs k b v).length ≤ vs.length + 1 := by
  unfold putU
  split
  ·rw [List.length_map]; omega
  ·rw [List.length_append]; simp
 omega
theorem uu_sd {Q : Value → Shared → Prop} (hu : A.units + 16 < cLine) (J : Inv X pins σ H s) (hw : AtW X) (e : H a = some (TupO a vs)) (hk : KeysAt X.K H vs) (hb : NkAt X.K H k b) (rv : RelV v u) (hl : vs.length < sizeLine)
  (h1 : ∀ y w' s', valU vs k = some y → RelV y w' → Inv X pins σ H s' → Q w' s') (h2 : ∀ s', valU vs k = none → Inv X pins σ (upd H a (TupO a (vs ++ [(k, b, v)]))) s' → Q u s') : wpAny (model X.prog X.w) A (call (.builtin "dict.setdefault") [.ref a, .ref b, u]) Q E s := by
 obtain ⟨xs, r, lo, z, dd⟩ := uu_get J hw (.inl e) hk
 have rr := uv_at r k
 have hxl : vs.length = xs.length := Paired.length r
 refine call_setdefault_heap (nk_room hu) (key_is J hb) lo dd (fun p hp => ?_) (fun hn h' dd' hs => ?_)
 ·rw [hp] at rr
  cases q : valU vs k with
  | none => rw [q] at rr; exact rr.elim
  | some y => rw [q] at rr; exact h1 y _ _ q rr (J.tok _)
 ·rw [hn] at rr
  have hv : valU vs k = none := by
   cases q : valU vs k with
   | none => rfl
   | some y => rw [q] at rr; exact rr.elim
  rw [storedH_new hn] at dd'
  have he : ∃ q, h'.get? a = some q := let ⟨q, _, _, hq, _⟩ := dd'; ⟨q, hq⟩
  refine h2 _ hv (d_write J (by rw [e]; exact True.intro) hs he (uu_new hw (r.snoc ⟨rfl, rfl, rv⟩) lo ?_ dd'))
  rw [List.length_append, ← hxl]
  show vs.length + 1 ≤ sizeLine
  omega
theorem uu_frz {d : Addr} {o : Obj} (I : Inv X pins σ H s) (h : H d = some (.frz o (TupO d vs))) : (d == sysModules) = false ∧ s.heap.get? d = some o ∧ o.ExactDict ∧ ∃ (es : Array DictEntry) (ep : Nat), o.data = .dict es ep ∧ es.size = vs.length ∧
   ∀ (i : Nat) (k : NK) (b : Addr) (v : V), vs[i]? = some (k, b, v) → ∃ en : DictEntry, es[i]? = some en ∧ en.key = .ref b := by
 obtain ⟨hd, q⟩ := (show ObjOk X.prog X.w H s.heap d (.frz o (TupO d vs)) from I.hok d _ h)
 obtain ⟨lo, o', es, ep, xs, h1, h2, h3, h4, h5, h6, h7⟩ := q.1
 rw [hd] at h1
 cases h1
 refine ⟨lo, hd, h2, es, ep, h3, ?_, fun i k b v e => ?_⟩
 ·have l1 : es.size = xs.length := size_of_entries h4
  have l2 : vs.length = xs.length := Paired.length h7
  omega
 ·obtain ⟨x, hb, e1, e2, _⟩ := paired_get h7 e
  have q := entry_at h4 i
  rw [hb] at q
  exact ⟨_, q, by show Value.ref x.2.1 = _; rw [← e2]⟩
def Itku (d : Addr) (o : Obj) (vs : List (NK × Addr × V)) : L2.It :=
 ⟨fun i H => H d = some (.frz o (TupO d vs)) ∧ i < vs.length, fun i H x H' => H' = H ∧ ∃ (k : NK) (b : Addr) (v : V), vs[i]? = some (k, b, v) ∧ x = .ref b, fun i H => H d = some (.frz o (TupO d vs)) ∧ vs.length ≤ i⟩
theorem turn_keysU {P : Program} {w : World} {K : PySem.W.Frag} {tg : Expr} {d : Addr} {o : Obj} {es : Array DictEntry} {ep : Nat} (it : Addr) (hod : o.data = .dict es ep) : Turn P w K tg (Itku d o vs) [it] it (fun i h => h.IsKeyIter it d i vs.length ep) where
 mem := by simp
 obj := fun i h st b hb => by
  have e : b = it := by simpa using hb
  subst e
  obtain ⟨oi, e, c, dd⟩ := st
  exact ⟨oi, e, fun v z => by rw [dd] at z; cases z⟩
 keep := fun i h h' st k => st.at fun oi e => k it (by simp) oi e
 item := by
  intro X hP hw hK hc i pins s σ H E I hf st hg
  subst hP hw hK
  obtain ⟨hd, hi⟩ := hg
  obtain ⟨f0, f1, f2, f3, f4, f5⟩ := hf it (by simp)
  obtain ⟨hs, hgd, hx, es', ep', hdt, hsz, ent⟩ := uu_frz I hd
  obtain ⟨rfl, rfl⟩ := dict_ep hod hdt
  obtain ⟨⟨k, b, v⟩, hkv⟩ : ∃ p, vs[i]? = some p := ⟨vs[i], List.getElem?_eq_getElem hi⟩
  obtain ⟨en, hen, hkey⟩ := ent i k b v hkv
  refine next_key_item st hgd hdt hsz hen fun h' st' sb => ?_
  have I1 : Inv X pins σ H { s with heap := h' } := I.turned (t' := s.toks) (fun b ob hb e => (sb.2 b hb).trans e) f0 f1 f3 f4 f5
  obtain ⟨oi, e, c, dd⟩ := id st'
  exact ⟨en.key, rfl, go_of (s := { s with heap := h' }) e c dd (by decide) ⟨.ref b, H, I1, hkey, ⟨rfl, k, b, v, hkv, rfl⟩, st', fun b hb => (hf b hb).1⟩⟩
 done := by
  intro X hP hw hK hc i pins s σ H E I hf st hg
  subst hP hw hK
  obtain ⟨hd, hi⟩ := hg
  obtain ⟨f0, f1, f2, f3, f4, f5⟩ := hf it (by simp)
  obtain ⟨hs, hgd, hx, es', ep', hdt, hsz, ent⟩ := uu_frz I hd
  obtain ⟨rfl, rfl⟩ := dict_ep hod hdt
  exact next_key_end (I.ok.hd hc) st hgd hdt hsz hi fun h' eb => ⟨rfl, I.turned (t' := s.toks) (fun b ob hb e => eb b ob hb e) f0 f1 f3 f4 f5⟩
 self := fun A i s Q E st h => by
  refine wpAny_pyIter_slot st.typeIs PySem.F.slot_dict_keyiterator_iter (wpAny_call_entry PySem.F.slot_dict_keyiterator_iter st.typeIs PySem.F.entry_dict_keyiterator_iter ?_ (PySem.F.args_dict_keyiterator_iter_1 _))
  show wpAny _ _ (ret (.ref it)) _ _ s
  exact wpAny_pure ⟨_, rfl, "dict_keyiterator", _, st.typeIs, PySem.F.slot_dict_keyiterator_next.lookup, h⟩
def iKeysU (td : TE) : TI := fun σ H R => td σ H fun x H1 => ∃ d o vs, x = .ref d ∧ H1 d = some (.frz o (TupO d vs)) ∧ R (Itku d o vs) H1
theorem pi_keysU {tg e : Expr} {td : TE} (he : PE X e td) : PI X tg e (iKeysU td) := by
 refine ⟨fun pins s σ H R I h => ?_⟩
 refine thn (he.run pins s σ H _ I h) fun u s1 ⟨x, H1, I1, rx, d, o, vs, ex, hd, q⟩ => ?_
 subst ex
 obtain rfl : u = Value.ref d := rx
 obtain ⟨hs, hgd, hx, es, ep, hdt, hsz, ent⟩ := uu_frz I1 hd
 refine iter_keys hs hgd hx hdt (pi_one (tk := s1.toks) I1 _ (turn_keysU _ hdt) ⟨_, Heap.get?_push_size _ rfl, rfl, ?_⟩ q)
 rw [hsz] <;> rfl
theorem uu_update {Q : Value → Shared → Prop} (hu : A.units + 16 < cLine) (J : Inv X pins σ H s) (hw : AtW X) (e : H a = some (TupO a vs)) (e2 : H b = some (TupO b ws)) (hab : a ≠ b) (hk : KeysAt X.K H vs) (hk2 : KeysAt X.K H ws) (hne : vs ≠ []) (hl : vs.length + ws.length ≤ sizeLine)
  (h : ∀ s', Inv X pins σ (upd H a (TupO a (mergeU vs ws))) s' → Q .none s') : wpAny (model X.prog X.w) A (call (.builtin "dict.update") [.ref a, .ref b]) Q E s := by
 obtain ⟨xs, r, lo, z, dd⟩ := uu_get J hw (.inl e) hk
 obtain ⟨ys, r2, lo2, z2, dd2⟩ := uu_get J hw (.inl e2) hk2
 have hxl := uv_len r
 have hyl := uv_len r2
 refine call_update_dictH (nk_room hu) hab lo2 dd dd2 (.inl fun c => hne ?_) (by omega) fun h' dd' _ hs => h _ ?_
 ·subst c
  cases r
  rfl
 ·have he : ∃ q, h'.get? a = some q := let ⟨q, _, _, hq, _⟩ := dd'; ⟨q, hq⟩
  have rm := uv_merge r2 r
  refine d_write J (by rw [e]; exact True.intro) hs he (uu_new hw rm lo ?_ dd')
  rw [← uv_len rm]
  have := mergeU_len ws vs
  omega
theorem uu_update0 {Q : Value → Shared → Prop} (hu : A.units + 16 < cLine) (J : Inv X pins σ H s) (hw : AtW X) (e : H a = some (TupO a vs)) (e2 : H b = some (.dK [])) (hab : a ≠ b) (hk : KeysAt X.K H vs) (hne : vs ≠ [])
  (h : ∀ s', Inv X pins σ H s' → Q .none s') : wpAny (model X.prog X.w) A (call (.builtin "dict.update") [.ref a, .ref b]) Q E s := by
 obtain ⟨xs, r, lo, z, dd⟩ := uu_get J hw (.inl e) hk
 obtain ⟨z2, lo2, ys, r2, d2⟩ := dk_of J.hok e2
 cases r2
 obtain ⟨o2, es2, ep2, g1, g2, g3, _, g5, _⟩ := d2
 have g4 : es2.toList = List.map (entryOfKey (tkX X)) [] := by
  cases q : es2.toList with
  | nil => rfl
  | cons x y => rw [q] at g5; cases g5
 have dd2 : s.heap.DictOfH (tkX X) b [] := ⟨o2, es2, ep2, g1, g2, g3, g4, (fun _ h => by cases h), .nil⟩
 have hxl := uv_len r
 refine call_update_dictH (nk_room hu) hab lo2 dd dd2 (.inl fun c => hne ?_) (by rw [List.length_nil]; omega) fun h' dd' _ hs => h _ ?_
 ·subst c
  cases r
  rfl
 ·have he : ∃ q, h'.get? a = some q := let ⟨q, _, _, hq, _⟩ := dd'; ⟨q, hq⟩
  have he2 : upd H a (TupO a vs) = H := by
   funext b
   by_cases q : b = a
   ·subst q; rw [upd_same, e]
   ·rw [upd_ne q]
  have k := d_write (t' := s.toks) J (by rw [e]; exact True.intro) hs he (uu_new (vs := vs) hw r lo z dd')
  rw [he2] at k
  exact k.tok _
theorem dk_update {kvs more : List (Key × V)} {Q : Value → Shared → Prop} (J : Inv X pins σ H s) (e : H a = some (.dK kvs)) (e2 : H b = some (.dK more)) (hab : a ≠ b) (hl : kvs.length + more.length ≤ sizeLine)
  (h : ∀ s', Inv X pins σ (upd H a (.dK (mergeK kvs more))) s' → Q .none s') : wpAny (model X.prog X.w) A (call (.builtin "dict.update") [.ref a, .ref b]) Q E s := by
 obtain ⟨z, lo, xs, r, dd⟩ := dk_of J.hok e
 obtain ⟨z2, lo2, ys, r2, dd2⟩ := dk_of J.hok e2
 have hxl : kvs.length = xs.length := Paired.length r
 have hyl : more.length = ys.length := Paired.length r2
 refine call_meetsIn PySem.F.slot_dict_update dd.typeIs PySem.F.entry_dict_update (PySem.F.args_dict_update_2 _ _) (meets_dict_update (mixKind X.prog X.w) a b hab lo2) ⟨xs, ys, dd, dd2, by omega, fun h' dd' _ hs => h _ ?_⟩
 have he : ∃ q, h'.get? a = some q := let ⟨q, _, _, hq, _⟩ := dd'; ⟨q, hq⟩
 refine d_write J (by rw [e]; exact True.intro) hs he (dk_new ?_ lo (KV.merge r2 r) dd')
 have := length_mergeK more kvs
 omega
end
section
variable {prog : Program} {w : World} {K : Type} [DecidableEq K] {knd : HeapKind prog w K} {A : Around} {E : Value → Shared → Prop} {s : Shared} {env : PySem.Env}
omit [WW] in
theorem dict_walkH {keys : List (Option Expr)} {values : List Expr} {pos : Pos} {Q : Value → Shared → Prop} (hu : knd.room A)
  (hall : keys.all (·.isSome) = true) (hl : keys.length = values.length) (h0 : keys ≠ []) (hlen : keys.length ≤ 15)
  (h : wpAny (model prog w) A (evalPairs (pairTrees keys values env pos)) (fun vs s₁ => ∃ ps, CarriesH knd s₁.heap vs ps ∧ s₁.heap.DictOfH knd s.heap.objs.size [] ∧
   ∀ h' tk, h'.DictOfH knd s.heap.objs.size (storedAllH [] ps) → Heap.SameBut s.heap.objs.size s₁.heap h' → Q (.ref s.heap.objs.size) { s₁ with heap := h', toks := tk }) E
   { s with heap := s.heap.push { cls := .type "dict", data := .dict #[] } }) :
  wpAny (model prog w) A (eval (.Dict keys values pos) env) Q E s := by
 have hn := pairTrees_length keys values env pos hall hl
 have hne : pairTrees keys values env pos ≠ [] := fun he => by
  rw [he] at hn
  exact h0 (List.length_eq_zero_iff.mp hn.symm)
 rw [arm_eval_Dict, zip_pairTrees keys values env pos hall hl, dictDisplay_pairs _ hne (by omega)]
 exact wpAny_bind (wpAny_standAt (wpAny_bind (wpAny_subDictH (knd := knd) (Q := fun d s' => wpAny (model prog w) A (pure (Value.ref d)) Q E s') hu (by rw [hn]; exact hlen)
  (wpAny_mono h (fun vs s₁ h₁ => by obtain ⟨ps, hc, hm, hq⟩ := h₁; exact ⟨ps, hc, hm, fun h' tk a b => wpAny_pure (hq h' tk a b)⟩) fun _ _ e => e))))
end
def tDispU (K : PySem.W.Frag) (tk tv : TE) : TE := fun σ H Q => ∀ p, H p = none → tk σ (upd H p (TupO p [])) fun x H1 => tv σ H1 fun y H2 => H2 p = some (TupO p []) ∧ ∃ (k : NK) (b : Addr), x = .ref b ∧ NkAt K H2 k b ∧ Q (.ref p) (upd H2 p (TupO p [(k, b, y)]))
theorem pe_dispU {X : Cx} {pos : Pos} {ke ve : Expr} {tk tv : TE} (hu : X.A.units + 16 < cLine) (hw : AtW X) (hk : PE X ke tk) (hv : PE X ve tv) : PE X (.Dict [some ke] [ve] pos) (tDispU X.K tk tv) := by
 refine ⟨fun pins s σ H Q I q => ?_⟩
 have hn := I.hok.fresh (Nat.le_refl s.heap.objs.size)
 have lo : (s.heap.objs.size == sysModules) = false := beq_eq_false_iff_ne.mpr (Nat.ne_of_gt I.big)
 have I1 := I.laid (a := s.heap.objs.size) (o := TupO s.heap.objs.size []) (h' := s.heap.push { cls := .type "dict", data := .dict #[] }) (t' := s.toks) (fun _ _ q => Heap.get?_push_of_some _ q) (Nat.le_refl _) (uu_new hw .nil lo (by rw [sizeLine_eq]; exact Nat.zero_le _) (Heap.DictOfH.new s.heap))
 have hp := pps_cons (pos := pos) hk hv pps_nil
 let Q1 : List (V × V) → Hp → Prop := fun ps H2 => match ps with
  | [(x, y)] => H2 s.heap.objs.size = some (TupO s.heap.objs.size []) ∧ ∃ (k : NK) (b : Addr), x = .ref b ∧ NkAt X.K H2 k b ∧ Q (.ref s.heap.objs.size) (upd H2 s.heap.objs.size (TupO s.heap.objs.size [(k, b, y)]))
  | _ => False
 refine dict_walkH (knd := tkX X) (nk_room0 hu) rfl rfl (by simp) (by simp) (thn (hp.run pins _ σ _ Q1 I1 (q _ hn)) fun ws s2 ⟨ps, H2, I2, rel, q2⟩ => ?_)
 match ps, rel, q2 with
 | [(x, y)], rel, ⟨e, k, b, ex, hb, q2⟩ =>
  subst ex
  cases rel with
  | @cons _ c _ bs h1 t1 =>
   cases t1
   obtain ⟨c1, c2⟩ := c
   obtain rfl : c1 = Value.ref b := h1.1
   obtain ⟨xs, r0, _, _, dd⟩ := uu_get I2 hw (.inl e) (fun _ h => by cases h)
   cases r0
   refine ⟨[(k, b, c2)], ⟨rfl, rfl, key_is I2 hb, True.intro⟩, dd, fun h' tk dd' hs => ⟨.ref s.heap.objs.size, _, ?_, rfl, q2⟩⟩
   have he : ∃ q, h'.get? s.heap.objs.size = some q := let ⟨q, _, _, hq, _⟩ := dd'; ⟨q, hq⟩
   exact d_write I2 (by rw [e]; exact True.intro) hs he (uu_new hw (xs := [(k, b, c2)]) (.cons ⟨rfl, rfl, h1.2⟩ .nil) lo (by rw [sizeLine_eq]; simp) dd')
section
variable {X : Cx}
theorem pairsU_of {pins : List (Addr × Obj)} {σ : L2.St} {H : Hp} {s : Shared} (I : Inv X pins σ H s) : ∀ {ps : List Addr} {vs : List (NK × Addr × V)}, Paired (fun (p : Addr) (x : NK × Addr × V) => SqT X.K H p [.ref x.2.1, x.2.2]) ps vs →
  ∃ xs : List (NK × Addr × Value), UV vs xs ∧ xs.length = ps.length ∧ ∀ (j : Nat) (x : NK × Addr × Value), xs[j]? = some x → ∃ p, ps[j]? = some p ∧ s.heap.IsTuple p #[.ref x.2.1, x.2.2]
 | _, _, .nil => ⟨[], .nil, rfl, fun j q e => by simp at e⟩
 | _, _, .cons (a := p) (b := x) h t => by
  obtain ⟨xs, r, hl, hp⟩ := pairsU_of I t
  obtain ⟨its, rv, ht, _⟩ := I.tuple h
  obtain ⟨u, y, ei, ru, ry⟩ := vals2 rv
  subst ei
  obtain rfl : u = Value.ref x.2.1 := ru
  refine ⟨(x.1, x.2.1, y) :: xs, .cons ⟨rfl, rfl, ry⟩ r, by rw [List.length_cons, List.length_cons, hl], fun j q e => ?_⟩
  cases j with
  | zero =>
   have e' : (x.1, x.2.1, y) = q := Option.some.inj e
   subst e'
   exact ⟨p, rfl, ht⟩
  | succ j =>
   obtain ⟨b, e1, e2⟩ := hp j q (by simpa using e)
   exact ⟨b, by simpa using e1, e2⟩
def rDictU (K : PySem.W.Frag) : List V → Hp → VK → Prop := fun xs H Q => ∃ (a : Addr) (ps : List Addr) (vs : List (NK × Addr × V)), xs = [.ref a] ∧ SqL K H a (ps.map V.ref) ∧ Paired (fun (p : Addr) (x : NK × Addr × V) => SqT K H p [.ref x.2.1, x.2.2]) ps vs ∧ KeysAt K H vs ∧
  ∀ p, H p = none → Q (.ref p) (upd H p (TupO p (mergeU [] vs)))
theorem call_dictU (hcalm : X.calm = true) (hu : X.A.units + 16 < cLine) (hw : AtW X) : CallR X (.type "dict") (rDictU X.K) := by
 intro pins s σ H xs us Q I r q
 obtain ⟨a, ps, vs, ex, hq, hp, hk, q⟩ := q
 subst ex
 obtain ⟨u, eu, rx⟩ := vals1 r
 subst eu
 cases rx
 obtain ⟨its, rv, pl, hz⟩ := I.list hq
 have ei := refs_at rv
 subst ei
 rw [List.length_map] at hz
 obtain ⟨xs, rel, hl, hpr⟩ := pairsU_of I hp
 obtain ⟨o, n, ho, hc, hd, hdat⟩ := pl
 have lo : (s.heap.objs.size == sysModules) = false := beq_eq_false_iff_ne.mpr (Nat.ne_of_gt I.big)
 have hkx : ∀ x ∈ xs, (tkX X).is s.heap x.1 x.2.1 := fun x hx => by
  obtain ⟨p, hp, e1, e2⟩ := uv_mem rel x hx
  have := key_is I (hk p hp)
  rw [e1, e2] at this
  exact this
 refine call_dict_pairsH (knd := tkX X) (ps := xs) (PairArg.list a ((ps.map Value.ref).toArray) (fun j => ps.getD j 0) (xs.map fun x => (Value.ref x.2.1, x.2.2))) (I.ok.hd hcalm) (nk_room2 hu) ⟨⟨o, n, ho, hc, hd, hdat⟩, ⟨by simp [hl], fun j k v hj => ?_⟩⟩ ⟨by rw [List.length_map], fun i key v hr => ?_⟩ (fun h' hk2 x hx => ?_) (by rw [List.length_map, hl]; exact hz) fun h' tk dd' k => ?_
 ·rw [List.getElem?_map] at hj
  obtain ⟨x, hx, e⟩ := Option.map_eq_some_iff.mp hj
  obtain ⟨p, h1, h2⟩ := hpr j x hx
  simp only [Prod.mk.injEq] at e
  obtain ⟨e1, e2⟩ := e
  subst e1 e2
  have hg : ps.getD j 0 = p := by rw [List.getD_eq_getElem?_getD, h1]; rfl
  exact ⟨by simp [h1], .inl (by show s.heap.IsTuple (ps.getD j 0) _; rw [hg]; exact h2)⟩
 ·have hr : (xs.map fun x => (Value.ref x.2.1, x.2.2))[i]? = some (key, v) := hr
  rw [List.getElem?_map] at hr
  obtain ⟨x, hx, e⟩ := Option.map_eq_some_iff.mp hr
  simp only [Prod.mk.injEq] at e
  obtain ⟨e1, e2⟩ := e
  subst e1 e2
  exact ⟨x.1, x.2.1, hx, rfl⟩
 ·have h1 := hkx x hx
  exact nestedKind_stays.stays (fun b o _ _ e _ => hk2 b o (Nat.ne_of_lt (Heap.lt_size e)) (fun z => nomatch z) e) h1
 ·have rm := uv_merge rel (.nil : UV [] [])
  refine ⟨.ref s.heap.objs.size, upd H s.heap.objs.size (TupO s.heap.objs.size (mergeU [] vs)), I.laid (t' := tk) (fun b o e => k b o (fun z => nomatch z) e) (Nat.le_refl _) (uu_new hw rm lo ?_ dd'), rfl, q _ (I.hok.fresh (Nat.le_refl _))⟩
  rw [← uv_len rm]
  have h1 := mergeU_len vs []
  rw [List.length_nil, Nat.zero_add] at h1
  have h2 := uv_len rel
  omega
def rSortU (K : PySem.W.Frag) : List V → Hp → VK → Prop := fun xs H Q => ∃ (a : Addr) (vs : List (NK × Addr × V)) (ks : List (List Str)), xs = [.ref a] ∧ H a = some (TupO a vs) ∧ KeysAt K H vs ∧ Paired (TupS K H) (vs.map fun x => V.ref x.2.1) ks ∧
  ∀ ys p, (ys.zip (TT.sortT ks)).Perm ((vs.map fun x => V.ref x.2.1).zip ks) → ys.length = ks.length → H p = none → Q (.ref p) (upd H p (.lst ys))
theorem cr_sortU (hcalm : X.calm = true) (hw : AtW X) : CallR X (.builtin "sorted") (rSortU X.K) := by
 intro pins s σ H xs us Q I r q
 obtain ⟨a, vs, ks, ex, hd, hk, hx, q⟩ := q
 subst ex
 obtain ⟨u, eu, rx⟩ := vals1 r
 subst eu
 cases rx
 obtain ⟨xs, rel, lo, z, dd⟩ := uu_get I hw (.inl hd) hk
 obtain ⟨o, es, ep, ho, hc, hdat, hes, _, _⟩ := id dd
 have hsz : es.size = xs.length := size_of_entries hes
 have hxl := uv_len rel
 have hkl : vs.length = ks.length := by
  have := Paired.length hx
  rw [List.length_map] at this
  exact this
 have hvals : Vals (vs.map fun x => V.ref x.2.1) (xs.map fun x => Value.ref x.2.1) := by
  clear hes hxl hk hx hd hsz dd z q hkl
  rename_i c1 c2
  clear c1 c2
  induction rel with
  | nil => exact .nil
  | cons h t ih =>
   rw [List.map_cons, List.map_cons, h.2.1]
   exact .cons rfl ih
 refine Calls.call_function_entry PyProof.Rows.kind_sorted PyProof.Rows.plain_sorted PyProof.Rows.entry_sorted (PyProof.Rows.args_sorted1 _) ?_
 unfold Builtin.«sorted»
 refine wpAny_bind (m := checkCount "sorted" 1 1 _) (wpAny_pure ?_)
 refine wpAny_bind (PySem.W.kdu_collect (A := X.A.in1) (KdlSrc.rawDict (es := es) (ep := ep) lo) (I.ok.hd hcalm) ⟨o, ho, hc, hdat⟩ (by omega) fun h' tk acc hkp hacc => ?_)
 have hav : acc.toList = xs.map fun x => Value.ref x.2.1 := by
  refine List.ext_getElem? fun j => ?_
  by_cases hj : j < xs.length
  ·have hj2 : j < acc.toList.length := by rw [Array.length_toList, hacc.1, hsz]; exact hj
   rw [List.getElem?_eq_getElem hj2]
   obtain ⟨hi, e1⟩ := hacc.2 j acc.toList[j] (by rw [← Array.getElem?_toList]; exact List.getElem?_eq_getElem hj2)
   rw [e1, List.getElem?_map, List.getElem?_eq_getElem hj]
   have e2 : es[j] = es.toList[j]'(by rw [Array.length_toList]; exact hi) := (Array.getElem_toList _).symm
   rw [e2]
   simp only [hes, List.getElem_map]
   rfl
  ·rw [List.getElem?_eq_none (by rw [Array.length_toList, hacc.1, hsz]; omega), List.getElem?_eq_none (by rw [List.length_map]; omega)]
 rw [← hav] at hvals
 have hal : acc.toList.length ≤ sizeLine := by rw [Array.length_toList, hacc.1, hsz]; exact z
 have I1 : Inv X pins σ H { s with heap := h', toks := tk } := I.kept hkp
 obtain ⟨k1, k2, k3⟩ := tup_keys I1 hx hvals
 refine wpAny_bind (wpAny_newList ?_ hal)
 have hoL : (h'.push (seqObj "list" acc.toList.toArray 0)).get? h'.objs.size = some (seqObj "list" acc.toList.toArray 0) := Heap.get?_push_size _ rfl
 show wpAny _ _ _ _ _ { s with heap := h'.push (seqObj "list" acc.toList.toArray 0), toks := tk }
 refine wpAny_bind (wpAny_holding (wpAny_call_entry PyProof.Rows.slot_list_sort ⟨_, hoL, rfl⟩ PyProof.Rows.entry_list_sort
  (SrtO.list_sort_ord (s := { s with heap := h'.push (seqObj "list" acc.toList.toArray 0), toks := tk }) (TT.swo_map (TT.keyOf h')) hoL hal (fun h2 => TT.tt_sortableO (s := { s with heap := h'.push (seqObj "list" acc.toList.toArray 0), toks := tk }) (k := TT.keyOf h') (by omega) (fun v hm => (k3 v hm).1.keeps fun b o e _ => Heap.get?_push_of_some _ e) fun o e => ?_) fun out h1 h2 => ⟨_, rfl, ?_⟩)
  (PyProof.Rows.args_list_sort _)))
 ·have e' : some o = some (seqObj "list" acc.toList.toArray 0) := e.symm.trans hoL
  cases e'
  intro c
  exact absurd (Value.type.inj c) (by decide)
 ·obtain ⟨hp, hlen⟩ := sort_pairs k1 k2 h1 h2.perm
  have h3 : ∀ u ∈ out, ∃ a, u = Value.ref a := fun u hu => (k3 u (h2.perm.mem_iff.mp hu)).2
  obtain ⟨e', he'⟩ := PyProof.Rows.sortedHeap_at (vs := acc.toList) (out := out.toArray) hoL
  refine wpAny_pure ⟨_, rfl, .ref h'.objs.size, upd H h'.objs.size (.lst (out.map backV)), I1.laid (t' := tk) (fun b u e => ?_) (Nat.le_refl _)
   (show ObjOk X.prog X.w _ _ _ (.lst (out.map backV)) from ⟨?_, out, e', vals_back h3, he'⟩), rfl, q _ _ hp hlen (I1.hok.fresh (Nat.le_refl _))⟩
  ·have hb : b < h'.objs.size := Heap.lt_size e
   rw [PyProof.Rows.sortedHeap_old (Nat.ne_of_lt hb) (by rw [size_push']; exact Nat.lt_succ_of_lt hb)]
   exact Heap.get?_push_of_some _ e
  ·rw [hlen, ← hkl, hxl]; exact z
end
end Mn
end
section
set_option maxHeartbeats 200000
namespace Mn
open PySem L2 PySem.Spec PyProof.Rows
variable [WW]
section
variable {X : Cx}
theorem uv_keys {vs : List (NK × Addr × V)} {xs : List (NK × Addr × Value)} (rel : UV vs xs) : Vals (vs.map fun x => V.ref x.2.1) (xs.map fun x => Value.ref x.2.1) := by
 induction rel with
 | nil => exact .nil
 | cons h t ih =>
  rw [List.map_cons, List.map_cons, h.2.1]
  exact .cons rfl ih
def rListU (K : PySem.W.Frag) : List V → Hp → VK → Prop := fun xs H Q => ∃ (a : Addr) (vs : List (NK × Addr × V)), xs = [.ref a] ∧ Rd H a (TupO a vs) ∧ KeysAt K H vs ∧ ∀ q, H q = none → Q (.ref q) (upd H q (.lst (vs.map fun x => V.ref x.2.1)))
theorem call_listU (hc : X.calm = true) (hw : AtW X) : CallR X (.type "list") (rListU X.K) := by
 intro pins s σ H xs us Q I r h
 obtain ⟨p, vs, e, hk, hka, q⟩ := h
 subst e
 obtain ⟨u, eu, rx⟩ := vals1 r
 subst eu
 obtain rfl : u = Value.ref p := rx
 obtain ⟨xs, rel, lo, z, dd⟩ := uu_get I hw hk hka
 obtain ⟨o, es, ep, ho, hcl, hdat, hes, _, _⟩ := id dd
 have hsz : es.size = xs.length := size_of_entries hes
 have hxl := uv_len rel
 refine PySem.W.kdl_call (PySem.KdlSrc.rawDict (es := es) (ep := ep) lo) (I.ok.hd hc) ⟨o, ho, hcl, hdat⟩ (by omega) fun h' tk acc' c' hkeep hS hacc => ?_
 have hav : acc'.toList = xs.map fun x => Value.ref x.2.1 := by
  refine List.ext_getElem? fun j => ?_
  by_cases hj : j < xs.length
  ·have hj2 : j < acc'.toList.length := by rw [Array.length_toList, hacc.1, hsz]; exact hj
   rw [List.getElem?_eq_getElem hj2]
   obtain ⟨hi, e1⟩ := hacc.2 j acc'.toList[j] (by rw [← Array.getElem?_toList]; exact List.getElem?_eq_getElem hj2)
   rw [e1, List.getElem?_map, List.getElem?_eq_getElem hj]
   have e2 : es[j] = es.toList[j]'(by rw [Array.length_toList]; exact hi) := (Array.getElem_toList _).symm
   rw [e2]
   simp only [hes, List.getElem_map]
   rfl
  ·rw [List.getElem?_eq_none (by rw [Array.length_toList, hacc.1, hsz]; omega), List.getElem?_eq_none (by rw [List.length_map]; omega)]
 refine ⟨.ref s.heap.objs.size, upd H s.heap.objs.size (.lst (vs.map fun x => V.ref x.2.1)), I.laid hkeep (Nat.le_refl _) (show ObjOk X.prog X.w _ _ _ (.lst (vs.map fun x => V.ref x.2.1)) from ⟨?_, acc'.toList, c', ?_, ?_⟩), rfl, q _ (I.hok.fresh (Nat.le_refl _))⟩
 ·rw [List.length_map, hxl]; exact z
 ·rw [hav]; exact uv_keys rel
 ·rw [Array.toArray_toList]; exact hS
theorem tupD_get {pins : List (Addr × Obj)} {σ : L2.St} {H : Hp} {s : Shared} {a : Addr} {vs : List V} (I : Inv X pins σ H s) (h : TupD X.K H a vs) : ∃ (its : List Value) (o : Obj) (n : Nat), Vals vs its ∧ its.length ≤ sizeLine ∧ s.heap.get? a = some o ∧ o.cls = .type "tuple" ∧ o.dict = none ∧ o.data = .seq its.toArray n := by
 rcases h with ⟨o, h, hd⟩ | ⟨o, its, n, h1, h2, h3, h4, h5, h6⟩
 ·obtain ⟨e1, z, its, r, ob, e2, hc, n, hdat⟩ := (show ObjOk X.prog X.w H s.heap a (.frz o (.tup vs)) from I.hok a _ h)
  rw [e1] at e2
  cases e2
  exact ⟨its, o, n, r, by rw [← r.length]; exact z, e1, hc, hd, hdat⟩
 ·exact ⟨its.toList, o, n, h6, by simpa using h5, I.kIn _ _ h1, h2, h3, by rw [Array.toArray_toList]; exact h4⟩
def rDictPT (K : PySem.W.Frag) : List V → Hp → VK → Prop := fun xs H Q => ∃ (a : Addr) (ps : List Addr) (kvs : List (Key × V)), xs = [.ref a] ∧ TupD K H a (ps.map V.ref) ∧ Paired (fun p kv => SqT K H p [kV kv.1, kv.2]) ps kvs ∧
  ∀ p, H p = none → Q (.ref p) (upd H p (.dK (mergeK [] kvs)))
theorem call_dictPT (hcalm : X.calm = true) : CallR X (.type "dict") (rDictPT X.K) := by
 intro pins s σ H xs us Q I r q
 obtain ⟨a, ps, kvs, ex, hq, hp, q⟩ := q
 subst ex
 obtain ⟨u, eu, rx⟩ := vals1 r
 subst eu
 cases rx
 obtain ⟨its, o, n, rv, hz, ho, hc, hd, hdat⟩ := tupD_get I hq
 have ei := refs_at rv
 subst ei
 rw [List.length_map] at hz
 obtain ⟨prs, rel, hl, hpr⟩ := pairs_of I hp
 have hkl := rel.length
 have pick : ∀ (j : Nat) (q : Key × Value), prs[j]? = some q → ∃ p u, ps[j]? = some p ∧ s.heap.IsTuple p #[u, q.2] ∧ keyIs q.1 u = true := fun j q hj => by
  obtain ⟨b, u, e1, e2, e3⟩ := hpr j q hj
  exact ⟨b, u, e1, e2, e3⟩
 have hvals : ∃ zs : List (Value × Value), zs.length = prs.length ∧ ∀ (j : Nat) (k v : Value), zs[j]? = some (k, v) → ∃ p q, ps[j]? = some p ∧ prs[j]? = some q ∧ q.2 = v ∧ s.heap.IsTuple p #[k, v] ∧ keyIs q.1 k = true := by
  clear rel hkl hpr hp hq rv hz ho hdat q hd hc
  clear r
  induction prs generalizing ps with
  | nil => exact ⟨[], rfl, fun j k v h => by simp at h⟩
  | cons q qs ih =>
   obtain ⟨p0, u0, h1, h2, h3⟩ := pick 0 q rfl
   cases ps with
   | nil => simp at h1
   | cons p ps =>
    simp at h1
    subst h1
    obtain ⟨zs, g1, g2⟩ := ih (ps := ps) (by simpa using hl) (fun j q hj => by
     obtain ⟨p, u, a1, a2, a3⟩ := pick (j + 1) q (by simpa using hj)
     exact ⟨p, u, by simpa using a1, a2, a3⟩)
    refine ⟨(u0, q.2) :: zs, by rw [List.length_cons, List.length_cons, g1], fun j k v h => ?_⟩
    cases j with
    | zero =>
     simp at h
     obtain ⟨rfl, rfl⟩ := h
     exact ⟨p, q, rfl, rfl, rfl, h2, h3⟩
    | succ j =>
     obtain ⟨p', q', a1, a2, a3⟩ := g2 j k v (by simpa using h)
     exact ⟨p', q', by simpa using a1, by simpa using a2, a3⟩
 obtain ⟨zs, hzl, hzz⟩ := hvals
 have hm : (s.heap.objs.size == sysModules) = false := beq_eq_false_iff_ne.mpr (Nat.ne_of_gt I.big)
 refine PySem.call_dict_pairs (knd := mixKind X.prog X.w) (kvs := prs) (PairArg.tuple a ((ps.map Value.ref).toArray) (fun j => ps.getD j 0) zs) (I.ok.hd hcalm) ⟨⟨o, n, ho, hc, hd, hdat⟩, ⟨by simp [hzl, hl], fun j k v hj => ?_⟩⟩ ⟨hzl.symm, fun i key v hr => ?_⟩ (by rw [hzl, hl]; exact hz) fun h' tk dd' k => ?_
 ·obtain ⟨p, q, h1, h2, h3, h4, h5⟩ := hzz j k v hj
  have hg : ps.getD j 0 = p := by rw [List.getD_eq_getElem?_getD, h1]; rfl
  exact ⟨by simp [h1], .inl (by show s.heap.IsTuple (ps.getD j 0) _; rw [hg]; exact h4)⟩
 ·obtain ⟨p, q, h1, h2, h3, h4, h5⟩ := hzz i key v hr
  obtain ⟨qk, qv⟩ := q
  simp only at h3
  subst h3
  exact ⟨qk, h2, h5⟩
 ·have hlen : (mergeK [] kvs).length ≤ sizeLine := by
   refine Nat.le_trans (length_mergeK kvs []) ?_
   rw [List.length_nil, Nat.zero_add, rel.length, hl]
   exact hz
  exact ⟨.ref s.heap.objs.size, upd H s.heap.objs.size (.dK (mergeK [] kvs)), I.laid (t' := tk) (fun b o e => k b o (fun z => nomatch z) e) (Nat.le_refl _) (show ObjOk X.prog X.w _ _ _ (.dK (mergeK [] kvs)) from ⟨hlen, hm, merged [] prs, KV.merge rel .nil, dd'⟩), rfl, q _ (I.hok.fresh (Nat.le_refl _))⟩
def rDictUT (K : PySem.W.Frag) : List V → Hp → VK → Prop := fun xs H Q => ∃ (a : Addr) (ps : List Addr) (vs : List (NK × Addr × V)), xs = [.ref a] ∧ TupD K H a (ps.map V.ref) ∧ Paired (fun (p : Addr) (x : NK × Addr × V) => SqT K H p [.ref x.2.1, x.2.2]) ps vs ∧ KeysAt K H vs ∧
  ∀ p, H p = none → Q (.ref p) (upd H p (TupO p (mergeU [] vs)))
theorem call_dictUT (hcalm : X.calm = true) (hu : X.A.units + 16 < cLine) (hw : AtW X) : CallR X (.type "dict") (rDictUT X.K) := by
 intro pins s σ H xs us Q I r q
 obtain ⟨a, ps, vs, ex, hq, hp, hk, q⟩ := q
 subst ex
 obtain ⟨u, eu, rx⟩ := vals1 r
 subst eu
 cases rx
 obtain ⟨its, o, n, rv, hz, ho, hc, hd, hdat⟩ := tupD_get I hq
 have ei := refs_at rv
 subst ei
 rw [List.length_map] at hz
 obtain ⟨xs, rel, hl, hpr⟩ := pairsU_of I hp
 have lo : (s.heap.objs.size == sysModules) = false := beq_eq_false_iff_ne.mpr (Nat.ne_of_gt I.big)
 have hkx : ∀ x ∈ xs, (tkX X).is s.heap x.1 x.2.1 := fun x hx => by
  obtain ⟨p, hp, e1, e2⟩ := uv_mem rel x hx
  have := key_is I (hk p hp)
  rw [e1, e2] at this
  exact this
 refine call_dict_pairsH (knd := tkX X) (ps := xs) (PairArg.tuple a ((ps.map Value.ref).toArray) (fun j => ps.getD j 0) (xs.map fun x => (Value.ref x.2.1, x.2.2))) (I.ok.hd hcalm) (nk_room2 hu) ⟨⟨o, n, ho, hc, hd, hdat⟩, ⟨by simp [hl], fun j k v hj => ?_⟩⟩ ⟨by rw [List.length_map], fun i key v hr => ?_⟩ (fun h' hk2 x hx => ?_) (by rw [List.length_map, hl]; exact hz) fun h' tk dd' k => ?_
 ·rw [List.getElem?_map] at hj
  obtain ⟨x, hx, e⟩ := Option.map_eq_some_iff.mp hj
  obtain ⟨p, h1, h2⟩ := hpr j x hx
  simp only [Prod.mk.injEq] at e
  obtain ⟨e1, e2⟩ := e
  subst e1 e2
  have hg : ps.getD j 0 = p := by rw [List.getD_eq_getElem?_getD, h1]; rfl
  exact ⟨by simp [h1], .inl (by show s.heap.IsTuple (ps.getD j 0) _; rw [hg]; exact h2)⟩
 ·have hr : (xs.map fun x => (Value.ref x.2.1, x.2.2))[i]? = some (key, v) := hr
  rw [List.getElem?_map] at hr
  obtain ⟨x, hx, e⟩ := Option.map_eq_some_iff.mp hr
  simp only [Prod.mk.injEq] at e
  obtain ⟨e1, e2⟩ := e
  subst e1 e2
  exact ⟨x.1, x.2.1, hx, rfl⟩
 ·have h1 := hkx x hx
  exact nestedKind_stays.stays (fun b o _ _ e _ => hk2 b o (Nat.ne_of_lt (Heap.lt_size e)) (fun z => nomatch z) e) h1
 ·have rm := uv_merge rel (.nil : UV [] [])
  refine ⟨.ref s.heap.objs.size, upd H s.heap.objs.size (TupO s.heap.objs.size (mergeU [] vs)), I.laid (t' := tk) (fun b o e => k b o (fun z => nomatch z) e) (Nat.le_refl _) (uu_new hw rm lo ?_ dd'), rfl, q _ (I.hok.fresh (Nat.le_refl _))⟩
  rw [← uv_len rm]
  have h1 := mergeU_len vs []
  rw [List.length_nil, Nat.zero_add] at h1
  have h2 := uv_len rel
  omega
theorem dk_updateL {pins : List (Addr × Obj)} {σ : L2.St} {H : Hp} {s : Shared} {a l : Addr} {A : Around} {E : Value → Shared → Prop} {kvs more : List (Key × V)} {ps : List Addr} {Q : Value → Shared → Prop} (hA : A.handled = none) (I : Inv X pins σ H s) (e : H a = some (.dK kvs)) (hq : SqL X.K H l (ps.map V.ref)) (hp : Paired (fun p kv => SqT X.K H p [kV kv.1, kv.2]) ps more) (hl2 : kvs.length + more.length ≤ sizeLine)
  (hne : H l = some (.lst (ps.map V.ref))) (h : ∀ s', Inv X pins σ (upd H a (.dK (mergeK kvs more))) s' → Q .none s') : wpAny (model X.prog X.w) A (call (.builtin "dict.update") [.ref a, .ref l]) Q E s := by
 obtain ⟨its, rv, pl, hz⟩ := I.list hq
 have ei := refs_at rv
 subst ei
 rw [List.length_map] at hz
 obtain ⟨prs, rel, hl, hpr⟩ := pairs_of I hp
 obtain ⟨o, n, ho, hc, hd, hdat⟩ := pl
 have hvals : ∃ zs : List (Value × Value), zs.length = prs.length ∧ ∀ (j : Nat) (k v : Value), zs[j]? = some (k, v) → ∃ p q, ps[j]? = some p ∧ prs[j]? = some q ∧ q.2 = v ∧ s.heap.IsTuple p #[k, v] ∧ keyIs q.1 k = true := by
  have pick : ∀ (j : Nat) (q : Key × Value), prs[j]? = some q → ∃ p u, ps[j]? = some p ∧ s.heap.IsTuple p #[u, q.2] ∧ keyIs q.1 u = true := fun j q hj => by
   obtain ⟨b, u, e1, e2, e3⟩ := hpr j q hj
   exact ⟨b, u, e1, e2, e3⟩
  clear rel hpr hp hq rv hz ho hdat h hd hc hne
  induction prs generalizing ps with
  | nil => exact ⟨[], rfl, fun j k v h => by simp at h⟩
  | cons q qs ih =>
   obtain ⟨p0, u0, h1, h2, h3⟩ := pick 0 q rfl
   cases ps with
   | nil => simp at h1
   | cons p ps =>
    simp at h1
    subst h1
    obtain ⟨zs, g1, g2⟩ := ih (ps := ps) (by simpa using hl) (fun j q hj => by
     obtain ⟨p, u, a1, a2, a3⟩ := pick (j + 1) q (by simpa using hj)
     exact ⟨p, u, by simpa using a1, a2, a3⟩)
    refine ⟨(u0, q.2) :: zs, by rw [List.length_cons, List.length_cons, g1], fun j k v h => ?_⟩
    cases j with
    | zero =>
     simp at h
     obtain ⟨rfl, rfl⟩ := h
     exact ⟨p, q, rfl, rfl, rfl, h2, h3⟩
    | succ j =>
     obtain ⟨p', q', a1, a2, a3⟩ := g2 j k v (by simpa using h)
     exact ⟨p', q', by simpa using a1, by simpa using a2, a3⟩
 obtain ⟨zs, hzl, hzz⟩ := hvals
 obtain ⟨z1, lo, vs, rk, dd⟩ := (show ObjOk X.prog X.w H s.heap a (.dK kvs) from I.hok a _ e)
 have hkl : kvs.length = vs.length := rk.length
 have hml : more.length = prs.length := rel.length
 have hal : a ≠ l := ne_of e hne (by intro z; cases z)
 have hda : ∀ T, s.TypeIs (.ref a) T → T = "dict" := fun T hT => by
  obtain ⟨o1, _, _, e1, ex, _⟩ := dd
  obtain ⟨o2, e2, c2⟩ := hT
  rw [e1] at e2
  cases e2
  rw [ex.1] at c2
  exact (Value.type.inj c2).symm
 refine PySem.call_update_pairs (knd := mixKind X.prog X.w) (acc := vs) (kvs := prs) (PairArg.list l ((ps.map Value.ref).toArray) (fun j => ps.getD j 0) zs) hA ⟨⟨o, n, ho, hc, hd, hdat⟩, ⟨by simp [hzl, hl], fun j k v hj => ?_⟩⟩ (fun hm => ?_) ⟨hzl.symm, fun i key v hr => ?_⟩ dd (by rw [hzl]; omega) fun h' tk dd' k => ?_
 ·obtain ⟨p, q, h1, h2, h3, h4, h5⟩ := hzz j k v hj
  have hg : ps.getD j 0 = p := by rw [List.getD_eq_getElem?_getD, h1]; rfl
  exact ⟨by simp [h1], .inl (by show s.heap.IsTuple (ps.getD j 0) _; rw [hg]; exact h4)⟩
 ·rcases List.mem_cons.mp hm with z | z
  ·exact hal z
  ·obtain ⟨j, hj, ej⟩ := List.mem_map.mp z
   have hj := List.mem_range.mp hj
   obtain ⟨⟨zk, zv⟩, ez⟩ : ∃ p, zs[j]? = some p := ⟨zs[j], List.getElem?_eq_getElem hj⟩
   obtain ⟨p, q, h1, _, _, h4, _⟩ := hzz j zk zv ez
   have hg : ps.getD j 0 = p := by rw [List.getD_eq_getElem?_getD, h1]; rfl
   rw [hg] at ej
   subst ej
   obtain ⟨ob, e1, c1, _⟩ := h4
   have := hda "tuple" ⟨ob, e1, c1⟩
   exact absurd this (by decide)
 ·obtain ⟨p, q, h1, h2, h3, h4, h5⟩ := hzz i key v hr
  obtain ⟨qk, qv⟩ := q
  simp only at h3
  subst h3
  exact ⟨qk, h2, h5⟩
 ·have rm := KV.merge rel rk
  refine h _ (I.write (x := a) (e := a) (by rw [e]; exact True.intro) (.inl rfl) (fun b q hb z => k b q hb (fun z => nomatch z) z) (let ⟨q, _, _, hq, _⟩ := dd'; ⟨q, hq⟩) ?_)
  refine ⟨?_, lo, merged vs prs, rm, dd'⟩
  have := length_mergeK more kvs
  omega
theorem uu_updateL {pins : List (Addr × Obj)} {σ : L2.St} {H : Hp} {s : Shared} {a l : Addr} {A : Around} {E : Value → Shared → Prop} {vs ws : List (NK × Addr × V)} {ps : List Addr} {Q : Value → Shared → Prop} (hA : A.handled = none) (hu : A.units + 16 < cLine) (I : Inv X pins σ H s) (hw : AtW X) (e : H a = some (TupO a vs)) (hk : KeysAt X.K H vs) (hq : SqL X.K H l (ps.map V.ref)) (hne : H l = some (.lst (ps.map V.ref)))
  (hp : Paired (fun (p : Addr) (x : NK × Addr × V) => SqT X.K H p [.ref x.2.1, x.2.2]) ps ws) (hkw : KeysAt X.K H ws) (hal : a ≠ l) (hl2 : vs.length + ws.length ≤ sizeLine)
  (h : ∀ s', Inv X pins σ (upd H a (TupO a (mergeU vs ws))) s' → Q .none s') : wpAny (model X.prog X.w) A (call (.builtin "dict.update") [.ref a, .ref l]) Q E s := by
 obtain ⟨xs0, r, lo, z, dd⟩ := uu_get I hw (.inl e) hk
 obtain ⟨its, rv, pl, hz⟩ := I.list hq
 have ei := refs_at rv
 subst ei
 rw [List.length_map] at hz
 obtain ⟨xs, rel, hl, hpr⟩ := pairsU_of I hp
 obtain ⟨o, n, ho, hc, hd, hdat⟩ := pl
 have hkx0 : ∀ x ∈ xs0, (tkX X).is s.heap x.1 x.2.1 := fun x hx => by
  obtain ⟨p, hp, e1, e2⟩ := uv_mem r x hx
  have := key_is I (hk p hp)
  rw [e1, e2] at this
  exact this
 have hkx : ∀ x ∈ xs, (tkX X).is s.heap x.1 x.2.1 := fun x hx => by
  obtain ⟨p, hp, e1, e2⟩ := uv_mem rel x hx
  have := key_is I (hkw p hp)
  rw [e1, e2] at this
  exact this
 have hda : ∀ T, s.TypeIs (.ref a) T → T = "dict" := fun T hT => by
  obtain ⟨o1, _, _, e1, ex, _⟩ := dd
  obtain ⟨o2, e2, c2⟩ := hT
  rw [e1] at e2
  cases e2
  rw [ex.1] at c2
  exact (Value.type.inj c2).symm
 have hxl := uv_len r
 have hyl := uv_len rel
 refine PySem.call_update_pairsH (knd := tkX X) (acc := xs0) (ps := xs) (PairArg.list l ((ps.map Value.ref).toArray) (fun j => ps.getD j 0) (xs.map fun x => (Value.ref x.2.1, x.2.2))) hA (nk_room hu) ⟨⟨o, n, ho, hc, hd, hdat⟩, ⟨by simp [hl], fun j k v hj => ?_⟩⟩ (fun hm => ?_) ⟨by rw [List.length_map], fun i key v hr => ?_⟩ (fun h' hk2 x hx => ?_) dd (by rw [List.length_map]; omega) fun h' tk dd' k => ?_
 ·rw [List.getElem?_map] at hj
  obtain ⟨x, hx, e⟩ := Option.map_eq_some_iff.mp hj
  obtain ⟨p, h1, h2⟩ := hpr j x hx
  simp only [Prod.mk.injEq] at e
  obtain ⟨e1, e2⟩ := e
  subst e1 e2
  have hg : ps.getD j 0 = p := by rw [List.getD_eq_getElem?_getD, h1]; rfl
  exact ⟨by simp [h1], .inl (by show s.heap.IsTuple (ps.getD j 0) _; rw [hg]; exact h2)⟩
 ·rcases List.mem_cons.mp hm with z | z
  ·exact hal z
  ·obtain ⟨j, hj, ej⟩ := List.mem_map.mp z
   have hj := List.mem_range.mp hj
   rw [List.length_map] at hj
   obtain ⟨x, ex⟩ : ∃ x, xs[j]? = some x := ⟨xs[j], List.getElem?_eq_getElem hj⟩
   obtain ⟨p, h1, h4⟩ := hpr j x ex
   have hg : ps.getD j 0 = p := by rw [List.getD_eq_getElem?_getD, h1]; rfl
   rw [hg] at ej
   subst ej
   obtain ⟨ob, e1, c1, _⟩ := h4
   have := hda "tuple" ⟨ob, e1, c1⟩
   exact absurd this (by decide)
 ·have hr : (xs.map fun x => (Value.ref x.2.1, x.2.2))[i]? = some (key, v) := hr
  rw [List.getElem?_map] at hr
  obtain ⟨x, hx, e⟩ := Option.map_eq_some_iff.mp hr
  simp only [Prod.mk.injEq] at e
  obtain ⟨e1, e2⟩ := e
  subst e1 e2
  exact ⟨x.1, x.2.1, hx, rfl⟩
 ·exact nestedKind_stays.but (let ⟨o, es, ep, e1, _, e3, _⟩ := dd; ⟨o, es, ep, e1, e3⟩) h' hk2 _ _ ((List.mem_append.mp hx).elim (hkx0 x) (hkx x))
 ·have rm := uv_merge rel r
  refine h _ (I.write (x := a) (e := a) (by rw [e]; exact True.intro) (.inl rfl) (fun b q hb z => k b q hb (fun z => nomatch z) z) (let ⟨q, _, _, hq, _⟩ := dd'; ⟨q, hq⟩) (uu_new hw rm lo ?_ dd'))
  rw [← uv_len rm]
  have := mergeU_len ws vs
  omega
def tUpdA (K : PySem.W.Frag) (td ty : TE) : TE := fun σ H Q => td σ H fun x H1 => ∃ a, x = .ref a ∧ ((∃ kvs, H1 a = some (.dK kvs)) ∨ ∃ vs, H1 a = some (TupO a vs) ∧ KeysAt K H1 vs) ∧ ty σ H1 fun y H2 => ∃ b, y = .ref b ∧ a ≠ b ∧
  ((∃ kvs more, H2 a = some (.dK kvs) ∧ H2 b = some (.dK more) ∧ kvs.length + more.length ≤ sizeLine ∧ Q .non (upd H2 a (.dK (mergeK kvs more)))) ∨
   (∃ vs ws, H2 a = some (TupO a vs) ∧ H2 b = some (TupO b ws) ∧ KeysAt K H2 vs ∧ KeysAt K H2 ws ∧ vs ≠ [] ∧ vs.length + ws.length ≤ sizeLine ∧ Q .non (upd H2 a (TupO a (mergeU vs ws)))) ∨
   (∃ vs, H2 a = some (TupO a vs) ∧ H2 b = some (.dK []) ∧ KeysAt K H2 vs ∧ vs ≠ [] ∧ Q .non H2) ∨
   (∃ kvs more ps, H2 a = some (.dK kvs) ∧ H2 b = some (.lst (ps.map V.ref)) ∧ Paired (fun p kv => SqT K H2 p [kV kv.1, kv.2]) ps more ∧ kvs.length + more.length ≤ sizeLine ∧ Q .non (upd H2 a (.dK (mergeK kvs more)))) ∨
   (∃ vs ws ps, H2 a = some (TupO a vs) ∧ H2 b = some (.lst (ps.map V.ref)) ∧ KeysAt K H2 vs ∧ KeysAt K H2 ws ∧ Paired (fun (p : Addr) (x : NK × Addr × V) => SqT K H2 p [.ref x.2.1, x.2.2]) ps ws ∧ vs.length + ws.length ≤ sizeLine ∧ Q .non (upd H2 a (TupO a (mergeU vs ws)))))
theorem pe_updA {o e : Expr} {apos cpos : Pos} {td ty : TE} (hc : X.calm = true) (hu : X.A.units + 16 < cLine) (hw : AtW X) (ho : PE X o td) (he : PE X e ty) (m : M1 X o "update" apos e cpos) : PE X (.Call (.Attribute o "update" apos) [e] [] cpos) (tUpdA X.K td ty) := by
 refine ⟨fun pins s σ H Q I h => ?_⟩
 refine wpAny_Call_method m.base m.few m.line PySem.F.plainAttrs_dict PySem.F.slot_dict_update PySem.F.type_dict_update (thn (ho.run pins s σ H _ I h) fun u s1 ⟨x, H1, I1, rx, a, ex, d, q1⟩ => ?_)
 subst ex
 obtain rfl : u = Value.ref a := rx
 have hd : ∃ ob, s1.heap.get? a = some ob ∧ ob.ExactDict := by
  rcases d with ⟨kvs, d⟩ | ⟨vs, d, hk⟩
  ·obtain ⟨_, _, _, _, o, _, _, e, ex, _⟩ := dk_of I1.hok d
   exact ⟨o, e, ex⟩
  ·obtain ⟨xs, r, _, _, o, _, _, e, ex, _⟩ := uu_get I1 hw (.inl d) hk
   exact ⟨o, e, ex⟩
 obtain ⟨ob, h1, h2⟩ := hd
 refine ⟨⟨ob, h1, h2.1⟩, fun a' ea => ?_, ?_⟩
 ·cases ea
  exact ⟨ob, h1, h2.2.1⟩
 rw [m.trees]
 refine Calls.callWith_builtin rfl (Calls.evalArgs_plain (Calls.spliced_cons (thn (he.run pins s1 σ H1 _ I1 q1) fun iv s2 ⟨y, H2, I2, ry, b, eb, hab, q2⟩ => Calls.spliced_nil ?_)))
 subst eb
 obtain rfl : iv = Value.ref b := ry
 rcases q2 with ⟨kvs, more, k1, k2, k3, k4⟩ | ⟨vs, ws, k1, k2, k3, k4, k5, k6, k7⟩ | ⟨vs, k1, k2, k3, k4, k5⟩ | ⟨kvs, more, ps, k1, k2, k3, k4, k5⟩ | ⟨vs, ws, ps, k1, k2, k3, k4, k5, k6, k7⟩
 ·exact dk_update I2 k1 k2 hab k3 fun s3 I3 => ⟨.non, _, I3, rfl, k4⟩
 ·exact uu_update hu I2 hw k1 k2 hab k3 k4 k5 k6 fun s3 I3 => ⟨.non, _, I3, rfl, k7⟩
 ·exact uu_update0 hu I2 hw k1 k2 hab k3 k4 fun s3 I3 => ⟨.non, _, I3, rfl, k5⟩
 ·exact dk_updateL (I2.ok.hd hc) I2 k1 (.of k2) k3 k4 k2 fun s3 I3 => ⟨.non, _, I3, rfl, k5⟩
 ·exact uu_updateL (I2.ok.hd hc) hu I2 hw k1 k3 (.of k2) k2 k5 k4 hab k6 fun s3 I3 => ⟨.non, _, I3, rfl, k7⟩
end
end Mn
end
section
set_option maxHeartbeats 200000
namespace Mn
open PySem L2 PySem.Spec PyProof.Rows
theorem lexT_nil_r (x : List Str) : TT.lexT x [] = false := by unfold TT.lexT TT.key; simp
theorem lexT_nil_l (y : List Str) : TT.lexT [] y = decide (0 < y.length) := by
 cases y with
 | nil => unfold TT.lexT TT.key; simp
 | cons a y => unfold TT.lexT TT.key; simp
theorem lexT_cons (a b : Str) (x y : List Str) : TT.lexT (a :: x) (b :: y) = if a = b then TT.lexT x y else decide (a.cps.toList < b.cps.toList) := by
 unfold TT.lexT TT.key
 rw [List.map_cons, List.map_cons]
 by_cases h : a = b
 ·subst h
  rw [if_pos rfl]
  congr 1
  rw [List.cons_lt_cons_iff]
  have : ¬ a.cps.toList < a.cps.toList := List.lt_irrefl _
  simp [this]
 ·rw [if_neg h]
  have hne : a.cps.toList ≠ b.cps.toList := fun e => h (by
   cases a; cases b
   exact congrArg Str.mk (Array.toList_inj.mp e))
  congr 1
  rw [List.cons_lt_cons_iff]
  simp [hne]
theorem lexAt_T (ns ms : List Str) : ∀ (k i : Nat), i + k = min ns.length ms.length → Ob.lexAt (fun j => decide (ns.getD j ⟨#[]⟩ = ms.getD j ⟨#[]⟩)) (fun j => decide ((ns.getD j ⟨#[]⟩).cps.toList < (ms.getD j ⟨#[]⟩).cps.toList)) (decide (ns.length < ms.length)) i k = TT.lexT (ns.drop i) (ms.drop i)
 | 0, i, h => by
  rw [Ob.lexAt_zero]
  by_cases c : ns.length ≤ i
  ·rw [List.drop_eq_nil_of_le c, lexT_nil_l, List.length_drop]
   congr 1
   apply propext
   omega
  ·have : ms.length ≤ i := by omega
   rw [List.drop_eq_nil_of_le this, lexT_nil_r]
   exact decide_eq_false (by omega)
 | k + 1, i, h => by
  rw [Ob.lexAt_succ, lexAt_T ns ms k (i + 1) (by omega)]
  have h1 : i < ns.length := by omega
  have h2 : i < ms.length := by omega
  rw [List.drop_eq_getElem_cons h1, List.drop_eq_getElem_cons h2, lexT_cons]
  have g1 : ns.getD i ⟨#[]⟩ = ns[i] := by simp [List.getD, h1]
  have g2 : ms.getD i ⟨#[]⟩ = ms[i] := by simp [List.getD, h2]
  rw [g1, g2]
  by_cases c : ns[i] = ms[i]
  ·rw [if_pos (decide_eq_true c), if_pos c]
  ·rw [if_neg (by simpa using c), if_neg c]
def rLtTT (K : PySem.W.Frag) : R2 := fun x y H Q => ∃ (a b : Addr) (ns ms : List Str), x = .ref a ∧ y = .ref b ∧ SqT K H a (ns.map V.str) ∧ SqT K H b (ms.map V.str) ∧ Q (.bl (TT.lexT ns ms)) H
theorem str_at {ns : List Str} {us : List Value} (r : Vals (ns.map V.str) us) : ∀ j (h : j < us.length), ∃ t, us[j] = .str (ns.getD j ⟨#[]⟩) t := by
 induction ns generalizing us with
 | nil => intro j h; cases r; cases h
 | cons a ns ih =>
  cases r with
  | @cons v u vs us h1 h2 =>
   intro j h
   cases j with
   | zero => obtain ⟨t, rfl⟩ := h1; exact ⟨t, rfl⟩
   | succ j =>
    obtain ⟨t, ht⟩ := ih h2 j (by simpa using h)
    exact ⟨t, by simpa using ht⟩
theorem op_ltTT {X : Cx} (hu : X.A.units < cLine) : OpR X (compareOp .Lt) (rLtTT X.K) := by
 intro pins s σ H x y v u Q I rx ry h
 obtain ⟨a, b, ns, ms, rfl, rfl, ha, hb, q⟩ := h
 cases rx
 cases ry
 obtain ⟨its, r1, p1, _⟩ := I.tuple ha
 obtain ⟨its2, r2, p2, _⟩ := I.tuple hb
 have e1 : its.toArray.size = ns.length := by rw [List.size_toArray, ← r1.length, List.length_map]
 have e2 : its2.toArray.size = ms.length := by rw [List.size_toArray, ← r2.length, List.length_map]
 have at1 : ∀ j (h1 : j < its.toArray.size), ∃ t, its.toArray[j] = .str (ns.getD j ⟨#[]⟩) t := fun j h1 => by
  obtain ⟨t, ht⟩ := str_at r1 j (by simpa using h1)
  exact ⟨t, by simpa using ht⟩
 have at2 : ∀ j (h1 : j < its2.toArray.size), ∃ t, its2.toArray[j] = .str (ms.getD j ⟨#[]⟩) t := fun j h1 => by
  obtain ⟨t, ht⟩ := str_at r2 j (by simpa using h1)
  exact ⟨t, by simpa using ht⟩
 have R := Ob.RcOp.tuples_lt (A := X.A) (s := s) (e := fun j => decide (ns.getD j ⟨#[]⟩ = ms.getD j ⟨#[]⟩)) (r := fun j => decide ((ns.getD j ⟨#[]⟩).cps.toList < (ms.getD j ⟨#[]⟩).cps.toList)) p1 p2 hu (fun j h1 h2 => by
  obtain ⟨t, et⟩ := at1 j h1
  obtain ⟨t', et'⟩ := at2 j h2
  rw [et, et']
  have z : (ns.getD j ⟨#[]⟩ == ms.getD j ⟨#[]⟩) = decide (ns.getD j ⟨#[]⟩ = ms.getD j ⟨#[]⟩) := by
   by_cases q : ns.getD j ⟨#[]⟩ = ms.getD j ⟨#[]⟩
   ·rw [decide_eq_true q]; exact beq_iff_eq.mpr q
   ·rw [decide_eq_false q]; exact beq_eq_false_iff_ne.mpr q
  rw [← z]
  exact SeqAt.EqAt.str_str _ _ _ _) (fun j h1 h2 _ => by
  obtain ⟨t, et⟩ := at1 j h1
  obtain ⟨t', et'⟩ := at2 j h2
  rw [et, et']
  exact fun _ _ _ _ h => lt_str h)
 rw [e1, e2, lexAt_T ns ms _ 0 (by omega)] at R
 have z : wpAny (model X.prog X.w) X.A (compareOp .Lt (.ref a) (.ref b)) (EP X pins σ Q) X.xe s := R X.prog X.w X.xe (EP X pins σ Q) ⟨.bl _, H, I, rfl, q⟩
 exact z
end Mn
end
section
set_option maxHeartbeats 200000
namespace Mn
open PySem L2 PySem.Spec
open PyProof.Rows (wpAny_notIn_heap)
variable [WW]
theorem keyT_is {X : Cx} {pins : List (Addr × Obj)} {σ : L2.St} {H : Hp} {s : Shared} {b : Addr} {ks : List Key} (J : Inv X pins σ H s) (h : SqT X.K H b (ks.map kV)) : (tupleKind (mixKind X.prog X.w)).is s.heap ks b := by
 obtain ⟨its, r, ⟨o, h1, h2, n, h3⟩, _⟩ := J.tuple h
 exact ⟨o, its.toArray, n, h1, h2, h3, by simpa using items_are r⟩
theorem dRel_any {K : PySem.W.Frag} {Z : Hp} (k : Key) : ∀ {vs : List (Key × V)} {ps : List (Key × P)}, DRel K Z vs ps → (vs.any fun kv => decide (kv.1 = k)) = ps.any fun kv => decide (kv.1 = k)
 | _, _, .nil => rfl
 | _, _, .cons h t => by rw [List.any_cons, List.any_cons, dRel_any k t, h.1]
theorem dRel_get {K : PySem.W.Frag} {Z : Hp} (k : Key) : ∀ {vs : List (Key × V)} {ps : List (Key × P)}, DRel K Z vs ps → (match getA ps k with
  | some p => ∃ v, valV vs k = some v ∧ Rep K Z v p
  | none => valV vs k = none)
 | _, _, .nil => rfl
 | _, _, @Paired.cons _ _ _ x y xs ys h t => by
  obtain ⟨h1, _, h2⟩ := h
  have ih := dRel_get k t
  by_cases e : y.1 = k
  ·have e1 : getA (y :: ys) k = some y.2 := by simp [getA, List.find?_cons, e]
   rw [e1]
   exact ⟨x.2, valV_pos (h1.trans e), h2⟩
  ·have e1 : getA (y :: ys) k = getA ys k := by simp [getA, List.find?_cons, e]
   rw [e1, valV_neg (fun q => e (h1.symm.trans q))]
   exact ih
theorem tRel_get {K : PySem.W.Frag} {Z : Hp} (k : List Key) : ∀ {vs : List (List Key × V)} {ps : List (List Key × P)}, TRel K Z vs ps → (match getA ps k with
  | some p => ∃ v, valV vs k = some v ∧ Rep K Z v p
  | none => valV vs k = none)
 | _, _, .nil => rfl
 | _, _, @Paired.cons _ _ _ x y xs ys h t => by
  obtain ⟨h1, _, h2⟩ := h
  have ih := tRel_get k t
  by_cases e : y.1 = k
  ·have e1 : getA (y :: ys) k = some y.2 := by simp [getA, List.find?_cons, e]
   rw [e1]
   exact ⟨x.2, valV_pos (h1.trans e), h2⟩
  ·have e1 : getA (y :: ys) k = getA ys k := by simp [getA, List.find?_cons, e]
   rw [e1, valV_neg (fun q => e (h1.symm.trans q))]
   exact ih
theorem ownN_get {K : PySem.W.Frag} {Z H : Hp} (k : Key) : ∀ {ms : List (Key × M)} {vs : List (Key × V)} {G : List Addr}, OwnN K Z H ms vs G → (match getA ms k with
  | some m => ∃ v G', valV vs k = some v ∧ Own K Z H m v G' ∧ ∀ a ∈ G', a ∈ G
  | none => valV vs k = none)
 | _, _, _, .nil => rfl
 | _, _, _, @OwnN.cons _ _ _ _ k0 m v ms vs G G2 ko kn h t d => by
  have ih := ownN_get k t
  by_cases e : k0 = k
  ·have e1 : getA ((k0, m) :: ms) k = some m := by simp [getA, List.find?_cons, e]
   rw [e1]
   exact ⟨v, G, valV_pos (by exact e), h, fun a q => List.mem_append_left _ q⟩
  ·have e1 : getA ((k0, m) :: ms) k = getA ms k := by simp [getA, List.find?_cons, e]
   rw [e1, valV_neg (by exact e)]
   revert ih
   cases getA ms k with
   | none => exact id
   | some m2 => exact fun ⟨v2, G', a1, a2, a3⟩ => ⟨v2, G', a1, a2, fun a q => List.mem_append_right _ (a3 a q)⟩
theorem keyOf_v {K : PySem.W.Frag} {Z : Hp} {p : P} {k : Key} {y : V} (e : keyOf p = some k) (h : Rep K Z y p) : y = kV k ∧ KeyOk k ∧ p = ofKey k := by
 cases h with
 | int i => cases e; exact ⟨rfl, trivial, rfl⟩
 | str x h1 h2 => cases e; exact ⟨rfl, ⟨h1, h2⟩, rfl⟩
 | _ => cases e
theorem keysAll_v {K : PySem.W.Frag} {Z : Hp} : ∀ {ps : List P} {ks : List Key} {vs : List V}, keysAll ps = some ks → RepL K Z vs ps → vs = ks.map kV ∧ (∀ k ∈ ks, KeyOk k) ∧ ps = ks.map ofKey
 | [], ks, _, e, .nil => by cases e; exact ⟨rfl, (fun k h => by cases h), rfl⟩
 | p :: ps, ks, _, e, .cons (v := v) h r => by
  unfold keysAll at e
  split at e
  ·rename_i k ek
   split at e
   ·rename_i ks2 ek2
    cases e
    obtain ⟨h1, h2, h3⟩ := keyOf_v ek h
    obtain ⟨g1, g2, g3⟩ := keysAll_v ek2 r
    subst h1 g1 h3 g3
    exact ⟨rfl, fun x hx => (List.mem_cons.mp hx).elim (fun q => q ▸ h2) (g2 x), rfl⟩
   ·cases e
  ·cases e
theorem keysOf_v {K : PySem.W.Frag} {Z : Hp} {p : P} {ks : List Key} {y : V} (e : keysOf p = some ks) (h : Rep K Z y p) : ∃ b, y = .ref b ∧ SqT K Z b (ks.map kV) ∧ (∀ k ∈ ks, KeyOk k) ∧ p = ofKeys ks := by
 cases h with
 | tup h1 r =>
  obtain ⟨g1, g2, g3⟩ := keysAll_v (by exact e) r
  subst g1 g3
  exact ⟨_, rfl, h1.sq, g2, rfl⟩
 | _ => cases e
omit [WW] in
theorem keyOf_ofKey (k : Key) : keyOf (ofKey k) = some k := by cases k <;> rfl
omit [WW] in
theorem keysAll_of : ∀ ks : List Key, keysAll (ks.map ofKey) = some ks
 | [] => rfl
 | k :: ks => by
  rw [List.map_cons]
  unfold keysAll
  rw [keyOf_ofKey, keysAll_of ks]
omit [WW] in
theorem keysOf_ofKeys (ks : List Key) : keysOf (ofKeys ks) = some ks := keysAll_of ks
def DG (K : PySem.W.Frag) (H : Hp) (a : Addr) (y : V) (r : Option V) : Prop :=
 (∃ kvs k, Rd H a (.dK kvs) ∧ y = kV k ∧ r = valV kvs k) ∨ (∃ kvs k b, Rd H a (.dT kvs) ∧ y = .ref b ∧ SqT K H b (k.map kV) ∧ r = valV kvs k) ∨ ∃ kvs, Rd H a (.dK kvs) ∧ y = .non ∧ r = none
section
variable {X : Cx} {pins : List (Addr × Obj)} {σ : St} {H : Hp} {s : Shared} {a : Addr} {y v d : V} {u r : Value} {o : Option V} {A : Around} {E : Value → Shared → Prop}
theorem relO_some {v : V} {o : Option Value} (h : RelO (some v) o) : ∃ w, o = some w ∧ RelV v w := by
 cases o with
 | none => exact h.elim
 | some w => exact ⟨w, rfl, h⟩
theorem dg_item {Q : Value → Shared → Prop} (hu : A.units + 1 < cLine) (J : Inv X pins σ H s) (g : DG X.K H a y (some v)) (ry : RelV y u) (h : ∀ w' s', Inv X pins σ H s' → RelV v w' → Q w' s') :
  wpAny (model X.prog X.w) A (getItem (.ref a) u) Q E s := by
 rcases g with ⟨kvs, k, e, ey, l⟩ | ⟨kvs, k, b, e, ey, eb, l⟩ | ⟨kvs, _, _, l⟩
 ·exact d_getItem hu J (.inl ⟨kvs, k, e, ey, l⟩) ry h
 ·subst ey; cases ry
  obtain ⟨z, hd, xs, rel, dd⟩ := dt_rd J.hok e
  obtain ⟨w', hw, rw'⟩ := relO_some (v := v) (o := (atKey xs k).map (·.2)) (by rw [l]; exact rel.val k)
  obtain ⟨p, hp, hp2⟩ := Option.map_eq_some_iff.mp hw
  exact wpAny_getItem_heap (tupleKind_room_in1 hu) (keyT_is J eb) dd hp (by rw [hp2]; exact h w' _ (J.tok _) rw')
 ·cases l
theorem dg_in {Q : Value → Shared → Prop} (hu : A.units + 1 < cLine) (J : Inv X pins σ H s) (g : DG X.K H a y o) (ry : RelV y u) (h : ∀ s', Inv X pins σ H s' → Q (.bool o.isSome) s') :
  wpAny (model X.prog X.w) A (compareOp .In u (.ref a)) Q E s := by
 rcases g with ⟨kvs, k, e, ey, l⟩ | ⟨kvs, k, b, e, ey, eb, l⟩ | ⟨kvs, e, ey, l⟩
 ·exact d_in hu J (.inl ⟨kvs, k, e, ey, l⟩) ry h
 ·subst ey; cases ry
  obtain ⟨z, hd, xs, rel, dd⟩ := dt_rd J.hok e
  have q := (rel.val k).isSome_eq
  rw [Option.isSome_map, ← l] at q
  exact wpAny_in_heap (tupleKind_room_in1 hu) (keyT_is J eb) hd dd (by rw [← q]; exact h _ (J.tok _))
 ·subst ey l; cases ry; exact d_inNone J e h
theorem dg_nin {Q : Value → Shared → Prop} (hu : A.units + 1 < cLine) (J : Inv X pins σ H s) (g : DG X.K H a y o) (ry : RelV y u) (h : ∀ s', Inv X pins σ H s' → Q (.bool (!o.isSome)) s') :
  wpAny (model X.prog X.w) A (compareOp .NotIn u (.ref a)) Q E s := by
 rcases g with ⟨kvs, k, e, ey, l⟩ | ⟨kvs, k, b, e, ey, eb, l⟩ | ⟨kvs, e, ey, l⟩
 ·exact d_notIn hu J (.inl ⟨kvs, k, e, ey, l⟩) ry h
 ·subst ey; cases ry
  obtain ⟨z, hd, xs, rel, dd⟩ := dt_rd J.hok e
  have q := (rel.val k).isSome_eq
  rw [Option.isSome_map, ← l] at q
  exact wpAny_notIn_heap (tupleKind_room_in1 hu) (keyT_is J eb) hd dd (by rw [← q]; exact h _ (J.tok _))
 ·subst ey l; cases ry; exact d_notInNone J e h
theorem dg_get1 {Q : Value → Shared → Prop} (hu : A.units + 1 < cLine) (J : Inv X pins σ H s) (g : DG X.K H a y o) (ry : RelV y u) (h : ∀ w' s', Inv X pins σ H s' → RelV (o.getD .non) w' → Q w' s') :
  wpAny (model X.prog X.w) A (call (.builtin "dict.get") [.ref a, u]) Q E s := by
 rcases g with ⟨kvs, k, e, ey, l⟩ | ⟨kvs, k, b, e, ey, eb, l⟩ | ⟨kvs, e, ey, l⟩
 ·exact d_get1 hu J (.inl ⟨kvs, k, e, ey, l⟩) ry h
 ·subst ey; cases ry
  obtain ⟨z, hd, xs, rel, dd⟩ := dt_rd J.hok e
  exact call_meetsIn PySem.F.slot_dict_get dd.typeIs PySem.F.entry_dict_get (PySem.F.args_dict_get_2 _ _) (meetsH_dict_get (tupleKind (mixKind X.prog X.w)) a b hd)
   ⟨tupleKind_room_in1 hu, k, xs, keyT_is J eb, dd, h _ _ (J.tok _) (by rw [l]; exact (rel.val k).getD rfl)⟩
 ·subst ey l; cases ry
  obtain ⟨_, hd, vs, _, dd⟩ := dk_rd J.hok e
  obtain ⟨f, hm, hf⟩ := none_map dd
  exact call_meetsIn PySem.F.slot_dict_get dd.typeIs PySem.F.entry_dict_get (PySem.F.args_dict_get_2 _ _) (meets_dict_get (noneKind X.prog X.w) a (show (noneKind X.prog X.w).is none .none = true from rfl) hd)
   ⟨_, hm, h _ _ (J.tok _) (by rw [hf]; rfl)⟩
theorem dg_get2 {Q : Value → Shared → Prop} (hu : A.units + 1 < cLine) (J : Inv X pins σ H s) (g : DG X.K H a y o) (ry : RelV y u) (rd : RelV d r) (h : ∀ w' s', Inv X pins σ H s' → RelV (o.getD d) w' → Q w' s') :
  wpAny (model X.prog X.w) A (call (.builtin "dict.get") [.ref a, u, r]) Q E s := by
 rcases g with ⟨kvs, k, e, ey, l⟩ | ⟨kvs, k, b, e, ey, eb, l⟩ | ⟨kvs, e, ey, l⟩
 ·exact d_get2 hu J (.inl ⟨kvs, k, e, ey, l⟩) ry rd h
 ·subst ey; cases ry
  obtain ⟨z, hd, xs, rel, dd⟩ := dt_rd J.hok e
  exact call_meetsIn PySem.F.slot_dict_get dd.typeIs PySem.F.entry_dict_get (PySem.F.args_dict_get_3 _ _ _) (meetsH_dict_get_default (tupleKind (mixKind X.prog X.w)) a b hd r)
   ⟨tupleKind_room_in1 hu, k, xs, keyT_is J eb, dd, h _ _ (J.tok _) (by rw [l]; exact (rel.val k).getD rd)⟩
 ·subst ey l; cases ry
  obtain ⟨_, hd, vs, _, dd⟩ := dk_rd J.hok e
  obtain ⟨f, hm, hf⟩ := none_map dd
  exact call_meetsIn PySem.F.slot_dict_get dd.typeIs PySem.F.entry_dict_get (PySem.F.args_dict_get_3 _ _ _) (meets_dict_get_default (noneKind X.prog X.w) a (show (noneKind X.prog X.w).is none .none = true from rfl) hd r)
   ⟨_, hm, h _ _ (J.tok _) (by rw [hf]; exact rd)⟩
theorem dg_dict (J : Inv X pins σ H s) (g : DG X.K H a y o) : ∃ ob, s.heap.get? a = some ob ∧ ob.ExactDict := by
 have hk : (∃ kvs, Rd H a (.dK kvs)) ∨ ∃ kvs, Rd H a (.dT kvs) := by
  rcases g with ⟨kvs, k, e, ey, l⟩ | ⟨kvs, k, b, e, ey, eb, l⟩ | ⟨kvs, e, ey, l⟩
  ·exact .inl ⟨_, e⟩
  ·exact .inr ⟨_, e⟩
  ·exact .inl ⟨_, e⟩
 rcases hk with ⟨kvs, e⟩ | ⟨kvs, e⟩
 ·obtain ⟨_, _, _, _, o, _, _, e, ex, _⟩ := dk_rd J.hok e
  exact ⟨o, e, ex⟩
 ·obtain ⟨_, _, _, _, o, _, _, e, ex, _⟩ := dt_rd J.hok e
  exact ⟨o, e, ex⟩
end
def rDin (K : PySem.W.Frag) : R2 := fun x y H Q => ∃ a o, y = .ref a ∧ DG K H a x o ∧ Q (.bl o.isSome) H
def rDnin (K : PySem.W.Frag) : R2 := fun x y H Q => ∃ a o, y = .ref a ∧ DG K H a x o ∧ Q (.bl (!o.isSome)) H
def rSg : R2 := fun x y H Q => ∃ (c : Nat) (z : Str), x = .str ⟨#[c]⟩ ∧ y = .str z ∧ Q (.bl (decide (c ∈ z.cps.toList))) H
def rNsg : R2 := fun x y H Q => ∃ (c : Nat) (z : Str), x = .str ⟨#[c]⟩ ∧ y = .str z ∧ Q (.bl (!decide (c ∈ z.cps.toList))) H
def rLtS : R2 := fun x y H Q => ∃ i j, x = .str i ∧ y = .str j ∧ Q (.bl (decide (i.cps.toList < j.cps.toList))) H
def rIsNo : R2 := fun x y H Q => y = .non ∧ Q (.bl (decide (x = .non))) H
def rNotNo : R2 := fun x y H Q => y = .non ∧ Q (.bl (!decide (x = .non))) H
def rInDp (K : PySem.W.Frag) (neg : Bool) : R2 := fun x y H Q => ∃ d ds, Dp K H x d ∧ (Dp K H y (.list ds) ∨ Dp K H y (.tuple ds)) ∧ d.canLay0 = true ∧ PyData.canLayAll0 ds = true ∧ d.depth ≤ 60 ∧ Q (.bl (if neg then !(ds.any fun z => PyData.eqv z d) else ds.any fun z => PyData.eqv z d)) H
theorem op_inDp {X : Cx} (hu : X.A.units + 64 < cLine) : OpR X (compareOp .In) (rInDp X.K false) := by
 intro pins s σ H x y v u Q I rx ry h
 obtain ⟨d, ds, hd, he, sd, se, hdep, q⟩ := h
 obtain ⟨as, r1⟩ := Dp.reads I d x v hd rx
 have hr : X.A.units + 1 + min (PyData.depthAll ds) d.depth < cLine := by
  have := Nat.min_le_right (PyData.depthAll ds) d.depth
  omega
 rcases he with he | he
 ·obtain ⟨bs, r2⟩ := Dp.reads I (.list ds) y u he ry
  exact SeqAt.in_list_reads r2 r1 se sd hr ⟨.bl _, H, I, rfl, q⟩
 ·obtain ⟨bs, r2⟩ := Dp.reads I (.tuple ds) y u he ry
  exact SeqAt.in_tuple_reads r2 r1 se sd hr ⟨.bl _, H, I, rfl, q⟩
theorem op_notInDp {X : Cx} (hu : X.A.units + 64 < cLine) : OpR X (compareOp .NotIn) (rInDp X.K true) := by
 intro pins s σ H x y v u Q I rx ry h
 obtain ⟨d, ds, hd, he, sd, se, hdep, q⟩ := h
 obtain ⟨as, r1⟩ := Dp.reads I d x v hd rx
 have hr : X.A.units + 1 + min (PyData.depthAll ds) d.depth < cLine := by
  have := Nat.min_le_right (PyData.depthAll ds) d.depth
  omega
 rcases he with he | he
 ·obtain ⟨bs, r2⟩ := Dp.reads I (.list ds) y u he ry
  exact SeqAt.notIn_list_reads r2 r1 se sd hr ⟨.bl _, H, I, rfl, q⟩
 ·obtain ⟨bs, r2⟩ := Dp.reads I (.tuple ds) y u he ry
  exact SeqAt.notIn_tuple_reads r2 r1 se sd hr ⟨.bl _, H, I, rfl, q⟩
def rInU (K : PySem.W.Frag) (neg : Bool) : R2 := fun x y H Q => ∃ (a b : Addr) (k : NK) (vs : List (NK × Addr × V)), x = .ref b ∧ NkAt K H k b ∧ y = .ref a ∧ Rd H a (TupO a vs) ∧ KeysAt K H vs ∧ Q (.bl (if neg then !(vs.any fun x => decide (x.1 = k)) else vs.any fun x => decide (x.1 = k))) H
theorem op_inU {X : Cx} (hu : X.A.units + 64 < cLine) (hw : AtW X) : OpR X (compareOp .In) (rInU X.K false) := by
 intro pins s σ H x y v u Q I rx ry h
 obtain ⟨a, b, k, vs, rfl, hb, rfl, e, hk, q⟩ := h
 cases rx
 cases ry
 exact uu_in (by omega) I hw e hk hb fun s' J' => ⟨.bl _, H, J', rfl, q⟩
theorem op_notInU {X : Cx} (hu : X.A.units + 64 < cLine) (hw : AtW X) : OpR X (compareOp .NotIn) (rInU X.K true) := by
 intro pins s σ H x y v u Q I rx ry h
 obtain ⟨a, b, k, vs, rfl, hb, rfl, e, hk, q⟩ := h
 cases rx
 cases ry
 exact uu_nin (by omega) I hw e hk hb fun s' J' => ⟨.bl _, H, J', rfl, q⟩
def rEqT (K : PySem.W.Frag) (neg : Bool) : R2 := fun x y H Q => ∃ (a b : Addr) (vs : List V), x = .ref a ∧ y = .ref b ∧ SqT K H a vs ∧ SqT K H b [] ∧ Q (.bl (if neg then !vs.isEmpty else vs.isEmpty)) H
theorem op_eqT {X : Cx} (hu : X.A.units + 64 < cLine) : OpR X (compareOp .Eq) (rEqT X.K false) := by
 intro pins s σ H x y v u Q I rx ry h
 obtain ⟨a, b, vs, rfl, rfl, ha, hb, q⟩ := h
 cases rx
 cases ry
 obtain ⟨its, r, h1, _⟩ := I.tuple ha
 obtain ⟨its2, r2, h2, _⟩ := I.tuple hb
 cases r2
 refine SeqAt.eq_tupleAt (e := fun _ => true) h1 h2 (by omega) (fun j _ h4 => absurd h4 (by simp)) ?_
 refine ⟨.bl vs.isEmpty, H, I, ?_, q⟩
 cases r with
 | nil => rfl
 | cons _ _ => rfl
theorem op_neT {X : Cx} (hu : X.A.units + 64 < cLine) : OpR X (compareOp .NotEq) (rEqT X.K true) := by
 intro pins s σ H x y v u Q I rx ry h
 obtain ⟨a, b, vs, rfl, rfl, ha, hb, q⟩ := h
 cases rx
 cases ry
 obtain ⟨its, r, h1, _⟩ := I.tuple ha
 obtain ⟨its2, r2, h2, _⟩ := I.tuple hb
 cases r2
 refine SeqAt.RcNeAt.tuples (e := fun _ => true) h1 h2 (by omega) (fun j _ h4 => absurd h4 (by simp)) _ _ _ _ ?_
 refine ⟨.bl (!vs.isEmpty), H, I, ?_, q⟩
 cases r with
 | nil => rfl
 | cons _ _ => rfl
def rCmp (K : PySem.W.Frag) : COp → R2
 | .eq => fun x y H Q => rEqD K x y H Q ∨ rEqT K false x y H Q
 | .ne => fun x y H Q => rNeD K x y H Q ∨ rEqT K true x y H Q
 | .lt => fun x y H Q => rI0 (fun i j => .bl (decide (i < j))) x y H Q ∨ rLtS x y H Q ∨ rLtTT K x y H Q
 | .le => rI0 fun i j => .bl (decide (i ≤ j))
 | .gt => rI0 fun i j => .bl (decide (j < i))
 | .ge => rI0 fun i j => .bl (decide (j ≤ i))
 | .inn => fun x y H Q => rIn K false x y H Q ∨ rSg x y H Q ∨ rDin K x y H Q ∨ rInDp K false x y H Q ∨ rInU K false x y H Q
 | .nin => fun x y H Q => rIn K true x y H Q ∨ rNsg x y H Q ∨ rDnin K x y H Q ∨ rInDp K true x y H Q ∨ rInU K true x y H Q
 | .isN => rIsNo
 | .notN => rNotNo
 | .isB => rIsB
 | .notB => rNotB
def cOp : COp → CmpOp
 | .eq => .Eq | .ne => .NotEq | .lt => .Lt | .le => .LtE | .gt => .Gt | .ge => .GtE | .inn => .In | .nin => .NotIn | .isN => .Is | .notN => .IsNot | .isB => .Is | .notB => .IsNot
theorem op_dgIn {X : Cx} (hr : X.A.units + 64 < cLine) : OpR X (compareOp .In) (rDin X.K) := fun pins s σ H x y v u Q J rx ry h => by
 obtain ⟨a, o, rfl, g, q⟩ := h
 cases ry
 exact dg_in (by omega) J g rx fun s' J' => ⟨.bl o.isSome, H, J', rfl, q⟩
theorem op_dgNin {X : Cx} (hr : X.A.units + 64 < cLine) : OpR X (compareOp .NotIn) (rDnin X.K) := fun pins s σ H x y v u Q J rx ry h => by
 obtain ⟨a, o, rfl, g, q⟩ := h
 cases ry
 exact dg_nin (by omega) J g rx fun s' J' => ⟨.bl (!o.isSome), H, J', rfl, q⟩
theorem cmp_R {X : Cx} (hr : X.A.units + 64 < cLine) (hw : AtW X) : ∀ op : COp, OpR X (compareOp (cOp op)) (rCmp X.K op)
 | .eq => (op_eqD hr).or (op_eqT hr)
 | .ne => (op_neD hr).or (op_neT hr)
 | .lt => op_lt.or (op_lt_str.or (op_ltTT (by omega)))
 | .le => op_le
 | .gt => op_gt
 | .ge => op_ge
 | .inn => op_in_seq.or (op_in_sign.or ((op_dgIn hr).or ((op_inDp hr).or (op_inU hr hw))))
 | .nin => op_notIn_seq.or (op_notIn_sign.or ((op_dgNin hr).or ((op_notInDp hr).or (op_notInU hr hw))))
 | .isN => op_isN
 | .notN => op_notN
 | .isB => op_isBl
 | .notB => op_notBl
end Mn
end
section
set_option maxHeartbeats 200000
namespace Mn
open PySem L2 PySem.Spec
variable [WW]
section
variable {K : PySem.W.Frag} {Z H : Hp} {a b m : M} {x y : V} {Ga Gb : List Addr} {Q : VK}
theorem asP_dp (s : Sub Z H) {p : P} (h : View K Z H (vw a) x) (e : asP a = some p) (n : noD p = true) (hd : p.depth ≤ 64) : Dp K H x p ∧ SeqAt.shaped p = true := by
 have key : Dp K H x p ∧ PyData.canLay0 p = true := by
  unfold asP at e
  split at e
  ·rename_i q eq
   cases e
   rw [eq] at h
   cases h with
   | v h =>
    have l := Rep.lay h n
    exact ⟨(Rep.dp s h).resolve_left fun z => z l, l⟩
  ·rename_i ps eq
   cases e
   rw [eq] at h
   cases h with
   | l h r =>
    have l := RepL.lay r (by simpa [noD] using n)
    exact ⟨.lst (SqL.of h) ((RepL.dp s r).resolve_left fun z => z l), by simpa [PyData.canLay0] using l⟩
  ·cases e
 refine ⟨key.1, ?_⟩
 show (PyData.canLay0 p && decide (p.depth ≤ 64)) = true
 rw [key.2, decide_eq_true hd]; rfl
theorem eqM_ok (s : Sub Z H) {c : Bool} (ha : View K Z H (vw a) x) (hb : View K Z H (vw b) y) (e : eqM a b = some c) : (∃ d f, Dp K H x d ∧ Dp K H y f ∧ SeqAt.shaped d = true ∧ SeqAt.shaped f = true ∧ PyData.eqv d f = c) ∨ ∃ (l r : Addr) (vs : List V), x = .ref l ∧ y = .ref r ∧ SqT K H l vs ∧ SqT K H r [] ∧ vs.isEmpty = c := by
 unfold eqM at e
 split at e
 ·rename_i p q ep eq
  unfold eqP at e
  split at e
  ·rename_i c
   obtain ⟨h1, h2⟩ := asP_dp s ha ep c.2.2.1 c.1
   obtain ⟨h3, h4⟩ := asP_dp s hb eq c.2.2.2 c.2.1
   exact .inl ⟨p, q, h1, h3, h2, h4, Option.some.inj e⟩
  ·unfold eqNil at e
   split at e
   ·rename_i ps
    cases e
    have tp : ∀ {m : M} {z : V} {qs : List P}, View K Z H (vw m) z → asP m = some (.tuple qs) → ∃ l vs, z = .ref l ∧ SqT K H l vs ∧ RepL K Z vs qs := fun {m z qs} h e => by
     unfold asP at e
     split at e
     ·rename_i q eq
      cases e
      rw [eq] at h
      cases h with
      | v h => cases h with
       | tup h r => exact ⟨_, _, rfl, sqT_sub s h.sq, r⟩
     ·cases e
     ·cases e
    obtain ⟨l, vs, rfl, h1, r1⟩ := tp ha ep
    obtain ⟨r, ws, rfl, h2, r2⟩ := tp hb eq
    cases r2
    refine .inr ⟨l, r, vs, rfl, rfl, h1, h2, ?_⟩
    cases r1 <;> rfl
   ·cases e
 ·cases e
theorem flat_rep {p : P} {v : V} (h : Rep K Z v p) : flatV v = flatP p := by cases h <;> rfl
theorem eqv_rep {p q : P} {v w : V} (h : Rep K Z v p) (h2 : Rep K Z w q) (f : flatP p = true) (g : flatP q = true) : eqV v w = PyData.eqv p q := by
 cases h <;> first | (cases f; done) | skip
 all_goals cases h2 <;> first | (cases g; done) | (simp [eqV, PyData.eqv]; done) | skip
theorem flats_rep : ∀ {ps : List P} {vs : List V}, RepL K Z vs ps → vs.all flatV = ps.all flatP
 | _, _, .nil => rfl
 | _, _, .cons h r => by rw [List.all_cons, List.all_cons, flat_rep h, flats_rep r]
theorem any_rep {q : P} {w : V} (h2 : Rep K Z w q) (g : flatP q = true) : ∀ {ps : List P} {vs : List V}, RepL K Z vs ps → ps.all flatP = true → inV w vs = ps.any fun y => PyData.eqv y q
 | _, _, .nil, _ => rfl
 | _, _, .cons h r, f => by
  rw [List.all_cons, Bool.and_eq_true] at f
  unfold inV
  rw [List.any_cons, List.any_cons, eqv_rep h h2 f.1 g]
  exact congrArg _ (any_rep h2 g r f.2)
theorem inSeq_ok {neg c : Bool} {ps : List P} {p : P} (s : Sub Z H) (hx : Rep K Z x p) (hy : ∃ a vs, y = .ref a ∧ (SqL K H a vs ∨ SqT K H a vs) ∧ RepL K Z vs ps) (e : inSeq p ps = some c) (q : Q (.bl (if neg then !c else c)) H) : rIn K neg x y H Q ∨ rInDp K neg x y H Q := by
 obtain ⟨a, vs, rfl, hs, r⟩ := hy
 unfold inSeq at e
 split at e
 ·rename_i f
  cases e
  refine .inl ⟨a, vs, rfl, hs, by rw [flat_rep hx]; exact f.1, by rw [flats_rep r]; exact f.2, ?_⟩
  rw [any_rep hx f.1 r f.2]
  exact q
 ·split at e
  ·rename_i f
   cases e
   have l1 := Rep.lay hx f.2.1
   have l2 := RepL.lay r f.2.2
   rcases Rep.dp s hx with z | d1
   ·exact (z l1).elim
   rcases RepL.dp s r with z | d2
   ·exact (z l2).elim
   refine .inr ⟨p, ps, d1, ?_, l1, l2, f.1, q⟩
   rcases hs with hs | hs
   ·exact .inl (.lst hs d2)
   ·exact .inr (.tup hs d2)
  ·cases e
def Hit (K : PySem.W.Frag) (Z : Hp) : Option P → Option V → Prop
 | some q, o => ∃ v, o = some v ∧ Rep K Z v q
 | none, o => o = none
theorem repK_get (k : Key) : ∀ {kvs : List (Key × V)} {ps : List (P × P)}, RepK K Z kvs ps → (match (ps.find? fun kv => decide (keyOf kv.1 = some k)).map (·.2) with
  | some p => ∃ v, valV kvs k = some v ∧ Rep K Z v p
  | none => valV kvs k = none)
 | _, _, .nil => rfl
 | _, _, .cons (k := k0) (v := v) ko hv r => by
  by_cases e : k0 = k
  ·subst e
   simp only [List.find?_cons, keyOf_ofKey, decide_true, Option.map_some]
   exact ⟨v, valV_pos rfl, hv⟩
  ·have e1 : decide (keyOf (ofKey k0) = some k) = false := by rw [keyOf_ofKey]; simpa using e
   simp only [List.find?_cons, e1]
   rw [valV_neg (by exact e)]
   exact repK_get k r
theorem repT_get (k : List Key) : ∀ {kvs : List (List Key × V)} {ps : List (P × P)}, RepT K Z kvs ps → (match (ps.find? fun kv => decide (keysOf kv.1 = some k)).map (·.2) with
  | some p => ∃ v, valV kvs k = some v ∧ Rep K Z v p
  | none => valV kvs k = none)
 | _, _, .nil => rfl
 | _, _, .cons (k := k0) (v := v) ko hv r => by
  by_cases e : k0 = k
  ·subst e
   simp only [List.find?_cons, keysOf_ofKeys, decide_true, Option.map_some]
   exact ⟨v, valV_pos rfl, hv⟩
  ·have e1 : decide (keysOf (ofKeys k0) = some k) = false := by rw [keysOf_ofKeys]; simpa using e
   simp only [List.find?_cons, e1]
   rw [valV_neg (by exact e)]
   exact repT_get k r
theorem repK_head {kvs : List (Key × V)} {ps : List (P × P)} (h : RepK K Z kvs ps) : ∀ q r, ps ≠ (PyData.none, q) :: r := by
 intro q r e
 cases h with
 | nil => cases e
 | cons ko hv r =>
  injection e with e1 e2
  injection e1 with e1 e3
  rename_i k _ _ _ _
  cases k <;> cases e1
theorem getF_ok (s : Sub Z H) {kvs : List (P × P)} {p : P} {r : Option P} (h : Rep K Z x (.dict kvs)) (hk : Rep K Z y p) (e : getF kvs p = some r) :
  ∃ a o, x = .ref a ∧ DG K H a y o ∧ Hit K Z r o := by
 cases h with
 | @dk a o kvs0 ps hz r1 =>
  have e2 : (match keyOf p with
   | some k => some ((kvs.find? fun kv => decide (keyOf kv.1 = some k)).map (·.2))
   | none => none) = some r := by
   unfold getF at e
   split at e
   ·exact absurd rfl (repK_head r1 _ _)
   ·exact e
  split at e2
  ·rename_i k ek
   cases e2
   obtain ⟨ey, _, _⟩ := keyOf_v ek hk
   refine ⟨a, valV kvs0 k, rfl, .inl ⟨kvs0, k, .inr ⟨o, s _ _ hz⟩, ey, rfl⟩, ?_⟩
   have h7 := repK_get k r1
   revert h7
   cases (kvs.find? fun kv => decide (keyOf kv.1 = some k)).map (·.2) <;> exact id
  ·cases e2
 | @dt a o kvs0 ps hz r1 =>
  unfold getF at e
  split at e
  ·rename_i r2 e3
   injection e3 with e4 e5
   subst e5
   split at e
   ·rename_i ks ek
    cases e
    obtain ⟨b, ey, hb, _, _⟩ := keysOf_v ek hk
    refine ⟨a, valV kvs0 ks, rfl, .inr (.inl ⟨kvs0, ks, b, .inr ⟨o, s _ _ hz⟩, ey, sqT_sub s hb, rfl⟩), ?_⟩
    have h7 := repT_get ks r1
    revert h7
    cases (ps.find? fun kv => decide (keysOf kv.1 = some ks)).map (·.2) <;> exact id
   ·cases e
  ·rename_i h9
   exact absurd rfl (h9 _ _)
theorem dRel_hit {vs : List (Key × V)} {ps : List (Key × P)} (r : DRel K Z vs ps) (k : Key) : Hit K Z (getA ps k) (valV vs k) := by
 have h := dRel_get k r
 revert h
 cases getA ps k <;> exact id
theorem tRel_hit {vs : List (List Key × V)} {ps : List (List Key × P)} (r : TRel K Z vs ps) (k : List Key) : Hit K Z (getA ps k) (valV vs k) := by
 have h := tRel_get k r
 revert h
 cases getA ps k <;> exact id
theorem Hit.some_eq {r : Option P} {o : Option V} (h : Hit K Z r o) : o.isSome = r.isSome := by
 cases r with
 | none => cases (show o = none from h); rfl
 | some q => obtain ⟨v, rfl, _⟩ := (show ∃ v, o = some v ∧ Rep K Z v q from h); rfl
theorem ownN_some {ms : List (Key × M)} {vs : List (Key × V)} {G : List Addr} (r : OwnN K Z H ms vs G) (k : Key) : (valV vs k).isSome = (getA ms k).isSome := by
 have h := ownN_get k r
 revert h
 cases getA ms k with
 | none => intro h; rw [h]; rfl
 | some m => rintro ⟨v, _, h, _⟩; rw [h]; rfl
theorem View.imm {p : P} (h : View K Z H (.v p) x) : Rep K Z x p := by cases h; assumption
mutual
theorem nkV_v {K : PySem.W.Frag} {Z : Hp} : ∀ {p : P} {k : NK} {y : V}, nkV p = some k → Rep K Z y p → NkV K Z k y ∧ p = nkP k
 | .none, k, _, e, h => by
  cases h
  simp only [nkV] at e
  cases e
  exact ⟨.non, by simp [NestedKey.data]⟩
 | .int i, k, _, e, h => by
  cases h
  simp only [nkV] at e
  cases e
  exact ⟨.num i, by simp [NestedKey.data]⟩
 | .str z, k, _, e, h => by
  cases h
  simp only [nkV] at e
  cases e
  exact ⟨.text z (by assumption) (by assumption), by simp [NestedKey.data]⟩
 | .tuple ps, k, _, e, h => by
  cases h with
  | tup h1 r =>
   simp only [nkV] at e
   obtain ⟨ks, e1, e2⟩ := Option.map_eq_some_iff.mp e
   subst e2
   obtain ⟨g1, g2⟩ := nkL_v e1 r
   exact ⟨.tup h1 g1, by rw [g2]; simp [NestedKey.data]⟩
 | .bool _, k, _, e, _ => by simp [nkV] at e
 | .list _, k, _, e, _ => by simp [nkV] at e
 | .dict _, k, _, e, _ => by simp [nkV] at e
theorem nkL_v {K : PySem.W.Frag} {Z : Hp} : ∀ {ps : List P} {ks : List NK} {vs : List V}, nkL ps = some ks → RepL K Z vs ps → NkVs K Z ks vs ∧ ps = NestedKey.datas ks
 | [], ks, _, e, .nil => by
  simp only [nkL] at e
  cases e
  exact ⟨.nil, by simp [NestedKey.datas]⟩
 | p :: ps, ks, _, e, .cons h r => by
  unfold nkL at e
  split at e
  ·rename_i k ek
   split at e
   ·rename_i ks2 ek2
    cases e
    obtain ⟨h1, h2⟩ := nkV_v ek h
    obtain ⟨g1, g2⟩ := nkL_v ek2 r
    exact ⟨.cons h1 g1, by rw [h2, g2]; simp [NestedKey.datas]⟩
   ·cases e
  ·cases e
end
theorem nkOf_v {p : P} {k : NK} {y : V} (e : nkOf p = some k) (h : Rep K Z y p) : ∃ b, y = .ref b ∧ NkAt K Z k b ∧ p = nkP k := by
 unfold nkOf at e
 split at e
 ·rename_i ps
  split at e
  ·rename_i ks ek
   split at e
   ·rename_i hd
    cases e
    have h2 : nkV (.tuple ps) = some (.tup ks) := by simp only [nkV, ek, Option.map_some]
    obtain ⟨g1, g2⟩ := nkV_v h2 h
    cases h with
    | tup h1 r => exact ⟨_, rfl, ⟨g1, hd⟩, g2⟩
   ·cases e
  ·cases e
 ·cases e
theorem uRel_at (s : Sub Z H) {vs : List (NK × Addr × V)} {ps : List (NK × P)} (r : URel K Z vs ps) : KeysAt K H vs := by
 induction r with
 | nil => intro x h; cases h
 | cons h t ih =>
  intro x hx
  rcases List.mem_cons.mp hx with e | e
  ·subst e; exact h.2.1.sub s
  ·exact ih x e
theorem uRel_any {vs : List (NK × Addr × V)} {ps : List (NK × P)} (r : URel K Z vs ps) (k : NK) : (vs.any fun x => decide (x.1 = k)) = (getA ps k).isSome := by
 induction r with
 | nil => rfl
 | @cons x y xs ys h t ih =>
  obtain ⟨h1, _⟩ := h
  obtain ⟨yk, yp⟩ := y
  simp only at h1
  subst h1
  by_cases e : x.1 = k
  ·have e1 : getA ((x.1, yp) :: ys) k = some yp := by simp [getA, List.find?_cons, e]
   rw [e1, List.any_cons]
   simp [e]
  ·have e1 : getA ((x.1, yp) :: ys) k = getA ys k := by simp [getA, List.find?_cons, e]
   rw [e1, List.any_cons, ← ih]
   simp [e]
theorem uRel_hit {vs : List (NK × Addr × V)} {ps : List (NK × P)} (r : URel K Z vs ps) (k : NK) : Hit K Z (getA ps k) (valU vs k) := by
 induction r with
 | nil => rfl
 | @cons x y xs ys h t ih =>
  obtain ⟨h1, _, h2⟩ := h
  obtain ⟨yk, yp⟩ := y
  simp only at h1 h2
  subst h1
  by_cases e : x.1 = k
  ·have e1 : getA ((x.1, yp) :: ys) k = some yp := by simp [getA, List.find?_cons, e]
   have e2 : valU (x :: xs) k = some x.2.2 := by simp [valU, List.find?_cons, e]
   rw [e1, e2]
   exact ⟨_, rfl, h2⟩
  ·have e1 : getA ((x.1, yp) :: ys) k = getA ys k := by simp [getA, List.find?_cons, e]
   have e2 : valU (x :: xs) k = valU xs k := by simp [valU, List.find?_cons, e]
   rw [e1, e2]
   exact ih
theorem inM_ok {neg c : Bool} (s : Sub Z H) (ha : View K Z H (vw a) x) (hb : View K Z H (vw b) y) (e : inM a b = some c) (q : Q (.bl (if neg then !c else c)) H) :
  rIn K neg x y H Q ∨ (if neg then rNsg x y H Q else rSg x y H Q) ∨ (if neg then rDnin K x y H Q else rDin K x y H Q) ∨ rInDp K neg x y H Q ∨ rInU K neg x y H Q := by
 have din : ∀ {p : Addr} {o : Option V}, y = .ref p → DG K H p x o → o.isSome = c → (if neg then rDnin K x y H Q else rDin K x y H Q) := by
  intro p o ey g ec
  subst ec
  cases neg
  ·exact ⟨p, o, ey, g, q⟩
  ·exact ⟨p, o, ey, g, q⟩
 have iq : rIn K neg x y H Q ∨ rInDp K neg x y H Q → rIn K neg x y H Q ∨ (if neg then rNsg x y H Q else rSg x y H Q) ∨ (if neg then rDnin K x y H Q else rDin K x y H Q) ∨ rInDp K neg x y H Q ∨ rInU K neg x y H Q := fun h => h.elim .inl fun h => .inr (.inr (.inr (.inl h)))
 unfold inM at e
 split at e <;> rename_i e1 e2
 ·rw [e1] at ha; rw [e2] at hb
  obtain ⟨p, vs, ey, h1, r⟩ := hb.lstl
  exact iq (inSeq_ok s ha.imm ⟨p, vs, ey, .inl (SqL.of h1), r⟩ e q)
 ·rw [e1] at ha; rw [e2] at hb
  obtain ⟨p, vs, ey, h1, r⟩ := hb.lstv s
  exact iq (inSeq_ok s ha.imm ⟨p, vs, ey, .inl (SqL.of h1), r⟩ e q)
 ·rw [e1] at ha; rw [e2] at hb
  obtain ⟨p, vs, ey, h1, r⟩ := hb.tup
  exact iq (inSeq_ok s ha.imm ⟨p, vs, ey, .inr (sqT_sub s h1.sq), r⟩ e q)
 ·rw [e1] at ha; rw [e2] at hb
  obtain ⟨rfl, k1, k2⟩ := ha.str
  obtain ⟨rfl, k3, k4⟩ := hb.str
  rename_i w z
  split at e
  ·rename_i c1
   cases e
   have ew : w = ⟨#[w.cps.getD 0 0]⟩ := by
    have h1 : w.cps.size = 1 := c1
    cases w with
    | mk arr =>
     have : arr = #[arr.getD 0 0] := by
      apply Array.ext
      ·simpa using h1
      ·intro i h2 h3
       have : i = 0 := by simp at h3; exact h3
       subst this
       simp at h1
       simp [Array.getD, h1]
     exact congrArg _ this
   refine .inr (.inl ?_)
   rw [ew]
   cases neg
   ·exact ⟨_, _, rfl, rfl, q⟩
   ·exact ⟨_, _, rfl, rfl, q⟩
  ·cases e
 ·rw [e1] at ha; rw [e2] at hb
  cases ha.imm
  cases hb with
  | d h r => exact .inr (.inr (.inl (din rfl (.inr (.inr ⟨_, h, rfl, rfl⟩)) (Option.some.inj e))))
 ·rw [e1] at ha; rw [e2] at hb
  cases hb with
  | @d p vs ps h r =>
   split at e
   ·rename_i k ek
    obtain ⟨ey, _, _⟩ := keyOf_v ek ha.imm
    exact .inr (.inr (.inl (din rfl (.inl ⟨_, k, h, ey, rfl⟩) (by rw [(dRel_hit r k).some_eq]; exact Option.some.inj e))))
   ·cases e
 ·rw [e1] at ha; rw [e2] at hb
  cases hb with
  | @n p vs ms G h r =>
   split at e
   ·rename_i k ek
    obtain ⟨ey, _, _⟩ := keyOf_v ek ha.imm
    exact .inr (.inr (.inl (din rfl (.inl ⟨_, k, .inl h, ey, rfl⟩) (by rw [ownN_some r k]; exact Option.some.inj e))))
   ·cases e
 ·rw [e1] at ha; rw [e2] at hb
  obtain ⟨r, er, ec⟩ := Option.map_eq_some_iff.mp e
  obtain ⟨p, o, ey, g, hit⟩ := getF_ok s hb.imm ha.imm er
  exact .inr (.inr (.inl (din ey g (by rw [hit.some_eq]; exact ec))))
 ·rw [e1] at ha; rw [e2] at hb
  cases hb with
  | @t p vs ps h r =>
   split at e
   ·rename_i k ek
    obtain ⟨b, ey, hb2, _, _⟩ := keysOf_v ek ha.imm
    exact .inr (.inr (.inl (din rfl (.inr (.inl ⟨_, k, b, h, ey, sqT_sub s hb2, rfl⟩)) (by rw [(tRel_hit r k).some_eq]; exact Option.some.inj e))))
   ·cases e
 ·rw [e1] at ha; rw [e2] at hb
  split at e
  ·rename_i k ek
   obtain ⟨b, ey, hb2, _⟩ := nkOf_v ek ha.imm
   cases hb with
   | @uo a2 vs ps h r =>
    refine .inr (.inr (.inr (.inr ⟨a2, b, k, vs, ey, hb2.sub s, rfl, h, uRel_at s r, ?_⟩)))
    rw [uRel_any r k, Option.some.inj e]
    exact q
  ·cases e
 ·cases e
theorem isNone_ok : ∀ {a : M}, a ≠ .gone → Own K Z H a x Ga → decide (x = V.non) = isNone a
 | .v p, _, .v h => by cases h <;> rfl
 | _, _, .l _ _ _ => rfl
 | _, _, .d _ _ _ => rfl
 | _, _, .t _ _ _ => rfl
 | _, _, .n _ _ _ _ => rfl
 | _, _, .s _ _ => rfl
 | _, _, .kl _ _ _ => rfl
 | _, _, .kd _ _ _ => rfl
 | _, _, .kt _ _ _ => rfl
 | _, _, .rn _ _ _ => rfl
 | _, _, .uo _ _ _ => rfl
 | _, _, .ku _ _ _ => rfl
 | _, _, .ho _ _ _ _ => rfl
 | _, n, .gone => (n rfl).elim
theorem strsOf_v : ∀ {ps : List P} {bs : List Str} {vs : List V}, strsOf ps = some bs → RepL K Z vs ps → vs = bs.map V.str ∧ ∀ z ∈ bs, PyData.strOk z = true ∧ z.length ≤ sizeLine
 | [], _, _, e, .nil => by cases e; exact ⟨rfl, fun _ h => nomatch h⟩
 | p :: ps, bs, _, e, .cons h r => by
  unfold strsOf at e
  split at e
  ·rename_i h0; cases h0
  ·rename_i b r2 e2
   injection e2 with e3 e4
   subst e3 e4
   obtain ⟨bs2, h1, h2⟩ := Option.map_eq_some_iff.mp e
   subst h2
   cases h
   rename_i k1 k2
   obtain ⟨g1, g2⟩ := strsOf_v h1 r
   rw [g1]
   exact ⟨rfl, fun z hz => (List.mem_cons.mp hz).elim (fun q => q ▸ ⟨k1, k2⟩) (g2 z)⟩
  ·cases e
theorem cmp_ok (op : COp) (s : Sub Z H) (ha : Own K Z H a x Ga) (hb : Own K Z H b y Gb) (hn : op = .isN ∨ op = .notN → b = .v .none) (e : cmpM op a b = some m) (q : Ask K Z H m Q) : rCmp K op x y H Q := by
 have bl : ∀ {c : Bool}, m = .v (.bool c) → Q (.bl c) H := fun {c} em => by subst em; exact q.imm s (.bl c)
 cases op with
 | eq =>
  obtain ⟨c, ec, em⟩ := Option.map_eq_some_iff.mp e
  rcases eqM_ok s ha.view hb.view ec with ⟨d, f, h1, h2, h3, h4, h5⟩ | ⟨l, r, vs, h1, h2, h3, h4, h5⟩
  ·exact .inl ⟨d, f, h1, h2, h3, h4, by rw [h5]; exact bl em.symm⟩
  ·exact .inr ⟨l, r, vs, h1, h2, h3, h4, by rw [if_neg Bool.false_ne_true, h5]; exact bl em.symm⟩
 | ne =>
  obtain ⟨c, ec, em⟩ := Option.map_eq_some_iff.mp e
  rcases eqM_ok s ha.view hb.view ec with ⟨d, f, h1, h2, h3, h4, h5⟩ | ⟨l, r, vs, h1, h2, h3, h4, h5⟩
  ·exact .inl ⟨d, f, h1, h2, h3, h4, by rw [h5]; exact bl em.symm⟩
  ·exact .inr ⟨l, r, vs, h1, h2, h3, h4, by rw [if_pos rfl, h5]; exact bl em.symm⟩
 | inn =>
  obtain ⟨c, ec, em⟩ := Option.map_eq_some_iff.mp e
  have h := inM_ok (neg := false) s ha.view hb.view ec (bl em.symm)
  rw [if_neg Bool.false_ne_true, if_neg Bool.false_ne_true] at h
  exact h
 | nin =>
  obtain ⟨c, ec, em⟩ := Option.map_eq_some_iff.mp e
  have h := inM_ok (neg := true) s ha.view hb.view ec (bl em.symm)
  rw [if_pos rfl, if_pos rfl] at h
  exact h
 | isN =>
  have hb2 := hn (.inl rfl)
  subst hb2
  cases hb with
  | v h =>
   have hg : a ≠ .gone := fun z => by subst z; cases e
   have e : some (M.v (.bool (isNone a))) = some m := by cases a <;> first | exact (hg rfl).elim | exact e
   cases h; exact ⟨rfl, by rw [isNone_ok hg ha]; exact bl (Option.some.inj e).symm⟩
 | notN =>
  have hb2 := hn (.inr rfl)
  subst hb2
  cases hb with
  | v h =>
   have hg : a ≠ .gone := fun z => by subst z; cases e
   have e : some (M.v (.bool (!isNone a))) = some m := by cases a <;> first | exact (hg rfl).elim | exact e
   cases h; exact ⟨rfl, by rw [isNone_ok hg ha]; exact bl (Option.some.inj e).symm⟩
 | isB =>
  dsimp only [cmpM] at e
  split at e
  ·cases ha with
   | v h => cases hb with
    | v h2 => cases h; cases h2; exact ⟨_, _, rfl, rfl, bl (Option.some.inj e).symm⟩
  ·cases e
 | notB =>
  dsimp only [cmpM] at e
  split at e
  ·cases ha with
   | v h => cases hb with
    | v h2 => cases h; cases h2; exact ⟨_, _, rfl, rfl, bl (Option.some.inj e).symm⟩
  ·cases e
 | lt =>
  dsimp only [cmpM] at e
  have va := ha.view
  have vb := hb.view
  split at e
  ·rename_i p w e1 e2
   rw [e1] at va; rw [e2] at vb
   obtain ⟨c, ec, em⟩ := Option.map_eq_some_iff.mp e
   unfold ltP at ec
   split at ec
   ·cases va.int; cases vb.int
    exact .inl ⟨_, _, rfl, rfl, bl (em.symm.trans (by rw [← Option.some.inj ec]))⟩
   ·obtain ⟨rfl, _, _⟩ := va.str
    obtain ⟨rfl, _, _⟩ := vb.str
    exact .inr (.inl ⟨_, _, rfl, rfl, bl (em.symm.trans (by rw [← Option.some.inj ec]))⟩)
   ·obtain ⟨p, vs, rfl, h1, r1⟩ := va.tup
    obtain ⟨p2, vs2, rfl, h2, r2⟩ := vb.tup
    split at ec
    ·rename_i s1 s2 e3 e4
     obtain ⟨rfl, _⟩ := strsOf_v e3 r1
     obtain ⟨rfl, _⟩ := strsOf_v e4 r2
     exact .inr (.inr ⟨p, p2, s1, s2, rfl, rfl, sqT_sub s h1.sq, sqT_sub s h2.sq, bl (em.symm.trans (by rw [← Option.some.inj ec]))⟩)
    ·cases ec
   ·cases ec
  ·cases e
 | gt =>
  dsimp only [cmpM] at e
  have va := ha.view
  have vb := hb.view
  split at e
  ·rename_i e1 e2
   rw [e1] at va; rw [e2] at vb
   cases va.int; cases vb.int
   exact ⟨_, _, rfl, rfl, bl (Option.some.inj e).symm⟩
  ·cases e
 | le =>
  dsimp only [cmpM] at e
  have va := ha.view
  have vb := hb.view
  split at e
  ·rename_i e1 e2
   rw [e1] at va; rw [e2] at vb
   cases va.int; cases vb.int
   exact ⟨_, _, rfl, rfl, bl (Option.some.inj e).symm⟩
  ·cases e
 | ge =>
  dsimp only [cmpM] at e
  have va := ha.view
  have vb := hb.view
  split at e
  ·rename_i e1 e2
   rw [e1] at va; rw [e2] at vb
   cases va.int; cases vb.int
   exact ⟨_, _, rfl, rfl, bl (Option.some.inj e).symm⟩
  ·cases e
end
def okV : Option Key → V
 | none => .non
 | some k => kV k
theorem ok_is {P : Program} {w : World} {k : Option Key} {u : Value} (r : RelV (okV k) u) : (noneKind P w).is k u = true := by
 cases k with
 | none =>
  have e : u = Value.none := r
  subst e
  rfl
 | some k => exact kV_is (P := P) (w := w) r
section
variable {X : Cx} {pins : List (Addr × Obj)} {σ : St} {H : Hp} {s : Shared} {a : Addr} {vs : List (Option Key × V)} {k : Option Key} {v : V} {u : Value} {A : Around} {E : Value → Shared → Prop}
theorem nn_get (J : Inv X pins σ H s) (hw : AtW X) (e : H a = some (NoneO a vs)) : ∃ us, KV vs us ∧ us.length ≤ sizeLine ∧ s.heap.DictOf (noneKind X.prog X.w) a us := by
 obtain ⟨us, h1, h2, h3⟩ := (J.hok a _ e).1
 rw [← hw.P, ← hw.w] at h3
 exact ⟨us, h1, h2, h3⟩
theorem nn_new {H' : Hp} {h : Heap} {us : List (Option Key × Value)} (hw : AtW X) (rel : KV vs us) (z : us.length ≤ sizeLine) (dd : h.DictOf (noneKind X.prog X.w) a us) : ObjOk X.prog X.w H' h a (NoneO a vs) := by
 rw [hw.P, hw.w] at dd
 refine ⟨⟨us, rel, z, dd⟩, ?_, fun h1 h2 ⟨us, r, z, d⟩ k => ⟨us, r, z, d.at k⟩⟩
 obtain ⟨o, _, _, ho, _⟩ := dd
 exact ⟨o, ho⟩
theorem nn_item {Q : Value → Shared → Prop} (J : Inv X pins σ H s) (hw : AtW X) (e : H a = some (NoneO a vs)) (ry : RelV (okV k) u) (hv : valV vs k = some v) (h : ∀ w' s', Inv X pins σ H s' → RelV v w' → Q w' s') : wpAny (model X.prog X.w) A (getItem (.ref a) u) Q E s := by
 obtain ⟨us, rel, z, dd⟩ := nn_get J hw e
 have q := rel.val k
 rw [hv] at q
 cases q0 : valueAt us k with
 | none =>
  rw [q0] at q
  exact (show False from q).elim
 | some v0 =>
  rw [q0] at q
  exact wpAny_getItem_of (ok_is ry) dd.mapOf q0 (h _ _ (J.tok _) q)
theorem nn_set {r : Value} {Q : Unit → Shared → Prop} (J : Inv X pins σ H s) (hw : AtW X) (e : H a = some (NoneO a vs)) (hl : vs.length < sizeLine) (ry : RelV (okV k) u) (rv : RelV v r) (h : ∀ s', Inv X pins σ (upd H a (NoneO a (putK vs k v))) s' → Q () s') :
  wpAny (model X.prog X.w) A (setItem (.ref a) u r) Q E s := by
 obtain ⟨us, rel, z, dd⟩ := nn_get J hw e
 refine wpAny_setItem_pairs (hsz := z) (ok_is ry) dd fun h' dd' hs => h _ ?_
 have he : ∃ q, h'.get? a = some q := let ⟨q, _, _, hq, _⟩ := dd'; ⟨q, hq⟩
 have rel2 := rel.put k rv
 refine d_write J (by rw [e]; exact True.intro) hs he (nn_new hw rel2 ?_ dd')
 rw [← rel2.length]
 have := length_putK vs k v
 omega
end
def tDispN (tk tv : TE) : TE := fun σ H Q => ∀ p, H p = none → tk σ (upd H p (NoneO p [])) fun x H1 => tv σ H1 fun y H2 => H2 p = some (NoneO p []) ∧ ∃ k, x = okV k ∧ Q (.ref p) (upd H2 p (NoneO p [(k, y)]))
theorem pe_dispN {X : Cx} {pos : Pos} {ke ve : Expr} {tk tv : TE} (hw : AtW X) (hk : PE X ke tk) (hv : PE X ve tv) : PE X (.Dict [some ke] [ve] pos) (tDispN tk tv) := by
 refine ⟨fun pins s σ H Q I q => ?_⟩
 have hn := I.hok.fresh (Nat.le_refl s.heap.objs.size)
 have I1 := I.laid (a := s.heap.objs.size) (o := NoneO s.heap.objs.size []) (h' := s.heap.push { cls := .type "dict", data := .dict #[] }) (t' := s.toks) (fun _ _ q => Heap.get?_push_of_some _ q) (Nat.le_refl _) (nn_new hw .nil (by rw [sizeLine_eq]; exact Nat.zero_le _) (Heap.DictOf.new s.heap))
 have hp := pps_cons (pos := pos) hk hv pps_nil
 let Q1 : List (V × V) → Hp → Prop := fun ps H2 => match ps with
  | [(x, y)] => H2 s.heap.objs.size = some (NoneO s.heap.objs.size []) ∧ ∃ k, x = okV k ∧ Q (.ref s.heap.objs.size) (upd H2 s.heap.objs.size (NoneO s.heap.objs.size [(k, y)]))
  | _ => False
 refine wpAny_Dict_walk (knd := noneKind X.prog X.w) rfl rfl (by simp) (by simp) (thn (hp.run pins _ σ _ Q1 I1 (q _ hn)) fun ws s2 ⟨ps, H2, I2, rel, q2⟩ => ?_)
 match ps, rel, q2 with
 | [(x, y)], rel, ⟨e, k, ex, q2⟩ =>
  subst ex
  cases rel with
  | @cons _ b _ bs h1 t1 =>
   cases t1
   obtain ⟨b1, b2⟩ := b
   obtain ⟨us, r0, _, dd⟩ := nn_get I2 hw e
   cases r0
   refine ⟨[(k, b2)], ⟨ok_is h1.1, rfl, True.intro⟩, dd, fun h' dd' hs => ⟨.ref s.heap.objs.size, _, ?_, rfl, q2⟩⟩
   have he : ∃ q, h'.get? s.heap.objs.size = some q := let ⟨q, _, _, hq, _⟩ := dd'; ⟨q, hq⟩
   exact d_write I2 (by rw [e]; exact True.intro) hs he (nn_new hw (us := [(k, b2)]) (.cons ⟨rfl, h1.2⟩ .nil) (by rw [sizeLine_eq]; simp) dd')
theorem rkOf_v {K : PySem.W.Frag} {Z : Hp} {p : P} {k : Option Key} {y : V} (e : rkOf p = some (.inl k)) (h : Rep K Z y p) : y = okV k ∧ ∀ k', k = some k' → KeyOk k' := by
 cases h with
 | non => cases e; exact ⟨rfl, fun _ h => by cases h⟩
 | int i => cases e; exact ⟨rfl, fun k' h => by cases h; exact True.intro⟩
 | str x h1 h2 => cases e; exact ⟨rfl, fun k' h => by cases h; exact ⟨h1, h2⟩⟩
 | _ => cases e
theorem nRel_hit {K : PySem.W.Frag} {Z : Hp} {vs : List (Option Key × V)} {ps : List (RK × P)} (r : NRel K Z vs ps) (k : Option Key) : match getA ps (.inl k) with
  | some p => ∃ v, valV vs k = some v ∧ Rep K Z v p
  | none => valV vs k = none := by
 induction r with
 | nil => rfl
 | @cons x y xs ys h t ih =>
  obtain ⟨h1, h2, h3⟩ := h
  obtain ⟨xk, xv⟩ := x
  obtain ⟨yk, yp⟩ := y
  simp only at h1 h3
  subst h1
  by_cases e : xk = k
  ·subst e
   have e1 : getA ((Sum.inl xk, yp) :: ys) (Sum.inl xk : RK) = some yp := by simp [getA, List.find?_cons]
   rw [e1]
   exact ⟨xv, by simp [valV, List.find?_cons], h3⟩
  ·have e1 : getA ((Sum.inl xk, yp) :: ys) (Sum.inl k : RK) = getA ys (Sum.inl k) := by simp [getA, List.find?_cons, e]
   have e2 : valV ((xk, xv) :: xs) k = valV xs k := by simp [valV, List.find?_cons, e]
   rw [e1, e2]
   exact ih
theorem nRel_any {K : PySem.W.Frag} {Z : Hp} (k : Option Key) : ∀ {vs : List (Option Key × V)} {ps : List (RK × P)}, NRel K Z vs ps → (vs.any fun kv => decide (kv.1 = k)) = ps.any fun kv => decide (kv.1 = .inl k)
 | _, _, .nil => rfl
 | _, _, .cons h t => by
  rw [List.any_cons, List.any_cons, nRel_any k t, h.1]
  congr 1
  exact decide_eq_decide.mpr ⟨fun e => by rw [e], fun e => Sum.inl.inj e⟩
theorem nRel_put {K : PySem.W.Frag} {Z : Hp} {vs : List (Option Key × V)} {ps : List (RK × P)} {k : Option Key} {v : V} {p : P} (r : NRel K Z vs ps) (ko : ∀ k', k = some k' → KeyOk k') (h : Rep K Z v p) : NRel K Z (putK vs k v) (putA ps (.inl k) p) := by
 have e := nRel_any k r
 unfold putK putA
 rw [e]
 by_cases c : (ps.any fun kv => decide (kv.1 = (Sum.inl k : RK))) = true
 ·rw [if_pos c, if_pos c]
  clear e c
  induction r with
  | nil => exact .nil
  | @cons x y xs ys h1 _ ih =>
   rw [List.map_cons, List.map_cons]
   refine .cons ?_ ih
   obtain ⟨g1, g2, g3⟩ := h1
   by_cases e : x.1 = k
   ·rw [if_pos e, if_pos (by rw [g1, e])]; exact ⟨g1, g2, h⟩
   ·rw [if_neg e, if_neg fun q => e (Sum.inl.inj (g1.symm.trans q))]; exact ⟨g1, g2, g3⟩
 ·rw [if_neg c, if_neg c]
  exact Paired.snoc r ⟨rfl, ko, h⟩
end Mn
end
section
set_option maxHeartbeats 200000
namespace Mn
open PySem PySem.Spec L2 PyProof.Rows
section
variable {prog : Program} {w : World} {A : Around} {E : Value → Shared → Prop} {s : Shared}
def gthH (h : Heap) (us : List Value) : Heap := (h.push (seqObj "list" #[] 0)).update h.objs.size (Obj.mapSeq (· ++ us.toArray))
theorem gth_tup {t : Addr} {us : List Value} {o : Obj} {n : Nat} {Q : List Value → Shared → Prop} (g1 : s.heap.get? t = some o) (g2 : o.cls = .type "tuple") (g3 : o.data = .seq us.toArray n) (z : us.length ≤ sizeLine) (q : Q us { s with heap := gthH s.heap us }) : wpAny (model prog w) A (collect (.ref t)) Q E s := by
 have e1 : (s.heap.push (seqObj "list" #[] 0)).get? t = some o := Heap.get?_push_of_some _ g1
 have e2 : (s.heap.push (seqObj "list" #[] 0)).get? s.heap.objs.size = some (seqObj "list" #[] 0) := Heap.get?_push_size _ rfl
 have e3 : (Value.type "tuple" == Value.type "tuple") = true := by rfl
 unfold collect
 refine wpAny_bind (wpAny_runValue (codeAny_builtin entry_proto_collect' (show wpAny _ _ (do again (.builtin "list.__iadd__" ⟨[← newList [], .ref t], []⟩)) _ _ s from ?_)))
 refine wpAny_bind (wpAny_newList (wpAny_pure ⟨Code.quiet_builtin _ (by decide +kernel), codeAny_builtin entry_list_iadd' (show wpAny _ _ (Builtin.List.listExtendWith (.ref s.heap.objs.size) (.ref t) (.ref s.heap.objs.size)) _ _ { s with heap := s.heap.push (seqObj "list" #[] 0) } from ?_)⟩))
 unfold Builtin.List.listExtendWith
 refine wpAny_bind (wpAny_typeOf (T := "tuple") ⟨o, e1, g2⟩ ?_)
 rw [if_pos (by rw [e3]; simp)]
 refine wpAny_bind (listItems_at e1 g3 (wpAny_bind (listItems_at (xs := #[]) (n := 0) e2 rfl ?_)))
 rw [if_neg (by simp)]
 refine wpAny_bind (listUpdate_at (xs := #[]) (n := 0) e2 rfl (wpAny_pure ?_) (Nat.zero_le _) (by show (#[] ++ us.toArray).size ≤ sizeLine + 1; simp only [Array.size_append, List.size_toArray, List.length_nil]; omega))
 refine wpAny_bind (wpAny_load (get?_update_seq e2 _) (show wpAny _ _ (pure ((#[] : Array Value) ++ us.toArray).toList) Q E _ from ?_))
 rw [show ((#[] : Array Value) ++ us.toArray).toList = us by simp]
 exact wpAny_pure q
theorem gth_old {h : Heap} {us : List Value} {b : Addr} {o : Obj} (e : h.get? b = some o) : (gthH h us).get? b = some o := by
 unfold gthH
 rw [Heap.get?_update_ne _ _ _ _ (Nat.ne_of_lt (Heap.lt_size e))]
 exact Heap.get?_push_of_some _ e
end
def rSortTp (K : PySem.W.Frag) : List V → Hp → VK → Prop := fun vs H Q => ∃ (a : Addr) (xs : List V), vs = [V.ref a] ∧ SqT K H a xs ∧
  ((∃ ss : List Str, xs = ss.map V.str ∧ ss.length < 64 ∧ ∀ ys p, List.Perm ys ss → PyProof.Rows.sortedS ys = true → H p = none → Q (.ref p) (upd H p (.lst (ys.map V.str)))) ∨
   (∃ ks : List (List Str), Paired (TupS K H) xs ks ∧ ∀ ys p, (ys.zip (TT.sortT ks)).Perm (xs.zip ks) → ys.length = ks.length → H p = none → Q (.ref p) (upd H p (.lst ys))))
theorem cr_sortTp {X : Cx} : CallR X (.builtin "sorted") (rSortTp X.K) := by
 intro pins s σ H vs us Q I r h
 obtain ⟨a, xs, rfl, hs, q⟩ := h
 obtain ⟨its, rv, ⟨o, ho, hc, n, hd⟩, z⟩ := I.tuple hs
 obtain ⟨u, rfl, ru⟩ := vals1 r
 obtain rfl : u = Value.ref a := ru
 have hil : its.length ≤ sizeLine := by rw [← rv.length]; exact z
 have I1 : Inv X pins σ H { s with heap := gthH s.heap its } := I.kept (t' := s.toks) fun b u e => gth_old e
 refine Calls.call_function_entry PyProof.Rows.kind_sorted PyProof.Rows.plain_sorted PyProof.Rows.entry_sorted (PyProof.Rows.args_sorted1 _) ?_
 unfold Builtin.«sorted»
 refine wpAny_bind (m := checkCount "sorted" 1 1 _) (wpAny_pure (wpAny_bind (gth_tup ho hc hd hil (wpAny_bind (wpAny_newList ?_ hil)))))
 generalize hgh : gthH s.heap its = g at I1
 have hoL : (g.push (seqObj "list" its.toArray 0)).get? g.objs.size = some (seqObj "list" its.toArray 0) := Heap.get?_push_size _ rfl
 have oldP : ∀ {out : Array Value} (b : Addr) (u : Obj), g.get? b = some u → (sortedHeap (g.push (seqObj "list" its.toArray 0)) g.objs.size its out).get? b = some u := fun {out} b u e => by
  have hb : b < g.objs.size := Heap.lt_size e
  rw [PyProof.Rows.sortedHeap_old (Nat.ne_of_lt hb) (by rw [size_push']; exact Nat.lt_succ_of_lt hb)]
  exact Heap.get?_push_of_some _ e
 show wpAny _ _ _ _ _ { s with heap := g.push (seqObj "list" its.toArray 0) }
 rcases q with ⟨ss, rfl, h64, q⟩ | ⟨ks, hx, q⟩
 ·have hS := rv.strs
  have hl : its.length = ss.length := by
   have := rv.length
   rw [List.length_map] at this
   exact this.symm
  refine wpAny_bind (wpAny_holding (wpAny_call_entry PyProof.Rows.slot_list_sort ⟨_, hoL, rfl⟩ PyProof.Rows.entry_list_sort
   (list_sort_treeK strKind_oneLt (s := { s with heap := g.push (seqObj "list" its.toArray 0) }) hoL hS.keysOf (fun v₁ v₂ rest e => keyKind_strs (by rw [← e]; exact hS)) (by rw [hl]; exact h64) fun st hp hs2 => ⟨_, rfl, ?_⟩) (PyProof.Rows.args_list_sort _)))
  obtain ⟨ys, g1, g2, g3⟩ := sorted_out_str hS hp hs2
  obtain ⟨e', he'⟩ := PyProof.Rows.sortedHeap_at (vs := its) (out := (arrOf st).map (·.2)) hoL
  have hlen : (ys.map V.str).length ≤ sizeLine := by
   rw [List.length_map, g2.length_eq, ← hl]
   exact hil
  exact wpAny_pure ⟨_, rfl, .ref g.objs.size, upd H g.objs.size (.lst (ys.map V.str)), I1.laid (t' := s.toks) oldP (Nat.le_refl _)
   (show ObjOk X.prog X.w _ _ _ (.lst (ys.map V.str)) from ⟨hlen, ((arrOf st).map (·.2)).toList, e', vals_of_strs g1, by rw [Array.toArray_toList]; exact he'⟩), rfl, q ys _ g2 g3 (I1.hok.fresh (Nat.le_refl _))⟩
 ·obtain ⟨k1, k2, k3⟩ := tup_keys I1 hx rv
  refine wpAny_bind (wpAny_holding (wpAny_call_entry PyProof.Rows.slot_list_sort ⟨_, hoL, rfl⟩ PyProof.Rows.entry_list_sort
   (SrtO.list_sort_ord (s := { s with heap := g.push (seqObj "list" its.toArray 0) }) (TT.swo_map (TT.keyOf g)) hoL hil (fun h2 => TT.tt_sortableO (s := { s with heap := g.push (seqObj "list" its.toArray 0) }) (k := TT.keyOf g) (by omega) (fun v hm => (k3 v hm).1.keeps fun b o e _ => Heap.get?_push_of_some _ e) fun o e => ?_) fun out h1 h2 => ⟨_, rfl, ?_⟩)
   (PyProof.Rows.args_list_sort _)))
  ·have e' : some o = some (seqObj "list" its.toArray 0) := e.symm.trans hoL
   cases e'
   exact fun c => absurd (Value.type.inj c) (by decide)
  ·obtain ⟨hp, hlen⟩ := sort_pairs k1 k2 h1 h2.perm
   have h3 : ∀ u ∈ out, ∃ a, u = Value.ref a := fun u hu => (k3 u (h2.perm.mem_iff.mp hu)).2
   obtain ⟨e', he'⟩ := PyProof.Rows.sortedHeap_at (vs := its) (out := out.toArray) hoL
   have hxl : xs.length = ks.length := Paired.length hx
   exact wpAny_pure ⟨_, rfl, .ref g.objs.size, upd H g.objs.size (.lst (out.map backV)), I1.laid (t' := s.toks) oldP (Nat.le_refl _)
    (show ObjOk X.prog X.w _ _ _ (.lst (out.map backV)) from ⟨by rw [hlen, ← hxl]; exact z, out, e', vals_back h3, he'⟩), rfl, q _ _ hp hlen (I1.hok.fresh (Nat.le_refl _))⟩
theorem countP_eqU {x : V} : ∀ {xs : List V} {us : List Value}, Vals xs us → xs.all flatV = true → us.countP (eqU x) = xs.countP fun y => eqV y x
 | _, _, .nil, _ => rfl
 | y :: xs, u :: us, .cons r t, f => by
  rw [List.all_cons, Bool.and_eq_true] at f
  rw [List.countP_cons, List.countP_cons, eqU_of r f.1, countP_eqU t f.2]
def rCntF (K : PySem.W.Frag) : V → List V → Hp → VK → Prop := fun x xs H Q => ∃ (a : Addr) (ys : List V) (y : V), x = V.ref a ∧ xs = [y] ∧ SqL K H a ys ∧ flatV y = true ∧ ys.all flatV = true ∧ Q (.int ((ys.countP fun z => eqV z y : Nat) : Int)) H
theorem mt_cntF {X : Cx} : MtR X "list.count" (rCntF X.K) := by
 intro pins s σ H x xs v us Q I rx rxs h
 obtain ⟨a, ys, y, rfl, rfl, hs, fy, fys, q⟩ := h
 cases rx
 obtain ⟨uy, rfl, ry⟩ := rxs.one
 obtain ⟨its, rv, ⟨⟨cls, dd, data, sl⟩, n, ho, hc, hdn, hd⟩, hlen⟩ := I.list hs
 simp only at hc hd
 subst hc hd
 refine call_meets PySem.F.slot_list_count ⟨_, ho, rfl⟩ PySem.F.entry_list_count (PySem.F.args_list_count_2 _ _) (SeqAt.list_countAt a its.toArray n dd sl uy (eqU y)) ⟨ho, fun u' hu' => mem_eqAt ry fy rv fys u' (by simpa using hu'), ?_⟩
 have ec : its.toArray.toList.countP (eqU y) = ys.countP fun z => eqV z y := countP_eqU rv fys
 refine ⟨.int ((ys.countP fun z => eqV z y : Nat) : Int), H, I.tok _, ⟨s.toks, ?_⟩, q⟩
 rw [← ec]
end Mn
end
section
set_option maxHeartbeats 200000
namespace Mn
open PySem L2 PySem.Spec
open PyProof.Rows (tail_any)
variable [WW]
def rSubD (K : PySem.W.Frag) : R2 := fun x y H Q => ∃ a v, x = .ref a ∧ DG K H a y (some v) ∧ Q v H
def rSubN : R2 := fun x y H Q => ∃ (a : Addr) (vs : List (Option Key × V)) (k : Option Key) (v : V), x = .ref a ∧ H a = some (NoneO a vs) ∧ y = okV k ∧ valV vs k = some v ∧ Q v H
def rSubU (K : PySem.W.Frag) : R2 := fun x y H Q => ∃ (a b : Addr) (k : NK) (vs : List (NK × Addr × V)) (v : V), x = .ref a ∧ y = .ref b ∧ NkAt K H k b ∧ Rd H a (TupO a vs) ∧ KeysAt K H vs ∧ valU vs k = some v ∧ Q v H
def rSub (K : PySem.W.Frag) : R2 := fun x y H Q => rIx K x y H Q ∨ (rSubD K x y H Q ∨ (rSubN x y H Q ∨ rSubU K x y H Q))
theorem sub_R {X : Cx} (hu : X.A.units + 64 < cLine) (hw : AtW X) : IxR X (rSub X.K) := by
 refine ix_seq.or fun value slice pins s σ H x y v u Q J rx ry h hs => ?_
 rcases h with h | ⟨a, vs, k, w, rfl, e, rfl, hv, q⟩ | ⟨a, b, k, vs, w, rfl, rfl, hb, e, hk, hv, q⟩
 case inr.inr =>
  cases rx
  cases ry
  obtain ⟨xs, _, _, _, o, _, _, e1, ex, _⟩ := uu_get J hw e hk
  exact tail_any ⟨o, e1, ex.1⟩ PySem.F.slot_dict_getitem.lookup (uu_item (by omega) J hw e hk hb hv fun w' s' J' r' => ⟨w, H, J', r', q⟩) hs
 case inr.inl =>
  cases rx
  obtain ⟨us, _, _, dd⟩ := nn_get J hw e
  exact tail_any dd.typeIs PySem.F.slot_dict_getitem.lookup (nn_item J hw e ry hv fun w' s' J' r' => ⟨w, H, J', r', q⟩) hs
 obtain ⟨a, w, rfl, g, q⟩ := h
 cases rx
 obtain ⟨ob, h1, h2⟩ := dg_dict J g
 exact tail_any ⟨ob, h1, h2.1⟩ PySem.F.slot_dict_getitem.lookup (dg_item (by omega) J g ry fun w' s' J' r' => ⟨w, H, J', r', q⟩) hs
section
variable {K : PySem.W.Frag} {Z H : Hp} {a b m : M} {x y : V} {Ga Gb : List Addr} {Q : VK}
theorem atI_rep {vs : List V} {ps : List P} {i : Int} {p : P} (r : RepL K Z vs ps) (e : atI ps i = some p) : ∃ v, atI vs i = some v ∧ Rep K Z v p := by
 unfold atI at e ⊢
 rw [r.length]
 obtain ⟨j, h1, h2⟩ := Option.bind_eq_some_iff.mp e
 obtain ⟨v, h3, h4⟩ := r.get h2
 exact ⟨v, by rw [h1]; exact h3, h4⟩
theorem sub_ok (s : Sub Z H) (ha : Own K Z H a x Ga) (hb : Own K Z H b y Gb) (e : subM a b = some m) (q : Ask K Z H m Q) : rSub K x y H Q := by
 have va := ha.view
 have vb := hb.view
 unfold subM at e
 split at e <;> rename_i e1 e2
 ·rw [e1] at va; rw [e2] at vb; cases vb.int
  obtain ⟨p, h1, h2⟩ := Option.map_eq_some_iff.mp e
  subst h2
  obtain ⟨c, vs, rfl, h3, r⟩ := va.lstl
  obtain ⟨v, h4, h5⟩ := atI_rep r h1
  exact .inl (.inl ⟨c, vs, _, v, rfl, rfl, SqL.of h3, h4, q.imm s h5⟩)
 ·rw [e1] at va; rw [e2] at vb; cases vb.int
  obtain ⟨p, h1, h2⟩ := Option.map_eq_some_iff.mp e
  subst h2
  obtain ⟨c, vs, rfl, h3, r⟩ := va.lstv s
  obtain ⟨v, h4, h5⟩ := atI_rep r h1
  exact .inl (.inl ⟨c, vs, _, v, rfl, rfl, SqL.of h3, h4, q.imm s h5⟩)
 ·rw [e1] at va; rw [e2] at vb; cases vb.int
  obtain ⟨p, h1, h2⟩ := Option.map_eq_some_iff.mp e
  subst h2
  obtain ⟨c, vs, rfl, h3, r⟩ := va.tup
  obtain ⟨v, h4, h5⟩ := atI_rep r h1
  exact .inl (.inr (.inl ⟨c, vs, _, v, rfl, rfl, sqT_sub s h3.sq, h4, q.imm s h5⟩))
 ·rw [e1] at va; rw [e2] at vb; cases vb.int
  obtain ⟨c, h1, h2⟩ := Option.map_eq_some_iff.mp e
  subst h2
  obtain ⟨rfl, k1, k2⟩ := va.str
  refine .inl (.inr (.inr ⟨_, _, c, rfl, rfl, k2, h1, q.imm s ?_⟩))
  obtain ⟨j, h3, h4⟩ := Option.bind_eq_some_iff.mp (show (ixN _ _).bind _ = some c from h1)
  have hm := List.mem_of_getElem? h4
  refine rep_sub k1 k2 (fun c' hc => ?_) ?_
  ·simp at hc; subst hc; exact hm
  ·have := List.length_pos_of_mem hm
   rw [Array.length_toList] at this
   exact this
 ·rw [e1] at va; rw [e2] at vb
  split at e
  ·rename_i r er
   cases e
   obtain ⟨c, o, rfl, g, hit⟩ := getF_ok s va.imm vb.imm er
   obtain ⟨v, rfl, hv⟩ := (show ∃ v, o = some v ∧ Rep K Z v _ from hit)
   exact .inr (.inl ⟨c, v, rfl, g, q.imm s hv⟩)
  ·cases e
 ·rename_i ns i
  rw [e1] at va; rw [e2] at vb; cases vb.int
  obtain ⟨n, h1, h2⟩ := Option.map_eq_some_iff.mp e
  subst h2
  cases va with
  | s h3 _ =>
   refine .inl (.inl ⟨_, ns.map V.int, _, .int n, rfl, rfl, sqL_sub s h3, ?_, q.imm s (.int n)⟩)
   unfold atI at h1 ⊢
   rw [List.length_map]
   obtain ⟨j, h4, h5⟩ := Option.bind_eq_some_iff.mp h1
   rw [h4]
   show (ns.map V.int)[j]? = some (V.int n)
   rw [List.getElem?_map, h5]; rfl
 ·rw [e1] at va; rw [e2] at vb
  cases va with
  | @d c vs ps h r =>
   split at e
   ·rename_i k ek
    obtain ⟨ey, _, _⟩ := keyOf_v ek vb.imm
    obtain ⟨p, h1, h2⟩ := Option.map_eq_some_iff.mp e
    subst h2
    have hit := dRel_hit r k
    rw [h1] at hit
    obtain ⟨v, h3, h4⟩ := (show ∃ v, valV vs k = some v ∧ Rep K Z v p from hit)
    exact .inr (.inl ⟨c, v, rfl, .inl ⟨vs, k, h, ey, h3.symm⟩, q.imm s h4⟩)
   ·cases e
 ·rw [e1] at va; rw [e2] at vb
  cases va with
  | @t c vs ps h r =>
   split at e
   ·rename_i k ek
    obtain ⟨b2, ey, hb2, _, _⟩ := keysOf_v ek vb.imm
    obtain ⟨p, h1, h2⟩ := Option.map_eq_some_iff.mp e
    subst h2
    have hit := tRel_hit r k
    rw [h1] at hit
    obtain ⟨v, h3, h4⟩ := (show ∃ v, valV vs k = some v ∧ Rep K Z v p from hit)
    exact .inr (.inl ⟨c, v, rfl, .inr (.inl ⟨vs, k, b2, h, ey, sqT_sub s hb2, h3.symm⟩), q.imm s h4⟩)
   ·cases e
 ·rw [e1] at va; rw [e2] at vb
  cases va with
  | @n c vs ms G h r =>
   split at e
   ·rename_i k ek
    obtain ⟨ey, _, _⟩ := keyOf_v ek vb.imm
    have hit := ownN_get k r
    split at e
    ·rename_i p ep
     cases e
     rw [ep] at hit
     obtain ⟨v, G', h3, h4, _⟩ := hit
     cases h4 with
     | v h4 => exact .inr (.inl ⟨c, v, rfl, .inl ⟨vs, k, .inl h, ey, h3.symm⟩, q.imm s h4⟩)
    ·cases e
   ·cases e
 ·rw [e1] at va; rw [e2] at vb
  split at e
  ·rename_i k ek
   split at e
   ·rename_i hk
    obtain ⟨p, h1, h2⟩ := Option.map_eq_some_iff.mp e
    subst h2
    cases k with
    | inr k => cases hk
    | inl k =>
     cases va with
     | @rn c vs ps h r =>
      obtain ⟨ey, _⟩ := rkOf_v ek vb.imm
      have hit := nRel_hit r k
      rw [h1] at hit
      obtain ⟨v, h3, h4⟩ := (show ∃ v, valV vs k = some v ∧ Rep K Z v p from hit)
      exact .inr (.inr (.inl ⟨c, vs, k, v, rfl, h, ey, h3, q.imm s h4⟩))
   ·cases e
  ·cases e
 ·rw [e1] at va; rw [e2] at vb
  split at e
  ·rename_i k ek
   obtain ⟨b2, ey, hb2, _⟩ := nkOf_v ek vb.imm
   obtain ⟨p, h1, h2⟩ := Option.map_eq_some_iff.mp e
   subst h2
   cases va with
   | @uo c vs ps h r =>
    have hit := uRel_hit r k
    rw [h1] at hit
    obtain ⟨v, h3, h4⟩ := (show ∃ v, valU vs k = some v ∧ Rep K Z v p from hit)
    exact .inr (.inr (.inr ⟨c, b2, k, vs, v, rfl, ey, hb2.sub s, h, uRel_at s r, h3, q.imm s h4⟩))
  ·cases e
 ·cases e
def rSlc (K : PySem.W.Frag) : V → Option Int → Option Int → Hp → VK → Prop := fun x lo hi H Q => rSlL K x lo hi H Q ∨ rSlD K x lo hi H Q ∨ rSlS x lo hi H Q
theorem slc_R {X : Cx} : SlR X (rSlc X.K) := sl_list.or (sl_tupD.or sl_str)
theorem cut_rep {vs : List V} {ps : List P} (r : RepL K Z vs ps) (lo hi : Option Int) : RepL K Z (cutV vs lo hi) (cut ps lo hi) := by
 unfold cutV cut
 rw [r.length]
 exact (r.drop _).take _
theorem cut_all {α : Type} (ps : List α) {lo hi : Option Int} (h : HT.sIx ps.length 0 lo = 0 ∧ HT.sIx ps.length ps.length hi = ps.length) : cut ps lo hi = ps := by
 unfold cut
 rw [h.1, h.2]
 simp
theorem slc_ok {lo hi : Option Int} (s : Sub Z H) (ha : Own K Z H a x Ga) (e : slcM a lo hi = some m) (q : Ask K Z H m Q) : rSlc K x lo hi H Q := by
 have va := ha.view
 unfold slcM at e
 split at e <;> rename_i e1
 ·rw [e1] at va; cases e
  obtain ⟨c, vs, rfl, h3, r⟩ := va.lstl
  exact .inl ⟨c, vs, rfl, SqL.of h3, q.lst s (cut_rep r lo hi)⟩
 ·rw [e1] at va; cases e
  obtain ⟨c, vs, rfl, h3, r⟩ := va.lstv s
  exact .inl ⟨c, vs, rfl, SqL.of h3, q.lst s (cut_rep r lo hi)⟩
 ·rw [e1] at va; cases e
  obtain ⟨c, vs, rfl, h3, r⟩ := va.tup
  refine .inr (.inl ⟨c, vs, rfl, sqT_sub s h3.sq, fun w => ?_, fun _ => q.tup s (cut_rep r lo hi)⟩)
  rw [r.length] at w
  rw [cut_all _ w] at q
  exact q.imm s (.tup h3 r)
 ·rw [e1] at va; cases e
  obtain ⟨rfl, k1, k2⟩ := va.str
  refine .inr (.inr ⟨_, rfl, k2, q.imm s (rep_sub k1 k2 (fun c hc => ?_) (cutS_length _ _ _))⟩)
  unfold cutS at hc
  exact List.mem_of_mem_drop (List.mem_of_mem_take (by simpa using hc))
 ·cases e
theorem lst_any {ps : List P} (s : Sub Z H) (ha : Own K Z H a x Ga) (e : listOf a = some ps) : ∃ c vs, x = .ref c ∧ H c = some (.lst vs) ∧ RepL K Z vs ps := by
 have va := ha.view
 unfold listOf at e
 split at e <;> rename_i e1
 ·rw [e1] at va; cases e; exact va.lstl
 ·rw [e1] at va; cases e; exact va.lstv s
 ·cases e
theorem seq_any {ps : List P} (s : Sub Z H) (ha : Own K Z H a x Ga) (e : seqOf a = some ps) : ∃ c vs, x = .ref c ∧ (H c = some (.lst vs) ∨ (SqT K H c vs ∧ Rep K Z x (.tuple ps))) ∧ RepL K Z vs ps := by
 have va := ha.view
 unfold seqOf at e
 split at e <;> rename_i e1
 ·rw [e1] at va; cases e
  obtain ⟨c, vs, h1, h2, h3⟩ := va.lstl
  exact ⟨c, vs, h1, .inl h2, h3⟩
 ·rw [e1] at va; cases e
  obtain ⟨c, vs, h1, h2, h3⟩ := va.lstv s
  exact ⟨c, vs, h1, .inl h2, h3⟩
 ·rw [e1] at va; cases e
  obtain ⟨c, vs, rfl, h2, h3⟩ := va.tup
  exact ⟨c, vs, rfl, .inr ⟨sqT_sub s h2.sq, .tup h2 h3⟩, h3⟩
 ·cases e
inductive OwnL (K : PySem.W.Frag) (Z H : Hp) : List M → List V → Prop
 | nil : OwnL K Z H [] []
 | cons {m : M} {v : V} {G : List Addr} {ms : List M} {vs : List V} : Own K Z H m v G → OwnL K Z H ms vs → OwnL K Z H (m :: ms) (v :: vs)
def rLenU (K : PySem.W.Frag) : List V → Hp → VK → Prop := fun xs H Q => ∃ (a : Addr) (vs : List (NK × Addr × V)), xs = [.ref a] ∧ Rd H a (TupO a vs) ∧ KeysAt K H vs ∧ Q (.int vs.length) H
def rSortD : List V → Hp → VK → Prop := fun xs H Q => ∃ (a : Addr) (kvs : List (Key × V)) (ks : List Str), xs = [.ref a] ∧ Rd H a (.dK kvs) ∧ kvs.map (·.1) = ks.map Sum.inr ∧ ks.length < 64 ∧
 ∀ ys p, List.Perm ys ks → PyProof.Rows.sortedS ys = true → H p = none → Q (.ref p) (upd H p (.lst (ys.map V.str)))
def rBi (K : PySem.W.Frag) (b : BI) : List V → Hp → VK → Prop := fun vs H Q => match b with
 | .len => (∃ p ys, vs = [.ref p] ∧ (SqL K H p ys ∨ SqT K H p ys) ∧ Q (.int ys.length) H) ∨ (∃ z, vs = [.str z] ∧ z.length ≤ sizeLine ∧ Q (.int z.length) H) ∨ (∃ a kvs, vs = [V.ref a] ∧ Rd H a (.dK kvs) ∧ Q (.int kvs.length) H) ∨ rLenU K vs H Q
 | .tup => ∃ p ys, vs = [.ref p] ∧ ((SqL K H p ys ∧ ∀ l o, o.dict = none → H l = none → Q (.ref l) (upd H l (.frz o (.tup ys)))) ∨ (SqT K H p ys ∧ Q (.ref p) H))
 | .list => (∃ p ys, vs = [.ref p] ∧ (SqL K H p ys ∨ SqT K H p ys) ∧ ∀ l, H l = none → Q (.ref l) (upd H l (.lst ys))) ∨ rListD vs H Q ∨ rListU K vs H Q
 | .dict => (∃ (a : Addr) (ps : List Addr) (kvs : List (Key × V)), vs = [.ref a] ∧ SqL K H a (ps.map V.ref) ∧ Paired (fun p kv => SqT K H p [kV kv.1, kv.2]) ps kvs ∧ ∀ p, H p = none → Q (.ref p) (upd H p (.dK (mergeK [] kvs)))) ∨ rDictU K vs H Q ∨ rDictPT K vs H Q ∨ rDictUT K vs H Q
 | .dictU => rDictU K vs H Q ∨ rDictUT K vs H Q
 | .int => (∃ i, vs = [.int i] ∧ Q (.int i) H) ∨ ∃ k, vs = [.bl k] ∧ Q (.int (if k then 1 else 0)) H
 | .sorted => rSortedS K vs H Q ∨ rSorted K vs H Q ∨ rSortTT K vs H Q ∨ rSortU K vs H Q ∨ rSortD vs H Q ∨ rSortDt K vs H Q ∨ rSortTp K vs H Q
 | .all => rAll K vs H Q
 | .any => rAny K vs H Q
 | .sum => rSum K vs H Q
 | .abs => ∃ i, vs = [.int i] ∧ Q (.int (if i < 0 then -i else i)) H
 | .max2 => ∃ i j, vs = [.int i, .int j] ∧ Q (.int (if j > i then j else i)) H
 | .min2 => ∃ i j, vs = [.int i, .int j] ∧ Q (.int (if j < i then j else i)) H
 | _ => False
theorem boolsOf_v : ∀ {ps : List P} {bs : List Bool} {vs : List V}, boolsOf ps = some bs → RepL K Z vs ps → vs = bs.map V.bl
 | [], _, _, e, .nil => by cases e; rfl
 | p :: ps, bs, _, e, .cons h r => by
  unfold boolsOf at e
  split at e
  ·rename_i h0; cases h0
  ·rename_i b r2 e2
   injection e2 with e3 e4
   subst e3 e4
   obtain ⟨bs2, h1, h2⟩ := Option.map_eq_some_iff.mp e
   subst h2
   cases h
   rw [boolsOf_v h1 r]; rfl
  ·cases e
theorem intsOf_v : ∀ {ps : List P} {bs : List Int} {vs : List V}, intsOf ps = some bs → RepL K Z vs ps → vs = bs.map V.int
 | [], _, _, e, .nil => by cases e; rfl
 | p :: ps, bs, _, e, .cons h r => by
  unfold intsOf at e
  split at e
  ·rename_i h0; cases h0
  ·rename_i b r2 e2
   injection e2 with e3 e4
   subst e3 e4
   obtain ⟨bs2, h1, h2⟩ := Option.map_eq_some_iff.mp e
   subst h2
   cases h
   rw [intsOf_v h1 r]; rfl
  ·cases e
theorem repL_strs : ∀ {zs : List Str}, (∀ z ∈ zs, PyData.strOk z = true ∧ z.length ≤ sizeLine) → RepL K Z (zs.map V.str) (zs.map PyData.str)
 | [], _ => .nil
 | z :: zs, h => .cons (.str z (h z List.mem_cons_self).1 (h z List.mem_cons_self).2) (repL_strs fun w hw => h w (List.mem_cons_of_mem _ hw))
theorem repL_ints : ∀ {zs : List Int}, RepL K Z (zs.map V.int) (zs.map PyData.int)
 | [] => .nil
 | z :: zs => .cons (.int z) repL_ints
end
end Mn
end
section
set_option maxHeartbeats 200000
namespace Mn
open PySem L2 PySem.Spec
open PyProof.Rows (sortedS risingS)
variable [WW]
omit [WW] in
theorem le_str_total (a b : Str) : (decide (a.cps.toList ≤ b.cps.toList) || decide (b.cps.toList ≤ a.cps.toList)) = true := by
 rcases List.le_total a.cps.toList b.cps.toList with h | h
 ·rw [decide_eq_true h]; rfl
 ·rw [decide_eq_true h, Bool.or_true]
theorem rising_pair : ∀ {ys : List Str} {x : Str}, risingS x ys = true → (x :: ys).Pairwise fun a b => a.cps.toList ≤ b.cps.toList
 | [], x, _ => List.pairwise_singleton _ _
 | y :: ys, x, h => by
  have h2 : (!PySem.Spec.ltCps y.cps.toList x.cps.toList) = true ∧ risingS y ys = true := Bool.and_eq_true_iff.mp h
  have ih := rising_pair h2.2
  have hxy : x.cps.toList ≤ y.cps.toList := by
   have := h2.1
   rw [PyProof.Rows.ltCps_eq] at this
   simpa using this
  refine List.pairwise_cons.mpr ⟨fun z hz => ?_, ih⟩
  rcases List.mem_cons.mp hz with e | hz
  ·subst e; exact hxy
  ·exact List.le_trans hxy ((List.pairwise_cons.mp ih).1 z hz)
theorem sortS_eq {xs ys : List Str} (p : ys.Perm xs) (h : sortedS ys = true) : ys = sortS xs := by
 have h1 : ys.Pairwise fun a b => a.cps.toList ≤ b.cps.toList := by
  cases ys with
  | nil => exact .nil
  | cons y ys => exact rising_pair h
 have h2 : (sortS xs).Pairwise fun a b => a.cps.toList ≤ b.cps.toList := by
  have := List.pairwise_mergeSort (le := fun a b : Str => decide (a.cps.toList ≤ b.cps.toList)) (fun a b c x y => decide_eq_true (List.le_trans (of_decide_eq_true x) (of_decide_eq_true y))) le_str_total xs
  exact this.imp fun h => of_decide_eq_true h
 exact List.Perm.eq_of_pairwise (fun a b _ _ x y => str_ext (List.le_antisymm x y)) h1 h2 (p.trans (List.mergeSort_perm _ _).symm)
theorem sortI_eq {xs ys : List Int} (p : ys.Perm xs) (h : ys.Pairwise (· ≤ ·)) : ys = sortI xs := by
 have h2 : (sortI xs).Pairwise fun a b => a ≤ b := by
  have := List.pairwise_mergeSort (le := fun a b : Int => decide (a ≤ b)) (fun a b c x y => decide_eq_true (Int.le_trans (of_decide_eq_true x) (of_decide_eq_true y))) (fun a b => by
   rcases Int.le_total a b with h | h
   ·rw [decide_eq_true h]; rfl
   ·rw [decide_eq_true h, Bool.or_true]) xs
  exact this.imp fun h => of_decide_eq_true h
 exact List.Perm.eq_of_pairwise (fun a b _ _ x y => Int.le_antisymm x y) h h2 (p.trans (List.mergeSort_perm _ _).symm)
theorem call_lenRd {X : Cx} : CallR X (.builtin "len") (fun xs H Q => ∃ a kvs, xs = [V.ref a] ∧ Rd H a (.dK kvs) ∧ Q (.int kvs.length) H) := by
 intro pins s σ H xs us Q J r h
 obtain ⟨a, kvs, rfl, e, q⟩ := h
 obtain ⟨u, rfl, ru⟩ := r.one
 cases ru
 exact d_len J e fun t s' J' => ⟨.int kvs.length, H, J', ⟨t, rfl⟩, q⟩
def biV : BI → Value
 | .tup => .type "tuple" | .list => .type "list" | .dict => .type "dict" | .dictU => .type "dict" | .int => .type "int"
 | .len => .builtin "len" | .sorted => .builtin "sorted" | .all => .builtin "all" | .any => .builtin "any" | .sum => .builtin "sum" | .abs => .builtin "abs" | .max2 => .builtin "max" | .min2 => .builtin "min"
 | _ => .none
theorem callR_false {X : Cx} {f : Value} : CallR X f (fun _ _ _ => False) := fun _ _ _ _ _ _ _ _ _ h => h.elim
theorem call_lenU {X : Cx} (hw : AtW X) : CallR X (.builtin "len") (rLenU X.K) := by
 intro pins s σ H xs us Q J r h
 obtain ⟨a, vs, rfl, e, hk, q⟩ := h
 obtain ⟨u, rfl, ru⟩ := r.one
 cases ru
 exact uu_len J hw e hk fun t s' J' => ⟨.int vs.length, H, J', ⟨t, rfl⟩, q⟩
theorem bi_R {X : Cx} (hc : X.calm = true) (hw : AtW X) (hu : X.A.units + 64 < cLine) : ∀ b : BI, CallR X (biV b) (rBi X.K b)
 | .len => call_len_seq.or (call_len_str.or (call_lenRd.or (call_lenU hw)))
 | .tup => call_tupleD
 | .list => call_list_of.or ((call_list_dK hc).or (call_listU hc hw))
 | .dictU => (call_dictU hc (by omega) hw).or (call_dictUT hc (by omega) hw)
 | .dict => (call_dictP hc).or ((call_dictU hc (by omega) hw).or ((call_dictPT hc).or (call_dictUT hc (by omega) hw)))
 | .int => call_int1
 | .sorted => cr_sortedS.or (cr_sorted.or (cr_sortTT.or ((cr_sortU hc hw).or ((call_sortedD hc).or ((cr_sortDt hu).or cr_sortTp)))))
 | .all => cr_all hc
 | .any => cr_any hc
 | .sum => cr_sum hc
 | .abs => call_abs
 | .max2 => call_max2 hc
 | .min2 => call_min2 hc
 | .str => callR_false | .isTup => callR_false | .isStr => callR_false | .isBool => callR_false | .isInt => callR_false | .isList => callR_false | .isST => callR_false
 | .setLen => callR_false | .listZip => callR_false | .min1 => callR_false | .max1 => callR_false | .listRg => callR_false
section
variable {K : PySem.W.Frag} {Z H : Hp} {m : M} {Q : VK}
theorem dRel_len {vs : List (Key × V)} {ps : List (Key × P)} (r : DRel K Z vs ps) : vs.length = ps.length := Paired.length r
theorem dRel_put {vs : List (Key × V)} {ps : List (Key × P)} {k : Key} {v : V} {p : P} (r : DRel K Z vs ps) (ko : KeyOk k) (h : Rep K Z v p) : DRel K Z (putK vs k v) (putA ps k p) := by
 have e := dRel_any k r
 unfold putK putA
 rw [e]
 by_cases c : (ps.any fun kv => decide (kv.1 = k)) = true
 ·rw [if_pos c, if_pos c]
  clear e c
  induction r with
  | nil => exact .nil
  | @cons x y xs ys h1 _ ih =>
   rw [List.map_cons, List.map_cons]
   refine .cons ?_ ih
   obtain ⟨g1, g2, g3⟩ := h1
   by_cases e : y.1 = k
   ·rw [if_pos e, if_pos (g1.trans e)]; exact ⟨g1, g2, h⟩
   ·rw [if_neg e, if_neg fun q => e (g1.symm.trans q)]; exact ⟨g1, g2, g3⟩
 ·rw [if_neg c, if_neg c]
  exact Paired.snoc r ⟨rfl, ko, h⟩
theorem tRel_any (k : List Key) : ∀ {vs : List (List Key × V)} {ps : List (List Key × P)}, TRel K Z vs ps → (vs.any fun kv => decide (kv.1 = k)) = ps.any fun kv => decide (kv.1 = k)
 | _, _, .nil => rfl
 | _, _, .cons h t => by rw [List.any_cons, List.any_cons, tRel_any k t, h.1]
theorem tRel_put {vs : List (List Key × V)} {ps : List (List Key × P)} {k : List Key} {v : V} {p : P} (r : TRel K Z vs ps) (ko : ∀ x ∈ k, KeyOk x) (h : Rep K Z v p) : TRel K Z (putK vs k v) (putA ps k p) := by
 have e := tRel_any k r
 unfold putK putA
 rw [e]
 by_cases c : (ps.any fun kv => decide (kv.1 = k)) = true
 ·rw [if_pos c, if_pos c]
  clear e c
  induction r with
  | nil => exact .nil
  | @cons x y xs ys h1 _ ih =>
   rw [List.map_cons, List.map_cons]
   refine .cons ?_ ih
   obtain ⟨g1, g2, g3⟩ := h1
   by_cases e : y.1 = k
   ·rw [if_pos e, if_pos (g1.trans e)]; exact ⟨g1, g2, h⟩
   ·rw [if_neg e, if_neg fun q => e (g1.symm.trans q)]; exact ⟨g1, g2, g3⟩
 ·rw [if_neg c, if_neg c]
  exact Paired.snoc r ⟨rfl, ko, h⟩
theorem dRel_merge : ∀ {ws : List (Key × V)} {qs : List (Key × P)} {vs : List (Key × V)} {ps : List (Key × P)}, DRel K Z ws qs → DRel K Z vs ps → DRel K Z (mergeK vs ws) (mergeA ps qs)
 | _, _, _, _, .nil, r => r
 | _, _, _, _, @Paired.cons _ _ _ x y xs ys h t, r => by
  obtain ⟨g1, g2, g3⟩ := h
  unfold mergeK mergeA
  rw [List.foldl_cons, List.foldl_cons, g1]
  exact dRel_merge t (dRel_put r g2 g3)
theorem pairsK_v {H : Hp} (s : Sub Z H) : ∀ {ps : List P} {kvs : List (Key × P)} {vs : List V}, pairsK ps = some kvs → RepL K Z vs ps →
  ∃ (as : List Addr) (ws : List (Key × V)), vs = as.map V.ref ∧ Paired (fun p kv => SqT K H p [kV kv.1, kv.2]) as ws ∧ DRel K Z ws kvs
 | [], _, _, e, .nil => by cases e; exact ⟨[], [], rfl, .nil, .nil⟩
 | p :: ps, kvs, _, e, .cons h r => by
  unfold pairsK at e
  split at e
  ·rename_i h0; cases h0
  ·rename_i a b r2 e2
   injection e2 with e3 e4
   subst e3 e4
   split at e
   ·rename_i k kv2 ek er
    cases e
    obtain ⟨as, ws, g1, g2, g3⟩ := pairsK_v s er r
    cases h with
    | tup h1 r1 =>
     cases r1 with
     | cons ha r1 =>
      cases r1 with
      | cons hb r1 =>
       cases r1
       obtain ⟨rfl, ko, _⟩ := keyOf_v ek ha
       exact ⟨_ :: as, (k, _) :: ws, by rw [g1]; rfl, .cons (sqT_sub s h1.sq) g2, .cons ⟨rfl, ko, hb⟩ g3⟩
   ·cases e
  ·cases e
theorem uRel_put {vs : List (NK × Addr × V)} {ps : List (NK × P)} {k : NK} {b : Addr} {v : V} {p : P} (r : URel K Z vs ps) (hb : NkAt K Z k b) (h : Rep K Z v p) : URel K Z (putU vs k b v) (putA ps k p) := by
 have e : (vs.any fun x => decide (x.1 = k)) = ps.any fun kv => decide (kv.1 = k) := by
  clear hb h
  induction r with
  | nil => rfl
  | @cons x y xs ys h t ih =>
   rw [List.any_cons, List.any_cons, ih, h.1]
 unfold putU putA
 rw [e]
 by_cases c : (ps.any fun kv => decide (kv.1 = k)) = true
 ·rw [if_pos c, if_pos c]
  clear e c
  induction r with
  | nil => exact .nil
  | @cons x y xs ys h1 _ ih =>
   rw [List.map_cons, List.map_cons]
   refine .cons ?_ ih
   obtain ⟨g1, g2, g3⟩ := h1
   by_cases e : x.1 = k
   ·rw [if_pos e, if_pos (by rw [g1, e])]; exact ⟨g1, g2, h⟩
   ·rw [if_neg e, if_neg fun q => e (g1.symm.trans q)]; exact ⟨g1, g2, g3⟩
 ·rw [if_neg c, if_neg c]
  exact Paired.snoc r ⟨rfl, hb, h⟩
theorem uRel_merge : ∀ {ws : List (NK × Addr × V)} {qs : List (NK × P)} {vs : List (NK × Addr × V)} {ps : List (NK × P)}, URel K Z ws qs → URel K Z vs ps → URel K Z (mergeU vs ws) (mergeA ps qs)
 | _, _, _, _, .nil, r => r
 | _, _, _, _, @Paired.cons _ _ _ x y xs ys h t, r => by
  obtain ⟨g1, g2, g3⟩ := h
  unfold mergeU mergeA
  rw [List.foldl_cons, List.foldl_cons, g1]
  exact uRel_merge t (uRel_put r g2 g3)
theorem pairsU_v {H : Hp} (s : Sub Z H) : ∀ {ps : List P} {kvs : List (NK × P)} {vs : List V}, pairsU ps = some kvs → RepL K Z vs ps →
  ∃ (as : List Addr) (ws : List (NK × Addr × V)), vs = as.map V.ref ∧ Paired (fun p x => SqT K H p [.ref x.2.1, x.2.2]) as ws ∧ URel K Z ws kvs
 | [], _, _, e, .nil => by cases e; exact ⟨[], [], rfl, .nil, .nil⟩
 | p :: ps, kvs, _, e, .cons h r => by
  unfold pairsU at e
  split at e
  ·rename_i h0; cases h0
  ·rename_i a b r2 e2
   injection e2 with e3 e4
   subst e3 e4
   split at e
   ·rename_i k kv2 ek er
    cases e
    obtain ⟨as, ws, g1, g2, g3⟩ := pairsU_v s er r
    cases h with
    | tup h1 r1 =>
     cases r1 with
     | cons ha r1 =>
      cases r1 with
      | cons hb r1 =>
       cases r1
       obtain ⟨c, rfl, hc, _⟩ := nkOf_v ek ha
       exact ⟨_ :: as, (k, c, _) :: ws, by rw [g1]; rfl, .cons (sqT_sub s h1.sq) g2, .cons ⟨rfl, hc, hb⟩ g3⟩
   ·cases e
  ·cases e
theorem Ask.dic {qs : List (Key × P)} {vs : List (Key × V)} (q : Ask K Z H (.d qs) Q) (s : Sub Z H) (r : DRel K Z vs qs) : ∀ p, H p = none → Q (.ref p) (upd H p (.dK vs)) := fun p hp =>
 q Z _ (.ref p) [p] (.own s hp) (.d upd_same (by
  cases e : Z p with
  | none => rfl
  | some u => rw [s _ _ e] at hp; cases hp) r)
theorem keys_rep : ∀ {vs : List (Key × V)} {ps : List (Key × P)}, DRel K Z vs ps → RepL K Z (vs.map fun kv => kV kv.1) (ps.map fun kv => ofKey kv.1)
 | _, _, .nil => .nil
 | _, _, @Paired.cons _ _ _ x y xs ys h t => by
  obtain ⟨h1, h2, _⟩ := h
  refine .cons ?_ (keys_rep t)
  show Rep K Z (kV x.1) (ofKey y.1)
  rw [h1]
  cases e : y.1 with
  | inl i => exact .int i
  | inr z => rw [e] at h2; exact .str z h2.1 h2.2
theorem own1 {a : M} {vs : List V} (o : OwnL K Z H [a] vs) : ∃ x G, vs = [x] ∧ Own K Z H a x G := by
 cases o with
 | cons h o => cases o; exact ⟨_, _, rfl, h⟩
theorem own2 {a b : M} {vs : List V} (o : OwnL K Z H [a, b] vs) : ∃ x y G G2, vs = [x, y] ∧ Own K Z H a x G ∧ Own K Z H b y G2 := by
 cases o with
 | cons h o => cases o with
  | cons h2 o => cases o; exact ⟨_, _, _, _, rfl, h, h2⟩
theorem len_ok (s : Sub Z H) {a : M} {vs : List V} (o : OwnL K Z H [a] vs) (e : biM .len [a] = some m) (q : Ask K Z H m Q) : rBi K .len vs H Q := by
 obtain ⟨x, G, rfl, ha⟩ := own1 o
 obtain ⟨n, h1, h2⟩ := Option.map_eq_some_iff.mp (show (lenM a).map _ = some m from e)
 subst h2
 have va := ha.view
 unfold lenM at h1
 split at h1 <;> rename_i e1
 ·rw [e1] at va; cases h1
  obtain ⟨rfl, _, k2⟩ := va.str
  exact .inr (.inl ⟨_, rfl, k2, q.imm s (.int _)⟩)
 ·rw [e1] at va; cases h1
  obtain ⟨c, ws, rfl, h3, r⟩ := va.tup
  exact .inl ⟨c, ws, rfl, .inr (sqT_sub s h3.sq), by rw [r.length]; exact q.imm s (.int _)⟩
 ·rw [e1] at va; cases h1
  obtain ⟨c, ws, rfl, h3, r⟩ := va.lstv s
  exact .inl ⟨c, ws, rfl, .inl (SqL.of h3), by rw [r.length]; exact q.imm s (.int _)⟩
 ·rw [e1] at va; cases h1
  obtain ⟨c, ws, rfl, h3, r⟩ := va.lstl
  exact .inl ⟨c, ws, rfl, .inl (SqL.of h3), by rw [r.length]; exact q.imm s (.int _)⟩
 ·rw [e1] at va; cases h1
  cases va with
  | d h r => exact .inr (.inr (.inl ⟨_, _, rfl, h, by rw [dRel_len r]; exact q.imm s (.int _)⟩))
 ·rw [e1] at va; cases h1
  cases va with
  | s h _ => exact .inl ⟨_, _, rfl, .inl (sqL_sub s h), by rw [List.length_map]; exact q.imm s (.int _)⟩
 ·rw [e1] at va; cases h1
  cases va with
  | uo h r => exact .inr (.inr (.inr ⟨_, _, rfl, h, uRel_at s r, by rw [Paired.length r]; exact q.imm s (.int _)⟩))
 ·cases h1
theorem tup_ok (s : Sub Z H) {a : M} {vs : List V} (o : OwnL K Z H [a] vs) (e : biM .tup [a] = some m) (q : Ask K Z H m Q) : rBi K .tup vs H Q := by
 obtain ⟨x, G, rfl, ha⟩ := own1 o
 obtain ⟨ps, h1, h2⟩ := Option.map_eq_some_iff.mp (show (seqOf a).map _ = some m from e)
 subst h2
 obtain ⟨c, ws, rfl, h3, r⟩ := seq_any s ha h1
 rcases h3 with h3 | ⟨h3, h4⟩
 ·exact ⟨c, ws, rfl, .inl ⟨SqL.of h3, q.tup s r⟩⟩
 ·exact ⟨c, ws, rfl, .inr ⟨h3, q.imm s h4⟩⟩
theorem uKeys_rep {vs : List (NK × Addr × V)} {ps : List (NK × P)} (r : URel K Z vs ps) : RepL K Z (vs.map fun x => V.ref x.2.1) (ps.map fun kv => nkP kv.1) := by
 induction r with
 | nil => exact .nil
 | @cons x y xs ys h t ih =>
  rw [List.map_cons, List.map_cons]
  obtain ⟨h1, h2, _⟩ := h
  rw [h1]
  exact .cons h2.1.rep ih
theorem hKeys_rep : ∀ {ms : List (NK × M)} {vs : List (NK × Addr × V)} {G : List Addr}, OwnH K Z H ms vs G → RepL K Z (vs.map fun x => V.ref x.2.1) (ms.map fun kv => nkP kv.1)
 | _, _, _, .nil => .nil
 | _, _, _, .cons ko _ _ r _ => .cons ko.1.rep (hKeys_rep r)
theorem hKeys_at (s : Sub Z H) : ∀ {ms : List (NK × M)} {vs : List (NK × Addr × V)} {G : List Addr}, OwnH K Z H ms vs G → KeysAt K H vs
 | _, _, _, .nil => fun x h => by cases h
 | _, _, _, .cons ko _ _ r _ => fun x h => by
  rcases List.mem_cons.mp h with e | e
  ·subst e; exact ko.sub s
  ·exact hKeys_at s r x e
theorem list_ok (s : Sub Z H) {a : M} {vs : List V} (o : OwnL K Z H [a] vs) (e : biM .list [a] = some m) (q : Ask K Z H m Q) : rBi K .list vs H Q := by
 obtain ⟨x, G, rfl, ha⟩ := own1 o
 dsimp only [biM] at e
 split at e
 ·cases e
  cases ha with
  | d h _ r => exact .inr (.inl ⟨_, _, rfl, h, q.lst s (keys_rep r)⟩)
 ·cases e
  cases ha with
  | uo h _ r => exact .inr (.inr ⟨_, _, rfl, .inl h, uRel_at s r, q.lst s (uKeys_rep r)⟩)
 ·obtain ⟨ps, h1, h2⟩ := Option.map_eq_some_iff.mp e
  subst h2
  obtain ⟨c, ws, rfl, h3, r⟩ := seq_any s ha h1
  rcases h3 with h3 | ⟨h3, h4⟩
  ·exact .inl ⟨c, ws, rfl, .inl (SqL.of h3), q.lst s r⟩
  ·exact .inl ⟨c, ws, rfl, .inr h3, q.lst s r⟩
theorem dict_ok (s : Sub Z H) {a : M} {vs : List V} (o : OwnL K Z H [a] vs) (e : biM .dict [a] = some m) (q : Ask K Z H m Q) : rBi K .dict vs H Q := by
 obtain ⟨x, G, rfl, ha⟩ := own1 o
 dsimp only [biM] at e
 split at e
 ·rename_i ps ep
  have hu : ∀ {kvs : List (NK × P)} {zs : List (NK × Addr × V)}, m = .u (mergeA [] kvs) → URel K Z zs kvs → ∀ p, H p = none → Q (.ref p) (upd H p (TupO p (mergeU [] zs))) := fun {kvs zs} em g3 p hp => by
   subst em
   refine q Z _ (.ref p) [p] (.own s hp) (.uo upd_same ?_ (uRel_merge g3 .nil))
   cases e : Z p with
   | none => rfl
   | some u => rw [s _ _ e] at hp; cases hp
  have va := ha.view
  unfold seqOf at ep
  have lst : (∃ c vs, x = .ref c ∧ H c = some (.lst vs) ∧ RepL K Z vs ps) → rBi K .dict [x] H Q := fun ⟨c, ws, ex, h3, r⟩ => by
   subst ex
   split at e
   ·rename_i kvs h1
    cases e
    obtain ⟨as, zs, rfl, g2, g3⟩ := pairsK_v s h1 r
    exact .inl ⟨c, as, zs, rfl, SqL.of h3, g2, q.dic s (dRel_merge g3 .nil)⟩
   ·obtain ⟨kvs, h1, h2⟩ := Option.map_eq_some_iff.mp e
    obtain ⟨as, zs, rfl, g2, g3⟩ := pairsU_v s h1 r
    exact .inr (.inl ⟨c, as, zs, rfl, SqL.of h3, g2, uRel_at s g3, hu h2.symm g3⟩)
  split at ep <;> rename_i e1
  ·rw [e1] at va; cases ep; exact lst va.lstl
  ·rw [e1] at va; cases ep; exact lst (va.lstv s)
  ·rw [e1] at va; cases ep
   obtain ⟨c, ws, rfl, h3, r⟩ := va.tup
   split at e
   ·rename_i kvs h1
    cases e
    obtain ⟨as, zs, rfl, g2, g3⟩ := pairsK_v s h1 r
    exact .inr (.inr (.inl ⟨c, as, zs, rfl, tupD_sub s h3, g2, q.dic s (dRel_merge g3 .nil)⟩))
   ·obtain ⟨kvs, h1, h2⟩ := Option.map_eq_some_iff.mp e
    obtain ⟨as, zs, rfl, g2, g3⟩ := pairsU_v s h1 r
    exact .inr (.inr (.inr ⟨c, as, zs, rfl, tupD_sub s h3, g2, uRel_at s g3, hu h2.symm g3⟩))
  ·cases ep
 ·cases e
theorem dictU_ok (s : Sub Z H) {a : M} {vs : List V} (o : OwnL K Z H [a] vs) (e : biM .dictU [a] = some m) (q : Ask K Z H m Q) : rBi K .dictU vs H Q := by
 obtain ⟨x, G, rfl, ha⟩ := own1 o
 dsimp only [biM] at e
 split at e
 ·rename_i ps ep
  have hu : ∀ {kvs : List (NK × P)} {zs : List (NK × Addr × V)}, m = .u (mergeA [] kvs) → URel K Z zs kvs → ∀ p, H p = none → Q (.ref p) (upd H p (TupO p (mergeU [] zs))) := fun {kvs zs} em g3 p hp => by
   subst em
   refine q Z _ (.ref p) [p] (.own s hp) (.uo upd_same ?_ (uRel_merge g3 .nil))
   cases e : Z p with
   | none => rfl
   | some u => rw [s _ _ e] at hp; cases hp
  have va := ha.view
  unfold seqOf at ep
  have lst : (∃ c vs, x = .ref c ∧ H c = some (.lst vs) ∧ RepL K Z vs ps) → rBi K .dictU [x] H Q := fun ⟨c, ws, ex, h3, r⟩ => by
   subst ex
   obtain ⟨kvs, h1, h2⟩ := Option.map_eq_some_iff.mp e
   obtain ⟨as, zs, rfl, g2, g3⟩ := pairsU_v s h1 r
   exact .inl ⟨c, as, zs, rfl, SqL.of h3, g2, uRel_at s g3, hu h2.symm g3⟩
  split at ep <;> rename_i e1
  ·rw [e1] at va; cases ep; exact lst va.lstl
  ·rw [e1] at va; cases ep; exact lst (va.lstv s)
  ·rw [e1] at va; cases ep
   obtain ⟨c, ws, rfl, h3, r⟩ := va.tup
   obtain ⟨kvs, h1, h2⟩ := Option.map_eq_some_iff.mp e
   obtain ⟨as, zs, rfl, g2, g3⟩ := pairsU_v s h1 r
   exact .inr ⟨c, as, zs, rfl, tupD_sub s h3, g2, uRel_at s g3, hu h2.symm g3⟩
  ·cases ep
 ·cases e
theorem int_ok (s : Sub Z H) {a : M} {vs : List V} (o : OwnL K Z H [a] vs) (e : biM .int [a] = some m) (q : Ask K Z H m Q) : rBi K .int vs H Q := by
 obtain ⟨x, G, rfl, ha⟩ := own1 o
 have va := ha.view
 dsimp only [biM] at e
 split at e <;> rename_i e1
 ·rw [e1] at va; cases va.int; cases e
  exact .inl ⟨_, rfl, q.imm s (.int _)⟩
 ·rw [e1] at va; cases va.bl; cases e
  exact .inr ⟨_, rfl, q.imm s (.int _)⟩
 ·cases e
theorem strsT_v {ps : List P} {ss : List Str} {vs : List V} (h : strsOf ps = some ss) (r : RepL K Z vs ps) : vs = ss.map V.str ∧ ps = ss.map PyData.str := by
 have h1 := (strsOf_v h r).1
 refine ⟨h1, ?_⟩
 clear h1 r
 induction ps generalizing ss with
 | nil => cases h; rfl
 | cons p ps ih =>
  unfold strsOf at h
  split at h
  ·cases ‹_ :: _ = []›
  ·rename_i b r2 e2
   injection e2 with e3 e4
   subst e3 e4
   obtain ⟨bs2, h1, h2⟩ := Option.map_eq_some_iff.mp h
   subst h2
   rw [ih h1]; rfl
  ·cases h
theorem tupsOf_v (s : Sub Z H) : ∀ {ps : List P} {xss : List (List Str)} {vs : List V}, tupsOf ps = some xss → RepL K Z vs ps → Paired (TupS K H) vs xss ∧ Paired (fun v xs => Rep K Z v (strT xs)) vs xss
 | [], _, _, e, .nil => by cases e; exact ⟨.nil, .nil⟩
 | p :: ps, xss, _, e, .cons h r => by
  unfold tupsOf at e
  split at e
  ·rename_i h0; cases h0
  ·rename_i x xs r2 e2
   injection e2 with e3 e4
   subst e3 e4
   split at e
   ·rename_i ss sss es er
    cases e
    obtain ⟨g1, g2⟩ := tupsOf_v s er r
    have h' := h
    cases h with
    | tup h1 r1 =>
     obtain ⟨k1, k2⟩ := strsT_v es r1
     refine ⟨.cons ⟨_, rfl, sqT_sub s (k1 ▸ h1.sq), fun z => ?_⟩ g1, .cons ?_ g2⟩
     ·subst z
      cases k2
     ·show Rep K Z _ (strT ss)
      unfold strT
      rw [← k2]
      exact h'
   ·cases e
  ·cases e
theorem sort_rep {vs ys : List V} {xss : List (List Str)} (h : Paired (fun v xs => Rep K Z v (strT xs)) vs xss) (p : (ys.zip (TT.sortT xss)).Perm (vs.zip xss)) (hl : ys.length = xss.length) : RepL K Z ys ((TT.sortT xss).map strT) := by
 have h1 : ∀ z ∈ vs.zip xss, Rep K Z z.1 (strT z.2) := by
  clear p hl
  induction h with
  | nil => intro z hz; cases hz
  | cons h _ ih =>
   intro z hz
   rw [List.zip_cons_cons] at hz
   rcases List.mem_cons.mp hz with e | e
   ·subst e; exact h
   ·exact ih z e
 have h2 : ∀ z ∈ ys.zip (TT.sortT xss), Rep K Z z.1 (strT z.2) := fun z hz => h1 z (p.mem_iff.mp hz)
 have h3 : ys.length = (TT.sortT xss).length := by
  rw [hl]; exact (List.length_mergeSort _).symm
 clear h h1 p hl
 generalize TT.sortT xss = zs at *
 induction ys generalizing zs with
 | nil =>
  cases zs with
  | nil => exact .nil
  | cons _ _ => cases h3
 | cons y ys ih =>
  cases zs with
  | nil => cases h3
  | cons z zs =>
   rw [List.map_cons]
   refine .cons (h2 (y, z) (by rw [List.zip_cons_cons]; exact List.mem_cons_self)) (ih zs (fun w hw => h2 w (by rw [List.zip_cons_cons]; exact List.mem_cons_of_mem _ hw)) (by simpa using h3))
theorem kV_strs : ∀ {l : List Key} {ss : List Str}, l.map kV = (ss.map (Sum.inr : Str → Key)).map kV → l = ss.map Sum.inr
 | [], [], _ => rfl
 | [], _ :: _, h => by cases h
 | _ :: _, [], h => by cases h
 | a :: l, b :: ss, h => by
  rw [List.map_cons, List.map_cons, List.map_cons] at h
  injection h with t1 t2
  rw [List.map_cons, kV_strs t2]
  cases a with
  | inl i => cases t1
  | inr z => cases t1; rfl
theorem repL_paired (s : Sub Z H) : ∀ {ws : List V} {ps : List P}, RepL K Z ws ps → (∀ d ∈ ps, noD d = true) → Paired (Dp K H) ws ps
 | _, _, .nil, _ => .nil
 | _, _, .cons h r, n => .cons ((Rep.dp s h).resolve_left fun z => z (Rep.lay h (n _ List.mem_cons_self))) (repL_paired s r fun d hd => n d (List.mem_cons_of_mem _ hd))
theorem repL_zip : ∀ {ws : List V} {ps : List P}, RepL K Z ws ps → ∀ z ∈ ws.zip ps, Rep K Z z.1 z.2
 | _, _, .nil, z, hz => by cases hz
 | _, _, .cons h r, z, hz => by
  rw [List.zip_cons_cons] at hz
  rcases List.mem_cons.mp hz with e | e
  ·subst e; exact h
  ·exact repL_zip r z e
theorem repL_of_zip : ∀ {zs : List (V × P)}, (∀ z ∈ zs, Rep K Z z.1 z.2) → RepL K Z (zs.map Prod.fst) (zs.map Prod.snd)
 | [], _ => .nil
 | z :: zs, h => .cons (h z List.mem_cons_self) (repL_of_zip fun y hy => h y (List.mem_cons_of_mem _ hy))
theorem sortD_ok (s : Sub Z H) {c : Addr} {ws : List V} {ps : List P} (h3 : SqL K H c ws) (r : RepL K Z ws ps) (hk : alk ps = true) (q : Ask K Z H (.l (sortD ps)) Q) : rSortDt K [.ref c] H Q := by
 unfold alk at hk
 rw [List.all_eq_true] at hk
 have h1 : ∀ d ∈ ps, (∃ x r, d = .tuple (x :: r)) ∧ noD d = true ∧ d.depth ≤ 60 ∧ ∀ e ∈ ps, PySem.W.alike d e = true := fun d hd => by
  have h := hk d hd
  rw [Bool.and_eq_true, Bool.and_eq_true, Bool.and_eq_true, decide_eq_true_eq, List.all_eq_true] at h
  refine ⟨?_, h.2.1, h.2.2.1, h.2.2.2⟩
  have h0 := h.1
  split at h0
  ·exact ⟨_, _, rfl⟩
  ·cases h0
 refine ⟨c, ws, ps, rfl, h3, repL_paired s r fun d hd => (h1 d hd).2.1, fun d hd e he => (h1 d hd).2.2.2 e he, .inl fun d hd => (h1 d hd).1, fun d hd => (h1 d hd).2.2.1, fun p hn => ?_⟩
 have hl : ws.length = ps.length := r.length
 have e : sortD ps = ((ws.zip ps).mergeSort (PySem.W.dataLe false Prod.snd)).map Prod.snd := by
  have h2 := List.map_mergeSort (r := PySem.W.dataLe false (Prod.snd : V × P → P)) (s := PySem.W.dataLe false (id : P → P)) (f := (Prod.snd : V × P → P)) (l := ws.zip ps) (fun _ _ _ _ => rfl)
  rw [h2, L2.dt_snd hl]; rfl
 rw [e] at q
 exact q.lst s (repL_of_zip fun z hz => repL_zip r z ((List.mergeSort_perm _ _).mem_iff.mp hz)) p hn
theorem sorted_ok (s : Sub Z H) {a : M} {vs : List V} (o : OwnL K Z H [a] vs) (e : biM .sorted [a] = some m) (q : Ask K Z H m Q) : rBi K .sorted vs H Q := by
 obtain ⟨x, G, rfl, ha⟩ := own1 o
 dsimp only [biM] at e
 split at e
 ·rename_i kvs
  obtain ⟨xss, h1, h2⟩ := Option.map_eq_some_iff.mp e
  subst h2
  cases ha with
  | @uo c ws _ h _ r =>
   obtain ⟨g1, g2⟩ := tupsOf_v s h1 (uKeys_rep r)
   exact .inr (.inr (.inr (.inl ⟨c, ws, xss, rfl, h, uRel_at s r, g1, fun ys p hp hlen hn => q.lst s (sort_rep g2 hp hlen) p hn⟩)))
 ·rename_i kvs
  obtain ⟨xss, h1, h2⟩ := Option.map_eq_some_iff.mp e
  subst h2
  cases ha with
  | @ho c ws _ _ h _ r _ =>
   obtain ⟨g1, g2⟩ := tupsOf_v s h1 (hKeys_rep r)
   exact .inr (.inr (.inr (.inl ⟨c, ws, xss, rfl, h, hKeys_at s r, g1, fun ys p hp hlen hn => q.lst s (sort_rep g2 hp hlen) p hn⟩)))
 ·split at e
  ·rename_i kvs hl
   obtain ⟨ss, h1, h2⟩ := Option.map_eq_some_iff.mp e
   subst h2
   cases ha with
   | @d c ws _ h _ r =>
    obtain ⟨k1, k2⟩ := strsOf_v h1 (keys_rep r)
    have k3 : ws.map (·.1) = ss.map Sum.inr := by
     refine kV_strs ?_
     rw [List.map_map, List.map_map]
     exact k1
    have k4 : ss.length < 64 := by
     have e1 := congrArg List.length k3
     rw [List.length_map, List.length_map, dRel_len r] at e1
     omega
    refine .inr (.inr (.inr (.inr (.inl ⟨c, ws, ss, rfl, .inl h, k3, k4, fun ys p hp hs hn => ?_⟩))))
    have ey := sortS_eq hp hs
    subst ey
    exact q.lst s (repL_strs fun z hz => k2 z (hp.mem_iff.mp hz)) p hn
  ·cases e
 ·split at e
  ·rename_i ps ep
   obtain ⟨c, ws, rfl, h3, r⟩ := lst_any s ha ep
   split at e
   ·rename_i xss ex
    cases e
    obtain ⟨g1, g2⟩ := tupsOf_v s ex r
    exact .inr (.inr (.inl ⟨c, ws, xss, rfl, SqL.of h3, g1, fun ys p hp hlen hn => q.lst s (sort_rep g2 hp hlen) p hn⟩))
   ·split at e
    ·rename_i hl
     split at e
     ·rename_i xs ex
      cases e
      obtain ⟨rfl, ok⟩ := strsOf_v ex r
      refine .inl ⟨c, xs, rfl, SqL.of h3, by rw [← List.length_map (f := V.str), r.length]; exact hl, fun ys p hp hs hn => ?_⟩
      have ey := sortS_eq hp hs
      subst ey
      exact q.lst s (repL_strs fun z hz => ok z (hp.mem_iff.mp hz)) p hn
     ·split at e
      ·rename_i ns h1
       cases e
       have ew := intsOf_v h1 r
       subst ew
       refine .inr (.inl ⟨c, ns, rfl, SqL.of h3, by rw [← List.length_map (f := V.int), r.length]; exact hl, fun ys p hp hs hn => ?_⟩)
       have ey := sortI_eq hp hs
       subst ey
       exact q.lst s repL_ints p hn
      ·split at e
       ·rename_i hk
        cases e
        exact .inr (.inr (.inr (.inr (.inr (.inl (sortD_ok s (SqL.of h3) r hk q))))))
       ·cases e
    ·split at e
     ·rename_i hk
      cases e
      exact .inr (.inr (.inr (.inr (.inr (.inl (sortD_ok s (SqL.of h3) r hk q))))))
     ·cases e
  ·have va := ha.view
   split at e
   ·rename_i ps e1
    rw [e1] at va
    obtain ⟨c, ws, rfl, h3, r⟩ := va.tup
    have hq := sqT_sub s h3.sq
    split at e
    ·rename_i xss ex
     cases e
     obtain ⟨g1, g2⟩ := tupsOf_v s ex r
     exact .inr (.inr (.inr (.inr (.inr (.inr ⟨c, ws, rfl, hq, .inr ⟨xss, g1, fun ys p hp hlen hn => q.lst s (sort_rep g2 hp hlen) p hn⟩⟩)))))
    ·split at e
     ·rename_i hl
      obtain ⟨xs, ex, e2⟩ := Option.map_eq_some_iff.mp e
      subst e2
      obtain ⟨rfl, ok⟩ := strsOf_v ex r
      refine .inr (.inr (.inr (.inr (.inr (.inr ⟨c, _, rfl, hq, .inl ⟨xs, rfl, by rw [← List.length_map (f := V.str), r.length]; exact hl, fun ys p hp hs hn => ?_⟩⟩)))))
      have ey := sortS_eq hp hs
      subst ey
      exact q.lst s (repL_strs fun z hz => ok z (hp.mem_iff.mp hz)) p hn
     ·cases e
   ·cases e
theorem all_ok (s : Sub Z H) {a : M} {vs : List V} (o : OwnL K Z H [a] vs) (e : biM .all [a] = some m) (q : Ask K Z H m Q) : rBi K .all vs H Q := by
 obtain ⟨x, G, rfl, ha⟩ := own1 o
 dsimp only [biM] at e
 split at e
 ·rename_i ps ep
  obtain ⟨bs, h1, h2⟩ := Option.map_eq_some_iff.mp e
  subst h2
  obtain ⟨c, ws, rfl, h3, r⟩ := lst_any s ha ep
  have ew := boolsOf_v h1 r
  subst ew
  exact ⟨c, bs, rfl, SqL.of h3, q.imm s (.bl _)⟩
 ·cases e
theorem any_ok (s : Sub Z H) {a : M} {vs : List V} (o : OwnL K Z H [a] vs) (e : biM .any [a] = some m) (q : Ask K Z H m Q) : rBi K .any vs H Q := by
 obtain ⟨x, G, rfl, ha⟩ := own1 o
 dsimp only [biM] at e
 split at e
 ·rename_i ps ep
  obtain ⟨bs, h1, h2⟩ := Option.map_eq_some_iff.mp e
  subst h2
  obtain ⟨c, ws, rfl, h3, r⟩ := lst_any s ha ep
  have ew := boolsOf_v h1 r
  subst ew
  exact ⟨c, bs, rfl, SqL.of h3, q.imm s (.bl _)⟩
 ·cases e
theorem sum_ok (s : Sub Z H) {a : M} {vs : List V} (o : OwnL K Z H [a] vs) (e : biM .sum [a] = some m) (q : Ask K Z H m Q) : rBi K .sum vs H Q := by
 obtain ⟨x, G, rfl, ha⟩ := own1 o
 dsimp only [biM] at e
 split at e
 ·rename_i ps ep
  obtain ⟨bs, h1, h2⟩ := Option.map_eq_some_iff.mp e
  subst h2
  obtain ⟨c, ws, rfl, h3, r⟩ := lst_any s ha ep
  have ew := intsOf_v h1 r
  subst ew
  exact ⟨c, bs, rfl, SqL.of h3, q.imm s (.int _)⟩
 ·cases e
theorem abs_ok (s : Sub Z H) {a : M} {vs : List V} (o : OwnL K Z H [a] vs) (e : biM .abs [a] = some m) (q : Ask K Z H m Q) : rBi K .abs vs H Q := by
 obtain ⟨x, G, rfl, ha⟩ := own1 o
 have va := ha.view
 dsimp only [biM] at e
 split at e <;> rename_i e1
 ·rw [e1] at va; cases va.int; cases e
  exact ⟨_, rfl, q.imm s (.int _)⟩
 ·cases e
theorem max2_ok (s : Sub Z H) {a b : M} {vs : List V} (o : OwnL K Z H [a, b] vs) (e : biM .max2 [a, b] = some m) (q : Ask K Z H m Q) : rBi K .max2 vs H Q := by
 obtain ⟨x, y, G, G2, rfl, ha, hb⟩ := own2 o
 have va := ha.view
 have vb := hb.view
 dsimp only [biM] at e
 split at e
 ·rename_i e1 e2
  rw [e1] at va; rw [e2] at vb; cases va.int; cases vb.int; cases e
  exact ⟨_, _, rfl, q.imm s (.int _)⟩
 ·cases e
theorem min2_ok (s : Sub Z H) {a b : M} {vs : List V} (o : OwnL K Z H [a, b] vs) (e : biM .min2 [a, b] = some m) (q : Ask K Z H m Q) : rBi K .min2 vs H Q := by
 obtain ⟨x, y, G, G2, rfl, ha, hb⟩ := own2 o
 have va := ha.view
 have vb := hb.view
 dsimp only [biM] at e
 split at e
 ·rename_i e1 e2
  rw [e1] at va; rw [e2] at vb; cases va.int; cases vb.int; cases e
  exact ⟨_, _, rfl, q.imm s (.int _)⟩
 ·cases e
def biArity : BI → Nat
 | .max2 => 2 | .min2 => 2
 | .len => 1 | .tup => 1 | .list => 1 | .dict => 1 | .dictU => 1 | .int => 1 | .sorted => 1 | .all => 1 | .any => 1 | .sum => 1 | .abs => 1
 | _ => 0
theorem one_of {ms : List M} (h : ms.length = 1) : ∃ a, ms = [a] := by
 match ms, h with
 | [a], _ => exact ⟨a, rfl⟩
theorem two_of {ms : List M} (h : ms.length = 2) : ∃ a b, ms = [a, b] := by
 match ms, h with
 | [a, b], _ => exact ⟨a, b, rfl⟩
theorem bi_ok (b : BI) (s : Sub Z H) {ms : List M} {vs : List V} (h0 : biArity b ≠ 0) (hl : ms.length = biArity b) (o : OwnL K Z H ms vs) (e : biM b ms = some m) (q : Ask K Z H m Q) : rBi K b vs H Q := by
 cases b <;> first | exact (h0 rfl).elim | skip
 ·obtain ⟨a, rfl⟩ := one_of hl; exact len_ok s o e q
 ·obtain ⟨a, rfl⟩ := one_of hl; exact tup_ok s o e q
 ·obtain ⟨a, rfl⟩ := one_of hl; exact list_ok s o e q
 ·obtain ⟨a, rfl⟩ := one_of hl; exact dict_ok s o e q
 ·obtain ⟨a, rfl⟩ := one_of hl; exact int_ok s o e q
 ·obtain ⟨a, rfl⟩ := one_of hl; exact sorted_ok s o e q
 ·obtain ⟨a, rfl⟩ := one_of hl; exact all_ok s o e q
 ·obtain ⟨a, rfl⟩ := one_of hl; exact any_ok s o e q
 ·obtain ⟨a, b, rfl⟩ := two_of hl; exact min2_ok s o e q
 ·obtain ⟨a, b, rfl⟩ := two_of hl; exact max2_ok s o e q
 ·obtain ⟨a, rfl⟩ := one_of hl; exact abs_ok s o e q
 ·obtain ⟨a, rfl⟩ := one_of hl; exact sum_ok s o e q
 ·obtain ⟨a, rfl⟩ := one_of hl; exact dictU_ok s o e q
end
end Mn
end
section
set_option maxHeartbeats 200000
namespace Mn
open PySem L2
variable [WW] [FX]
structure Lk (X : Cxt) (ρ ρ' : Env) : Prop where
 lk : ∀ i m, slot ρ i = some (.k m) → slot ρ' i = some (.k m)
 pm : ∀ i, pmAt X i = true → slot ρ i ≠ none → slot ρ' i ≠ none
 len : ρ'.length = ρ.length
theorem Lk.refl {X : Cxt} (ρ : Env) : Lk X ρ ρ := ⟨fun _ _ h => h, fun _ _ h => h, rfl⟩
theorem Lk.trans {X : Cxt} {a b c : Env} (x : Lk X a b) (y : Lk X b c) : Lk X a c := ⟨fun i m h => y.lk i m (x.lk i m h), fun i h q => y.pm i h (x.pm i h q), y.len.trans x.len⟩
theorem slot_set (ρ : Env) (i j : Nat) (o : Option M) : slot (ρ.set i o) j = if i = j ∧ i < ρ.length then o else slot ρ j := by
 unfold slot
 by_cases e : i = j
 ·subst e
  by_cases h : i < ρ.length
  ·rw [if_pos ⟨rfl, h⟩, List.getElem?_set_self h]; cases o <;> rfl
  ·rw [if_neg (fun q => h q.2), List.getElem?_eq_none (by simpa using h), List.getElem?_eq_none (by simpa using h)]
 ·rw [if_neg (fun q => e q.1), List.getElem?_set_ne e]
theorem slot_lt {ρ : Env} {i : Nat} {m : M} (h : slot ρ i = some m) : i < ρ.length := by
 unfold slot at h
 cases e : ρ[i]? with
 | none => rw [e] at h; cases h
 | some o => exact (List.getElem?_eq_some_iff.mp e).1
theorem slot_self {ρ : Env} {i : Nat} (o : Option M) (h : i < ρ.length) : slot (ρ.set i o) i = o := by rw [slot_set, if_pos ⟨rfl, h⟩]
theorem slot_other {ρ : Env} {i j : Nat} (o : Option M) (h : i ≠ j) : slot (ρ.set i o) j = slot ρ j := by rw [slot_set, if_neg fun q => h q.1]
section
variable {K : PySem.W.Frag} {Z H Z' H' : Hp} {A A' : AS} {σ : St} {ρ ρ' : Env} {F : Nat → List Addr} {m : M} {v : V} {G : List Addr} {i : Nat}
def fset (F : Nat → List Addr) (i : Nat) (G : List Addr) : Nat → List Addr := fun j => if j = i then G else F j
theorem fset_self (F : Nat → List Addr) (i : Nat) (G : List Addr) : fset F i G i = G := if_pos rfl
theorem fset_ne (F : Nat → List Addr) {i j : Nat} (G : List Addr) (h : j ≠ i) : fset F i G j = F j := if_neg h
theorem U_fset {a : Addr} (h : U (fset F i G) a) : a ∈ G ∨ ∃ j, j ≠ i ∧ a ∈ F j := by
 obtain ⟨j, h⟩ := h
 by_cases e : j = i
 ·subst e; rw [fset_self] at h; exact .inl h
 ·rw [fset_ne F G e] at h; exact .inr ⟨j, e, h⟩
theorem Rel.del (R : Rel K Z H σ ρ F) (i : Nat) : Rel K Z H σ (ρ.set i none) (fset F i []) := by
 refine ⟨R.sub, by rw [List.length_set]; exact R.len, fun j m e => ?_, fun j e => ?_, fun j k a h1 h2 => ?_, R.fx⟩
 ·have hj : j ≠ i := by
   intro q; subst q
   by_cases h : j < ρ.length
   ·rw [slot_self _ h] at e; cases e
   ·rw [slot_set, if_neg (fun q => h q.2)] at e; exact h (slot_lt e)
  rw [slot_other _ (Ne.symm hj)] at e
  rw [fset_ne F [] hj]
  exact R.own j m e
 ·by_cases hj : j = i
  ·subst hj; exact fset_self F j []
  ·rw [fset_ne F [] hj]
   rw [slot_other _ (Ne.symm hj)] at e
   exact R.no j e
 ·by_cases h3 : j = i
  ·subst h3; rw [fset_self] at h1; cases h1
  ·by_cases h4 : k = i
   ·subst h4; rw [fset_self] at h2; cases h2
   ·rw [fset_ne F [] h3] at h1
    rw [fset_ne F [] h4] at h2
    exact R.dj j k a h1 h2
theorem U_del {a : Addr} (h : U (fset F i []) a) : U F a := by
 rcases U_fset h with h | ⟨j, _, h⟩
 ·cases h
 ·exact ⟨j, h⟩
theorem Rel.del_own (R : Rel K Z H σ ρ F) {m : M} (e : slot ρ i = some m) : ∃ v, σ[i]? = some (some v) ∧ Own K Z H m v (F i) ∧ ∀ a ∈ F i, ¬ U (fset F i []) a := by
 obtain ⟨v, h1, h2⟩ := R.own i m e
 refine ⟨v, h1, h2, fun a ha hu => ?_⟩
 rcases U_fset hu with hu | ⟨j, hj, hu⟩
 ·cases hu
 ·exact hj (R.dj j i a hu ha)
theorem Rel.put (R : Rel K Z H σ ρ F) (hn : slot ρ i = none) (hi : i < ρ.length) (hs : σ[i]? = some (some v)) (o : Own K Z H m v G) (d : ∀ a ∈ G, ¬ U F a) : Rel K Z H σ (ρ.set i (some m)) (fset F i G) := by
 refine ⟨R.sub, by rw [List.length_set]; exact R.len, fun j m' e => ?_, fun j e => ?_, fun j k a h1 h2 => ?_, R.fx⟩
 ·by_cases hj : j = i
  ·subst hj
   rw [slot_self _ hi] at e; cases e
   rw [fset_self]
   exact ⟨v, hs, o⟩
  ·rw [slot_other _ (Ne.symm hj)] at e
   rw [fset_ne F G hj]
   exact R.own j m' e
 ·by_cases hj : j = i
  ·subst hj; rw [slot_self _ hi] at e; cases e
  ·rw [slot_other _ (Ne.symm hj)] at e
   rw [fset_ne F G hj]
   exact R.no j e
 ·by_cases h3 : j = i
  ·subst h3
   by_cases h4 : k = j
   ·exact h4.symm
   ·rw [fset_self] at h1; rw [fset_ne F G h4] at h2
    exact (d a h1 ⟨k, h2⟩).elim
  ·by_cases h4 : k = i
   ·subst h4
    rw [fset_self] at h2; rw [fset_ne F G h3] at h1
    exact (d a h2 ⟨j, h1⟩).elim
   ·rw [fset_ne F G h3] at h1
    rw [fset_ne F G h4] at h2
    exact R.dj j k a h1 h2
theorem Rel.out (R : Rel K Z H σ ρ F) {c : Prop} [Decidable c] (hs : σ[i]? = some (some v)) (hi : i < ρ.length) : Rel K Z H σ (ρ.set i (if c then some .gone else none)) (fset F i []) := by
 by_cases h : c
 ·rw [if_pos h]
  have R1 := (R.del i).put (m := .gone) (G := []) (slot_self _ hi) (by rw [List.length_set]; exact hi) hs .gone (fun a ha => by cases ha)
  rw [List.set_set] at R1
  have : fset (fset F i []) i [] = fset F i [] := by
   funext j
   by_cases q : j = i
   ·subst q; rw [fset_self, fset_self]
   ·rw [fset_ne _ _ q]
  rw [this] at R1
  exact R1
 ·rw [if_neg h]; exact R.del i
theorem Rel.slotSet (R : Rel K Z H σ ρ F) (hn : slot ρ i = none) (nx : ¬ fxAt i) (x : V) : Rel K Z H (σ.set i (some x)) ρ F := by
 refine ⟨R.sub, by rw [List.length_set]; exact R.len, fun j m e => ?_, R.no, R.dj, R.fx.set _ nx⟩
 have hj : i ≠ j := by intro q; subst q; rw [hn] at e; cases e
 rw [List.getElem?_set_ne hj]
 exact R.own j m e
theorem Rel.frame (R : Rel K Z H σ ρ F) (x : Step Z H Z' H' A A') (s : Sub Z' H') (d : ∀ a, U F a → ¬ A a) : Rel K Z' H' σ ρ F :=
 ⟨s, R.len, fun j m e => by
  obtain ⟨v, h1, h2⟩ := R.own j m e
  exact ⟨v, h1, (h2.step (fun a ha => d a ⟨j, ha⟩) x s).1⟩, R.no, R.dj, R.fx.stay x.fz⟩
theorem Rel.upd (R : Rel K Z H σ ρ F) {m' : M} (e : slot ρ i = some m') (x : Step Z H Z' H' (· ∈ F i) A') (s : Sub Z' H') (hs : σ[i]? = some (some v)) (o : Own K Z' H' m v G) (d : ∀ a ∈ G, a ∈ F i ∨ H a = none) :
  Rel K Z' H' σ (ρ.set i (some m)) (fset F i G) ∧ Step Z H Z' H' (U F) (U (fset F i G)) := by
 have R1 := (R.del i).frame x s (fun a hu hi => by
  rcases U_fset hu with hu | ⟨j, hj, hu⟩
  ·cases hu
  ·exact hj (R.dj j i a hu hi))
 have hi := slot_lt e
 have e2 : ρ.set i (some m) = (ρ.set i none).set i (some m) := by rw [List.set_set]
 have ef : fset F i G = fset (fset F i []) i G := by
  funext j
  by_cases hj : j = i
  ·subst hj; rw [fset_self, fset_self]
  ·rw [fset_ne F G hj, fset_ne _ G hj, fset_ne F [] hj]
 refine ⟨?_, ⟨fun a u h n => x.fr a u h fun q => n ⟨i, q⟩, x.zz, fun a u h => ?_, fun a h => ?_, x.fz⟩⟩
 ·rw [e2, ef]
  refine R1.put (slot_self _ hi) (by rw [List.length_set]; exact hi) hs o fun a ha hu => ?_
  rcases U_fset hu with hu | ⟨j, hj, hu⟩
  ·cases hu
  ·rcases d a ha with q | q
   ·exact hj (R.dj j i a hu q)
   ·obtain ⟨_, u, hu2, _⟩ := R.mem ⟨j, hu⟩
    rw [q] at hu2; cases hu2
 ·rcases x.zn a u h with q | q | q | q
  ·exact .inl q
  ·exact .inr (.inl ⟨i, q⟩)
  ·exact .inr (.inr (.inl q))
  ·exact .inr (.inr (.inr q))
 ·rcases U_fset h with h | ⟨j, _, h⟩
  ·rcases d a h with q | q
   ·exact .inl ⟨i, q⟩
   ·exact .inr q
  ·exact .inl ⟨j, h⟩
end
structure Go (K : PySem.W.Frag) (X : Cxt) (σ : St) (Z H : Hp) (ρ : Env) (F : Nat → List Addr) (Z' H' : Hp) (ρ' : Env) (F' : Nat → List Addr) : Prop where
 rel : Rel K Z' H' σ ρ' F'
 st : Step Z H Z' H' (U F) (U F')
 lk : Lk X ρ ρ'
theorem Go.refl {K : PySem.W.Frag} {X : Cxt} {σ : St} {Z H : Hp} {ρ : Env} {F : Nat → List Addr} (R : Rel K Z H σ ρ F) : Go K X σ Z H ρ F Z H ρ F := ⟨R, Step.refl _, Lk.refl _⟩
theorem Go.trans {K : PySem.W.Frag} {X : Cxt} {σ : St} {Z H Z1 H1 Z2 H2 : Hp} {ρ ρ1 ρ2 : Env} {F F1 F2 : Nat → List Addr} (x : Go K X σ Z H ρ F Z1 H1 ρ1 F1) (y : Go K X σ Z1 H1 ρ1 F1 Z2 H2 ρ2 F2) : Go K X σ Z H ρ F Z2 H2 ρ2 F2 :=
 ⟨y.rel, x.st.trans y.st, x.lk.trans y.lk⟩
theorem Go.alloc {K : PySem.W.Frag} {X : Cxt} {σ : St} {Z H Z1 H1 Z2 H2 : Hp} {ρ ρ1 : Env} {F F1 : Nat → List Addr} {G : List Addr} (x : Go K X σ Z H ρ F Z1 H1 ρ1 F1) (y : Alloc Z1 H1 Z2 H2 G) : Go K X σ Z H ρ F Z2 H2 ρ1 F1 :=
 ⟨x.rel.alloc y, x.st.trans (y.step _), x.lk⟩
structure Res (K : PySem.W.Frag) (Z H : Hp) (A : AS) (Z' H' : Hp) (F' : Nat → List Addr) (m : M) (v : V) (G : List Addr) : Prop where
 own : Own K Z' H' m v G
 ap : ∀ a ∈ G, ¬ U F' a
 nw : ∀ a ∈ G, A a ∨ H a = none
theorem new_back {Z H Z' H' : Hp} {A A' : AS} (x : Step Z H Z' H' A A') {a : Addr} (h : H' a = none) : A a ∨ H a = none := by
 by_cases q : A a
 ·exact .inl q
 ·cases e : H a with
  | none => exact .inr rfl
  | some u => rw [x.fr a u e q] at h; cases h
theorem Res.carry {K : PySem.W.Frag} {X : Cxt} {σ : St} {Z H Z1 H1 Z2 H2 : Hp} {A : AS} {ρ1 ρ2 : Env} {F1 F2 : Nat → List Addr} {m : M} {v : V} {G : List Addr} (r : Res K Z H A Z1 H1 F1 m v G) (y : Go K X σ Z1 H1 ρ1 F1 Z2 H2 ρ2 F2) : Res K Z H A Z2 H2 F2 m v G :=
 let ⟨a, b⟩ := r.own.step r.ap y.st y.rel.sub
 ⟨a, b, r.nw⟩
abbrev Ev1 := Env → Option (M × Env)
def TEx (K : PySem.W.Frag) (X : Cxt) (g : Ev1) : TE := fun σ H Q => ∃ Z ρ F m ρ', Rel K Z H σ ρ F ∧ g ρ = some (m, ρ') ∧
 ∀ Z' H' F' v G, Go K X σ Z H ρ F Z' H' ρ' F' → Res K Z H (U F) Z' H' F' m v G → Q v H'
def TTs (K : PySem.W.Frag) (X : Cxt) (g : Ev1) : TT := fun σ H Q => ∃ Z ρ F b ρ', Rel K Z H σ ρ F ∧ g ρ = some (.v (.bool b), ρ') ∧ ∀ Z' H' F', Go K X σ Z H ρ F Z' H' ρ' F' → Q b H'
def OpdOk (K : PySem.W.Frag) (Z H : Hp) (A : AS) (σ : St) (Z' H' : Hp) (F' : Nat → List Addr) (r : R) (v : V) (G : List Addr) : Prop := match r with
 | .pl i => σ[i]? = some (some v) ∧ G = []
 | .vl m => Res K Z H A Z' H' F' m v G
def TOp (K : PySem.W.Frag) (X : Cxt) (g : Env → Option (R × Env)) : TE := fun σ H Q => ∃ Z ρ F r ρ', Rel K Z H σ ρ F ∧ g ρ = some (r, ρ') ∧
 ∀ Z' H' F' v G, Go K X σ Z H ρ F Z' H' ρ' F' → OpdOk K Z H (U F) σ Z' H' F' r v G → Q v H'
section
variable {K : PySem.W.Frag} {X : Cxt} {σ : St} {Z H Z1 H1 Z2 H2 : Hp} {A : AS} {ρ ρ1 ρ2 : Env} {F F1 F2 : Nat → List Addr} {r : R} {m : M} {v : V} {G : List Addr}
theorem OpdOk.carry (o : OpdOk K Z H A σ Z1 H1 F1 r v G) (y : Go K X σ Z1 H1 ρ1 F1 Z2 H2 ρ2 F2) : OpdOk K Z H A σ Z2 H2 F2 r v G := by
 cases r with
 | pl i => exact o
 | vl m => exact Res.carry o y
theorem OpdOk.rd (o : OpdOk K Z H A σ Z1 H1 F1 r v G) (R : Rel K Z1 H1 σ ρ1 F1) (e : rd ρ1 r = some m) : ∃ G', Own K Z1 H1 m v G' := by
 cases r with
 | pl i =>
  obtain ⟨h1, h2⟩ := o
  obtain ⟨w, h3, h4⟩ := R.own i m e
  rw [h1] at h3; cases h3
  exact ⟨_, h4⟩
 | vl m2 => cases e; exact ⟨G, Res.own o⟩
end
theorem PE.mono {X : Cx} {e : Expr} {t t' : TE} (h : PE X e t) (i : ∀ σ H Q, t' σ H Q → t σ H Q) : PE X e t' := ⟨fun pins s σ H Q J q => h.run pins s σ H Q J (i σ H Q q)⟩
theorem PT.mono {X : Cx} {e : Expr} {t t' : TT} (h : PT X e t) (i : ∀ σ H Q, t' σ H Q → t σ H Q) : PT X e t' := ⟨fun pins s σ H Q J q => h.run pins s σ H Q J (i σ H Q q)⟩
theorem PS.mono {X : Cx} {e : Stmt} {t t' : TS} (h : PS X e t) (i : ∀ D σ H, t' D σ H → t D σ H) : PS X e t' := ⟨fun pins s σ H D J q => h.run pins s σ H D J (i D σ H q)⟩
theorem PSs.mono {X : Cx} {e : List Stmt} {t t' : TS} (h : PSs X e t) (i : ∀ D σ H, t' D σ H → t D σ H) : PSs X e t' := ⟨fun pins s σ H D J q => h.run pins s σ H D J (i D σ H q)⟩
theorem PA.mono {X : Cx} {e : List Expr} {t t' : TA} (h : PA X e t) (i : ∀ σ H Q, t' σ H Q → t σ H Q) : PA X e t' := ⟨fun pos pins s σ H Q J q => h.run pos pins s σ H Q J (i σ H Q q)⟩
theorem ask_done {K : PySem.W.Frag} {X : Cxt} {σ : St} {Z H Z1 H1 : Hp} {ρ ρ1 : Env} {F F1 : Nat → List Addr} {m : M} {Q : VK} (g : Go K X σ Z H ρ F Z1 H1 ρ1 F1)
  (q : ∀ Z' H' F' v G, Go K X σ Z H ρ F Z' H' ρ1 F' → Res K Z H (U F) Z' H' F' m v G → Q v H') : Ask K Z1 H1 m Q := fun Z' H' v G al o =>
 q Z' H' F1 v G (g.alloc al) ⟨o, g.rel.apart al.gn, fun a ha => new_back g.st (al.gn a ha)⟩
end Mn
end
section
set_option maxHeartbeats 200000
namespace Mn
open PySem L2 PySem.Spec
variable [WW] [FX]
def tVr (i : Nat) : TE := fun σ H Q => ∃ v, σ[i]? = some (some v) ∧ FXok σ H ∧ Q v H
inductive ArgO (K : PySem.W.Frag) (Z H : Hp) : List M → List V → List (List Addr) → Prop
 | nil : ArgO K Z H [] [] []
 | cons {m : M} {v : V} {G : List Addr} {ms : List M} {vs : List V} {Gs : List (List Addr)} : Own K Z H m v G → ArgO K Z H ms vs Gs → (∀ a ∈ G, ∀ G2 ∈ Gs, a ∉ G2) → ArgO K Z H (m :: ms) (v :: vs) (G :: Gs)
def LkA (ds ds' : List M) : Prop := ds'.length = ds.length ∧ ∀ (j : Nat) (m : M), ds[j]? = some (.k m) → ds'[j]? = some (.k m)
def inL (Gs : List (List Addr)) : AS := fun a => ∃ G ∈ Gs, a ∈ G
abbrev FnS := Nat → List M → Option (M × List M)
def spF (K : PySem.W.Frag) (C : FnS) (f : Nat) : Sp := fun vs H Q _ => ∃ Z ds d ds' Gs, C f ds = some (d, ds') ∧ Sub Z H ∧ ArgO K Z H ds vs Gs ∧
 ∀ Z' H' v G Gs', Sub Z' H' → Step Z H Z' H' (inL Gs) (inL (G :: Gs')) → Own K Z' H' d v G → ArgO K Z' H' ds' vs Gs' → (∀ a ∈ G, ¬ inL Gs' a) → LkA ds ds' → Q v H'
def bnames : List Str := ["len", "tuple", "list", "dict", "int", "sorted", "all", "any", "sum", "abs", "max", "min", "isinstance", "range", "enumerate", "zip", "set", "str", "bool"]
def spM (K : PySem.W.Frag) (C : FnS) (f : Nat) (F : MFn) (q : FO) : Sp := fun vs H Q _ => ∃ Z ds d ds' Gs ws, C f ds = some (d, ds') ∧ Sub Z H ∧ ArgO K Z H ds ws Gs ∧ vs = .ref q.p :: ws.take F.np ∧ H q.p = some (.frz q.o (.ins q.C q.dx q.fs)) ∧ (∀ (j : Nat) (fl : Str), F.fl[j]? = some fl → ∃ v, q.fs.lookup fl = some v ∧ ws[F.np + j]? = some v) ∧
 ∀ Z' H' v G Gs', Sub Z' H' → Step Z H Z' H' (inL Gs) (inL (G :: Gs')) → Own K Z' H' d v G → ArgO K Z' H' ds' ws Gs' → (∀ a ∈ G, ¬ inL Gs' a) → LkA ds ds' → Q v H'
def DsOk (K : PySem.W.Frag) (w : World) (mg : Str → Option Value) (nm : Str) (kvs : List (Str × Int)) : Prop := ∃ (a : Addr) (es : Array DictEntry) (n : Nat), mg nm = some (.ref a) ∧ KDict K w a es n ∧ ∀ z : Str, match kvs.find? fun kv => decide (kv.1 = z) with
 | some kv => ∃ t, PySem.W.nsIn K a z = some (some (.int kv.2 t))
 | none => PySem.W.nsIn K a z = some none
structure Good (T : Tab) (k : Nat) (cx : Cxt) (X : Cx) : Prop where
 calm : X.calm = true
 nd : X.N.Nodup
 room : Room k X.A
 fns : ∀ f F, T.fs[f]? = some F → ∃ a fd, X.mg F.name = some (.ref a) ∧ PySem.W.keepIn X.K (.ref a) = true ∧ Binds X.K fd (F.N.take F.np) [] ∧ FnOk X.prog X.w X.K X.mg X.base CX0 k a fd (F.N.take F.np) (spF X.K cx.C f)
 free : ∀ x ∈ bnames, X.mg x = none
 gs : ∀ c p, cx.gs c = some p → ∃ x u v, (T.gs[c]?).map (·.1) = some x ∧ X.mg x = some u ∧ RelV v u ∧ Rep X.K (fun _ => none) v p
 xe : X.xe = fun _ _ => False
 at_ : AtW X
 pm : PmOk cx
 fo : ∀ (i : Nat) (f : Str), X.N[i]? = some (selfDot f) → ∃ q, FX.ob = some q
 fq : ∀ q, FX.ob = some q → q.N = X.N ∧ Cls X.K q.C ∧ ∀ (i : Nat) (f : Str), X.N[i]? = some (selfDot f) → NoAttr X.K q.C f
 ms : ∀ f F q, T.fs[f]? = none → T.ms.lookup f = some F → FX.ob = some q → ∃ a fd, Meth X.K q.C F.name a ∧ q.fs.lookup F.name = none ∧ Binds X.K fd (F.N.take (F.np + 1)) [] ∧ FnOk X.prog X.w X.K X.mg X.base CX0 k a fd (F.N.take (F.np + 1)) (spM X.K cx.C f F q)
 ex : ∀ f F, T.fs[f]? = none → T.ms.lookup f = none → T.ex.lookup f = some F → ∃ a fd ps, X.mg F.name = some (.ref a) ∧ PySem.W.keepIn X.K (.ref a) = true ∧ Binds X.K fd ps [] ∧ FnOk X.prog X.w X.K X.mg X.base CX0 k a fd ps (spF X.K cx.C f)
 ds : ∀ nm kvs, (nm, kvs) ∈ T.ds → DsOk X.K WW.w X.mg nm kvs
def visB (sc : Scope) (x : Str) : Bool := match sc.names.lookup x with
 | some .local => true | some .cell => true | some .free => true
 | _ => false
theorem vis_of {sc : Scope} {x : Str} (h : visB sc x = true) : Vis sc x := by
 unfold visB at h
 split at h
 ·exact .inl (by assumption)
 ·exact .inr (.inl (by assumption))
 ·exact .inr (.inr (by assumption))
 ·cases h
def plainB (x : Str) : Bool := !(x == ("__debug__" : Str)) && (!(x == ("__classdict__" : Str)) && !(x == ("__name__" : Str)))
def nmB (N : List Str) (sc : Scope) (i : Nat) (x : Str) : Bool := decide (N[i]? = some x) && (visB sc x && plainB x)
def glB (sc : Scope) (x : Str) : Bool := (match sc.names.lookup x with
 | some .globalImplicit => true
 | _ => false) && plainB x
theorem plain_of {x : Str} (h : plainB x = true) : (x == ("__debug__" : Str)) = false ∧ (x == ("__classdict__" : Str)) = false ∧ x ≠ ("__name__" : Str) := by
 unfold plainB at h
 simp only [Bool.and_eq_true, Bool.not_eq_true'] at h
 exact ⟨h.1, h.2.1, fun e => by rw [e] at h; simp at h⟩
theorem gl_of {X : Cx} {x : Str} (h : glB X.env.scope x = true) : Gl X x ∧ plainB x = true := by
 unfold glB at h
 rw [Bool.and_eq_true] at h
 refine ⟨?_, h.2⟩
 have h1 := h.1
 split at h1
 ·assumption
 ·cases h1
section
variable {T : Tab} {k : Nat} {cx : Cxt} {X : Cx} {x y z : Expr} {pos p2 : Pos}
theorem nm_pe {i : Nat} {n : Str} (h : nmB X.N X.env.scope i n = true) : PE X (.Name n pos) (tVr i) := by
 refine PE.mono (t := tVar i) ?_ fun σ H Q ⟨v, e, _, q⟩ => ⟨v, e, q⟩
 unfold nmB at h
 simp only [Bool.and_eq_true, decide_eq_true_eq] at h
 obtain ⟨h1, h2, h3⟩ := plain_of h.2.2 |> fun q => (⟨h.1, h.2.1, q⟩ : _ ∧ _ ∧ _)
 exact pe_var h1 (vis_of h2) h3.1 h3.2.1
theorem insR_get {pins : List (Addr × Obj)} {σ : St} {H : Hp} {s : Shared} {a C dx : Addr} {o : Obj} {fs : List (Str × V)} (I : Inv X pins σ H s) (e : H a = some (.frz o (.ins C dx fs))) : ∃ mA, ObjM s.heap a dx C mA ∧ (∀ f, RelO (fs.lookup f) (mA f)) ∧ PySem.Within mA (fs.map (·.1)) ∧ fs.length ≤ 1000 ∧ H dx = some (.own a) := by
 obtain ⟨d, z, ne, ob, mA, n, r, q⟩ := (show ObjOk X.prog X.w H s.heap a (.frz o (.ins C dx fs)) from I.hok a _ e).2
 exact ⟨mA, ⟨ob, n, ne⟩, r, q, z, d⟩
theorem frz_attr {pins : List (Addr × Obj)} {σ : St} {H : Hp} {s : Shared} {a C dx : Addr} {o : Obj} {fs : List (Str × V)} {f : Str} {v : V} {A : Around} {E : Value → Shared → Prop} {b : Bool} {Q : Value → Shared → Prop} (I : Inv X pins σ H s) (e : H a = some (.frz o (.ins C dx fs))) (c : Cls X.K C) (n : NoAttr X.K C f) (l : fs.lookup f = some v)
  (h : ∀ u s', Inv X pins σ H s' → RelV v u → Q u s') : wpAny (model X.prog X.w) A (getAttr (.ref a) f b) Q E s := by
 obtain ⟨mA, O, r, _, _, _⟩ := insR_get I e
 obtain ⟨u, hu, ru⟩ := RelO.some_of (v := v) (o := mA f) (by rw [← l]; exact r f)
 exact get_map I.kIn O (c.get f) c.hd n hu (handed_of ru) (h u _ (I.tok _) ru)
theorem fld_pe {i : Nat} {n f : Str} (g : Good T k cx X) (h0 : nmB X.N X.env.scope 0 n = true) (hi : X.N[i]? = some (selfDot f)) : PE X (.Attribute (.Name n p2) f pos) (tVr i) := by
 obtain ⟨q, hq⟩ := g.fo i f hi
 obtain ⟨g1, g2, g3⟩ := g.fq q hq
 refine ⟨fun pins s σ H Q J ⟨v, e, fx, h⟩ => ?_⟩
 obtain ⟨k1, k2, k3⟩ := fx q hq
 obtain ⟨v2, k4, k5⟩ := k3 i f (by rw [g1]; exact hi)
 rw [e] at k5
 cases k5
 refine attr_of rfl (thn ((nm_pe (pos := p2) h0).run pins s σ H (fun x H' => x = .ref q.p ∧ H' = H) J ⟨_, k2, fx, rfl, rfl⟩) fun u s1 ⟨x, H1, J1, rx, e1, e2⟩ => ?_)
 subst e1 e2
 obtain rfl : u = Value.ref q.p := rx
 exact frz_attr J1 k1 g2 (g3 i f hi) k4 fun u' s2 J2 ru => ⟨v, H1, J2, ru, h⟩
theorem top_pl {i : Nat} {g : Ev1} (h : PE X x (tVr i)) : PE X x (TOp X.K cx (opE (.pl i) g)) := PE.mono h fun σ H Q ⟨Z, ρ, F, r, ρ', R, e, q⟩ => by
 simp only [opE] at e
 split at e
 ·rename_i m em
  cases e
  obtain ⟨v, h1, h2⟩ := R.own i m em
  exact ⟨v, h1, R.fx, q Z H F v [] (.refl R) ⟨h1, rfl⟩⟩
 ·cases e
def isPl : E → Bool
 | .pl _ => true
 | _ => false
theorem opE_ex {e : E} (h : isPl e = false) (g : Ev1) (ρ : Env) : opE e g ρ = match g ρ with
  | some (m, ρ) => some (.vl m, ρ)
  | none => none := by
 cases e <;> first | rfl | cases h
theorem top_ex {e : E} {g : Ev1} (hp : isPl e = false) (h : PE X x (TEx X.K cx g)) : PE X x (TOp X.K cx (opE e g)) := PE.mono h fun σ H Q ⟨Z, ρ, F, r, ρ', R, e, q⟩ => by
 rw [opE_ex hp] at e
 split at e
 ·rename_i m ρ2 em
  cases e
  exact ⟨Z, ρ, F, m, _, R, em, fun Z' H' F' v G g1 r1 => q Z' H' F' v G g1 r1⟩
 ·cases e
def TPx (K : PySem.W.Frag) (X : Cxt) (g : Env → Option (P × Env)) : TE := fun σ H Q => ∃ Z ρ F p ρ', Rel K Z H σ ρ F ∧ g ρ = some (p, ρ') ∧
 ∀ Z' H' F' v, Go K X σ Z H ρ F Z' H' ρ' F' → Rep K Z' v p → Q v H'
theorem freeze {K : PySem.W.Frag} {σ : St} {Z H Z1 H1 : Hp} {ρ ρ1 : Env} {F F1 : Nat → List Addr} {a : Addr} {u o : HO} (g : Go K cx σ Z H ρ F Z1 H1 ρ1 F1) (hu : H1 a = some u) (hz : Z1 a = none) (ap : ¬ U F1 a) (nw : U F a ∨ H a = none) (nt : notTup u) (nf : ∀ o' u', u ≠ .frz o' u')
  (ou : o = u ∨ ∃ ob, o = .frz ob u) : Go K cx σ Z H ρ F (upd Z1 a o) (upd H1 a o) ρ1 F1 ∧ Sub Z1 (upd Z1 a o) := by
 have zz : Sub Z1 (upd Z1 a o) := sub_upd hz
 have hs : Sub (upd Z1 a o) (upd H1 a o) := fun b w e => by
  by_cases q : b = a
  ·subst q; rw [upd_same] at e; rw [upd_same]; exact e
  ·rw [upd_ne q] at e; rw [upd_ne q]; exact g.rel.sub b w e
 have st : Step Z1 H1 (upd Z1 a o) (upd H1 a o) (· = a) (fun _ => False) := ⟨fun b w e n => by rw [upd_ne n]; exact e, zz, fun b w e => by
  by_cases q : b = a
  ·exact .inr (.inl q)
  ·rw [upd_ne q] at e; exact .inl e, fun _ h => h.elim, fun b o' u' e => by
  by_cases q : b = a
  ·subst q; rw [hu] at e; cases e; exact (nf _ _ rfl).elim
  ·rw [upd_ne q]; exact e⟩
 refine ⟨⟨g.rel.frame st hs fun b hb q => ap (q ▸ hb), ⟨fun b w e n => ?_, g.st.zz.trans zz, fun b w e => ?_, g.st.an, fun b o' u' e => st.fz b o' u' (g.st.fz b o' u' e)⟩, g.lk⟩, zz⟩
 ·have h1 := g.st.fr b w e n
  by_cases q : b = a
  ·subst q
   rcases nw with h | h
   ·exact (n h).elim
   ·rw [h] at e; cases e
  ·rw [upd_ne q]; exact h1
 ·by_cases q : b = a
  ·subst q
   rcases nw with h | h
   ·exact .inr (.inl h)
   ·exact .inr (.inr (.inl h))
  ·rw [upd_ne q] at e; exact g.st.zn b w e
theorem upd_eq {H : Hp} {a : Addr} {o : HO} (h : H a = some o) : upd H a o = H := by
 funext b
 by_cases q : b = a
 ·subst q; rw [upd_same, h]
 ·exact upd_ne q
theorem frzK_rep {K : PySem.W.Frag} {Z : Hp} : ∀ {vs : List (Key × V)} {ps : List (Key × P)}, DRel K Z vs ps → RepK K Z vs (ps.map fun kv => (ofKey kv.1, kv.2))
 | _, _, .nil => .nil
 | _, _, @Paired.cons _ _ _ x y xs ys h t => by
  obtain ⟨h1, h2, h3⟩ := h
  obtain ⟨k, v⟩ := x
  obtain ⟨k2, p⟩ := y
  cases h1
  exact .cons h2 h3 (frzK_rep t)
theorem frzT_rep {K : PySem.W.Frag} {Z : Hp} : ∀ {vs : List (List Key × V)} {ps : List (List Key × P)}, TRel K Z vs ps → RepT K Z vs (ps.map fun kv => (ofKeys kv.1, kv.2))
 | _, _, .nil => .nil
 | _, _, @Paired.cons _ _ _ x y xs ys h t => by
  obtain ⟨h1, h2, h3⟩ := h
  obtain ⟨k, v⟩ := x
  obtain ⟨k2, p⟩ := y
  cases h1
  exact .cons h2 h3 (frzT_rep t)
theorem fz_run {pins : List (Addr × Obj)} {s s0 : Shared} {σ : St} {Z H Z1 H1 : Hp} {ρ ρ1 : Env} {F F1 : Nat → List Addr} {m : M} {v : V} {G : List Addr} {p : P} (J : Inv X pins σ H1 s) (g : Go X.K cx σ Z H ρ F Z1 H1 ρ1 F1) (r : Res X.K Z H (U F) Z1 H1 F1 m v G) (e : toP m = some p) :
  ∃ Z2 H2, Inv X pins σ H2 s ∧ Go X.K cx σ Z H ρ F Z2 H2 ρ1 F1 ∧ Rep X.K Z2 v p := by
 obtain ⟨o, ap, nw⟩ := r
 cases o with
 | v h => cases e; exact ⟨Z1, H1, J, g, h⟩
 | @l a vs ps h hz r1 =>
  cases e
  obtain ⟨g2, zz⟩ := freeze (o := .lst vs) g h hz (ap a (by simp)) (nw a (by simp)) trivial (fun _ _ z => by cases z) (.inl rfl)
  rw [upd_eq h] at g2
  exact ⟨_, H1, J, g2, .lst upd_same (r1.sub zz)⟩
 | @d a vs ps h hz r1 =>
  cases e
  obtain ⟨od, J2⟩ := J.lock h trivial
  obtain ⟨g2, zz⟩ := freeze (o := .frz od (.dK vs)) g h hz (ap a (by simp)) (nw a (by simp)) trivial (fun _ _ z => by cases z) (.inr ⟨od, rfl⟩)
  exact ⟨_, _, J2, g2, .dk upd_same ((frzK_rep r1).sub zz)⟩
 | @t a vs ps h hz r1 =>
  cases e
  obtain ⟨od, J2⟩ := J.lock h trivial
  obtain ⟨g2, zz⟩ := freeze (o := .frz od (.dT vs)) g h hz (ap a (by simp)) (nw a (by simp)) trivial (fun _ _ z => by cases z) (.inr ⟨od, rfl⟩)
  exact ⟨_, _, J2, g2, .dt upd_same ((frzT_rep r1).sub zz)⟩
 | n _ _ _ _ => cases e
 | s _ _ => cases e
 | rn _ _ _ => cases e
 | uo _ _ _ => cases e
 | ku _ _ _ => cases e
 | gone => cases e
 | ho _ _ _ _ => cases e
 | kl _ _ _ => cases e
 | kd _ _ _ => cases e
 | kt _ _ _ => cases e
theorem px_of {g : Ev1} (h : PE X x (TEx X.K cx g)) : PE X x (TPx X.K cx (toPg g)) := ⟨fun pins s σ H Q J ⟨Z, ρ, F, p, ρ', R, e, q⟩ => by
 unfold toPg at e
 split at e
 ·rename_i m ρ1 em
  split at e
  ·rename_i p2 ep
   cases e
   exact thn (h.run pins s σ H (fun v H1 => ∃ Z1 F1 G, Go X.K cx σ Z H ρ F Z1 H1 ρ' F1 ∧ Res X.K Z H (U F) Z1 H1 F1 m v G) J ⟨Z, ρ, F, m, ρ', R, em, fun Z' H' F' v G g1 r1 => ⟨Z', F', G, g1, r1⟩⟩)
    fun u s1 ⟨v, H1, J1, rv, Z1, F1, G, g1, r1⟩ => by
     obtain ⟨Z2, H2, J2, g2, rp⟩ := fz_run (s0 := s) J1 g1 r1 ep
     exact ⟨v, H2, J2, rv, q Z2 H2 F1 v g2 rp⟩
  ·cases e
 ·cases e⟩
end
end Mn
end
section
set_option maxHeartbeats 200000
namespace Mn
open PySem L2 PySem.Spec
variable [WW] [FX]
section
variable {T : Tab} {k : Nat} {cx : Cxt} {X : Cx} {x y z : Expr} {pos p2 : Pos}
theorem no0 {Pp : Addr → Prop} : ∀ a ∈ ([] : List Addr), Pp a := fun _ h => by cases h
theorem lk_set {ρ : Env} {i : Nat} {m m' : M} (h : slot ρ i = some m) (nk : isLk (some m) = false) : Lk cx ρ (ρ.set i (some m')) := by
 refine ⟨fun j n e => ?_, fun j _ hn => ?_, List.length_set⟩
 ·by_cases q : i = j
  ·subst q; rw [h] at e; cases e; cases nk
  ·rw [slot_other _ q]; exact e
 ·by_cases q : i = j
  ·subst q; rw [slot_self _ (slot_lt h)]; exact fun z => nomatch z
  ·rw [slot_other _ q]; exact hn
theorem freeze_slot {K : PySem.W.Frag} {σ : St} {Z H : Hp} {ρ : Env} {F : Nat → List Addr} {i : Nat} {m : M} {a : Addr} {u o : HO} {p : P} (R : Rel K Z H σ ρ F) (e : slot ρ i = some m) (nk : isLk (some m) = false) (ef : F i = [a]) (hs : σ[i]? = some (some (.ref a)))
  (hu : H a = some u) (hz : Z a = none) (nt : notTup u) (nf : ∀ o' u', u ≠ .frz o' u') (rp : Rep K (upd Z a o) (.ref a) p) : Go K cx σ Z H ρ F (upd Z a o) (upd H a o) (ρ.set i (some (.v p))) (fset F i []) := by
 have hs2 : Sub (upd Z a o) (upd H a o) := fun b w e => by
  by_cases q : b = a
  ·subst q; rw [upd_same] at e; rw [upd_same]; exact e
  ·rw [upd_ne q] at e; rw [upd_ne q]; exact R.sub b w e
 have st : Step Z H (upd Z a o) (upd H a o) (· ∈ F i) (fun _ => False) := ⟨fun b w e n => by rw [upd_ne (fun q => n (by rw [ef, q]; simp))]; exact e, sub_upd hz, fun b w e => by
  by_cases q : b = a
  ·exact .inr (.inl (by rw [ef, q]; simp))
  ·rw [upd_ne q] at e; exact .inl e, fun _ h => h.elim, fun b o' u' e => by
  by_cases q : b = a
  ·subst q; rw [hu] at e; cases e; exact (nf _ _ rfl).elim
  ·rw [upd_ne q]; exact e⟩
 obtain ⟨h1, h2⟩ := R.upd (m := .v p) (G := []) e st hs2 hs (.v rp) (no0)
 exact ⟨h1, h2, lk_set e nk⟩
theorem slot_fz {pins : List (Addr × Obj)} {s : Shared} {σ : St} {Z H : Hp} {ρ : Env} {F : Nat → List Addr} {i : Nat} {m : M} {p : P} {v : V} (J : Inv X pins σ H s) (R : Rel X.K Z H σ ρ F) (e : slot ρ i = some m) (ep : toP m = some p) (hs : σ[i]? = some (some v)) :
  (∃ q, m = .v q) ∨ ∃ Z' H', Inv X pins σ H' s ∧ Go X.K cx σ Z H ρ F Z' H' (ρ.set i (some (.v p))) (fset F i []) ∧ Rep X.K Z' v p := by
 obtain ⟨w, h1, h2⟩ := R.own i m e
 rw [hs] at h1; cases h1
 have ef : ∃ G, F i = G := ⟨_, rfl⟩
 obtain ⟨G, ef⟩ := ef
 rw [ef] at h2
 cases h2 with
 | v h => exact .inl ⟨_, rfl⟩
 | @l a vs ps h hz r1 =>
  cases ep
  refine .inr ⟨upd Z a (.lst vs), H, J, ?_, .lst upd_same (r1.sub (sub_upd hz))⟩
  have g := freeze_slot (cx := cx) (o := .lst vs) (p := .list ps) R e rfl ef hs h hz trivial (fun _ _ z => by cases z) (.lst upd_same (r1.sub (sub_upd hz)))
  rw [upd_eq h] at g
  exact g
 | @d a vs ps h hz r1 =>
  cases ep
  obtain ⟨od, J2⟩ := J.lock h trivial
  have rp : Rep X.K (upd Z a (.frz od (.dK vs))) (.ref a) (frzD ps) := .dk upd_same ((frzK_rep r1).sub (sub_upd hz))
  exact .inr ⟨_, _, J2, freeze_slot R e rfl ef hs h hz trivial (fun _ _ z => by cases z) rp, rp⟩
 | @t a vs ps h hz r1 =>
  cases ep
  obtain ⟨od, J2⟩ := J.lock h trivial
  have rp : Rep X.K (upd Z a (.frz od (.dT vs))) (.ref a) (frzT ps) := .dt upd_same ((frzT_rep r1).sub (sub_upd hz))
  exact .inr ⟨_, _, J2, freeze_slot R e rfl ef hs h hz trivial (fun _ _ z => by cases z) rp, rp⟩
 | n _ _ _ _ => cases ep
 | s _ _ => cases ep
 | kl _ _ _ => cases ep
 | kd _ _ _ => cases ep
 | kt _ _ _ => cases ep
 | rn _ _ _ => cases ep
 | uo _ _ _ => cases ep
 | ku _ _ _ => cases ep
 | gone => cases ep
 | ho _ _ _ _ => cases ep
theorem take_cases {ρ ρ' : Env} {i : Nat} {m : M} (e : take ρ i = some (m, ρ')) : ∃ m0 p, slot ρ i = some m0 ∧ toP m0 = some p ∧ m = .v p ∧ ((∃ q, m0 = .v q) → ρ' = ρ) ∧ ((¬ ∃ q, m0 = .v q) → ρ' = ρ.set i (some (.v p))) := by
 unfold take at e
 split at e <;> rename_i h
 ·cases e; exact ⟨_, _, h, rfl, rfl, fun _ => rfl, fun q => (q ⟨_, rfl⟩).elim⟩
 ·cases e; exact ⟨_, _, h, rfl, rfl, (fun ⟨_, q⟩ => by cases q), fun _ => rfl⟩
 ·cases e; exact ⟨_, _, h, rfl, rfl, (fun ⟨_, q⟩ => by cases q), fun _ => rfl⟩
 ·cases e; exact ⟨_, _, h, rfl, rfl, (fun ⟨_, q⟩ => by cases q), fun _ => rfl⟩
 ·cases e
theorem snd_tk {i : Nat} (h : PE X x (tVr i)) : PE X x (TEx X.K cx (ev cx (.tk i))) := ⟨fun pins s σ H Q J ⟨Z, ρ, F, m, ρ', R, e, q⟩ => by
 simp only [ev] at e
 obtain ⟨m0, p, h1, h2, rfl, h3, h4⟩ := take_cases e
 obtain ⟨v, h5, h6⟩ := R.own i m0 h1
 refine thn (h.run pins s σ H (fun v' H' => v' = v ∧ H' = H) J ⟨v, h5, R.fx, rfl, rfl⟩) fun u s1 ⟨v', H', J1, rv, e1, e2⟩ => ?_
 subst e1 e2
 rcases slot_fz (cx := cx) J1 R h1 h2 h5 with ⟨q0, hq⟩ | ⟨Z', H2, J2, g, rp⟩
 ·have := h3 ⟨q0, hq⟩
  subst this hq
  cases h2
  generalize hG : F i = G at h6
  cases h6 with
  | v h6 => exact ⟨_, H', J1, rv, q Z H' F _ [] (.refl R) ⟨.v h6, no0, no0⟩⟩
 ·by_cases hq : ∃ q, m0 = .v q
  ·obtain ⟨q0, hq⟩ := hq
   have := h3 ⟨q0, hq⟩
   subst this hq
   cases h2
   generalize hG : F i = G at h6
   cases h6 with
   | v h6 => exact ⟨_, H', J1, rv, q Z H' F _ [] (.refl R) ⟨.v h6, no0, no0⟩⟩
  ·have := h4 hq
   subst this
   exact ⟨_, H2, J2, rv, q Z' H2 _ _ [] g ⟨.v rp, no0, no0⟩⟩⟩
theorem snd_mv {i : Nat} (h : PE X x (tVr i)) : PE X x (TEx X.K cx (ev cx (.mv i))) := PE.mono h fun σ H Q ⟨Z, ρ, F, m, ρ', R, e, q⟩ => by
 simp only [ev] at e
 split at e
 ·cases e
 ·rename_i c
  split at e
  ·rename_i m1 h1
   cases e
   obtain ⟨v, h2, h3, h4⟩ := R.del_own h1
   have hl := slot_lt h1
   refine ⟨v, h2, R.fx, q Z H (fset F i []) v (F i) ⟨R.out h2 hl, ⟨fun _ _ h _ => h, Sub.rfl' _, fun _ _ h => .inl h, fun a h => .inl (U_del h), fun _ _ _ h => h⟩, ⟨fun j n ej => ?_, fun j pj nj => ?_, List.length_set⟩⟩ ⟨h3, h4, fun a ha => .inl ⟨i, ha⟩⟩⟩
   ·by_cases qj : i = j
    ·subst qj; rw [ej] at c; exact (c rfl).elim
    ·rw [slot_other _ qj]; exact ej
   ·by_cases qj : i = j
    ·subst qj; rw [slot_self _ hl, if_pos pj]; exact fun z => by cases z
    ·rw [slot_other _ qj]; exact nj
  ·cases e
theorem tex_c {K : PySem.W.Frag} {v : V} {m : M} {g : Ev1} {σ : St} {H : Hp} {Q : VK} (hg : ∀ ρ, g ρ = some (m, ρ)) (ho : ∀ Z H, Own K Z H m v []) : TEx K cx g σ H Q → tC v σ H Q := fun ⟨Z, ρ, F, m1, ρ', R, e, q⟩ => by
 rw [hg] at e
 cases e
 exact q Z H F v [] (.refl R) ⟨ho Z H, no0, no0⟩
theorem snd_ki {i : Int} {j : Nat} : PE X (.Constant (.int i) j pos) (TEx X.K cx (ev cx (.ki i))) := PE.mono pe_int fun _ _ _ => tex_c (fun _ => by simp only [ev]) fun _ _ => .v (.int i)
theorem snd_kb {i : Bool} {j : Nat} : PE X (.Constant (.bool i) j pos) (TEx X.K cx (ev cx (.kb i))) := PE.mono pe_bl fun _ _ _ => tex_c (fun _ => by simp only [ev]) fun _ _ => .v (.bl i)
theorem snd_kn {j : Nat} : PE X (.Constant .none j pos) (TEx X.K cx (ev cx .kn)) := PE.mono pe_non fun _ _ _ => tex_c (fun _ => by simp only [ev]) fun _ _ => .v .non
theorem snd_ks {z : Str} {j : Nat} (h : PyData.strOk z = true) (h2 : z.length ≤ sizeLine) : PE X (.Constant (.str z) j pos) (TEx X.K cx (ev cx (.ks z))) := PE.mono pe_str fun _ _ _ => tex_c (fun _ => by simp only [ev]) fun _ _ => .v (.str z h h2)
theorem snd_g {c : Nat} {n : Str} (g : Good T k cx X) (h : glB X.env.scope n = true) (hn : (T.gs[c]?).map (·.1) = some n) : PE X (.Name n pos) (TEx X.K cx (ev cx (.g c))) := ⟨fun pins s σ H Q J ⟨Z, ρ, F, m, ρ', R, e, q⟩ => by
 simp only [ev] at e
 split at e
 ·rename_i p ep
  cases e
  obtain ⟨x, u, v, h1, h2, h3, h4⟩ := g.gs c p ep
  rw [hn] at h1; cases h1
  exact (pe_glob (gl_of h).1 h2 h3 (plain_of (gl_of h).2).1).run pins s σ H Q J (q Z H F v [] (.refl R) ⟨.v (h4.sub (fun _ _ z => by cases z)), no0, no0⟩)
 ·cases e⟩
def TPs (K : PySem.W.Frag) (X : Cxt) (g : Env → Option (List P × Env)) : TA := fun σ H Q => ∃ Z ρ F ps ρ', Rel K Z H σ ρ F ∧ g ρ = some (ps, ρ') ∧
 ∀ Z' H' F' vs, Go K X σ Z H ρ F Z' H' ρ' F' → RepL K Z' vs ps → Q vs H'
theorem ps_nil : PA X [] (TPs X.K cx (evp cx .nil)) := PA.mono pa_nil fun σ H Q ⟨Z, ρ, F, ps, ρ', R, e, q⟩ => by
 simp only [evp] at e
 cases e
 exact q Z H F [] (.refl R) .nil
theorem ps_cons {e : E} {es : EL} {xs : List Expr} (h : PE X x (TEx X.K cx (ev cx e))) (hr : PA X xs (TPs X.K cx (evp cx es))) (hs : starEach (x :: xs) X.env = (false, eval x X.env) :: starEach xs X.env) : PA X (x :: xs) (TPs X.K cx (evp cx (.cons e es))) :=
 PA.mono (pa_cons (px_of h) hr hs) fun σ H Q ⟨Z, ρ, F, ps, ρ', R, e, q⟩ => by
  simp only [evp] at e
  split at e
  ·rename_i m ρ1 e1
   split at e
   ·rename_i p e2
    split at e
    ·rename_i ps2 ρ2 e3
     cases e
     refine ⟨Z, ρ, F, p, ρ1, R, by unfold toPg; rw [e1]; simp only [e2], fun Z1 H1 F1 v g1 r1 => ⟨Z1, ρ1, F1, ps2, _, g1.rel, e3, fun Z2 H2 F2 vs g2 r2 => q Z2 H2 F2 (v :: vs) (g1.trans g2) (.cons (r1.sub g2.st.zz) r2)⟩⟩
    ·cases e
   ·cases e
  ·cases e
def elLen : EL → Nat
 | .nil => 0
 | .cons _ r => elLen r + 1
theorem evp_len : ∀ {es : EL} {ρ ρ' : Env} {ps : List P}, evp cx es ρ = some (ps, ρ') → ps.length = elLen es
 | .nil, ρ, ρ', ps, e => by simp only [evp] at e; cases e; rfl
 | .cons e0 r, ρ, ρ', ps, e => by
  simp only [evp] at e
  split at e
  ·split at e
   ·split at e
    ·rename_i e3
     cases e
     rw [List.length_cons, evp_len e3]; rfl
    ·cases e
   ·cases e
  ·cases e
theorem snd_tup {es : EL} {xs : List Expr} {j : Nat} (h : PA X xs (TPs X.K cx (evp cx es))) (hl : elLen es ≤ 1000) : PE X (.Tuple xs j pos) (TEx X.K cx (ev cx (.tup es))) := PE.mono (pe_tupD h) fun σ H Q ⟨Z, ρ, F, m, ρ', R, e, q⟩ => by
 simp only [ev] at e
 split at e
 ·rename_i ps ρ1 e1
  cases e
  refine ⟨Z, ρ, F, ps, _, R, e1, fun Z1 H1 F1 vs g1 r1 => ⟨?_, Ask.tup (ask_done g1 q) g1.rel.sub r1⟩⟩
  rw [r1.length, evp_len e1]
  exact lim_le (Nat.le_trans hl (by decide))
 ·cases e
theorem snd_lst {es : EL} {xs : List Expr} (h : PA X xs (TPs X.K cx (evp cx es))) (hl : elLen es ≤ 1000) : PE X (.List xs pos) (TEx X.K cx (ev cx (.lst es))) := PE.mono (pe_lst h) fun σ H Q ⟨Z, ρ, F, m, ρ', R, e, q⟩ => by
 simp only [ev] at e
 split at e
 ·rename_i ps ρ1 e1
  cases e
  refine ⟨Z, ρ, F, ps, _, R, e1, fun Z1 H1 F1 vs g1 r1 => ⟨?_, Ask.lst (ask_done g1 q) g1.rel.sub r1⟩⟩
  rw [r1.length, evp_len e1]
  exact lim_le (Nat.le_trans hl (by decide))
 ·cases e
theorem z_none {Z H : Hp} (s : Sub Z H) {p : Addr} (h : H p = none) : Z p = none := by
 cases e : Z p with
 | none => rfl
 | some u => rw [s _ _ e] at h; cases h
theorem snd_dnw0 : PE X (.Dict [] [] pos) (TEx X.K cx (ev cx (.dnw 0))) := PE.mono pe_dnewK fun σ H Q ⟨Z, ρ, F, m, ρ', R, e, q⟩ => by
 simp only [ev] at e
 cases e
 exact Ask.dic (ask_done (.refl R) q) R.sub .nil
theorem snd_dnw1 : PE X (.Dict [] [] pos) (TEx X.K cx (ev cx (.dnw 1))) := PE.mono pe_dnewT fun σ H Q ⟨Z, ρ, F, m, ρ', R, e, q⟩ => by
 simp only [ev] at e
 cases e
 exact fun p hp => (ask_done (.refl R) q) Z _ (.ref p) [p] (.own R.sub hp) (.t upd_same (z_none R.sub hp) .nil)
theorem dnewU (g : Good T k cx X) {td : TE} (h : ∀ σ H Q, td σ H Q → ∀ p, H p = none → Q (.ref p) (upd H p (TupO p []))) : PE X (.Dict [] [] pos) td := by
 refine ⟨fun pins s σ H Q I q => wpAny_Dict_empty ?_⟩
 have lo : (s.heap.objs.size == sysModules) = false := beq_eq_false_iff_ne.mpr (Nat.ne_of_gt I.big)
 exact ⟨.ref s.heap.objs.size, _, I.laid (a := s.heap.objs.size) (o := TupO s.heap.objs.size []) (h' := s.heap.push { cls := .type "dict", data := .dict #[] }) (t' := s.toks) (fun _ _ q => Heap.get?_push_of_some _ q) (Nat.le_refl _) (uu_new g.at_ .nil lo (by rw [sizeLine_eq]; exact Nat.zero_le _) (Heap.DictOfH.new s.heap)), rfl, h _ _ _ q _ (I.hok.fresh (Nat.le_refl _))⟩
theorem snd_dnw3 (g : Good T k cx X) : PE X (.Dict [] [] pos) (TEx X.K cx (ev cx (.dnw 3))) := dnewU g fun σ H Q ⟨Z, ρ, F, m, ρ', R, e, q⟩ p hp => by
 simp only [ev] at e
 cases e
 exact (ask_done (.refl R) q) Z _ (.ref p) [p] (.own R.sub hp) (.uo upd_same (z_none R.sub hp) .nil)
theorem snd_dnw4 (g : Good T k cx X) : PE X (.Dict [] [] pos) (TEx X.K cx (ev cx (.dnw 4))) := dnewU g fun σ H Q ⟨Z, ρ, F, m, ρ', R, e, q⟩ p hp => by
 simp only [ev] at e
 cases e
 exact (ask_done (.refl R) q) Z _ (.ref p) [p] (.own R.sub hp) (.ho upd_same (z_none R.sub hp) .nil (fun h => by cases h))
theorem snd_dnw2 {n : Nat} (h3 : n ≠ 1) (h4 : n ≠ 2) : PE X (.Dict [] [] pos) (TEx X.K cx (ev cx (.dnw (n + 2)))) := PE.mono pe_dnewK fun σ H Q ⟨Z, ρ, F, m, ρ', R, e, q⟩ => by
 have e : some (M.n [], ρ) = some (m, ρ') := by
  rw [← e]
  match n with
  | 0 => rfl
  | 1 => exact (h3 rfl).elim
  | 2 => exact (h4 rfl).elim
  | _ + 3 => rfl
 cases e
 exact fun p hp => (ask_done (.refl R) q) Z _ (.ref p) [p] (.own R.sub hp) (.n upd_same (z_none R.sub hp) .nil (fun h => by cases h))
theorem snd_dnw (g : Good T k cx X) {t : Nat} : PE X (.Dict [] [] pos) (TEx X.K cx (ev cx (.dnw t))) := match t with
 | 0 => snd_dnw0
 | 1 => snd_dnw1
 | 3 => snd_dnw3 g
 | 4 => snd_dnw4 g
 | 2 => snd_dnw2 (n := 0) (by decide) (by decide)
 | n + 5 => snd_dnw2 (n := n + 3) (by omega) (by omega)
theorem snd_bin {op : BOp} {a b : E} (ha : PE X x (TOp X.K cx (opE a (ev cx a)))) (hb : PE X y (TOp X.K cx (opE b (ev cx b)))) : PE X (.BinOp x (bOp op) y pos) (TEx X.K cx (ev cx (.bin op a b))) := PE.mono (pe_op (bin_R op) ha hb) fun σ H Q ⟨Z, ρ, F, m, ρ', R, e, q⟩ => by
 simp only [ev] at e
 split at e
 ·rename_i r1 ρ1 e1
  split at e
  ·rename_i r2 ρ2 e2
   split at e
   ·rename_i m1 m2 e3 e4
    split at e
    ·rename_i m3 e5
     cases e
     refine ⟨Z, ρ, F, r1, ρ1, R, e1, fun Z1 H1 F1 v1 G1 g1 o1 => ⟨Z1, ρ1, F1, r2, _, g1.rel, e2, fun Z2 H2 F2 v2 G2 g2 o2 => ?_⟩⟩
     obtain ⟨_, w1⟩ := (o1.carry g2).rd g2.rel e3
     obtain ⟨_, w2⟩ := o2.rd g2.rel e4
     exact bin_ok op g2.rel.sub w1.view w2.view e5 (ask_done (g1.trans g2) q)
    ·cases e
   ·cases e
  ·cases e
 ·cases e
theorem snd_neg {a : E} (ha : PE X x (TEx X.K cx (ev cx a))) : PE X (.UnaryOp .USub x pos) (TEx X.K cx (ev cx (.neg a))) := PE.mono (pe_un un_neg ha) fun σ H Q ⟨Z, ρ, F, m, ρ', R, e, q⟩ => by
 simp only [ev] at e
 split at e
 ·rename_i i ρ1 e1
  cases e
  refine ⟨Z, ρ, F, _, _, R, e1, fun Z1 H1 F1 v1 G1 g1 r1 => ?_⟩
  have := (Own.view r1.own).int
  subst this
  exact ⟨_, rfl, q Z1 H1 F1 _ [] g1 ⟨.v (.int _), no0, no0⟩⟩
 ·cases e
theorem cmp_chain {op : COp} {a b : E} {σ : St} {H : Hp} {Q : VK} (hn : op = .isN ∨ op = .notN → ∃ x2, b = x2 ∧ x2 = .kn) : TEx X.K cx (ev cx (.cmp op a b)) σ H Q → tOp (rCmp X.K op) (TOp X.K cx (opE a (ev cx a))) (TOp X.K cx (opE b (ev cx b))) σ H Q := fun ⟨Z, ρ, F, m, ρ', R, e, q⟩ => by
 simp only [ev] at e
 split at e
 ·rename_i r1 ρ1 e1
  split at e
  ·rename_i r2 ρ2 e2
   split at e
   ·rename_i m1 m2 e3 e4
    split at e
    ·rename_i m3 e5
     cases e
     refine ⟨Z, ρ, F, r1, ρ1, R, e1, fun Z1 H1 F1 v1 G1 g1 o1 => ⟨Z1, ρ1, F1, r2, _, g1.rel, e2, fun Z2 H2 F2 v2 G2 g2 o2 => ?_⟩⟩
     obtain ⟨_, w1⟩ := (o1.carry g2).rd g2.rel e3
     obtain ⟨_, w2⟩ := o2.rd g2.rel e4
     refine cmp_ok op g2.rel.sub w1 w2 (fun hq => ?_) e5 (ask_done (g1.trans g2) q)
     obtain ⟨_, rfl, rfl⟩ := hn hq
     simp only [opE, ev] at e2
     cases e2
     cases e4
     rfl
    ·cases e
   ·cases e
  ·cases e
 ·cases e
theorem snd_cmp {op : COp} {a b : E} (g : Good T k cx X) (ha : PE X x (TOp X.K cx (opE a (ev cx a)))) (hb : PE X y (TOp X.K cx (opE b (ev cx b)))) (hn : op = .isN ∨ op = .notN → b = .kn) (hm : behindInMarks (cOp op) y = false) :
  PE X (.Compare x [cOp op] [y] pos) (TEx X.K cx (ev cx (.cmp op a b))) ∧ PT X (.Compare x [cOp op] [y] pos) (TTs X.K cx (ev cx (.cmp op a b))) := by
 have hR := cmp_R (X := X) g.room.units g.at_ op
 refine ⟨PE.mono (pe_cmpR hR ha hb hm) fun σ H Q h => cmp_chain (fun q => ⟨b, rfl, hn q⟩) h, PT.mono (pt_cmpR hR ha hb hm) fun σ H Q ⟨Z, ρ, F, c, ρ', R, e, q⟩ => ?_⟩
 refine cmp_chain (cx := cx) (fun q => ⟨b, rfl, hn q⟩) ⟨Z, ρ, F, _, ρ', R, e, fun Z' H' F' v G g1 r1 => ?_⟩
 have := (Own.view r1.own).bl
 subst this
 exact ⟨c, rfl, q Z' H' F' g1⟩
theorem pt_of {g : Ev1} (h : PE X x (TEx X.K cx g)) (he : ∀ whole, isTrue x X.env whole = (do let v ← whole; standAt x.pos; holding [v] (truthy v))) : PT X x (TTs X.K cx g) := PT.mono (pt_val h he) fun σ H Q ⟨Z, ρ, F, c, ρ', R, e, q⟩ =>
 ⟨Z, ρ, F, _, ρ', R, e, fun Z' H' F' v G g1 r1 => by
  have := (Own.view r1.own).bl
  subst this
  exact ⟨c, rfl, q Z' H' F' g1⟩⟩
theorem tex_bool {a : E} {σ : St} {H : Hp} {Q : VK} {Z : Hp} {ρ ρ1 : Env} {F : Nat → List Addr} {c : Bool} (R : Rel X.K Z H σ ρ F) (e : ev cx a ρ = some (.v (.bool c), ρ1)) (q : ∀ Z' H' F', Go X.K cx σ Z H ρ F Z' H' ρ1 F' → Q (.bl c) H') : TEx X.K cx (ev cx a) σ H Q :=
 ⟨Z, ρ, F, _, ρ1, R, e, fun Z' H' F' v G g1 r1 => by
  have := (Own.view r1.own).bl
  subst this
  exact q Z' H' F' g1⟩
theorem res_bl {K : PySem.W.Frag} {Z H Z' H' : Hp} {A : AS} {F' : Nat → List Addr} {c : Bool} : Res K Z H A Z' H' F' (.v (.bool c)) (.bl c) [] := ⟨.v (.bl c), no0, no0⟩
theorem res_go {K : PySem.W.Frag} {σ : St} {Z H Z1 H1 Z2 H2 : Hp} {ρ ρ1 : Env} {F F1 F2 : Nat → List Addr} {m : M} {v : V} {G : List Addr} (g1 : Go K cx σ Z H ρ F Z1 H1 ρ1 F1) (r : Res K Z1 H1 (U F1) Z2 H2 F2 m v G) : Res K Z H (U F) Z2 H2 F2 m v G :=
 ⟨r.own, r.ap, fun a ha => by
  rcases r.nw a ha with h | h
  ·exact g1.st.an a h
  ·exact new_back g1.st h⟩
theorem snd_ban {a b : E} {rest : List Expr} (ha : PE X x (TEx X.K cx (ev cx a))) (hta : PT X x (TTs X.K cx (ev cx a))) (hb : PE X (.BoolOp .And (y :: rest) pos) (TEx X.K cx (ev cx b))) (htb : PW X (.BoolOp .And (y :: rest) pos) (TTs X.K cx (ev cx b))) :
  PE X (.BoolOp .And (x :: y :: rest) pos) (TEx X.K cx (ev cx (.ban a b))) ∧ PW X (.BoolOp .And (x :: y :: rest) pos) (TTs X.K cx (ev cx (.ban a b))) := by
 refine ⟨PE.mono (pe_and ha hb) fun σ H Q ⟨Z, ρ, F, m, ρ', R, e, q⟩ => ?_, ⟨fun whole pins s σ H Q J ⟨Z, ρ, F, c, ρ', R, e, q⟩ => (pw_and hta htb).run whole pins s σ H Q J ?_⟩⟩
 ·simp only [ev] at e
  split at e
  ·rename_i c ρ1 e1
   refine tex_bool R e1 fun Z1 H1 F1 g1 => ⟨c, rfl, ?_⟩
   cases c with
   | true =>
    rw [if_pos rfl] at e ⊢
    exact ⟨Z1, ρ1, F1, m, ρ', g1.rel, e, fun Z2 H2 F2 v G g2 r2 => q Z2 H2 F2 v G (g1.trans g2) (res_go g1 r2)⟩
   | false =>
    rw [if_neg Bool.false_ne_true] at e ⊢
    cases e
    exact q Z1 H1 F1 _ [] g1 res_bl
  ·cases e
 ·simp only [ev] at e
  split at e
  ·rename_i c1 ρ1 e1
   refine ⟨Z, ρ, F, c1, ρ1, R, e1, fun Z1 H1 F1 g1 => ?_⟩
   cases c1 with
   | true =>
    rw [if_pos rfl] at e ⊢
    exact ⟨Z1, ρ1, F1, c, ρ', g1.rel, e, fun Z2 H2 F2 g2 => q Z2 H2 F2 (g1.trans g2)⟩
   | false =>
    rw [if_neg Bool.false_ne_true] at e ⊢
    cases e
    exact q Z1 H1 F1 g1
  ·cases e
theorem snd_bor {a b : E} {rest : List Expr} (ha : PE X x (TEx X.K cx (ev cx a))) (hta : PT X x (TTs X.K cx (ev cx a))) (hb : PE X (.BoolOp .Or (y :: rest) pos) (TEx X.K cx (ev cx b))) (htb : PW X (.BoolOp .Or (y :: rest) pos) (TTs X.K cx (ev cx b))) :
  PE X (.BoolOp .Or (x :: y :: rest) pos) (TEx X.K cx (ev cx (.bor a b))) ∧ PW X (.BoolOp .Or (x :: y :: rest) pos) (TTs X.K cx (ev cx (.bor a b))) := by
 refine ⟨PE.mono (pe_or ha hb) fun σ H Q ⟨Z, ρ, F, m, ρ', R, e, q⟩ => ?_, ⟨fun whole pins s σ H Q J ⟨Z, ρ, F, c, ρ', R, e, q⟩ => (pw_or hta htb).run whole pins s σ H Q J ?_⟩⟩
 ·simp only [ev] at e
  split at e
  ·rename_i c ρ1 e1
   refine tex_bool R e1 fun Z1 H1 F1 g1 => ⟨c, rfl, ?_⟩
   cases c with
   | false =>
    rw [if_neg Bool.false_ne_true] at e ⊢
    exact ⟨Z1, ρ1, F1, m, ρ', g1.rel, e, fun Z2 H2 F2 v G g2 r2 => q Z2 H2 F2 v G (g1.trans g2) (res_go g1 r2)⟩
   | true =>
    rw [if_pos rfl] at e ⊢
    cases e
    exact q Z1 H1 F1 _ [] g1 res_bl
  ·cases e
 ·simp only [ev] at e
  split at e
  ·rename_i c1 ρ1 e1
   refine ⟨Z, ρ, F, c1, ρ1, R, e1, fun Z1 H1 F1 g1 => ?_⟩
   cases c1 with
   | false =>
    rw [if_neg Bool.false_ne_true] at e ⊢
    exact ⟨Z1, ρ1, F1, c, ρ', g1.rel, e, fun Z2 H2 F2 g2 => q Z2 H2 F2 (g1.trans g2)⟩
   | true =>
    rw [if_pos rfl] at e ⊢
    cases e
    exact q Z1 H1 F1 g1
  ·cases e
theorem snd_nt {a : E} (ha : PE X x (TEx X.K cx (ev cx a))) (hta : PT X x (TTs X.K cx (ev cx a))) : PE X (.UnaryOp .Not x pos) (TEx X.K cx (ev cx (.nt a))) ∧ PT X (.UnaryOp .Not x pos) (TTs X.K cx (ev cx (.nt a))) := by
 refine ⟨PE.mono (pe_not ha) fun σ H Q ⟨Z, ρ, F, m, ρ', R, e, q⟩ => ?_, PT.mono (pt_not hta) fun σ H Q ⟨Z, ρ, F, c, ρ', R, e, q⟩ => ?_⟩
 ·simp only [ev] at e
  split at e
  ·rename_i c ρ1 e1
   cases e
   exact tex_bool R e1 fun Z1 H1 F1 g1 => ⟨c, rfl, q Z1 H1 F1 _ [] g1 res_bl⟩
  ·cases e
 ·simp only [ev] at e
  split at e
  ·rename_i c1 ρ1 e1
   cases e
   exact ⟨Z, ρ, F, c1, _, R, e1, fun Z1 H1 F1 g1 => q Z1 H1 F1 g1⟩
  ·cases e
theorem snd_ifx {c a b : E} (hc : PT X z (TTs X.K cx (ev cx c))) (ha : PE X x (TEx X.K cx (ev cx a))) (hb : PE X y (TEx X.K cx (ev cx b))) : PE X (.IfExp z x y pos) (TEx X.K cx (ev cx (.ifx c a b))) := PE.mono (pe_ifExp hc ha hb) fun σ H Q ⟨Z, ρ, F, m, ρ', R, e, q⟩ => by
 simp only [ev] at e
 split at e
 ·rename_i c1 ρ1 e1
  refine ⟨Z, ρ, F, c1, ρ1, R, e1, fun Z1 H1 F1 g1 => ?_⟩
  cases c1 with
  | true =>
   rw [if_pos rfl] at e ⊢
   exact ⟨Z1, ρ1, F1, m, ρ', g1.rel, e, fun Z2 H2 F2 v G g2 r2 => q Z2 H2 F2 v G (g1.trans g2) (res_go g1 r2)⟩
  | false =>
   rw [if_neg Bool.false_ne_true] at e ⊢
   exact ⟨Z1, ρ1, F1, m, ρ', g1.rel, e, fun Z2 H2 F2 v G g2 r2 => q Z2 H2 F2 v G (g1.trans g2) (res_go g1 r2)⟩
 ·cases e
end
end Mn
end
section
set_option maxHeartbeats 200000
namespace Mr
open PySem L2 PySem.Spec PyProof.Rows
section
variable {prog : Program} {w : World} {A : Around} {E : Value → Shared → Prop} {s : Shared}
theorem applied_rev {sl : Addr} {vl vu vs : Value} {n : Nat} {Q : Int × Int × Nat → Shared → Prop} (hs : s.heap.IsSliceOf sl vl vu vs) (pl : IsPart vl none) (pu : IsPart vu none) (ps : IsPart vs (some (-1)))
  (h : Q ((n : Int) - 1, -1, n) s) : wpAny (model prog w) A (Builtin.Slice.sliceApplied (.ref sl) (pure (n : Int))) Q E s := by
 obtain ⟨os, hos, hcs, hds⟩ := id hs
 unfold Builtin.Slice.sliceApplied Builtin.Slice.sliceFields
 refine wpAny_bind (wpAny_bind (wpAny_field hos hds (x := vl) rfl (wpAny_bind (wpAny_field hos hds (x := vu) rfl (wpAny_bind (wpAny_field hos hds (x := vs) rfl (wpAny_pure ?_)))))))
 refine wpAny_bind (HT.slicePart_ ps ?_)
 show wpAny _ _ (if ((-1 : Int) == 0) = true then _ else _) _ _ s
 rw [if_neg (by decide)]
 refine wpAny_bind (HT.slicePart_ pl (wpAny_bind (HT.slicePart_ pu (wpAny_bind (wpAny_pure ?_)))))
 have e : Builtin.Slice.slicePlaces ((n : Int) - 1) (-1) (-1) = n := by
  unfold Builtin.Slice.slicePlaces
  rw [if_neg (by decide), show (- -1 : Int) = 1 by decide, Int.ediv_one]
  split <;> omega
 show wpAny _ _ (pure ((n : Int) - 1, (-1 : Int), Builtin.Slice.slicePlaces ((n : Int) - 1) (-1) (-1))) _ _ s
 rw [e]
 exact wpAny_pure h
theorem fm_congr {α β : Type} {f g : α → Option β} : ∀ {l : List α}, (∀ a ∈ l, f a = g a) → l.filterMap f = l.filterMap g
 | [], _ => rfl
 | a :: l, h => by
  rw [List.filterMap_cons, List.filterMap_cons, h a List.mem_cons_self, fm_congr fun b hb => h b (List.mem_cons_of_mem _ hb)]
theorem pick_rev (xs : Array Value) : ((List.range xs.size).filterMap fun (k : Nat) => xs[((xs.size : Int) - 1 + (k : Int) * -1).toNat]?).toArray = xs.toList.reverse.toArray := by
 have e : (List.range xs.size).filterMap (fun (k : Nat) => xs[((xs.size : Int) - 1 + (k : Int) * -1).toNat]?) = ((List.range xs.size).map fun k => xs.size - 1 - k).filterMap (xs[·]?) := by
  rw [List.filterMap_map]
  refine fm_congr fun k hk => ?_
  have := List.mem_range.mp hk
  have e2 : ((xs.size : Int) - 1 + (k : Int) * -1).toNat = xs.size - 1 - k := by omega
  rw [e2]; rfl
 rw [e, PySem.W.krv_range, List.filterMap_reverse, PySem.W.krv_all]
theorem getItem_rev {t sl : Addr} {items : Array Value} {vl vu vs : Value} {Q : Value → Shared → Prop} (ht : IsTup s.heap t items) (hs : s.heap.IsSliceOf sl vl vu vs) (pl : IsPart vl none) (pu : IsPart vu none) (ps : IsPart vs (some (-1)))
  (h : Q (.ref s.heap.objs.size) { s with heap := s.heap.push { cls := .type "tuple", data := .seq items.toList.reverse.toArray } }) (hsz : items.size ≤ sizeLine) : wpAny (model prog w) A (getItem (.ref t) (.ref sl)) Q E s := by
 have hrev : sizeOk (.seq items.toList.reverse.toArray) := by
  show items.toList.reverse.toArray.size ≤ sizeLine
  rw [List.size_toArray, List.length_reverse, Array.length_toList]
  exact hsz
 obtain ⟨os, hos, hcs, hds⟩ := id hs
 have hTs : s.TypeIs (.ref sl) "slice" := ⟨os, hos, hcs⟩
 unfold getItem
 try with_reducible refine wpAny_holding ?_
 first | refine wpAny_bind (wpAny_pure ?_) | skip
 refine wpAny_bind (wpAny_sequenceKey ht.typeIs (by decide) ?_)
 refine wpAny_bind (wpAny_callSpecial?_slot (name := Str.ofString "__getitem__") ht.typeIs PyProof.Rows.slot_tuple_getitem (wpAny_call_entry PyProof.Rows.slot_tuple_getitem ht.typeIs entry_tuple_getitem ?_ (args_tuple_getitem _ _)))
 show wpAny _ _ (Builtin.Tuple.tupleItemsOf (.ref t) >>= _) _ _ s
 refine wpAny_bind (tupleItemsOf_ ht (wpAny_bind (wpAny_typeOf hTs ?_)))
 rw [if_pos (by decide)]
 refine wpAny_bind (applied_rev hs pl pu ps ?_)
 have hno : ¬ (((items.size : Int) - 1 == 0 && (-1 : Int) == 1 && items.size == items.size) = true) := by
  rw [show ((-1 : Int) == 1) = false by decide]; simp
 show wpAny _ _ (if ((items.size : Int) - 1 == 0 && (-1 : Int) == 1 && items.size == items.size) = true then _ else _) _ _ s
 rw [if_neg hno, pick_rev]
 first
  | exact wpAny_bind (m := Builtin.Tuple.tupleExact _) (wpAny_newObj_type (wpAny_pure ⟨_, rfl, wpAny_pure h⟩) hrev)
  | exact wpAny_bind (m := Builtin.Tuple.tupleExact _) (wpAny_newObj_type (wpAny_bind (wpAny_pure (wpAny_pure ⟨_, rfl, wpAny_pure h⟩))) hrev)
  | exact wpAny_bind (wpAny_bind (m := Builtin.Tuple.tupleExact _) (wpAny_newObj_type (wpAny_pure (wpAny_pure ⟨_, rfl, wpAny_pure h⟩)) hrev))
  | exact wpAny_bind (wpAny_bind (m := Builtin.Tuple.tupleExact _) (wpAny_newObj_type (wpAny_pure ⟨_, rfl, wpAny_pure h⟩) hrev))
end
def tRevA (K : PySem.W.Frag) (te : TE) : TE := fun σ H Q => te σ H fun x H1 => (∃ a xs, x = .ref a ∧ SqL K H1 a xs ∧ ∀ p, H1 p = none → Q (.ref p) (upd H1 p (.lst xs.reverse))) ∨
 ∃ a xs, x = .ref a ∧ SqT K H1 a xs ∧ ∀ p o, o.dict = none → H1 p = none → Q (.ref p) (upd H1 p (.frz o (.tup xs.reverse)))
theorem pe_revA {X : Cx} {e : Expr} {te : TE} {k : Nat} {p1 p2 p3 pos : Pos} (he : PE X e te) : PE X (.Subscript e (.Slice none none (some (.UnaryOp .USub (.Constant (.int 1) k p1) p2)) p3) pos) (tRevA X.K te) := by
 refine ⟨fun pins s σ H Q I h => ?_⟩
 refine Subscript_ (thn (he.run pins s σ H _ I h) fun v s1 ⟨x, H1, I1, r1, q1⟩ => ?_)
 have hst : PO X (some (.UnaryOp .USub (.Constant (.int 1) k p1) p2)) (tPart (tUn (rU fun i => .int (-i)) (tC (.int 1)))) := po_some (pe_un un_neg pe_int)
 refine wpAny_Slice (thn (po_none.run pins s1 σ H1 (fun o H2 => o = none ∧ H2 = H1) I1 ⟨rfl, rfl⟩) fun vl s2 ⟨l, H2, I2, pl, el, e2⟩ => ?_)
 subst el e2
 refine thn (po_none.run pins s2 σ H2 (fun o H3 => o = none ∧ H3 = H2) I2 ⟨rfl, rfl⟩) fun vu s3 ⟨u, H3, I3, pu, eu, e3⟩ => ?_
 subst eu e3
 refine thn (hst.run pins s3 σ H3 (fun o H4 => o = some (-1) ∧ H4 = H3) I3 ⟨1, rfl, -1, rfl, rfl, rfl⟩) fun vs s4 ⟨o, H4, I4, ps, eo, e4⟩ => ?_
 subst eo e4
 have I5 : Inv X pins σ H4 { s4 with heap := s4.heap.push { cls := .type "slice", data := .fields #[vl, vu, vs] } } := I4.kept (t' := s4.toks) fun b ob q => Heap.get?_push_of_some _ q
 rcases q1 with ⟨a, xs, ex, hx, q⟩ | ⟨a, xs, ex, hx, q⟩
 ·subst ex
  cases r1
  obtain ⟨its, r, ht, hz⟩ := I5.list hx
  have hlen := r.length
  show wpAny (model X.prog X.w) X.A (subscriptTail e (.Slice none none (some (.UnaryOp .USub (.Constant (.int 1) k p1) p2)) p3) (.ref a) (.ref s4.heap.objs.size)) (EP X pins σ Q) X.xe { s4 with heap := s4.heap.push { cls := .type "slice", data := .fields #[vl, vu, vs] } }
  refine tail_any (ops := [.ref a, .ref s4.heap.objs.size]) ht.isList.typeIs (PySem.slot_list_getitem.lookup) ?_ (by with_unfolding_all rfl)
  refine wpAny_getItem_list_slice ht.isList (Heap.IsSliceOf.new _ vl vu vs) pl pu ps (by decide) ?_ (by rw [List.size_toArray]; omega)
  rw [PySem.W.krv_pick]
  refine ⟨.ref _, _, I5.laid (t' := s4.toks) (o := .lst xs.reverse) (fun b ob q => Heap.get?_push_of_some _ q) (Nat.le_refl _) ?_, rfl, q _ (I5.hok.fresh (Nat.le_refl _))⟩
  exact ⟨by rw [List.length_reverse]; exact hz, _, 0, r.reverse, Heap.get?_push_size _ rfl⟩
 ·subst ex
  cases r1
  obtain ⟨its, r, ht, hz⟩ := I5.tuple hx
  have hlen := r.length
  show wpAny (model X.prog X.w) X.A (subscriptTail e (.Slice none none (some (.UnaryOp .USub (.Constant (.int 1) k p1) p2)) p3) (.ref a) (.ref s4.heap.objs.size)) (EP X pins σ Q) X.xe { s4 with heap := s4.heap.push { cls := .type "slice", data := .fields #[vl, vu, vs] } }
  refine tail_any (ops := [.ref a, .ref s4.heap.objs.size]) ht.typeIs (PyProof.Rows.slot_tuple_getitem.lookup) ?_ (by with_unfolding_all rfl)
  refine getItem_rev ht (Heap.IsSliceOf.new _ vl vu vs) pl pu ps ?_ (by rw [List.size_toArray]; omega)
  refine ⟨.ref _, _, I5.laid (t' := s4.toks) (o := .frz { cls := .type "tuple", data := .seq its.reverse.toArray } (.tup xs.reverse)) (fun b ob q => Heap.get?_push_of_some _ q) (Nat.le_refl _) ?_, rfl, q _ _ rfl (I5.hok.fresh (Nat.le_refl _))⟩
  exact ⟨Heap.get?_push_size _ rfl, by rw [List.length_reverse]; exact hz, _, r.reverse, IsTup.new _ _⟩
end Mr
end
section
set_option maxHeartbeats 200000
namespace Mn
open PySem L2 PySem.Spec
variable [WW] [FX]
def notStar : Expr → Bool
 | .Starred _ _ => false
 | _ => true
def notSlice : Expr → Bool
 | .Slice _ _ _ _ => false
 | _ => true
def notCall0 : Expr → Bool
 | .Call _ [] _ _ => false
 | _ => true
theorem star_of {x : Expr} {xs : List Expr} {env : PySem.Env} (h : notStar x = true) : starEach (x :: xs) env = (false, eval x env) :: starEach xs env := by
 cases x <;> first | rfl | cases h
theorem plain_ix {x : Expr} (h : notSlice x = true) : PlainIx x := fun o i => by
 cases x <;> first | rfl | cases h
theorem stars_of {pos : Pos} {env : PySem.Env} : ∀ {xs : List Expr}, xs.all notStar = true → (backTo pos (starEach xs env)).any (·.1) = false
 | [], _ => rfl
 | x :: xs, h => by
  rw [List.all_cons, Bool.and_eq_true] at h
  rw [star_of h.1]
  exact stars_of h.2
theorem base_of {x : Expr} {f : Str} {env : PySem.Env} {w : Sem Value} (h : notCall0 x = true) : attributeBase x f env w = w := by
 unfold attributeBase
 split
 ·cases h
 ·rfl
theorem m1_of {X : Cx} {o e : Expr} {m : Str} {apos cpos : Pos} (h : notCall0 o = true) (hs : notStar e = true) (hl : (apos.endLine == cpos.line) = true) : M1 X o m apos e cpos := by
 refine ⟨base_of h, ?_, hl, ?_⟩
 ·rw [star_of hs]; rfl
 ·rw [star_of hs]; rfl
theorem m2_of {X : Cx} {o e f : Expr} {m : Str} {apos cpos : Pos} (h : notCall0 o = true) (hs : notStar e = true) (hs2 : notStar f = true) (hl : (apos.endLine == cpos.line) = true) : M2 X o m apos e f cpos := by
 refine ⟨base_of h, ?_, hl, ?_⟩
 ·rw [star_of hs, star_of hs2]; rfl
 ·rw [star_of hs, star_of hs2]; rfl
section
variable {T : Tab} {k : Nat} {cx : Cxt} {X : Cx} {x y z : Expr} {pos p2 p3 : Pos}
theorem snd_sub {a b : E} (g : Good T k cx X) (ha : PE X x (TOp X.K cx (opE a (ev cx a)))) (hb : PE X y (TEx X.K cx (ev cx b))) (hs : notSlice y = true) : PE X (.Subscript x y pos) (TEx X.K cx (ev cx (.sub a b))) := PE.mono (pe_ix (sub_R g.room.units g.at_) ha hb (plain_ix hs)) fun σ H Q ⟨Z, ρ, F, m, ρ', R, e, q⟩ => by
 simp only [ev] at e
 split at e
 ·rename_i r1 ρ1 e1
  split at e
  ·rename_i m2 ρ2 e2
   split at e
   ·rename_i m1 e3
    split at e
    ·rename_i m3 e5
     cases e
     refine ⟨Z, ρ, F, r1, ρ1, R, e1, fun Z1 H1 F1 v1 G1 g1 o1 => ⟨Z1, ρ1, F1, m2, _, g1.rel, e2, fun Z2 H2 F2 v2 G2 g2 r2 => ?_⟩⟩
     obtain ⟨_, w1⟩ := (o1.carry g2).rd g2.rel e3
     exact sub_ok g2.rel.sub w1 r2.own e5 (ask_done (g1.trans g2) q)
    ·cases e
   ·cases e
  ·cases e
 ·cases e
def TPo (K : PySem.W.Frag) (X : Cxt) (g : Env → Option (Option Int × Env)) : TO := fun σ H Q => ∃ Z ρ F o ρ', Rel K Z H σ ρ F ∧ g ρ = some (o, ρ') ∧ ∀ Z' H' F', Go K X σ Z H ρ F Z' H' ρ' F' → Q o H'
def poG (X : Cxt) (lo : E) (ρ : Env) : Option (Option Int × Env) := if elNo lo = true then some (none, ρ) else match ev X lo ρ with
 | some (.v (.int i), ρ2) => some (some i, ρ2)
 | _ => none
theorem PO.mono {X : Cx} {e : Option Expr} {t t' : TO} (h : PO X e t) (i : ∀ σ H Q, t' σ H Q → t σ H Q) : PO X e t' := ⟨fun pins s σ H Q J q => h.run pins s σ H Q J (i σ H Q q)⟩
theorem snd_no {lo : E} (h : elNo lo = true) : PO X none (TPo X.K cx (poG cx lo)) := PO.mono po_none fun σ H Q ⟨Z, ρ, F, o, ρ', R, e, q⟩ => by
 unfold poG at e
 rw [if_pos h] at e
 cases e
 exact q Z H F (.refl R)
theorem snd_part {lo : E} (h : elNo lo = false) (hx : PE X x (TEx X.K cx (ev cx lo))) : PO X (some x) (TPo X.K cx (poG cx lo)) := PO.mono (po_some hx) fun σ H Q ⟨Z, ρ, F, o, ρ', R, e, q⟩ => by
 unfold poG at e
 rw [if_neg (by rw [h]; exact Bool.false_ne_true)] at e
 split at e
 ·rename_i i ρ2 e2
  cases e
  refine ⟨Z, ρ, F, _, _, R, e2, fun Z' H' F' v G g1 r1 => ?_⟩
  have := (Own.view r1.own).int
  subst this
  exact ⟨i, rfl, q Z' H' F' g1⟩
 ·cases e
theorem snd_slc {a lo hi : E} {l u : Option Expr} (ha : PE X x (TOp X.K cx (opE a (ev cx a)))) (hl : PO X l (TPo X.K cx (poG cx lo))) (hu : PO X u (TPo X.K cx (poG cx hi))) : PE X (.Subscript x (.Slice l u none p2) pos) (TEx X.K cx (ev cx (.slc a lo hi))) := PE.mono (pe_slice slc_R ha hl hu) fun σ H Q ⟨Z, ρ, F, m, ρ', R, e, q⟩ => by
 have e' : (match opE a (ev cx a) ρ with
  | some (r1, ρ1) => match poG cx lo ρ1 with
   | some (x, ρ2) => match poG cx hi ρ2 with
    | some (y, ρ3) => match rd ρ3 r1 with
     | some m1 => match slcM m1 x y with
      | some m => some (m, ρ3)
      | none => none
     | none => none
    | none => none
   | none => none
  | none => none) = some (m, ρ') := by
  rw [← e]
  simp only [ev]
  rfl
 clear e
 split at e'
 ·rename_i r1 ρ1 e1
  split at e'
  ·rename_i o1 ρ2 e2
   split at e'
   ·rename_i o2 ρ3 e3
    split at e'
    ·rename_i m1 e4
     split at e'
     ·rename_i m3 e5
      cases e'
      refine ⟨Z, ρ, F, r1, ρ1, R, e1, fun Z1 H1 F1 v1 G1 g1 w1 => ⟨Z1, ρ1, F1, o1, ρ2, g1.rel, e2, fun Z2 H2 F2 g2 => ⟨Z2, ρ2, F2, o2, _, g2.rel, e3, fun Z3 H3 F3 g3 => ?_⟩⟩⟩
      obtain ⟨_, w2⟩ := (w1.carry (g2.trans g3)).rd g3.rel e4
      exact slc_ok g3.rel.sub w2 e5 (ask_done ((g1.trans g2).trans g3) q)
     ·cases e'
    ·cases e'
   ·cases e'
  ·cases e'
 ·cases e'
theorem snd_rev {a : E} {j : Nat} {q1 q2 q3 : Pos} (ha : PE X x (TOp X.K cx (opE a (ev cx a)))) : PE X (.Subscript x (.Slice none none (some (.UnaryOp .USub (.Constant (.int 1) j q1) q2)) q3) pos) (TEx X.K cx (ev cx (.rev a))) := PE.mono (Mr.pe_revA ha) fun σ H Q ⟨Z, ρ, F, m, ρ', R, e, q⟩ => by
 simp only [ev] at e
 split at e
 ·rename_i r1 ρ1 e1
  split at e
  ·rename_i m1 e3
   split at e
   ·rename_i m3 e5
    cases e
    refine ⟨Z, ρ, F, r1, _, R, e1, fun Z1 H1 F1 v1 G1 g1 o1 => ?_⟩
    obtain ⟨_, w1⟩ := o1.rd g1.rel e3
    unfold revM at e5
    split at e5
    ·rename_i ps ew
     cases e5
     have va := w1.view
     rw [ew] at va
     obtain ⟨c, vs, rfl, h3, r⟩ := va.tup
     exact .inr ⟨c, vs, rfl, sqT_sub g1.rel.sub h3.sq, (ask_done g1 q).tup g1.rel.sub r.rev⟩
    ·obtain ⟨ps, h1, h2⟩ := Option.map_eq_some_iff.mp e5
     subst h2
     obtain ⟨c, vs, rfl, h3, r⟩ := lst_any g1.rel.sub w1 h1
     exact .inl ⟨c, vs, rfl, SqL.of h3, Ask.lst (ask_done g1 q) g1.rel.sub r.rev⟩
   ·cases e
  ·cases e
 ·cases e
inductive OpsOk (K : PySem.W.Frag) (Z H : Hp) (A : AS) (σ : St) (Z' H' : Hp) (F' : Nat → List Addr) : List R → List V → List (List Addr) → Prop
 | nil : OpsOk K Z H A σ Z' H' F' [] [] []
 | cons {r : R} {v : V} {G : List Addr} {rs : List R} {vs : List V} {Gs : List (List Addr)} : OpdOk K Z H A σ Z' H' F' r v G → OpsOk K Z H A σ Z' H' F' rs vs Gs → (∀ a ∈ G, ∀ G2 ∈ Gs, a ∉ G2) → OpsOk K Z H A σ Z' H' F' (r :: rs) (v :: vs) (G :: Gs)
def TAr (K : PySem.W.Frag) (X : Cxt) (g : Env → Option (List R × Env)) : TA := fun σ H Q => ∃ Z ρ F rs ρ', Rel K Z H σ ρ F ∧ g ρ = some (rs, ρ') ∧
 ∀ Z' H' F' vs Gs, Go K X σ Z H ρ F Z' H' ρ' F' → OpsOk K Z H (U F) σ Z' H' F' rs vs Gs → Q vs H'
section
variable {K : PySem.W.Frag} {σ : St} {Z H Z1 H1 Z2 H2 : Hp} {A : AS} {ρ ρ1 ρ2 : Env} {F F1 F2 : Nat → List Addr}
theorem OpsOk.base {rs : List R} {vs : List V} {Gs : List (List Addr)} (g1 : Go K cx σ Z H ρ F Z1 H1 ρ1 F1) (o : OpsOk K Z1 H1 (U F1) σ Z2 H2 F2 rs vs Gs) : OpsOk K Z H (U F) σ Z2 H2 F2 rs vs Gs := by
 induction o with
 | nil => exact .nil
 | @cons r v G rs vs Gs h _ d ih =>
  refine .cons ?_ ih d
  cases r with
  | pl i => exact h
  | vl m => exact res_go g1 h
theorem OpsOk.temps {rs : List R} {vs : List V} {Gs : List (List Addr)} (o : OpsOk K Z1 H1 A σ Z2 H2 F2 rs vs Gs) : ∀ G ∈ Gs, ∀ a ∈ G, A a ∨ H1 a = none := by
 induction o with
 | nil => exact fun _ h => by cases h
 | @cons r v G rs vs Gs h _ d ih =>
  intro G2 hg a ha
  rcases List.mem_cons.mp hg with e | hg
  ·subst e
   cases r with
   | pl i => obtain ⟨_, h2⟩ := h; subst h2; cases ha
   | vl m => exact Res.nw h a ha
  ·exact ih G2 hg a ha
theorem OpsOk.own {rs : List R} {vs : List V} {Gs : List (List Addr)} (o : OpsOk K Z H A σ Z1 H1 F1 rs vs Gs) (R : Rel K Z1 H1 σ ρ1 F1) : ∀ {ms : List M}, rds ρ1 rs = some ms → OwnL K Z1 H1 ms vs := by
 induction o with
 | nil => intro ms e; cases e; exact .nil
 | @cons r v G rs vs Gs h _ d ih =>
  intro ms e
  unfold rds at e
  split at e
  ·rename_i m ms2 e1 e2
   cases e
   obtain ⟨_, w⟩ := h.rd R e1
   exact .cons w (ih e2)
  ·cases e
end
theorem ar_nil : PA X [] (TAr X.K cx (evl cx .nil)) := PA.mono pa_nil fun σ H Q ⟨Z, ρ, F, ps, ρ', R, e, q⟩ => by
 simp only [evl] at e
 cases e
 exact q Z H F [] [] (.refl R) .nil
theorem ar_cons {e : E} {es : EL} {xs : List Expr} (h : PE X x (TOp X.K cx (opE e (ev cx e)))) (hr : PA X xs (TAr X.K cx (evl cx es))) (hs : notStar x = true) : PA X (x :: xs) (TAr X.K cx (evl cx (.cons e es))) :=
 PA.mono (pa_cons h hr (star_of hs)) fun σ H Q ⟨Z, ρ, F, rs, ρ', R, e, q⟩ => by
  simp only [evl] at e
  split at e
  ·rename_i r1 ρ1 e1
   split at e
   ·rename_i rs2 ρ2 e3
    cases e
    refine ⟨Z, ρ, F, r1, ρ1, R, e1, fun Z1 H1 F1 v G g1 o1 => ⟨Z1, ρ1, F1, rs2, _, g1.rel, e3, fun Z2 H2 F2 vs Gs g2 o2 => q Z2 H2 F2 (v :: vs) (G :: Gs) (g1.trans g2) (.cons (o1.carry g2) (o2.base g1) fun a ha G2 hG ha2 => ?_)⟩⟩
    cases r1 with
    | pl i => obtain ⟨_, h2⟩ := o1; subst h2; cases ha
    | vl m =>
     rcases o2.temps G2 hG a ha2 with h | h
     ·exact Res.ap o1 a ha h
     ·obtain ⟨_, u, hu, _⟩ := (Res.own o1).at_ a ha
      rw [hu] at h; cases h
   ·cases e
  ·cases e
def biName : BI → Str
 | .tup => "tuple" | .list => "list" | .dict => "dict" | .dictU => "dict" | .int => "int" | .len => "len" | .sorted => "sorted" | .all => "all" | .any => "any" | .sum => "sum" | .abs => "abs" | .max2 => "max" | .min2 => "min"
 | _ => "__none__"
theorem bi_boot : ∀ b : BI, biArity b ≠ 0 → bootBuiltins (biName b) = some (biV b) := by
 intro b h
 cases b <;> first | exact (h rfl).elim | decide +kernel
theorem bi_free (g : Good T k cx X) : ∀ b : BI, biArity b ≠ 0 → X.mg (biName b) = none := by
 intro b h
 cases b <;> first | exact (h rfl).elim | exact g.free _ (by decide +kernel)
theorem evl_len : ∀ {es : EL} {ρ ρ' : Env} {rs : List R}, evl cx es ρ = some (rs, ρ') → rs.length = elLen es
 | .nil, ρ, ρ', ps, e => by simp only [evl] at e; cases e; rfl
 | .cons e0 r, ρ, ρ', ps, e => by
  simp only [evl] at e
  split at e
  ·split at e
   ·rename_i e3
    cases e
    rw [List.length_cons, evl_len e3]; rfl
   ·cases e
  ·cases e
theorem rds_len : ∀ {rs : List R} {ρ : Env} {ms : List M}, rds ρ rs = some ms → ms.length = rs.length
 | [], _, _, e => by cases e; rfl
 | r :: rs, ρ, ms, e => by
  unfold rds at e
  split at e
  ·rename_i e1 e2
   cases e
   rw [List.length_cons, List.length_cons, rds_len e2]
  ·cases e
theorem bi_tcb {b : BI} {es : EL} (h0 : biArity b ≠ 0) (hl : elLen es = biArity b) {σ : St} {H : Hp} {Q : VK} : TEx X.K cx (ev cx (.bi b es)) σ H Q → tCB (rBi X.K b) (TAr X.K cx (evl cx es)) σ H Q := fun ⟨Z, ρ, F, m, ρ', R, e, q⟩ => by
 simp only [ev] at e
 split at e
 ·rename_i rs ρ1 e1
  split at e
  ·rename_i ms e2
   split at e
   ·rename_i m3 e3
    cases e
    refine ⟨Z, ρ, F, rs, _, R, e1, fun Z1 H1 F1 vs Gs g1 o1 => ?_⟩
    exact bi_ok b g1.rel.sub h0 (by rw [rds_len e2, evl_len e1, hl]) (o1.own g1.rel e2) e3 (ask_done g1 q)
   ·cases e
  ·cases e
 ·cases e
theorem snd_bi {b : BI} {es : EL} {xs : List Expr} {n : Str} (g : Good T k cx X) (h0 : biArity b ≠ 0) (hl : elLen es = biArity b) (hn : n = biName b) (hg : glB X.env.scope n = true) (ha : PA X (x :: xs) (TAr X.K cx (evl cx es))) (hs : notStar x = true) (hss : xs.all notStar = true) :
  PE X (.Call (.Name n p2) (x :: xs) [] pos) (TEx X.K cx (ev cx (.bi b es))) := by
 have hm : X.mg n = none := by rw [hn]; exact bi_free g b h0
 have hv : bootBuiltins n = some (biV b) := by rw [hn]; exact bi_boot b h0
 obtain ⟨hgl, hp⟩ := gl_of hg
 have hc := bi_R g.calm g.at_ g.room.units b
 refine PE.mono ?_ fun σ H Q h => bi_tcb h0 hl h
 have hk : (∃ id, biV b = .builtin id) ∨ ∃ t, biV b = .type t := by
  cases b <;> first | exact (h0 rfl).elim | exact .inl ⟨_, rfl⟩ | exact .inr ⟨_, rfl⟩
 rcases hk with ⟨id, hk⟩ | ⟨t, hk⟩
 ·rw [hk] at hc hv
  exact pe_callB hc hgl hm hv ha (plain_of hp).2.2 (plain_of hp).1 (star_of hs) (stars_of hss)
 ·rw [hk] at hc hv
  exact pe_callTy hc hgl hm hv ha (plain_of hp).2.2 (plain_of hp).1 (star_of hs) (stars_of hss)
end
end Mn
end
section
set_option maxHeartbeats 200000
namespace Mn
open PySem L2 PySem.Spec
variable [WW] [FX]
def tyN : Ty → String
 | .non => "NoneType" | .bl => "bool" | .int => "int" | .str => "str" | .tup => "tuple" | .lst => "list" | .dct => "dict"
def tyBI : Ty → BI
 | .tup => .isTup | .lst => .isList | .str => .isStr | .bl => .isBool | .int => .isInt | _ => .len
def tyAsk : Ty → Bool
 | .tup => true | .lst => true | .str => true | .bl => true | .int => true | _ => false
theorem ty_kit {K : PySem.W.Frag} : ∀ a b : Ty, tyAsk b = true → PySem.W.kitOne K (.type (tyN a)) (.type (tyN b)) = some (tyLe a b) := by
 intro a b h
 cases b <;> first | (cases h; done) | (cases a <;> exact kit_ty (by decide +kernel))
theorem ty_boot : ∀ b : Ty, tyAsk b = true → bootBuiltins (Str.ofString (tyN b)) = some (.type (tyN b)) := by
 intro b h
 cases b <;> first | (cases h; done) | decide +kernel
section
variable {K : PySem.W.Frag} {Z H : Hp} {m : M} {x : V} {G : List Addr}
theorem sqT_ty {a : Addr} {vs : List V} (h : SqT K H a vs) : TyX K H (.ref a) (.type "tuple") := by
 rcases h with (h | ⟨o, h⟩) | ⟨o, its, n, h, c, _⟩
 ·exact .base (.tup h)
 ·exact .fTuple h
 ·exact .kTuple h c
theorem ty_of (s : Sub Z H) {t : Ty} (o : View K Z H (vw m) x) (e : tyM m = some t) : TyX K H x (.type (tyN t)) := by
 unfold tyM at e
 split at e <;> rename_i e1
 ·rw [e1] at o; cases e; cases o.imm; exact .base .non
 ·rw [e1] at o; cases e; cases o.bl; exact .base (.bl _)
 ·rw [e1] at o; cases e; cases o.int; exact .base (.int _)
 ·rw [e1] at o; cases e; obtain ⟨rfl, _, _⟩ := o.str; exact .base (.str _)
 ·rw [e1] at o; cases e; obtain ⟨c, vs, rfl, h, _⟩ := o.tup; exact sqT_ty (sqT_sub s h.sq)
 ·rw [e1] at o; cases e; obtain ⟨c, vs, rfl, h, _⟩ := o.lstv s; exact .base (.lst h)
 ·cases e
 ·rename_i hnn
  rw [e1] at o; cases e
  cases o.imm with
  | dk h r => exact .fDict (s _ _ h)
  | dt h r => exact (hnn _ _ rfl).elim
 ·rw [e1] at o; cases e; obtain ⟨c, vs, rfl, h, _⟩ := o.lstl; exact .base (.lst h)
 ·rw [e1] at o; cases e
  cases o with
  | d h _ =>
   rcases h with h | ⟨ob, h⟩
   ·exact .base (.dK h)
   ·exact .fDict h
 ·rw [e1] at o; cases e
  cases o with
  | n h _ => exact .base (.dK h)
 ·cases e
end
section
variable {T : Tab} {k : Nat} {cx : Cxt} {X : Cx} {x y z : Expr} {pos p2 p3 : Pos}
theorem snd_is {t : Ty} {a : E} {n : Str} (g : Good T k cx X) (ht : tyAsk t = true) (ha : PE X x (TOp X.K cx (opE a (ev cx a)))) (hg : glB X.env.scope "isinstance" = true) (hn : n = Str.ofString (tyN t)) (hg2 : glB X.env.scope n = true) (hm2 : X.mg n = none) (hs : notStar x = true) :
  PE X (.Call (.Name "isinstance" p2) [x, .Name n p3] [] pos) (TEx X.K cx (ev cx (.bi (tyBI t) (.cons a .nil)))) := by
 obtain ⟨h1, h2⟩ := gl_of hg
 obtain ⟨h3, h4⟩ := gl_of hg2
 have hb : bootBuiltins n = some (.type (tyN t)) := by rw [hn]; exact ty_boot t ht
 have e2 : PE X (.Name n p3) (tC (.ty (tyN t))) := pe_bltn (v := .ty (tyN t)) h3 hm2 hb rfl (plain_of h4).2.2 (plain_of h4).1
 refine PE.mono (pe_callB call_isi h1 (g.free _ (by decide +kernel)) (by decide +kernel) (pa_cons ha (pa_cons e2 pa_nil) (star_of hs)) (plain_of h2).2.2 (plain_of h2).1 (star_of hs)) fun σ H Q ⟨Z, ρ, F, m, ρ', R, e, q⟩ => ?_
 simp only [ev] at e
 split at e
 ·rename_i rs ρ1 e1
  simp only [evl] at e1
  split at e1
  ·rename_i r1 ρ2 e3
   cases e1
   split at e
   ·rename_i ms e4
    simp only [rds] at e4
    split at e4
    ·rename_i m1 ms2 e5 e6
     cases e6
     cases e4
     split at e
     ·rename_i m3 e7
      cases e
      have e8 : (tyM m1).map (fun s => M.v (.bool (tyLe s t))) = some m := by
       cases t <;> first | (cases ht; done) | exact e7
      obtain ⟨ty, h5, h6⟩ := Option.map_eq_some_iff.mp e8
      subst h6
      refine ⟨Z, ρ, F, r1, _, R, e3, fun Z1 H1 F1 v G g1 o1 => ?_⟩
      obtain ⟨_, w⟩ := o1.rd g1.rel e5
      exact ⟨v, .ty (tyN t), .type (tyN ty), .type (tyN t), _, rfl, .ty _, ty_of g1.rel.sub w.view h5, ty_kit ty t ht, q Z1 H1 F1 _ [] g1 res_bl⟩
     ·cases e
    ·cases e4
   ·cases e
  ·cases e1
 ·cases e
theorem tyX_upd {K : PySem.W.Frag} {H : Hp} {p : Addr} {o : HO} {v : V} {t : Value} (hp : H p = none) (h : TyX K H v t) : TyX K (upd H p o) v t := by
 have k : ∀ {a : Addr} {u : HO}, H a = some u → upd H p o a = some u := fun {a u} e => sub_upd hp a u e
 cases h with
 | base h =>
  cases h with
  | non => exact .base .non
  | bl x => exact .base (.bl x)
  | int i => exact .base (.int i)
  | str x => exact .base (.str x)
  | flt x => exact .base (.flt x)
  | lst e => exact .base (.lst (k e))
  | frz e => exact .base (.frz (k e))
  | tup e => exact .base (.tup (k e))
  | dK e => exact .base (.dK (k e))
  | dT e => exact .base (.dT (k e))
  | ins e cl ha hn htk hm => exact .base (.ins (k e) cl ha hn htk hm)
 | byt b => exact .byt b
 | set e => exact .set (k e)
 | kList e c => exact .kList e c
 | kTuple e c => exact .kTuple e c
 | kDict e c => exact .kDict e c
 | fTuple e => exact .fTuple (k e)
 | fDict e => exact .fDict (k e)
theorem kitAny_st {K : PySem.W.Frag} (t : Ty) : PySem.W.kitAny K (.type (tyN t)) [.type (tyN .str), .type (tyN .tup)] = some (tyLe t .str || tyLe t .tup) := by
 unfold PySem.W.kitAny
 rw [ty_kit t .str rfl]
 cases h : tyLe t .str with
 | true => rfl
 | false =>
  show PySem.W.kitAny K (.type (tyN t)) [.type (tyN .tup)] = _
  unfold PySem.W.kitAny
  rw [ty_kit t .tup rfl]
  cases tyLe t .tup <;> rfl
section
variable {T : Tab} {k : Nat} {cx : Cxt} {X : Cx} {x y z : Expr} {pos p2 p3 p4 p5 : Pos}
theorem snd_isST {a : E} {j : Nat} (g : Good T k cx X) (ha : PE X x (TOp X.K cx (opE a (ev cx a)))) (hg : glB X.env.scope "isinstance" = true) (hg1 : glB X.env.scope "str" = true) (hg2 : glB X.env.scope "tuple" = true) (hs : notStar x = true) :
  PE X (.Call (.Name "isinstance" p2) [x, .Tuple [.Name "str" p3, .Name "tuple" p4] j p5] [] pos) (TEx X.K cx (ev cx (.bi .isST (.cons a .nil)))) := by
 obtain ⟨h1, h2⟩ := gl_of hg
 obtain ⟨h3, h4⟩ := gl_of hg1
 obtain ⟨h5, h6⟩ := gl_of hg2
 have e1 : PE X (.Name "str" p3) (tC (.ty (tyN .str))) := pe_bltn (v := .ty (tyN .str)) h3 (g.free _ (by decide +kernel)) (ty_boot .str rfl) rfl (plain_of h4).2.2 (plain_of h4).1
 have e2 : PE X (.Name "tuple" p4) (tC (.ty (tyN .tup))) := pe_bltn (v := .ty (tyN .tup)) h5 (g.free _ (by decide +kernel)) (ty_boot .tup rfl) rfl (plain_of h6).2.2 (plain_of h6).1
 have et := pe_tup (x1 := j) (pos := p5) (pa_cons e1 (pa_cons e2 pa_nil))
 refine PE.mono (pe_callB call_isiT h1 (g.free _ (by decide +kernel)) (by decide +kernel) (pa_cons ha (pa_cons et pa_nil) (star_of hs)) (plain_of h2).2.2 (plain_of h2).1 (star_of hs)) fun σ H Q ⟨Z, ρ, F, m, ρ', R, e, q⟩ => ?_
 simp only [ev] at e
 split at e
 ·rename_i rs ρ1 e1
  simp only [evl] at e1
  split at e1
  ·rename_i r1 ρ2 e3
   cases e1
   split at e
   ·rename_i ms e4
    simp only [rds] at e4
    split at e4
    ·rename_i m1 ms2 e5 e6
     cases e6
     cases e4
     split at e
     ·rename_i m3 e7
      cases e
      obtain ⟨ty, h5, h6⟩ := Option.map_eq_some_iff.mp (show (tyM m1).map (fun t => M.v (.bool (tyLe t .str || tyLe t .tup))) = some m from e7)
      subst h6
      refine ⟨Z, ρ, F, r1, _, R, e3, fun Z1 H1 F1 v G g1 o1 => ⟨(by decide), fun p hp => ?_⟩⟩
      obtain ⟨_, w⟩ := o1.rd g1.rel e5
      exact ⟨v, p, [.ty (tyN .str), .ty (tyN .tup)], .type (tyN ty), [.type (tyN .str), .type (tyN .tup)], _, rfl, upd_same, .cons (.ty _) (.cons (.ty _) .nil), tyX_upd hp (ty_of g1.rel.sub w.view h5), kitAny_st ty, q Z1 _ F1 _ [] (g1.alloc (.own g1.rel.sub hp)) res_bl⟩
     ·cases e
    ·cases e4
   ·cases e
  ·cases e1
 ·cases e
end
inductive Outs (σ : St) (ρ : Env) : List R → List V → Prop
 | nil : Outs σ ρ [] []
 | pl {i : Nat} {v : V} {rs : List R} {vs : List V} : σ[i]? = some (some v) → i < ρ.length → slot ρ i = none → (∀ r ∈ rs, r ≠ .pl i) → Outs σ ρ rs vs → Outs σ ρ (.pl i :: rs) (v :: vs)
 | vl {m : M} {v : V} {rs : List R} {vs : List V} : Outs σ ρ rs vs → Outs σ ρ (.vl m :: rs) (v :: vs)
section
variable {K : PySem.W.Frag} {σ : St} {Z H Z1 H1 : Hp} {A : AS} {ρ ρ1 : Env} {F F1 : Nat → List Addr}
theorem pull_len : ∀ {rs : List R} {ρ ρ1 : Env} {ms : List M}, pull rs ρ = some (ms, ρ1) → ρ1.length = ρ.length ∧ ∀ j, slot ρ j = none → slot ρ1 j = none
 | [], ρ, ρ1, ms, e => by cases e; exact ⟨rfl, fun _ h => h⟩
 | .pl i :: rs, ρ, ρ1, ms, e => by
  unfold pull at e
  split at e
  ·split at e
   ·rename_i e2
    cases e
    obtain ⟨h1, h2⟩ := pull_len e2
    refine ⟨by rw [h1, List.length_set], fun j hj => h2 j ?_⟩
    by_cases q : i = j
    ·subst q
     rw [slot_set]
     split
     ·rfl
     ·exact hj
    ·rw [slot_other _ q]; exact hj
   ·cases e
  ·cases e
 | .vl m :: rs, ρ, ρ1, ms, e => by
  unfold pull at e
  split at e
  ·rename_i e2
   cases e
   exact pull_len e2
  ·cases e
theorem pull_no : ∀ {rs : List R} {ρ ρ1 : Env} {ms : List M} {i : Nat}, pull rs ρ = some (ms, ρ1) → slot ρ i = none → ∀ r ∈ rs, r ≠ .pl i
 | [], _, _, _, _, _, _ => fun _ h => by cases h
 | .pl j :: rs, ρ, ρ1, ms, i, e, hi => by
  unfold pull at e
  split at e
  ·rename_i m em
   split at e
   ·rename_i e2
    intro r hr
    rcases List.mem_cons.mp hr with h | h
    ·subst h
     intro q
     cases q
     rw [hi] at em; cases em
    ·exact pull_no e2 (by
      by_cases q : j = i
      ·subst q; rw [hi] at em; cases em
      ·rw [slot_other _ q]; exact hi) r h
   ·cases e
  ·cases e
 | .vl m :: rs, ρ, ρ1, ms, i, e, hi => by
  unfold pull at e
  split at e
  ·rename_i e2
   intro r hr
   rcases List.mem_cons.mp hr with h | h
   ·subst h; exact fun q => by cases q
   ·exact pull_no e2 hi r h
  ·cases e
theorem pull_ok {Zb Hb : Hp} {Ab : AS} : ∀ {rs : List R} {ρ ρ1 : Env} {F : Nat → List Addr} {ms : List M} {vs : List V} {Gs : List (List Addr)} {F0 : Nat → List Addr}, Rel K Z H σ ρ F → (∀ a, U F a → U F0 a) → OpsOk K Zb Hb Ab σ Z H F0 rs vs Gs → pull rs ρ = some (ms, ρ1) →
  ∃ F1 Gs', Rel K Z H σ ρ1 F1 ∧ ArgO K Z H ms vs Gs' ∧ Outs σ ρ1 rs vs ∧ (∀ a, U F1 a → U F a) ∧ (∀ a, U F1 a → ¬ inL Gs' a) ∧ ∀ a, inL Gs' a → U F a ∨ inL Gs a
 | [], ρ, ρ1, F, ms, _, _, F0, R, hF, .nil, e => by
  cases e
  exact ⟨F, [], R, .nil, .nil, fun _ h => h, (fun _ _ ⟨_, h, _⟩ => by cases h), (fun _ ⟨_, h, _⟩ => by cases h)⟩
 | .pl i :: rs, ρ, ρ1, F, ms, _, _, F0, R, hF, .cons (v := v) (G := G) (Gs := Gs) o os d, e => by
  unfold pull at e
  split at e
  ·rename_i m em
   split at e
   ·rename_i ms2 ρ2 e2
    cases e
    obtain ⟨hv, hG⟩ := o
    subst hG
    obtain ⟨w, h1, h2, h3⟩ := R.del_own em
    rw [hv] at h1; cases h1
    obtain ⟨F1, Gs', R1, a1, o1, k1, k2, k3⟩ := pull_ok (R.del i) (fun a h => hF a (U_del h)) os e2
    have dis : ∀ a ∈ F i, ¬ inL Gs' a := fun a ha hi => by
     rcases k3 a hi with h | ⟨G2, hg, h⟩
     ·exact h3 a ha h
     ·exact temps_ap os G2 hg a h (hF a ⟨i, ha⟩)
    obtain ⟨l1, l2⟩ := pull_len e2
    refine ⟨F1, F i :: Gs', R1, .cons h2 a1 fun a ha G2 hg hq => dis a ha ⟨G2, hg, hq⟩, .pl hv (by rw [l1, List.length_set]; exact slot_lt em) (l2 i (slot_self _ (slot_lt em))) (pull_no e2 (slot_self _ (slot_lt em))) o1,
     fun a h => U_del (k1 a h), fun a h ⟨G2, hg, hq⟩ => ?_, fun a ⟨G2, hg, hq⟩ => ?_⟩
    ·rcases List.mem_cons.mp hg with q | q
     ·subst q; exact h3 a hq (k1 a h)
     ·exact k2 a h ⟨G2, q, hq⟩
    ·rcases List.mem_cons.mp hg with q | q
     ·subst q; exact .inl ⟨i, hq⟩
     ·rcases k3 a ⟨G2, q, hq⟩ with h | ⟨G3, hg3, h⟩
      ·exact .inl (U_del h)
      ·exact .inr ⟨G3, List.mem_cons_of_mem _ hg3, h⟩
   ·cases e
  ·cases e
 | .vl m :: rs, ρ, ρ1, F, ms, _, _, F0, R, hF, .cons (v := v) (G := G) (Gs := Gs) o os d, e => by
  unfold pull at e
  split at e
  ·rename_i ms2 ρ2 e2
   cases e
   obtain ⟨F1, Gs', R1, a1, o1, k1, k2, k3⟩ := pull_ok R hF os e2
   have o' : Res K Zb Hb Ab Z H F0 m v G := o
   have dis : ∀ a ∈ G, ¬ inL Gs' a := fun a ha hi => by
    rcases k3 a hi with h | ⟨G2, hg, h⟩
    ·exact o'.ap a ha (hF a h)
    ·exact d a ha G2 hg h
   refine ⟨F1, G :: Gs', R1, .cons o'.own a1 fun a ha G2 hg hq => dis a ha ⟨G2, hg, hq⟩, .vl o1, k1, fun a h ⟨G2, hg, hq⟩ => ?_, fun a ⟨G2, hg, hq⟩ => ?_⟩
   ·rcases List.mem_cons.mp hg with q | q
    ·subst q; exact o'.ap a hq (hF a (k1 a h))
    ·exact k2 a h ⟨G2, q, hq⟩
   ·rcases List.mem_cons.mp hg with q | q
    ·subst q; exact .inr ⟨_, List.mem_cons_self, hq⟩
    ·rcases k3 a ⟨G2, q, hq⟩ with h | ⟨G3, hg3, h⟩
     ·exact .inl h
     ·exact .inr ⟨G3, List.mem_cons_of_mem _ hg3, h⟩
  ·cases e
where
 temps_ap {Zb Hb : Hp} {Ab : AS} {F0 : Nat → List Addr} {rs : List R} {vs : List V} {Gs : List (List Addr)} (o : OpsOk K Zb Hb Ab σ Z H F0 rs vs Gs) : ∀ G ∈ Gs, ∀ a ∈ G, ¬ U F0 a := by
  induction o with
  | nil => exact fun _ h => by cases h
  | @cons r v G rs vs Gs h _ d ih =>
   intro G2 hg a ha
   rcases List.mem_cons.mp hg with e | hg
   ·subst e
    cases r with
    | pl i => obtain ⟨_, h2⟩ := h; subst h2; cases ha
    | vl m => exact Res.ap h a ha
   ·exact ih G2 hg a ha
theorem outs_set {ρ : Env} {i : Nat} {o : Option M} {rs : List R} {vs : List V} (os : Outs σ ρ rs vs) : (∀ r ∈ rs, r ≠ .pl i) → Outs σ (ρ.set i o) rs vs := by
 induction os with
 | nil => exact fun _ => .nil
 | @pl j v rs vs h1 h2 h3 h4 os ih =>
  intro h
  have hj : i ≠ j := fun q => h _ List.mem_cons_self (by rw [q])
  exact .pl h1 (by rw [List.length_set]; exact h2) (by rw [slot_other _ hj]; exact h3) h4 (ih fun r hr => h r (List.mem_cons_of_mem _ hr))
 | vl os ih => exact fun h => .vl (ih fun r hr => h r (List.mem_cons_of_mem _ hr))
theorem put_ok : ∀ {rs : List R} {ρ : Env} {F : Nat → List Addr} {ms : List M} {vs : List V} {Gs : List (List Addr)}, Rel K Z H σ ρ F → ArgO K Z H ms vs Gs → Outs σ ρ rs vs → (∀ a, inL Gs a → ¬ U F a) → ∃ F2, Rel K Z H σ (putBack rs ms ρ) F2 ∧ ∀ a, U F2 a → U F a ∨ inL Gs a
 | [], ρ, F, _, _, _, R, .nil, .nil, _ => ⟨F, R, fun _ h => .inl h⟩
 | .pl i :: rs, ρ, F, _, _, _, R, .cons (m := m) (v := v) (G := G) (ms := ms) (vs := vs) (Gs := Gs) o as d, .pl h1 h2 h3 h4 os, ap => by
  have R1 := R.put h3 h2 h1 o fun a ha => ap a ⟨G, List.mem_cons_self, ha⟩
  have os2 : Outs σ (ρ.set i (some m)) rs vs := outs_set os h4
  obtain ⟨F2, R2, k⟩ := put_ok R1 as os2 fun a ⟨G2, hg, ha⟩ hu => by
   rcases U_fset hu with h | ⟨j, _, h⟩
   ·exact d a h G2 hg ha
   ·exact ap a ⟨G2, List.mem_cons_of_mem _ hg, ha⟩ ⟨j, h⟩
  refine ⟨F2, R2, fun a h => ?_⟩
  rcases k a h with q | ⟨G2, hg, q⟩
  ·rcases U_fset q with h | ⟨j, _, h⟩
   ·exact .inr ⟨G, List.mem_cons_self, h⟩
   ·exact .inl ⟨j, h⟩
  ·exact .inr ⟨G2, List.mem_cons_of_mem _ hg, q⟩
 | .vl m0 :: rs, ρ, F, _, _, _, R, .cons (m := m) (v := v) (G := G) (ms := ms) (vs := vs) (Gs := Gs) o as d, .vl os, ap => by
  obtain ⟨F2, R2, k⟩ := put_ok R as os fun a ⟨G2, hg, ha⟩ => ap a ⟨G2, List.mem_cons_of_mem _ hg, ha⟩
  refine ⟨F2, R2, fun a h => ?_⟩
  rcases k a h with q | ⟨G2, hg, q⟩
  ·exact .inl q
  ·exact .inr ⟨G2, List.mem_cons_of_mem _ hg, q⟩
end
end
end Mn
end
section
set_option maxHeartbeats 200000
namespace Mn
open PySem L2 PySem.Spec
variable [WW] [FX]
section
variable {K : PySem.W.Frag} {σ : St} {Z H Z1 H1 : Hp} {A : AS} {ρ ρ1 : Env} {F F1 : Nat → List Addr}
theorem pull_slot : ∀ {rs : List R} {ρ ρ1 : Env} {ms : List M}, pull rs ρ = some (ms, ρ1) → ms.length = rs.length ∧ ∀ j m, slot ρ j = some m → slot ρ1 j = some m ∨ ∃ p : Nat, rs[p]? = some (.pl j) ∧ ms[p]? = some m
 | [], ρ, ρ1, ms, e => by cases e; exact ⟨rfl, fun _ _ h => .inl h⟩
 | .pl i :: rs, ρ, ρ1, ms, e => by
  unfold pull at e
  split at e
  ·rename_i m0 em
   split at e
   ·rename_i e2
    cases e
    obtain ⟨h1, h2⟩ := pull_slot e2
    refine ⟨by rw [List.length_cons, List.length_cons, h1], fun j m hj => ?_⟩
    by_cases q : i = j
    ·subst q; rw [em] at hj; cases hj; exact .inr ⟨0, rfl, rfl⟩
    ·rcases h2 j m (by rw [slot_other _ q]; exact hj) with h | ⟨p, h3, h4⟩
     ·exact .inl h
     ·exact .inr ⟨p + 1, h3, h4⟩
   ·cases e
  ·cases e
 | .vl m0 :: rs, ρ, ρ1, ms, e => by
  unfold pull at e
  split at e
  ·rename_i e2
   cases e
   obtain ⟨h1, h2⟩ := pull_slot e2
   refine ⟨by rw [List.length_cons, List.length_cons, h1], fun j m hj => ?_⟩
   rcases h2 j m hj with h | ⟨p, h3, h4⟩
   ·exact .inl h
   ·exact .inr ⟨p + 1, h3, h4⟩
  ·cases e
theorem put_keep {rs : List R} {vs : List V} {ρ : Env} (os : Outs σ ρ rs vs) : ∀ {ms : List M} {j : Nat} {m : M}, slot ρ j = some m → slot (putBack rs ms ρ) j = some m := by
 have aux : ∀ {rs : List R} {ρ : Env} {ms : List M} {j : Nat} {m : M}, (∀ r ∈ rs, r ≠ .pl j) → slot ρ j = some m → slot (putBack rs ms ρ) j = some m := by
  intro rs
  induction rs with
  | nil => intro ρ ms j m _ h; unfold putBack; exact h
  | cons r rs ih =>
   intro ρ ms j m hn h
   cases ms with
   | nil => cases r <;> (unfold putBack; exact h)
   | cons m0 ms =>
    cases r with
    | pl i =>
     have hij : i ≠ j := fun q => hn _ List.mem_cons_self (by rw [q])
     exact ih (fun r hr => hn r (List.mem_cons_of_mem _ hr)) (by rw [slot_other _ hij]; exact h)
    | vl _ => exact ih (fun r hr => hn r (List.mem_cons_of_mem _ hr)) h
 intro ms j m h
 refine aux (fun r hr q => ?_) h
 subst q
 have : ∀ {rs : List R} {vs : List V}, Outs σ ρ rs vs → R.pl j ∈ rs → slot ρ j = none := by
  intro rs vs o
  induction o with
  | nil => exact fun h => by cases h
  | pl h1 h2 h3 h4 _ ih =>
   intro hm
   rcases List.mem_cons.mp hm with q | q
   ·cases q; exact h3
   ·exact ih q
  | vl _ ih =>
   intro hm
   rcases List.mem_cons.mp hm with q | q
   ·cases q
   ·exact ih q
 rw [this os hr] at h; cases h
theorem put_at : ∀ {rs : List R} {vs : List V} {ρ : Env} {ms : List M} {p j : Nat} {m : M}, Outs σ ρ rs vs → rs[p]? = some (.pl j) → ms[p]? = some m → slot (putBack rs ms ρ) j = some m
 | [], _, _, _, _, _, _, _, h, _ => by simp at h
 | .pl i :: rs, _, ρ, ms, p, j, m, .pl h1 h2 h3 h4 os, hr, hm => by
  cases ms with
  | nil => simp at hm
  | cons m0 ms =>
   cases p with
   | zero =>
    simp at hr hm
    subst hr hm
    exact put_keep (outs_set (o := some m0) os h4) (slot_self _ h2)
   | succ p =>
    show slot (putBack rs ms (ρ.set i (some m0))) j = some m
    exact put_at (rs := rs) (p := p) (outs_set os h4) (by simpa using hr) (by simpa using hm)
 | .vl _ :: rs, _, ρ, ms, p, j, m, .vl os, hr, hm => by
  cases ms with
  | nil => simp at hm
  | cons m0 ms =>
   cases p with
   | zero => simp at hr
   | succ p =>
    show slot (putBack rs ms ρ) j = some m
    exact put_at (rs := rs) (p := p) os (by simpa using hr) (by simpa using hm)
theorem put_length : ∀ {rs : List R} {ms : List M} {ρ : Env}, (putBack rs ms ρ).length = ρ.length
 | [], _, _ => by unfold putBack; rfl
 | .pl i :: rs, [], _ => by unfold putBack; rfl
 | .vl m :: rs, [], _ => by unfold putBack; rfl
 | .pl i :: rs, m :: ms, ρ => by
  show (putBack rs ms (ρ.set i (some m))).length = _
  rw [put_length, List.length_set]
 | .vl _ :: rs, m :: ms, ρ => by
  show (putBack rs ms ρ).length = _
  rw [put_length]
theorem call_lk {cx : Cxt} {rs : List R} {vs : List V} {ms ms1 : List M} (e : pull rs ρ = some (ms, ρ1)) (os : Outs σ ρ1 rs vs) (l : LkA ms ms1) : Lk cx ρ (putBack rs ms1 ρ1) := by
 obtain ⟨h1, h2⟩ := pull_slot e
 refine ⟨fun j m hj => ?_, fun j _ hn => ?_, by rw [put_length, (pull_len e).1]⟩
 ·rcases h2 j _ hj with h | ⟨p, h3, h4⟩
  ·exact put_keep os h
  ·exact put_at os h3 (l.2 p m h4)
 ·cases hs : slot ρ j with
  | none => exact (hn hs).elim
  | some m =>
   rcases h2 j _ hs with h | ⟨p, h3, h4⟩
   ·rw [put_keep os h]; exact fun z => by cases z
   ·have hp : p < ms1.length := by
     rw [l.1]
     exact (List.getElem?_eq_some_iff.mp h4).1
    rw [put_at os h3 (List.getElem?_eq_getElem hp)]
    exact fun z => by cases z
end
section
variable {T : Tab} {k : Nat} {cx : Cxt} {X : Cx} {x y z : Expr} {pos p2 p3 apos : Pos}
theorem call_chain {f : Nat} {es : EL} {σ : St} {H : Hp} {Q : VK} : TEx X.K cx (ev cx (.call f es)) σ H Q → tCall (spF X.K cx.C f) [] E0 (TAr X.K cx (evl cx es)) σ H Q := fun ⟨Z, ρ, F, m, ρ', R, e, q⟩ => by
 simp only [ev] at e
 split at e
 ·rename_i rs ρ1 e1
  split at e
  ·rename_i ms ρ2 e2
   split at e
   ·rename_i m3 ms1 e3
    cases e
    refine ⟨Z, ρ, F, rs, ρ1, R, e1, fun Z1 H1 F1 vs Gs g1 o1 => ?_⟩
    show spF X.K cx.C f (vs ++ []) H1 Q E0
    rw [List.append_nil]
    obtain ⟨F2, Gs', R2, a1, os, k1, k2, k3⟩ := pull_ok g1.rel (fun _ h => h) o1 e2
    refine ⟨Z1, ms, m, ms1, Gs', e3, g1.rel.sub, a1, fun Z3 H3 v G Gs2 s3 st ow a2 dj lk => ?_⟩
    have R3 := R2.frame st s3 k2
    have fresh : ∀ a, inL (G :: Gs2) a → ¬ U F2 a := fun a h hu => by
     rcases st.an a h with h | h
     ·exact k2 a hu h
     ·obtain ⟨_, u, hu2, _⟩ := R2.mem hu
      rw [h] at hu2; cases hu2
    obtain ⟨F4, R4, k4⟩ := put_ok R3 a2 os fun a ⟨G2, hg, ha⟩ => fresh a ⟨G2, List.mem_cons_of_mem _ hg, ha⟩
    have back : ∀ a, inL Gs' a → U F a ∨ H a = none ∨ U F1 a := fun a h => by
     rcases k3 a h with h | ⟨G2, hg, h⟩
     ·exact .inr (.inr h)
     ·rcases o1.temps G2 hg a h with h | h
      ·exact .inl h
      ·exact .inr (.inl h)
    have st2 : Step Z H Z3 H3 (U F) (U F4) := by
     refine ⟨fun a o h n => ?_, g1.st.zz.trans st.zz, fun a o h => ?_, fun a h => ?_, fun a o u h => st.fz a o u (g1.st.fz a o u h)⟩
     ·have h1 := g1.st.fr a o h n
      refine st.fr a o h1 fun hi => ?_
      rcases back a hi with q | q | q
      ·exact n q
      ·rw [q] at h; cases h
      ·rcases g1.st.an a q with q | q
       ·exact n q
       ·rw [q] at h; cases h
     ·rcases st.zn a o h with h | h | h | h
      ·exact g1.st.zn a o h
      ·rcases back a h with q | q | q
       ·exact .inr (.inl q)
       ·exact .inr (.inr (.inl q))
       ·rcases g1.st.an a q with q | q
        ·exact .inr (.inl q)
        ·exact .inr (.inr (.inl q))
      ·rcases new_back g1.st h with q | q
       ·exact .inr (.inl q)
       ·exact .inr (.inr (.inl q))
      ·exact .inr (.inr (.inr h))
     ·have key : inL (G :: Gs2) a → U F a ∨ H a = none := fun h => by
       rcases st.an a h with h | h
       ·rcases back a h with q | q | q
        ·exact .inl q
        ·exact .inr q
        ·exact g1.st.an a q
       ·exact new_back g1.st h
      rcases k4 a h with h | ⟨G2, hg, h⟩
      ·exact g1.st.an a (k1 a h)
      ·exact key ⟨G2, List.mem_cons_of_mem _ hg, h⟩
    refine q Z3 H3 F4 v G ⟨R4, st2, g1.lk.trans (call_lk e2 os lk)⟩ ⟨ow, fun a ha hu => ?_, fun a ha => ?_⟩
    ·rcases k4 a hu with h | h
     ·exact fresh a ⟨G, List.mem_cons_self, ha⟩ h
     ·exact dj a ha h
    ·rcases st.an a ⟨G, List.mem_cons_self, ha⟩ with h | h
     ·rcases back a h with q | q | q
      ·exact .inl q
      ·exact .inr q
      ·exact g1.st.an a q
     ·exact new_back g1.st h
   ·cases e
  ·cases e
 ·cases e
theorem snd_call {f : Nat} {Fn0 : Fn} {es : EL} {xs : List Expr} {n : Str} (g : Good T k cx X) (hf : T.fs[f]? = some Fn0) (hn : n = Fn0.name) (hg : glB X.env.scope n = true) (ha : PA X (x :: xs) (TAr X.K cx (evl cx es))) (hs : notStar x = true) (hss : xs.all notStar = true) :
  PE X (.Call (.Name n p2) (x :: xs) [] pos) (TEx X.K cx (ev cx (.call f es))) := by
 obtain ⟨hgl, hp⟩ := gl_of hg
 obtain ⟨a, fd, h1, h2, h3, h4⟩ := g.fns f Fn0 hf
 rw [← hn] at h1
 exact PE.mono (pe_call h4 g.room hgl h1 h2 h3 .nil pass0 ha (plain_of hp).1 (star_of hs) (stars_of hss)) fun σ H Q h => call_chain h
def DGU (K : PySem.W.Frag) (H : Hp) (a : Addr) (y : V) (o : Option V) : Prop := DG K H a y o ∨ ∃ vs k b, Rd H a (TupO a vs) ∧ KeysAt K H vs ∧ y = .ref b ∧ NkAt K H k b ∧ o = valU vs k
def IsDU (K : PySem.W.Frag) (H : Hp) (a : Addr) : Prop := IsD H a ∨ ∃ vs, Rd H a (TupO a vs) ∧ KeysAt K H vs
theorem isDU_at {pins : List (Addr × Obj)} {σ : St} {H : Hp} {s : Shared} {a : Addr} (hw : AtW X) (I : Inv X pins σ H s) (d : IsDU X.K H a) :
  s.TypeIs (.ref a) "dict" ∧ (∀ b, Value.ref a = .ref b → ∃ ob, s.heap.get? b = some ob ∧ ob.dict = none) := by
 rcases d with d | ⟨vs, d, hk⟩
 ·obtain ⟨t1, t2, _⟩ := isD_at I d
  exact ⟨t1, t2⟩
 ·obtain ⟨xs, _, _, _, o, _, _, e1, ex, _⟩ := uu_get I hw d hk
  exact ⟨⟨o, e1, ex.1⟩, fun b q => by cases q; exact ⟨o, e1, ex.2.1⟩⟩
def tG1 (K : PySem.W.Frag) (td ty : TE) : TE := fun σ H Q => td σ H fun x H1 => ∃ a, x = .ref a ∧ IsDU K H1 a ∧ ty σ H1 fun y H2 => ∃ o, DGU K H2 a y o ∧ Q (o.getD .non) H2
def tG2 (K : PySem.W.Frag) (td ty tx : TE) : TE := fun σ H Q => td σ H fun x H1 => ∃ a, x = .ref a ∧ IsDU K H1 a ∧ ty σ H1 fun y H2 => tx σ H2 fun z H3 => ∃ o, DGU K H3 a y o ∧ Q (o.getD z) H3
theorem pe_g1 {td ty : TE} (hu : X.A.units + 16 < cLine) (hw : AtW X) (ho : PE X x td) (he : PE X y ty) (m : M1 X x "get" apos y pos) : PE X (.Call (.Attribute x "get" apos) [y] [] pos) (tG1 X.K td ty) := ⟨fun pins s σ H Q J h => by
 refine wpAny_Call_method m.base m.few m.line PySem.F.plainAttrs_dict PySem.F.slot_dict_get PySem.F.type_dict_get (thn (ho.run pins s σ H _ J h) fun u s1 ⟨w, H1, J1, rx, a, ex, d, q1⟩ => ?_)
 subst ex
 cases rx
 obtain ⟨t1, t2⟩ := isDU_at hw J1 d
 refine ⟨t1, t2, ?_⟩
 rw [m.trees]
 exact Calls.callWith_builtin rfl (Calls.evalArgs_plain (Calls.spliced_cons (thn (he.run pins s1 σ H1 _ J1 q1) fun iv s2 ⟨y2, H2, J2, ry, ov, g, q2⟩ => Calls.spliced_nil (by
  rcases g with g | ⟨vs, k, b, k1, k2, k3, k4, k5⟩
  ·exact dg_get1 (by omega) J2 g ry fun w' s3 J3 rw' => ⟨_, H2, J3, rw', q2⟩
  ·subst k3 k5; cases ry; exact uu_get1 hu J2 hw k1 k2 k4 fun w' s3 J3 rw' => ⟨_, H2, J3, rw', q2⟩))))⟩
theorem pe_g2 {td ty tx : TE} (hu : X.A.units + 16 < cLine) (hw : AtW X) (ho : PE X x td) (he : PE X y ty) (hf : PE X z tx) (m : M2 X x "get" apos y z pos) : PE X (.Call (.Attribute x "get" apos) [y, z] [] pos) (tG2 X.K td ty tx) := ⟨fun pins s σ H Q J h => by
 refine wpAny_Call_method m.base m.few m.line PySem.F.plainAttrs_dict PySem.F.slot_dict_get PySem.F.type_dict_get (thn (ho.run pins s σ H _ J h) fun u s1 ⟨w, H1, J1, rx, a, ex, d, q1⟩ => ?_)
 subst ex
 cases rx
 obtain ⟨t1, t2⟩ := isDU_at hw J1 d
 refine ⟨t1, t2, ?_⟩
 rw [m.trees]
 exact Calls.callWith_builtin rfl (Calls.evalArgs_plain (Calls.spliced_cons (thn (he.run pins s1 σ H1 _ J1 q1) fun iv s2 ⟨y2, H2, J2, ry, q2⟩ => Calls.spliced_cons (thn (hf.run pins s2 σ H2 _ J2 q2) fun fv s3 ⟨z2, H3, J3, rz, ov, g, q3⟩ =>
  Calls.spliced_nil (by
   rcases g with g | ⟨vs, k, b, k1, k2, k3, k4, k5⟩
   ·exact dg_get2 (by omega) J3 g ry rz fun w' s4 J4 rw' => ⟨_, H3, J4, rw', q3⟩
   ·subst k3 k5; cases ry; exact uu_get2 hu J3 hw k1 k2 k4 rz fun w' s4 J4 rw' => ⟨_, H3, J4, rw', q3⟩)))))⟩
end
end Mn
end
section
set_option maxHeartbeats 200000
namespace Mn
open PySem L2 PySem.Spec
variable [WW] [FX]
section
variable {K : PySem.W.Frag} {Z H Z' H' : Hp} {m : M} {x : V} {G : List Addr}
omit [WW] [FX] in
theorem getA_put {κ α : Type} [DecidableEq κ] (k j : κ) (y : α) : ∀ kvs : List (κ × α), getA (putA kvs k y) j = if j = k then some y else getA kvs j := by
 have hm : ∀ kvs : List (κ × α), getA (kvs.map fun kv => if kv.1 = k then (kv.1, y) else kv) j = if j = k then (getA kvs k).map fun _ => y else getA kvs j := by
  intro kvs
  induction kvs with
  | nil => by_cases e : j = k <;> simp [getA, e]
  | cons p r ih =>
   by_cases e : j = k
   ·subst e
    rw [if_pos rfl] at ih ⊢
    by_cases q : p.1 = j
    ·simp [getA, List.find?_cons, q]
    ·have : getA ((p :: r).map fun kv => if kv.1 = j then (kv.1, y) else kv) j = getA (r.map fun kv => if kv.1 = j then (kv.1, y) else kv) j := by
      simp [getA, List.find?_cons, q]
     rw [this, ih]
     simp [getA, List.find?_cons, q]
   ·rw [if_neg e] at ih ⊢
    by_cases q : p.1 = k
    ·have q2 : ¬ p.1 = j := fun z => e (z.symm.trans q)
     have : getA ((p :: r).map fun kv => if kv.1 = k then (kv.1, y) else kv) j = getA (r.map fun kv => if kv.1 = k then (kv.1, y) else kv) j := by
      simp [getA, List.find?_cons, q, q2, Ne.symm e]
     rw [this, ih]
     simp [getA, List.find?_cons, q2]
    ·by_cases q2 : p.1 = j
     ·simp [getA, List.find?_cons, q, q2, e]
     ·have : getA ((p :: r).map fun kv => if kv.1 = k then (kv.1, y) else kv) j = getA (r.map fun kv => if kv.1 = k then (kv.1, y) else kv) j := by
       simp [getA, List.find?_cons, q, q2]
      rw [this, ih]
      simp [getA, List.find?_cons, q2]
 intro kvs
 have ha : (kvs.any fun kv => decide (kv.1 = k)) = (getA kvs k).isSome := by
  induction kvs with
  | nil => rfl
  | cons p r ih =>
   by_cases q : p.1 = k
   ·simp [getA, List.find?_cons, q]
   ·rw [List.any_cons, ih, decide_eq_false q, Bool.false_or]
    simp [getA, List.find?_cons, q]
 unfold putA
 rw [ha]
 cases e : getA kvs k with
 | some w =>
  rw [if_pos (show (some w).isSome = true from rfl), hm]
  by_cases q : j = k
  ·rw [if_pos q, if_pos q, e]; rfl
  ·rw [if_neg q, if_neg q]
 | none =>
  rw [if_neg (by simp)]
  have : getA (kvs ++ [(k, y)]) j = (getA kvs j).or (if j = k then some y else none) := by
   unfold getA
   rw [List.find?_append]
   cases kvs.find? fun kv => decide (kv.1 = j) with
   | some w => rfl
   | none =>
    by_cases q : j = k
    ·subst q; simp
    ·have : ¬ k = j := fun z => q z.symm
     simp [q, this]
  rw [this]
  by_cases q : j = k
  ·subst q; rw [e]; simp
  ·rw [if_neg q, if_neg q]; simp
theorem ownN_upd {A' : AS} (k : Key) : ∀ {ms : List (Key × M)} {vs : List (Key × V)} {G : List Addr} {m : M}, OwnN K Z H ms vs G → getA ms k = some m →
  ∃ v Gk, valV vs k = some v ∧ Own K Z H m v Gk ∧ (∀ a ∈ Gk, a ∈ G) ∧ ∀ {Z' H' : Hp} {m' : M} {v' : V} {G' : List Addr}, Step Z H Z' H' (· ∈ Gk) A' → Sub Z' H' → Own K Z' H' m' v' G' → (∀ a ∈ G', a ∈ Gk ∨ H a = none) →
   ∃ G2, OwnN K Z' H' (putA ms k m') (putK vs k v') G2 ∧ ∀ a ∈ G2, a ∈ G ∨ a ∈ G'
 | _, _, _, m, .nil, e => by cases e
 | _, _, _, m, @OwnN.cons _ _ _ _ k0 m0 v0 ms vs G G2 ko kn h t d, e => by
  by_cases q : k0 = k
  ·subst q
   have e1 : m0 = m := by simpa [getA, List.find?_cons] using e
   subst e1
   refine ⟨v0, G, valV_pos rfl, h, fun a ha => List.mem_append_left _ ha, fun {Z' H' m' v' G'} st s o nw => ?_⟩
   have p1 : putA ((k0, m0) :: ms) k0 m' = (k0, m') :: ms := by
    have hm : (ms.map fun kv => if kv.1 = k0 then (kv.1, m') else kv) = ms := by
     have : ∀ {l : List (Key × M)}, getA l k0 = none → (l.map fun kv => if kv.1 = k0 then (kv.1, m') else kv) = l := by
      intro l
      induction l with
      | nil => intro _; rfl
      | cons p r ih =>
       intro hn
       by_cases q : p.1 = k0
       ·simp [getA, List.find?_cons, q] at hn
       ·rw [List.map_cons, if_neg q, ih (by simpa [getA, List.find?_cons, q] using hn)]
     exact this kn
    unfold putA
    rw [List.any_cons, decide_eq_true rfl, Bool.true_or, if_pos rfl, List.map_cons, if_pos rfl, hm]
   have p2 : putK ((k0, v0) :: vs) k0 v' = (k0, v') :: vs := by
    have kv : valV vs k0 = none := by
     have := ownN_get k0 t
     rw [kn] at this; exact this
    have hm : ∀ {l : List (Key × V)}, valV l k0 = none → (l.map fun kv => if kv.1 = k0 then (kv.1, v') else kv) = l := by
     intro l
     induction l with
     | nil => intro _; rfl
     | cons p r ih =>
      intro hn
      by_cases q : p.1 = k0
      ·rw [valV_pos q] at hn; cases hn
      ·rw [valV_neg q] at hn
       rw [List.map_cons, if_neg q, ih hn]
    unfold putK
    rw [List.any_cons, decide_eq_true rfl, Bool.true_or, if_pos rfl, List.map_cons, if_pos rfl, hm kv]
   rw [p1, p2]
   obtain ⟨t2, _⟩ := t.step (fun a ha hg => d a hg ha) st s
   refine ⟨G' ++ G2, .cons ko kn o t2 fun a ha hb => ?_, fun a ha => ?_⟩
   ·rcases nw a ha with z | z
    ·exact d a z hb
    ·obtain ⟨_, u, hu, _⟩ := t.at_ a hb
     rw [z] at hu; cases hu
   ·rcases List.mem_append.mp ha with z | z
    ·exact .inr z
    ·exact .inl (List.mem_append_right _ z)
  ·have e1 : getA ms k = some m := by simpa [getA, List.find?_cons, q] using e
   obtain ⟨v, Gk, h1, h2, h3, h4⟩ := ownN_upd (A' := A') k t e1
   refine ⟨v, Gk, by rw [valV_neg (by exact q)]; exact h1, h2, fun a ha => List.mem_append_right _ (h3 a ha), fun {Z' H' m' v' G'} st s o nw => ?_⟩
   obtain ⟨G3, t3, k3⟩ := h4 st s o nw
   have p1 : putA ((k0, m0) :: ms) k m' = (k0, m0) :: putA ms k m' := by
    have hs : (ms.any fun kv => decide (kv.1 = k)) = true := by
     cases hx : ms.any fun kv => decide (kv.1 = k) with
     | true => rfl
     | false =>
      have : getA ms k = none := by
       unfold getA
       rw [List.find?_eq_none.mpr (fun x hx2 => by
        rw [List.any_eq_false] at hx
        exact hx x hx2)]
       rfl
      rw [this] at e1; cases e1
    unfold putA
    rw [List.any_cons, hs, Bool.or_true, if_pos rfl, if_pos rfl, List.map_cons, if_neg (by exact q)]
   have p2 : putK ((k0, v0) :: vs) k v' = (k0, v0) :: putK vs k v' := by
    have hs : (vs.any fun kv => decide (kv.1 = k)) = true := by rw [valV_any, h1]; rfl
    unfold putK
    rw [List.any_cons, hs, Bool.or_true, if_pos rfl, if_pos rfl, List.map_cons, if_neg (by exact q)]
   rw [p1, p2]
   have dG : ∀ a ∈ G, ¬ a ∈ Gk := fun a ha hb => d a ha (h3 a hb)
   obtain ⟨o2, _⟩ := h.step dG st s
   refine ⟨G ++ G3, .cons ko ?_ o2 t3 fun a ha hb => ?_, fun a ha => ?_⟩
   ·rw [getA_put, if_neg (by exact q)]; exact kn
   ·rcases k3 a hb with z | z
    ·exact d a ha z
    ·rcases nw a z with z2 | z2
     ·exact dG a ha z2
     ·obtain ⟨_, u, hu, _⟩ := h.at_ a ha
      rw [z2] at hu; cases hu
   ·rcases List.mem_append.mp ha with z | z
    ·exact .inl (List.mem_append_left _ z)
    ·rcases k3 a z with z2 | z2
     ·exact .inl (List.mem_append_right _ z2)
     ·exact .inr z2
theorem ownN_new {k : Key} {m : M} {v : V} {G G' : List Addr} : ∀ {ms : List (Key × M)} {vs : List (Key × V)} {G : List Addr}, OwnN K Z H ms vs G → KeyOk k → getA ms k = none → Own K Z H m v G' → (∀ a ∈ G', a ∉ G) →
  ∃ G2, OwnN K Z H (ms ++ [(k, m)]) (vs ++ [(k, v)]) G2 ∧ ∀ a ∈ G2, a ∈ G ∨ a ∈ G'
 | _, _, _, .nil, ko, _, o, _ => ⟨G' ++ [], .cons ko rfl o .nil (fun _ _ h => by cases h), fun a h => .inr (by simpa using h)⟩
 | _, _, _, @OwnN.cons _ _ _ _ k0 m0 v0 ms vs G1 G2 ko0 kn h t d, ko, e, o, dj => by
  have q : ¬ k0 = k := fun q => by subst q; simp [getA, List.find?_cons] at e
  obtain ⟨G3, t3, k3⟩ := ownN_new (G := G) t ko (by simpa [getA, List.find?_cons, q] using e) o fun a ha hb => dj a ha (List.mem_append_right _ hb)
  refine ⟨G1 ++ G3, .cons ko0 ?_ h t3 fun a ha hb => ?_, fun a ha => ?_⟩
  ·have : getA (ms ++ [(k, m)]) k0 = none := by
    unfold getA at kn ⊢
    rw [List.find?_append]
    cases hx : ms.find? fun kv => decide (kv.1 = k0) with
    | some w => rw [hx] at kn; cases kn
    | none =>
     have : ¬ k = k0 := fun z => q z.symm
     simp [this]
   exact this
  ·rcases k3 a hb with z | z
   ·exact d a ha z
   ·exact dj a z (List.mem_append_left _ ha)
  ·rcases List.mem_append.mp ha with z | z
   ·exact .inl (List.mem_append_left _ z)
   ·rcases k3 a z with z2 | z2
    ·exact .inl (List.mem_append_right _ z2)
    ·exact .inr z2
theorem isD_of (s : Sub Z H) (h : View K Z H (vw m) x) (e : mtBase .get (some m) = true) : ∃ a, x = .ref a ∧ IsDU K H a := by
 unfold mtBase at e
 dsimp only at e
 split at e <;> rename_i e1
 ·rw [e1] at h
  cases h with
  | d h _ => exact ⟨_, rfl, .inl (.inl ⟨_, h⟩)⟩
 ·rw [e1] at h
  cases h with
  | t h _ => exact ⟨_, rfl, .inl (.inr ⟨_, h⟩)⟩
 ·rw [e1] at h
  cases h with
  | uo h r => exact ⟨_, rfl, .inr ⟨_, h, uRel_at s r⟩⟩
 ·rw [e1] at h
  cases h with
  | v h =>
   cases h with
   | dk h _ => exact ⟨_, rfl, .inl (.inl ⟨_, .inr ⟨_, s _ _ h⟩⟩)⟩
   | dt h _ => exact ⟨_, rfl, .inl (.inr ⟨_, .inr ⟨_, s _ _ h⟩⟩)⟩
 ·cases e
theorem get_find (s : Sub Z H) {p : P} {y : V} (h : View K Z H (vw m) x) (hp : Rep K Z y p) {ms : List M} {r : M} (e : mtM .get m (.v p :: ms) = some r) : ∃ a o, x = .ref a ∧ DGU K H a y o ∧
  ((∃ q v, o = some v ∧ Rep K Z v q ∧ r = .v q) ∨ (o = none ∧ ((ms = [] ∧ r = .v .none) ∨ ∃ d, ms = [d] ∧ r = d))) := by
 have hit : ∀ {a : Addr} {q : Option P} {o : Option V}, x = .ref a → DGU K H a y o → Hit K Z q o → (ms = [] ∧ r = .v (q.getD .none) ∨ ∃ d, ms = [d] ∧ r = (match q with | some q => .v q | none => d)) → ∃ a o, x = .ref a ∧ DGU K H a y o ∧
   ((∃ q v, o = some v ∧ Rep K Z v q ∧ r = .v q) ∨ (o = none ∧ ((ms = [] ∧ r = .v .none) ∨ ∃ d, ms = [d] ∧ r = d))) := by
  intro a q o ex g hq hr
  refine ⟨a, o, ex, g, ?_⟩
  cases q with
  | some q =>
   obtain ⟨v, h1, h2⟩ := (show ∃ v, o = some v ∧ Rep K Z v q from hq)
   refine .inl ⟨q, v, h1, h2, ?_⟩
   rcases hr with ⟨_, h⟩ | ⟨d, _, h⟩ <;> exact h
  | none =>
   refine .inr ⟨hq, ?_⟩
   rcases hr with ⟨h0, h⟩ | ⟨d, h0, h⟩
   ·exact .inl ⟨h0, h⟩
   ·exact .inr ⟨d, h0, h⟩
 unfold mtM at e
 split at e
 ·rename_i kvs e1 e2
  rw [e1] at h
  injection e2 with e3 e4
  cases e3
  subst e4
  cases hp
  cases e
  cases h with
  | d h r1 => exact ⟨_, none, rfl, .inl (.inr (.inr ⟨_, h, rfl, rfl⟩)), .inr ⟨rfl, .inl ⟨rfl, rfl⟩⟩⟩
 ·rename_i kvs d e1 e2
  rw [e1] at h
  injection e2 with e3 e4
  cases e3
  subst e4
  cases hp
  cases e
  cases h with
  | d h r1 => exact ⟨_, none, rfl, .inl (.inr (.inr ⟨_, h, rfl, rfl⟩)), .inr ⟨rfl, .inr ⟨_, rfl, rfl⟩⟩⟩
 ·rename_i kvs p2 _ e1 e2
  rw [e1] at h
  injection e2 with e3 e4
  cases e3
  subst e4
  split at e
  ·rename_i k ek
   cases e
   obtain ⟨ey, _, _⟩ := keyOf_v ek hp
   cases h with
   | d h r1 => exact hit rfl (.inl (.inl ⟨_, k, h, ey, rfl⟩)) (dRel_hit r1 k) (.inl ⟨rfl, rfl⟩)
  ·cases e
 ·rename_i kvs p2 d _ e1 e2
  rw [e1] at h
  injection e2 with e3 e4
  cases e3
  subst e4
  split at e
  ·rename_i k ek
   obtain ⟨ey, _, _⟩ := keyOf_v ek hp
   cases h with
   | d h r1 =>
    refine hit rfl (.inl (.inl ⟨_, k, h, ey, rfl⟩)) (dRel_hit r1 k) (.inr ⟨_, rfl, ?_⟩)
    split at e <;> rename_i eq <;> first | (rw [eq]; exact (Option.some.inj e).symm) | exact (Option.some.inj e).symm
  ·cases e
 ·rename_i kvs p2 e1 e2
  rw [e1] at h
  injection e2 with e3 e4
  cases e3
  subst e4
  split at e
  ·rename_i k ek
   cases e
   obtain ⟨b, ey, hb, _, _⟩ := keysOf_v ek hp
   cases h with
   | t h r1 => exact hit rfl (.inl (.inr (.inl ⟨_, k, b, h, ey, sqT_sub s hb, rfl⟩))) (tRel_hit r1 k) (.inl ⟨rfl, rfl⟩)
  ·cases e
 ·rename_i kvs p2 d e1 e2
  rw [e1] at h
  injection e2 with e3 e4
  cases e3
  subst e4
  split at e
  ·rename_i k ek
   obtain ⟨b, ey, hb, _, _⟩ := keysOf_v ek hp
   cases h with
   | t h r1 =>
    refine hit rfl (.inl (.inr (.inl ⟨_, k, b, h, ey, sqT_sub s hb, rfl⟩))) (tRel_hit r1 k) (.inr ⟨_, rfl, ?_⟩)
    split at e <;> rename_i eq <;> first | (rw [eq]; exact (Option.some.inj e).symm) | exact (Option.some.inj e).symm
  ·cases e
 ·rename_i kvs p2 e1 e2
  rw [e1] at h
  injection e2 with e3 e4
  cases e3
  subst e4
  split at e
  ·rename_i k ek
   cases e
   obtain ⟨b, ey, hb, _⟩ := nkOf_v ek hp
   cases h with
   | uo h r1 => exact hit rfl (.inr ⟨_, k, b, h, uRel_at s r1, ey, hb.sub s, rfl⟩) (uRel_hit r1 k) (.inl ⟨rfl, rfl⟩)
  ·cases e
 ·rename_i kvs p2 d e1 e2
  rw [e1] at h
  injection e2 with e3 e4
  cases e3
  subst e4
  split at e
  ·rename_i k ek
   obtain ⟨b, ey, hb, _⟩ := nkOf_v ek hp
   cases h with
   | uo h r1 =>
    refine hit rfl (.inr ⟨_, k, b, h, uRel_at s r1, ey, hb.sub s, rfl⟩) (uRel_hit r1 k) (.inr ⟨_, rfl, ?_⟩)
    split at e <;> rename_i eq <;> first | (rw [eq]; exact (Option.some.inj e).symm) | exact (Option.some.inj e).symm
  ·cases e
 ·rename_i kvs p2 e1 e2
  rw [e1] at h
  injection e2 with e3 e4
  cases e3
  subst e4
  split at e
  ·rename_i q eq
   cases e
   obtain ⟨c, o, ex, g, ht⟩ := getF_ok s h.imm hp eq
   exact hit ex (.inl g) ht (.inl ⟨rfl, rfl⟩)
  ·cases e
 ·rename_i kvs p2 d e1 e2
  rw [e1] at h
  injection e2 with e3 e4
  cases e3
  subst e4
  split at e
  ·rename_i q eq
   obtain ⟨c, o, ex, g, ht⟩ := getF_ok s h.imm hp eq
   exact hit ex (.inl g) ht (.inr ⟨_, rfl, (Option.some.inj e).symm⟩)
  ·rename_i eq
   obtain ⟨c, o, ex, g, ht⟩ := getF_ok s h.imm hp eq
   exact hit ex (.inl g) ht (.inr ⟨_, rfl, (Option.some.inj e).symm⟩)
  ·cases e
 ·rename_i e0 _ _; cases e0
 ·rename_i e0 _ _; cases e0
 ·cases e
end
section
variable {T : Tab} {k : Nat} {cx : Cxt} {X : Cx} {x y z : Expr} {pos p2 p3 apos : Pos}
theorem snd_get1 {a b : E} (g : Good T k cx X) (ha : PE X x (TOp X.K cx (opE a (ev cx a)))) (hb : PE X y (TEx X.K cx (ev cx b))) (nb : isPl b = false) (h0 : notCall0 x = true) (hs : notStar y = true) (hl : (apos.endLine == pos.line) = true) :
  PE X (.Call (.Attribute x "get" apos) [y] [] pos) (TEx X.K cx (ev cx (.mt .get a (.cons b .nil)))) := PE.mono (pe_g1 (by have := g.room.units; omega) g.at_ ha hb (m1_of h0 hs hl)) fun σ H Q ⟨Z, ρ, F, m, ρ', R, e, q⟩ => by
 simp only [ev, evl, opE_ex nb] at e
 split at e
 ·rename_i r1 ρ1 e1
  split at e
  ·rename_i hb1
   cases e2 : ev cx b ρ1 with
   | none => rw [e2] at e; cases e
   | some w =>
    obtain ⟨m2, ρ2⟩ := w
    rw [e2] at e
    have hrd : ∀ ρ, rd ρ (.vl m2) = some m2 := fun _ => rfl
    simp only [rds, hrd] at e
    split at e
    ·rename_i m1 ms e3 e4
     cases e4
     split at e
     ·rename_i m3 e5
      cases e
      refine ⟨Z, ρ, F, r1, ρ1, R, e1, fun Z1 H1 F1 v1 G1 g1 o1 => ?_⟩
      cases e6 : rd ρ1 r1 with
      | none => rw [e6] at hb1; cases hb1
      | some m0 =>
       rw [e6] at hb1
       obtain ⟨_, w0⟩ := o1.rd g1.rel e6
       obtain ⟨c, ec, hd⟩ := isD_of g1.rel.sub w0.view hb1
       refine ⟨c, ec, hd, Z1, ρ1, F1, m2, _, g1.rel, e2, fun Z2 H2 F2 v2 G2 g2 r2 => ?_⟩
       obtain ⟨_, w1⟩ := (o1.carry g2).rd g2.rel e3
       obtain ⟨ow, ap, nw⟩ := r2
       have e7 : ∃ p, m2 = .v p := by
        unfold mtM at e5
        split at e5 <;> first | (rename_i e8; injection e8 with e9 _; exact ⟨_, e9⟩) | (rename_i e0 _ _; cases e0) | cases e5
       obtain ⟨p, rfl⟩ := e7
       cases ow with
       | v hp =>
        obtain ⟨c2, o, ec2, hg, hr⟩ := get_find g2.rel.sub w1.view hp e5
        have : c2 = c := by rw [ec] at ec2; cases ec2; rfl
        subst this
        refine ⟨o, hg, ?_⟩
        rcases hr with ⟨q2, v, rfl, hv, rfl⟩ | ⟨rfl, ⟨_, rfl⟩ | ⟨d, h9, _⟩⟩
        ·exact q Z2 H2 F2 v [] (g1.trans g2) ⟨.v hv, no0, no0⟩
        ·exact q Z2 H2 F2 _ [] (g1.trans g2) ⟨.v .non, no0, no0⟩
        ·cases h9
     ·cases e
    ·cases e
  ·cases e
 ·cases e
theorem snd_get2 {a b d : E} (g : Good T k cx X) (ha : PE X x (TOp X.K cx (opE a (ev cx a)))) (hb : PE X y (TEx X.K cx (ev cx b))) (hd : PE X z (TEx X.K cx (ev cx d))) (nb : isPl b = false) (nd : isPl d = false) (h0 : notCall0 x = true) (hs : notStar y = true) (hs2 : notStar z = true) (hl : (apos.endLine == pos.line) = true) :
  PE X (.Call (.Attribute x "get" apos) [y, z] [] pos) (TEx X.K cx (ev cx (.mt .get a (.cons b (.cons d .nil))))) := PE.mono (pe_g2 (by have := g.room.units; omega) g.at_ ha hb hd (m2_of h0 hs hs2 hl)) fun σ H Q ⟨Z, ρ, F, m, ρ', R, e, q⟩ => by
 simp only [ev, evl, opE_ex nb, opE_ex nd] at e
 split at e
 ·rename_i r1 ρ1 e1
  split at e
  ·rename_i hb1
   cases e2 : ev cx b ρ1 with
   | none => rw [e2] at e; cases e
   | some w =>
    obtain ⟨m2, ρ2⟩ := w
    rw [e2] at e
    dsimp only at e
    cases e9 : ev cx d ρ2 with
    | none => rw [e9] at e; cases e
    | some w =>
     obtain ⟨m9, ρ3⟩ := w
     rw [e9] at e
     have hrd : ∀ ρ m, rd ρ (.vl m) = some m := fun _ _ => rfl
     simp only [rds, hrd] at e
     split at e
     ·rename_i m1 ms e3 e4
      cases e4
      split at e
      ·rename_i m3 e5
       cases e
       refine ⟨Z, ρ, F, r1, ρ1, R, e1, fun Z1 H1 F1 v1 G1 g1 o1 => ?_⟩
       cases e6 : rd ρ1 r1 with
       | none => rw [e6] at hb1; cases hb1
       | some m0 =>
        rw [e6] at hb1
        obtain ⟨_, w0⟩ := o1.rd g1.rel e6
        obtain ⟨c, ec, hd⟩ := isD_of g1.rel.sub w0.view hb1
        refine ⟨c, ec, hd, Z1, ρ1, F1, m2, ρ2, g1.rel, e2, fun Z2 H2 F2 v2 G2 g2 r2 => ⟨Z2, ρ2, F2, m9, _, g2.rel, e9, fun Z3 H3 F3 v3 G3 g3 r3 => ?_⟩⟩
        obtain ⟨_, w1⟩ := (o1.carry (g2.trans g3)).rd g3.rel e3
        have r2' := r2.carry g3
        obtain ⟨ow, ap, nw⟩ := r2'
        have e7 : ∃ p, m2 = .v p := by
         unfold mtM at e5
         split at e5 <;> first | (rename_i e8; injection e8 with e9 _; exact ⟨_, e9⟩) | (rename_i e0 _ _; cases e0) | cases e5
        obtain ⟨p, rfl⟩ := e7
        cases ow with
        | v hp =>
         obtain ⟨c2, o, ec2, hg, hr⟩ := get_find g3.rel.sub w1.view hp e5
         have : c2 = c := by rw [ec] at ec2; cases ec2; rfl
         subst this
         refine ⟨o, hg, ?_⟩
         rcases hr with ⟨q2, v, rfl, hv, rfl⟩ | ⟨rfl, ⟨h9, _⟩ | ⟨d2, h9, rfl⟩⟩
         ·exact q Z3 H3 F3 v [] ((g1.trans g2).trans g3) ⟨.v hv, no0, no0⟩
         ·cases h9
         ·cases h9
          exact q Z3 H3 F3 v3 G3 ((g1.trans g2).trans g3) (res_go (g1.trans g2) r3)
      ·cases e
     ·cases e
  ·cases e
 ·cases e
end
end Mn
end
section
set_option maxHeartbeats 200000
namespace Mn
open PySem L2 PySem.Spec PyProof.Rows
theorem meets_enumerate_newT (l : Addr) (items : Array Value) (n : Nat) (dct : Option Addr) (sl : Array (Option Value)) :
  Meets (Builtin.«enumerate.__new__» ⟨[.type "enumerate", .ref l], []⟩) (fun _ R s => s.heap.get? l = some { cls := .type "tuple", dict := dct, data := .seq items n, slots := sl } ∧
   R (.ok (.ret (.ref (s.heap.push { cls := .type "tuple_iterator", data := .fields #[.ref l, .int 0 0] }).objs.size)))
    { s with heap := (s.heap.push { cls := .type "tuple_iterator", data := .fields #[.ref l, .int 0 0] }).push { cls := .type "enumerate", data := .fields #[.none, .bool false, .ref s.heap.objs.size, rawInt 0, .none, .none] } }) :=
 .of_wp fun prog w A R s h => by
  obtain ⟨hp, g, d, tk, os⟩ := s; obtain ⟨hl, h⟩ := h
  have hsub := sub_enumerate
  have hL : Heap.IsTuple (Shared.heap ⟨hp, g, d, tk, os⟩) l items := ⟨_, hl, rfl, n, rfl⟩
  wp_walk using PySem.AutoSeq1.wpAny_loadPart' hl
  refine wpAny_stack_any fun st => wpAny_pure ?_
  split
  ·rename_i c _ _ _ _ _
   cases (c == Value.type "enumerate")
   ·wp_walk using PySem.AutoSeq1.wpAny_loadPart' hl, wpAny_pyIter_tuple hL
    exact ⟨_, rfl, h⟩
   ·wp_walk using PySem.AutoSeq1.wpAny_loadPart' hl, wpAny_pyIter_tuple hL
    exact ⟨_, rfl, h⟩
  ·wp_walk using PySem.AutoSeq1.wpAny_loadPart' hl, wpAny_pyIter_tuple hL
   exact ⟨_, rfl, h⟩
section
variable {prog : Program} {w : World} {A : Around} {E : Value → Shared → Prop} {s : Shared}
theorem call_enumerate_tup {l : Addr} {items : Array Value} {Q : Value → Shared → Prop} (hL : s.heap.IsTuple l items)
  (h : ∀ h', IsEnum h' (s.heap.objs.size + 1) s.heap.objs.size 0 .none → h'.IsTupleIter s.heap.objs.size l 0 → h'.objs.size = s.heap.objs.size + 2 →
   (∀ b o, s.heap.get? b = some o → h'.get? b = some o) → Q (.ref (s.heap.objs.size + 1)) { s with heap := h' }) :
  wpAny (model prog w) A (call (.type "enumerate") [.ref l]) Q E s := by
 obtain ⟨⟨c, dct, dt, sl⟩, hl, hc, n, hd⟩ := hL
 replace hc : c = .type "tuple" := hc
 replace hd : dt = .seq items n := hd
 subst hc hd
 refine callType_new F.called_enumerate (by decide) (F.typeCall_enumerate_1 _) (F.newCall_enumerate_1 _) (fun obj => F.args_object_init_2 obj _) F.entry_enumerate_new
  (meets_enumerate_newT l items n dct sl) ⟨hl, ?_⟩
 have hz : (s.heap.push { cls := .type "tuple_iterator", data := .fields #[.ref l, .int 0 0] }).objs.size = s.heap.objs.size + 1 := Heap.size_push ..
 show _ ∧ _
 rw [hz]
 have he : IsEnum ((s.heap.push { cls := .type "tuple_iterator", data := .fields #[.ref l, .int 0 0] }).push
   { cls := .type "enumerate", data := .fields #[.none, .bool false, .ref s.heap.objs.size, rawInt 0, .none, .none] }) (s.heap.objs.size + 1) s.heap.objs.size 0 .none := by
  have := Heap.get?_push_size (s.heap.push { cls := .type "tuple_iterator", data := .fields #[.ref l, .int 0 0] })
   (o := { cls := .type "enumerate", data := .fields #[.none, .bool false, .ref s.heap.objs.size, rawInt 0, .none, .none] }) rfl
  rw [hz] at this; exact this
 refine ⟨⟨_, he, rfl⟩, h _ he ⟨_, Heap.get?_push_of_some _ (Heap.get?_push_size _ rfl), rfl, rfl⟩ (by rw [Heap.size_push, hz]) fun b o x => Heap.get?_push_of_some _ (Heap.get?_push_of_some _ x)⟩
theorem enumT_end {e it l : Addr} {i : Nat} {items : Array Value} {old : Value} {Q : Option Value → Shared → Prop} (hh : A.handled = none)
  (he : IsEnum s.heap e it i old) (hit : s.heap.IsTupleIter it l i) (hl : s.heap.IsTuple l items) (hx : items[i]? = none)
  (hQ : ∀ h', Heap.ExtBut it s.heap h' → Q none { s with heap := h' }) : wpAny (model prog w) A (pyNext (.ref e)) Q E s := by
 have hT : s.TypeIs (.ref e) "enumerate" := ⟨_, he, rfl⟩
 unfold pyNext
 refine wpAny_bind (wpAny_attempt (wpAny_callSpecial?_slot (name := Str.ofString "__next__") hT F.slot_enumerate_next
  (wpAny_call_entry F.slot_enumerate_next hT F.entry_enumerate_next ?_ (F.args_enumerate_next_1 _))))
 show wpAny _ _ (PySem.field (Value.ref e) 2 >>= _) _ _ _
 refine wpAny_bind (wpAny_field he rfl (x := .ref it) rfl ?_)
 refine wpAny_bind (wpAny_nextOf_tuple_end hh hit hl hx fun h' x he' hx' => ?_)
 obtain ⟨o, ho, hc⟩ := hx'
 refine wpAny_bind (wpAny_isInstance (T := "StopIteration") (b := true) ⟨o, ho, hc⟩ isSubtype_stop ?_)
 exact wpAny_pure (hQ _ he')
end
def IteT (K : PySem.W.Frag) (a : Addr) : L2.It :=
 ⟨fun i H => ∃ (xs : List V) (x : V), SqT K H a xs ∧ xs[i]? = some x, fun i H v H' => ∃ T x, v = .ref T ∧ H T = none ∧ H' = L2.upd H T (.tup [.int (i : Nat), x]) ∧ ∀ xs, SqT K H a xs → xs[i]? = some x, fun i H => ∃ xs : List V, SqT K H a xs ∧ xs.length ≤ i⟩
theorem turn_enumT {P : Program} {w : World} {K : PySem.W.Frag} {elts : List Expr} {kk : Nat} {tpos : Pos} (a e it : Addr) (hai : a ≠ it) (hae : a ≠ e) :
  Turn P w K (.Tuple elts kk tpos) (IteT K a) [e, it] e (fun i h => (∃ old, IsEnum h e it ((i : Nat) : Int) old) ∧ h.IsTupleIter it a i ∧ e ≠ it) where
 mem := by simp
 obj := fun i h st b hb => by
  obtain ⟨⟨old, he⟩, ⟨o, ho, hc, hd⟩, _⟩ := st
  have e' : b = e ∨ b = it := by simpa using hb
  rcases e' with z | z
  ·rw [z]; exact ⟨_, he, fun v q => nomatch q⟩
  ·rw [z]; exact ⟨o, ho, fun v q => by rw [hd] at q; cases q⟩
 keep := fun i h h' st k => let ⟨⟨old, he⟩, hi, hne⟩ := st; ⟨⟨old, k e (by simp) _ he⟩, hi.at fun o q => k it (by simp) o q, hne⟩
 item := by
  intro X hP hw hK hc i pins s σ H E I hf st hg
  subst hP hw hK
  obtain ⟨⟨old, he⟩, hit, hne⟩ := st
  obtain ⟨xs, x, hq, hx⟩ := hg
  obtain ⟨its, rv, p, hz⟩ := I.tuple hq
  obtain ⟨u, hu, ru⟩ := rv.get hx
  have hel : e < s.heap.objs.size := Heap.lt_size he
  have hil : it < s.heap.objs.size := by obtain ⟨_, q, _⟩ := hit; exact Heap.lt_size q
  have hi : i < its.toArray.size := by
   rw [List.size_toArray]
   exact (List.getElem?_eq_some_iff.mp hu).1
  refine wpAny_pyNext_enum_itemC (Draws.tuple (A := X.A.in1) (show X.A.in1.handled = none from I.ok.hd hc) it a hai its.toArray) he ⟨hit, p⟩ hi hne (by simp [hne, Ne.symm hae]) fun u2 h' tk hP ho ⟨hit', _⟩ hT hsz hk => ?_
  have hu2 : u2 = u := by
   have : its[i]? = some u2 := by simpa using hP
   rw [hu] at this; exact (Option.some.inj this).symm
  subst hu2
  refine ⟨_, rfl, wpAny_letOwnedTupleGo_enum (s := { s with heap := h', toks := tk + 1 }) ho fun h'' he' sb => ?_⟩
  have hT2 : h''.get? s.heap.objs.size = some { cls := .type "tuple", data := .seq #[.int i tk, u2] } := (sb.2 _ (Nat.ne_of_gt hel)).trans hT
  have new : ObjOk X.prog X.w (L2.upd H s.heap.objs.size (.tup [.int (i : Nat), x])) h'' s.heap.objs.size (.tup [.int (i : Nat), x]) :=
   ⟨by show 2 ≤ sizeLine; decide, [.int i tk, u2], .cons ⟨_, rfl⟩ (.cons ru .nil), ⟨_, hT2, rfl, _, rfl⟩⟩
  have I1 : Inv X pins σ (L2.upd H s.heap.objs.size (.tup [.int (i : Nat), x])) { s with heap := h'', toks := tk + 1 } :=
   I.turnedNew (ch := [e, it]) (fun b ob hb q => (sb.2 b (fun z => hb (by simp [z]))).trans (hk b ob (fun z => hb (by simp [z])) (fun z => hb (by simp [z])) q)) hf (Nat.le_refl _) new
  refine ⟨.ref s.heap.objs.size, _, I1, rfl, ⟨_, x, rfl, I.hok.fresh (Nat.le_refl _), rfl, fun ys hy => by rw [I.tuple_inj hy hq]; exact hx⟩, ⟨⟨u2, ?_⟩, hit'.at fun o q => (sb.2 it (Ne.symm hne)).trans q, hne⟩, fun b hb => ?_⟩
  ·have e1 : ((i + 1 : Nat) : Int) = (i : Int) + 1 := by omega
   rw [e1]; exact he'
  ·have hb' : b < s.heap.objs.size := by
    have e' : b = e ∨ b = it := by simpa using hb
    rcases e' with z | z
    ·rw [z]; exact hel
    ·rw [z]; exact hil
   rw [L2.upd_ne (Nat.ne_of_lt hb')]
   exact (hf b hb).1
 done := by
  intro X hP hw hK hc i pins s σ H E I hf st hg
  subst hP hw hK
  obtain ⟨⟨old, he⟩, hit, hne⟩ := st
  obtain ⟨xs, hq, hx⟩ := hg
  obtain ⟨its, rv, p, hz⟩ := I.tuple hq
  obtain ⟨f0, f1, f2, f3, f4, f5⟩ := hf it (by simp)
  have hl := rv.length
  exact enumT_end (I.ok.hd hc) he hit p (by simp; omega) fun h' eb => ⟨rfl, I.turned (t' := s.toks) (fun b o hb q => eb b o hb q) f0 f1 f3 f4 f5⟩
 self := fun A i s Q E st h => let ⟨⟨_, he⟩, _⟩ := st; wpAny_pyIter_enum he h
def iEnumA (K : PySem.W.Frag) (ta : TA) : TI := fun σ H R => ta σ H fun vs H1 => ∃ a xs, vs = [.ref a] ∧ ((SqL K H1 a xs ∧ R (Ite K a) H1) ∨ (SqT K H1 a xs ∧ R (IteT K a) H1))
theorem pi_enumA {X : Cx} {e : Expr} {ta : TA} {p pos tpos : Pos} {elts : List Expr} {kk : Nat} (hg : Gl X "enumerate") (hm : X.mg "enumerate" = none) (ha : PA X [e] ta) (hs : starEach [e] X.env = [(false, eval e X.env)]) :
  PI X (.Tuple elts kk tpos) (.Call (.Name "enumerate" p) [e] [] pos) (iEnumA X.K ta) := by
 refine ⟨fun pins s σ H R I h => ?_⟩
 refine Call_ (ld_blt I hg hm boot_enumerate (PyProof.Rows.callWith_type1 (thn (ha.run pos pins s σ H _ I h) fun us s1 ⟨vs, H1, I1, r1, q1⟩ => ?_) hs rfl))
 obtain ⟨a, xs, ex, q1⟩ := q1
 subst ex
 cases r1 with
 | cons r rr =>
  cases rr
  cases r
  have apart : ∀ b, b ∈ [s1.heap.objs.size + 1, s1.heap.objs.size] → s1.heap.objs.size ≤ b := fun b hb => by
   have e' : b = s1.heap.objs.size + 1 ∨ b = s1.heap.objs.size := by simpa using hb
   rcases e' with z | z
   ·rw [z]; exact Nat.le_add_right _ _
   ·rw [z]; exact Nat.le_refl _
  rcases q1 with ⟨hq, q⟩ | ⟨hq, q⟩
  ·obtain ⟨its, rv, p', hz⟩ := I1.list hq
   refine call_enumerate_list p'.isList fun h' he hit hsz hk => wpAny_pyIter_enum he ?_
   have I2 : Inv X pins σ H1 { s1 with heap := h' } := I1.kept (t' := s1.toks) hk
   exact ⟨s1.heap.objs.size + 1, [s1.heap.objs.size + 1, s1.heap.objs.size], _, _, H1, rfl, I2, turn_enum a (s1.heap.objs.size + 1) s1.heap.objs.size, ⟨⟨.none, he⟩, hit, Nat.succ_ne_self _⟩, fun b hb => I1.fpOk (apart b hb) (I1.hok.fresh (apart b hb)), q⟩
  ·obtain ⟨its, rv, p', hz⟩ := I1.tuple hq
   have hal : a < s1.heap.objs.size := by obtain ⟨_, q, _⟩ := p'; exact Heap.lt_size q
   refine call_enumerate_tup p' fun h' he hit hsz hk => wpAny_pyIter_enum he ?_
   have I2 : Inv X pins σ H1 { s1 with heap := h' } := I1.kept (t' := s1.toks) hk
   exact ⟨s1.heap.objs.size + 1, [s1.heap.objs.size + 1, s1.heap.objs.size], _, _, H1, rfl, I2, turn_enumT a (s1.heap.objs.size + 1) s1.heap.objs.size (Nat.ne_of_lt hal) (Nat.ne_of_lt (Nat.lt_succ_of_lt hal)), ⟨⟨.none, he⟩, hit, Nat.succ_ne_self _⟩, fun b hb => I1.fpOk (apart b hb) (I1.hok.fresh (apart b hb)), q⟩
end Mn
end
section
set_option maxHeartbeats 200000
namespace Mn
open PySem L2 PySem.Spec
variable [WW] [FX]
def RepB (K : PySem.W.Frag) (Z : Hp) (w : Bool) (v : V) (p : P) : Prop := Rep K Z v p ∨ (w = true ∧ ∃ a vs ps, v = .ref a ∧ p = .tuple ps ∧ SqT K Z a vs ∧ RepL K Z vs ps)
theorem Rep.b {K : PySem.W.Frag} {Z : Hp} {w : Bool} {v : V} {p : P} (h : Rep K Z v p) : RepB K Z w v p := .inl h
structure Wk (w : Bool) (K : PySem.W.Frag) (J : L2.It) (ps : List P) (G : Hp → Hp → Prop) : Prop where
 goes : ∀ i Z H, i < ps.length → G Z H → J.go i H
 stops : ∀ Z H, G Z H → J.stop ps.length H
 yields : ∀ i Z H x H', i < ps.length → G Z H → Sub Z H → J.yld i H x H' → ∃ Z' p, Alloc Z H Z' H' [] ∧ ps[i]? = some p ∧ RepB K Z' w x p
section
variable {K : PySem.W.Frag} {a b d : Addr} {o : Obj}
theorem wk_list (ps : List P) : Wk false K (Itl K a) ps (fun Z H => ∃ vs, SqL K H a vs ∧ RepL K Z vs ps) where
 goes := fun i Z H hi ⟨vs, q, r⟩ => ⟨vs, vs[i]'(by rw [r.length]; exact hi), q, List.getElem?_eq_getElem _⟩
 stops := fun Z H ⟨vs, q, r⟩ => ⟨vs, q, by rw [r.length]; exact Nat.le_refl _⟩
 yields := fun i Z H x H' hi ⟨vs, q, r⟩ s y => by
  obtain ⟨rfl, y⟩ := y
  obtain ⟨p, h1, h2⟩ := r.getV (y vs q)
  exact ⟨Z, p, .refl s, h1, h2.b⟩
theorem wk_tup (ps : List P) : Wk false K (Itt K a) ps (fun Z H => ∃ vs, SqT K H a vs ∧ RepL K Z vs ps) where
 goes := fun i Z H hi ⟨vs, q, r⟩ => ⟨vs, vs[i]'(by rw [r.length]; exact hi), q, List.getElem?_eq_getElem _⟩
 stops := fun Z H ⟨vs, q, r⟩ => ⟨vs, q, by rw [r.length]; exact Nat.le_refl _⟩
 yields := fun i Z H x H' hi ⟨vs, q, r⟩ s y => by
  obtain ⟨rfl, y⟩ := y
  obtain ⟨p, h1, h2⟩ := r.getV (y vs q)
  exact ⟨Z, p, .refl s, h1, h2.b⟩
theorem wk_str {z : Str} (hz : PyData.strOk z = true) : Wk false K (Its z) (z.cps.toList.map sgn) (fun _ _ => True) where
 goes := fun i Z H hi _ => by
  show i < z.cps.size
  simpa using hi
 stops := fun Z H _ => by
  show z.cps.size ≤ _
  simp
 yields := fun i Z H x H' hi _ s y => by
  obtain ⟨rfl, c, hc, rfl⟩ := y
  have h1 : z.cps.toList[i]? = some c := by rw [Array.getElem?_toList]; exact hc
  refine ⟨Z, sgn c, .refl s, by rw [List.getElem?_map, h1]; rfl, .inl (.str _ ?_ ?_)⟩
  ·rw [strOk_iff] at hz ⊢
   intro w hw
   have : w = c := by simpa using hw
   subst this
   exact hz _ (List.mem_of_getElem? h1)
  ·show 1 ≤ sizeLine
   exact lim_le (by decide)
theorem rep_key {Z : Hp} : ∀ {k : Key}, KeyOk k → Rep K Z (kV k) (ofKey k)
 | .inl i, _ => .int i
 | .inr x, h => .str x h.1 h.2
theorem wk_keys {kvs : List (Key × V)} (hk : ∀ kv ∈ kvs, KeyOk kv.1) : Wk false K (Itk d o kvs) (kvs.map fun kv => ofKey kv.1) (fun _ H => H d = some (.frz o (.dK kvs))) where
 goes := fun i Z H hi q => ⟨q, by simpa using hi⟩
 stops := fun Z H q => ⟨q, by simp⟩
 yields := fun i Z H x H' hi q s y => by
  obtain ⟨rfl, k, v, h1, rfl⟩ := y
  exact ⟨Z, ofKey k, .refl s, by rw [List.getElem?_map, h1]; rfl, (rep_key (hk _ (List.mem_of_getElem? h1))).b⟩
theorem wk_keysU {vs : List (NK × Addr × V)} (ps : List P) : Wk false K (Itku d o vs) ps (fun Z H => H d = some (.frz o (TupO d vs)) ∧ RepL K Z (vs.map fun x => V.ref x.2.1) ps) where
 goes := fun i Z H hi q => ⟨q.1, by have := q.2.length; simp at this; omega⟩
 stops := fun Z H q => ⟨q.1, by have := q.2.length; simp at this; omega⟩
 yields := fun i Z H x H' hi q s y => by
  obtain ⟨rfl, k, b, v, h1, rfl⟩ := y
  obtain ⟨p, h2, h3⟩ := q.2.getV (i := i) (v := .ref b) (by rw [List.getElem?_map, h1]; rfl)
  exact ⟨Z, p, .refl s, h2, h3.b⟩
theorem wk_vals {kvs : List (Key × V)} (ps : List P) : Wk false K (Itd d o kvs) ps (fun Z H => H d = some (.frz o (.dK kvs)) ∧ RepL K Z (kvs.map (·.2)) ps) where
 goes := fun i Z H hi q => ⟨q.1, by have := q.2.length; simp at this; omega⟩
 stops := fun Z H q => ⟨q.1, by have := q.2.length; simp at this; omega⟩
 yields := fun i Z H x H' hi q s y => by
  obtain ⟨rfl, k, h1⟩ := y
  obtain ⟨p, h2, h3⟩ := q.2.getV (i := i) (v := x) (by rw [List.getElem?_map, h1]; rfl)
  exact ⟨Z, p, .refl s, h2, h3.b⟩
theorem pair_yield {Z H : Hp} {T : Addr} {x y : V} {p q : P} (s : Sub Z H) (hT : H T = none) (h1 : Rep K Z x p) (h2 : Rep K Z y q) :
  Alloc Z H (L2.upd Z T (.tup [x, y])) (L2.upd H T (.tup [x, y])) [] ∧ RepB K (L2.upd Z T (.tup [x, y])) true (.ref T) (.tuple [p, q]) := by
 have zz := sub_upd (o := .tup [x, y]) (z_none s hT)
 exact ⟨.imm s hT, .inr ⟨rfl, T, _, _, rfl, rfl, .inl (.inl upd_same), .cons (h1.sub zz) (.cons (h2.sub zz) .nil)⟩⟩
omit [WW] [FX] in
theorem enumP_len (ps : List P) : (enumP ps).length = ps.length := by unfold enumP; simp
omit [WW] [FX] in
theorem enumP_get {ps : List P} {i : Nat} {p : P} (h : ps[i]? = some p) : (enumP ps)[i]? = some (.tuple [.int i, p]) := by
 have hi := (List.getElem?_eq_some_iff.mp h).1
 unfold enumP
 rw [List.getElem?_map, List.zip, List.getElem?_zipWith, h, List.getElem?_range hi]
 rfl
theorem wk_enum (ps : List P) : Wk true K (Ite K a) (enumP ps) (fun Z H => ∃ vs, SqL K H a vs ∧ RepL K Z vs ps) where
 goes := fun i Z H hi ⟨vs, q, r⟩ => ⟨vs, vs[i]'(by rw [r.length]; rw [enumP_len] at hi; exact hi), q, List.getElem?_eq_getElem _⟩
 stops := fun Z H ⟨vs, q, r⟩ => ⟨vs, q, by rw [r.length, enumP_len]; exact Nat.le_refl _⟩
 yields := fun i Z H x H' hi ⟨vs, q, r⟩ s y => by
  obtain ⟨T, w, rfl, hT, rfl, h4⟩ := y
  obtain ⟨p, h1, h2⟩ := r.getV (h4 vs q)
  obtain ⟨al, rp⟩ := pair_yield s hT (.int (i : Int)) h2
  exact ⟨_, _, al, enumP_get h1, rp⟩
theorem wk_enumT (ps : List P) : Wk true K (IteT K a) (enumP ps) (fun Z H => ∃ vs, SqT K H a vs ∧ RepL K Z vs ps) where
 goes := fun i Z H hi ⟨vs, q, r⟩ => ⟨vs, vs[i]'(by rw [r.length]; rw [enumP_len] at hi; exact hi), q, List.getElem?_eq_getElem _⟩
 stops := fun Z H ⟨vs, q, r⟩ => ⟨vs, q, by rw [r.length, enumP_len]; exact Nat.le_refl _⟩
 yields := fun i Z H x H' hi ⟨vs, q, r⟩ s y => by
  obtain ⟨T, w, rfl, hT, rfl, h4⟩ := y
  obtain ⟨p, h1, h2⟩ := r.getV (h4 vs q)
  obtain ⟨al, rp⟩ := pair_yield s hT (.int (i : Int)) h2
  exact ⟨_, _, al, enumP_get h1, rp⟩
omit [WW] [FX] in
theorem zipP_len (ps qs : List P) : (zipP ps qs).length = min ps.length qs.length := by unfold zipP; simp
omit [WW] [FX] in
theorem zipP_get {ps qs : List P} {i : Nat} {p q : P} (h : ps[i]? = some p) (h2 : qs[i]? = some q) : (zipP ps qs)[i]? = some (.tuple [p, q]) := by
 unfold zipP
 rw [List.getElem?_map, List.zip, List.getElem?_zipWith, h, h2]
 rfl
theorem wk_zip (ps qs : List P) : Wk true K (Itz K a b) (zipP ps qs) (fun Z H => ∃ vs ws, SqL K H a vs ∧ SqL K H b ws ∧ RepL K Z vs ps ∧ RepL K Z ws qs) where
 goes := fun i Z H hi ⟨vs, ws, q1, q2, r1, r2⟩ => by
  rw [zipP_len] at hi
  have h1 : i < vs.length := by rw [r1.length]; omega
  have h2 : i < ws.length := by rw [r2.length]; omega
  exact ⟨vs, ws, vs[i], ws[i], q1, q2, List.getElem?_eq_getElem _, List.getElem?_eq_getElem _⟩
 stops := fun Z H ⟨vs, ws, q1, q2, r1, r2⟩ => ⟨vs, ws, q1, q2, by rw [zipP_len, r1.length, r2.length]; omega⟩
 yields := fun i Z H x H' hi ⟨vs, ws, q1, q2, r1, r2⟩ s y => by
  obtain ⟨T, w, w2, rfl, hT, rfl, h4, h5⟩ := y
  obtain ⟨p, h1, h2⟩ := r1.getV (h4 vs q1)
  obtain ⟨p2, h3, h6⟩ := r2.getV (h5 ws q2)
  obtain ⟨al, rp⟩ := pair_yield s hT h2 h6
  exact ⟨_, _, al, zipP_get h1 h3, rp⟩
theorem wk_zipT (ps qs : List P) : Wk true K (RZ.ItzT K a b) (zipP ps qs) (fun Z H => ∃ vs ws, SqT K H a vs ∧ SqT K H b ws ∧ RepL K Z vs ps ∧ RepL K Z ws qs) where
 goes := fun i Z H hi ⟨vs, ws, q1, q2, r1, r2⟩ => by
  rw [zipP_len] at hi
  have h1 : i < vs.length := by rw [r1.length]; omega
  have h2 : i < ws.length := by rw [r2.length]; omega
  exact ⟨vs, ws, vs[i], ws[i], q1, q2, List.getElem?_eq_getElem _, List.getElem?_eq_getElem _⟩
 stops := fun Z H ⟨vs, ws, q1, q2, r1, r2⟩ => ⟨vs, ws, q1, q2, by rw [zipP_len, r1.length, r2.length]; omega⟩
 yields := fun i Z H x H' hi ⟨vs, ws, q1, q2, r1, r2⟩ s y => by
  obtain ⟨T, w, w2, rfl, hT, rfl, h4, h5⟩ := y
  obtain ⟨p, h1, h2⟩ := r1.getV (h4 vs q1)
  obtain ⟨p2, h3, h6⟩ := r2.getV (h5 ws q2)
  obtain ⟨al, rp⟩ := pair_yield s hT h2 h6
  exact ⟨_, _, al, zipP_get h1 h3, rp⟩
theorem wk_rng (lo : Int) (n : Nat) : Wk false K (Itr lo n) ((List.range n).map fun (i : Nat) => .int (lo + (i : Int))) (fun _ _ => True) where
 goes := fun i Z H hi _ => by
  show i < n
  simpa using hi
 stops := fun Z H _ => by
  show n ≤ _
  simp
 yields := fun i Z H x H' hi _ s y => by
  obtain ⟨rfl, rfl⟩ := y
  have hi : i < n := by simpa using hi
  exact ⟨Z, .int (lo + i), .refl s, by rw [List.getElem?_map, List.getElem?_range hi]; rfl, .inl (.int _)⟩
theorem wk_rngC (lo c : Int) (n : Nat) : Wk false K (Itc lo c n) ((List.range n).map fun (i : Nat) => .int (lo + (i : Nat) * c)) (fun _ _ => True) where
 goes := fun i Z H hi _ => by
  show i < n
  simpa using hi
 stops := fun Z H _ => by
  show n ≤ _
  simp
 yields := fun i Z H x H' hi _ s y => by
  obtain ⟨rfl, rfl⟩ := y
  have hi : i < n := by simpa using hi
  exact ⟨Z, .int (lo + (i : Nat) * c), .refl s, by rw [List.getElem?_map, List.getElem?_range hi]; rfl, .inl (.int _)⟩
end
structure Gs (K : PySem.W.Frag) (X : Cxt) (σ : St) (Z H : Hp) (ρ : Env) (F : Nat → List Addr) (σ' : St) (Z' H' : Hp) (ρ' : Env) (F' : Nat → List Addr) : Prop where
 rel : Rel K Z' H' σ' ρ' F'
 st : Step Z H Z' H' (U F) (U F')
 lk : Lk X ρ ρ'
 sg : ∀ (i : Nat) (m : M), slot ρ i = some (.k m) → σ'[i]? = σ[i]?
 pg : ∀ i, pmAt X i = true → σ'[i]? = σ[i]?
section
variable {K : PySem.W.Frag} {X : Cxt} {σ σ1 σ2 : St} {Z H Z1 H1 Z2 H2 : Hp} {ρ ρ1 ρ2 : Env} {F F1 F2 : Nat → List Addr}
theorem Gs.refl (R : Rel K Z H σ ρ F) : Gs K X σ Z H ρ F σ Z H ρ F := ⟨R, Step.refl _, Lk.refl _, fun _ _ _ => rfl, fun _ _ => rfl⟩
theorem Gs.trans (x : Gs K X σ Z H ρ F σ1 Z1 H1 ρ1 F1) (y : Gs K X σ1 Z1 H1 ρ1 F1 σ2 Z2 H2 ρ2 F2) : Gs K X σ Z H ρ F σ2 Z2 H2 ρ2 F2 :=
 ⟨y.rel, x.st.trans y.st, x.lk.trans y.lk, fun i m h => (y.sg i m (x.lk.lk i m h)).trans (x.sg i m h), fun i h => (y.pg i h).trans (x.pg i h)⟩
theorem Go.gs (x : Go K X σ Z H ρ F Z1 H1 ρ1 F1) : Gs K X σ Z H ρ F σ Z1 H1 ρ1 F1 := ⟨x.rel, x.st, x.lk, fun _ _ _ => rfl, fun _ _ => rfl⟩
theorem Gs.res {m : M} {v : V} {G : List Addr} (x : Gs K X σ Z H ρ F σ1 Z1 H1 ρ1 F1) (r : Res K Z1 H1 (U F1) Z2 H2 F2 m v G) : Res K Z H (U F) Z2 H2 F2 m v G :=
 ⟨r.own, r.ap, fun a ha => by
  rcases r.nw a ha with h | h
  ·exact x.st.an a h
  ·exact new_back x.st h⟩
def Hold (K : PySem.W.Frag) (X : Cxt) (G : Hp → Hp → Prop) (σ : St) (Z H : Hp) (ρ : Env) (F : Nat → List Addr) : Prop := ∀ σ' Z' H' ρ' F', Gs K X σ Z H ρ F σ' Z' H' ρ' F' → G Z' H'
theorem Hold.next {G : Hp → Hp → Prop} (h : Hold K X G σ Z H ρ F) (x : Gs K X σ Z H ρ F σ1 Z1 H1 ρ1 F1) : Hold K X G σ1 Z1 H1 ρ1 F1 := fun _ _ _ _ _ y => h _ _ _ _ _ (x.trans y)
theorem Hold.zz {G : Hp → Hp → Prop} (h : ∀ Z' H', Sub Z Z' → Sub Z' H' → G Z' H') : Hold K X G σ Z H ρ F := fun _ _ _ _ _ x => h _ _ x.st.zz x.rel.sub
theorem sto_ok {i : Nat} {m : M} {v : V} {G : List Addr} (pk : PmOk X) (R : Rel K Z H σ ρ F) (o : Own K Z H m v G) (ap : ∀ a ∈ G, ¬ U F a) (e : sto X i m ρ = some ρ1) (hl : σ.length = ρ.length) :
  Rel K Z H (σ.set i (some v)) ρ1 (fset F i G) ∧ Lk X ρ ρ1 ∧ (∀ (j : Nat) (m : M), slot ρ j = some (.k m) → (σ.set i (some v))[j]? = σ[j]?) ∧ ρ1 = ρ.set i (some m) ∧ i < ρ.length ∧ (∀ j, pmAt X j = true → (σ.set i (some v))[j]? = σ[j]?) := by
 unfold sto at e
 split at e
 ·cases e
 ·rename_i c
  cases e
  have c1 : ¬ isLk (slot ρ i) = true := fun h => c (.inl h)
  have c2 : ¬ pmAt X i = true := fun h => c (.inr (.inl h))
  have c3 : i < ρ.length := Nat.lt_of_not_le fun h => c (.inr (.inr h))
  have R1 := (R.del i).slotSet (slot_self none c3) (fun q => c2 (pk i q)) v
  have e2 : ρ.set i (some m) = (ρ.set i none).set i (some m) := by rw [List.set_set]
  have ef : fset F i G = fset (fset F i []) i G := by
   funext j
   by_cases hj : j = i
   ·subst hj; rw [fset_self, fset_self]
   ·rw [fset_ne F G hj, fset_ne _ G hj, fset_ne F [] hj]
  refine ⟨?_, ⟨fun j n hj => ?_, fun j hp hn => ?_, List.length_set⟩, fun j n hj => ?_, rfl, c3, fun j hp => List.getElem?_set_ne fun q => by subst q; exact c2 hp⟩
  ·rw [e2, ef]
   exact R1.put (slot_self none c3) (by rw [List.length_set]; exact c3) (by rw [List.getElem?_set_self (by rw [hl]; exact c3)]) o fun a ha hu => ap a ha (U_del hu)
  ·have : i ≠ j := fun q => by subst q; rw [hj] at c1; exact c1 rfl
   rw [slot_other _ this]; exact hj
  ·have : i ≠ j := fun q => by subst q; exact c2 hp
   rw [slot_other _ this]; exact hn
  ·have : i ≠ j := fun q => by subst q; rw [hj] at c1; exact c1 rfl
   rw [List.getElem?_set_ne this]
theorem U_fset_sub {i : Nat} {G : List Addr} {a : Addr} (h : U (fset F i G) a) : a ∈ G ∨ U F a := by
 rcases U_fset h with h | ⟨j, _, h⟩
 ·exact .inl h
 ·exact .inr ⟨j, h⟩
theorem sto_gs {i : Nat} {m : M} {v : V} {G : List Addr} (pk : PmOk X) (g : Gs K X σ Z H ρ F σ1 Z1 H1 ρ1 F1) (r : Res K Z H (U F) Z1 H1 F1 m v G) (e : sto X i m ρ1 = some ρ2) : Gs K X σ Z H ρ F (σ1.set i (some v)) Z1 H1 ρ2 (fset F1 i G) := by
 obtain ⟨h1, h2, h3, h4, h5, h6⟩ := sto_ok (X := X) pk g.rel r.own r.ap e g.rel.len
 refine ⟨h1, ⟨g.st.fr, g.st.zz, g.st.zn, fun a ha => ?_, g.st.fz⟩, g.lk.trans h2, fun j n hj => (h3 j n (g.lk.lk j n hj)).trans (g.sg j n hj), fun j hp => (h6 j hp).trans (g.pg j hp)⟩
 rcases U_fset_sub ha with h | h
 ·exact r.nw a h
 ·exact g.st.an a h
end
mutual
def tgVs : Tg → List Nat
 | .nm i => [i]
 | .tp ts => tgVss ts
def tgVss : List Tg → List Nat
 | [] => []
 | t :: ts => tgVs t ++ tgVss ts
end
def TGt (K : PySem.W.Frag) (X : Cxt) (w : Bool) (tg : Tg) : TG := fun v σ H Q => ∃ Z ρ F p ρ', Rel K Z H σ ρ F ∧ RepB K Z w v p ∧ bindT X tg p ρ = some ρ' ∧ ∀ σ' F', Gs K X σ Z H ρ F σ' Z H ρ' F' → (∀ j, j ∉ tgVs tg → σ'[j]? = σ[j]?) → Q σ' H
def TGts (K : PySem.W.Frag) (X : Cxt) (ts : List Tg) : TGs := fun vs σ H Q => ∃ Z ρ F ps ρ', Rel K Z H σ ρ F ∧ RepL K Z vs ps ∧ bindTs X ts ps ρ = some ρ' ∧ ∀ σ' F', Gs K X σ Z H ρ F σ' Z H ρ' F' → (∀ j, j ∉ tgVss ts → σ'[j]? = σ[j]?) → Q σ' H
def locB (N : List Str) (sc : Scope) (i : Nat) (x : Str) : Bool := decide (N[i]? = some x) && decide (sc.names.lookup x = some .local)
theorem PG.mono {X : Cx} {e : Expr} {t t' : TG} (h : PG X e t) (i : ∀ v σ H Q, t' v σ H Q → t v σ H Q) : PG X e t' := ⟨fun pins s σ H v u Q J r q => h.run pins s σ H v u Q J r (i v σ H Q q)⟩
theorem PGs.mono {X : Cx} {e : List Expr} {t t' : TGs} (h : PGs X e t) (i : ∀ v σ H Q, t' v σ H Q → t v σ H Q) : PGs X e t' := ⟨fun pins s σ H v u Q J r q => h.run pins s σ H v u Q J r (i v σ H Q q)⟩
section
variable {T : Tab} {k : Nat} {cx : Cxt} {X : Cx} {x y z : Expr} {pos p2 p3 apos : Pos}
structure LocG (X : Cx) (i : Nat) (n : Str) : Prop where
 ix : X.N[i]? = some n
 lc : Loc X.env.scope n
 fn : X.fn n = true ∨ X.env.scope.names.lookup n = some .local
theorem LocG.of {i : Nat} {n : Str} (h : locB X.N X.env.scope i n = true) : LocG X i n := by
 unfold locB at h
 rw [Bool.and_eq_true, decide_eq_true_eq, decide_eq_true_eq] at h
 exact ⟨h.1, .inl h.2, .inr h.2⟩
def locC (N : List Str) (sc : Scope) (i : Nat) (x : Str) : Bool := decide (N[i]? = some x) && (decide (sc.names.lookup x = some .local) || decide (sc.names.lookup x = some .cell))
theorem LocG.ofC {i : Nat} {n : Str} (hf : ∀ x, X.env.scope.names.lookup x = some .cell → X.fn x = true) (h : locC X.N X.env.scope i n = true) : LocG X i n := by
 unfold locC at h
 rw [Bool.and_eq_true, decide_eq_true_eq, Bool.or_eq_true, decide_eq_true_eq, decide_eq_true_eq] at h
 rcases h.2 with k | k
 ·exact ⟨h.1, .inl k, .inr k⟩
 ·exact ⟨h.1, .inr k, .inl (hf n k)⟩
theorem pg_nm {i : Nat} {n : Str} (pk : PmOk cx) (hN : X.N.Nodup) (h : LocG X i n) : PG X (.Name n pos) (TGt X.K cx false (.nm i)) := by
 refine PG.mono (pg_name hN h.ix h.lc h.fn) fun v σ H Q ⟨Z, ρ, F, p, ρ', R, rp, e, q⟩ => ?_
 have rp : Rep X.K Z v p := rp.resolve_right fun z => nomatch z.1
 unfold bindT at e
 exact q _ _ (sto_gs pk (.refl R) ⟨.v rp, no0, no0⟩ e) fun j hj => List.getElem?_set_ne fun z => hj (by rw [z]; simp [tgVs])
theorem pgs_nilM : PGs X [] (TGts X.K cx []) := PGs.mono pgs_nil fun vs σ H Q ⟨Z, ρ, F, ps, ρ', R, rp, e, q⟩ => by
 cases rp with
 | nil =>
  unfold bindTs at e
  cases e
  exact ⟨rfl, q σ F (.refl R) fun _ _ => rfl⟩
 | cons _ _ => unfold bindTs at e; cases e
theorem assignEach_cons {e : Expr} {es : List Expr} {env : PySem.Env} (h : notStar e = true) : assignEach (e :: es) env = (false, assign e env) :: assignEach es env := by
 cases e <;> first | rfl | cases h
theorem pgs_consM {t : Tg} {ts : List Tg} {xs : List Expr} (h : PG X x (TGt X.K cx false t)) (hs : PGs X xs (TGts X.K cx ts)) (hn : notStar x = true) : PGs X (x :: xs) (TGts X.K cx (t :: ts)) :=
 PGs.mono (pgs_cons h hs (by rw [assignEach_cons hn]; rfl)) fun vs σ H Q ⟨Z, ρ, F, ps, ρ', R, rp, e, q⟩ => by
  cases rp with
  | nil => unfold bindTs at e; cases e
  | cons r1 r2 =>
   unfold bindTs at e
   split at e
   ·rename_i ρ1 e1
    exact ⟨_, _, rfl, Z, ρ, F, _, ρ1, R, r1.b, e1, fun σ1 F1 g1 k1 => ⟨Z, ρ1, F1, _, ρ', g1.rel, r2, e, fun σ2 F2 g2 k2 => q σ2 F2 (g1.trans g2) fun j hj => by
    rw [tgVss, List.mem_append, not_or] at hj
    exact (k2 j hj.2).trans (k1 j hj.1)⟩⟩
   ·cases e
theorem assign_stars {env : PySem.Env} : ∀ {xs : List Expr}, xs.all notStar = true → (assignEach xs env).length = xs.length ∧ (assignEach xs env).findIdx? (·.1) = none
 | [], _ => ⟨by simp [assignEach], by simp [assignEach]⟩
 | x :: xs, h => by
  rw [List.all_cons, Bool.and_eq_true] at h
  obtain ⟨h1, h2⟩ := assign_stars (env := env) h.2
  rw [assignEach_cons h.1]
  refine ⟨by rw [List.length_cons, List.length_cons, h1], ?_⟩
  rw [List.findIdx?_cons, h2]
  rfl
theorem bindTs_len : ∀ {ts : List Tg} {ps : List P} {ρ ρ' : Env}, bindTs cx ts ps ρ = some ρ' → ps.length = ts.length
 | [], [], _, _, _ => rfl
 | [], _ :: _, _, _, e => by unfold bindTs at e; cases e
 | _ :: _, [], _, _, e => by unfold bindTs at e; cases e
 | t :: ts, p :: ps, ρ, ρ', e => by
  unfold bindTs at e
  split at e
  ·rw [List.length_cons, List.length_cons, bindTs_len e]
  ·cases e
theorem repB_tup {K : PySem.W.Frag} {Z : Hp} {w : Bool} {v : V} {ps : List P} (h : RepB K Z w v (.tuple ps)) : ∃ a vs, v = .ref a ∧ SqT K Z a vs ∧ RepL K Z vs ps := by
 rcases h with h | ⟨_, a, vs, ps2, e1, e2, h1, h2⟩
 ·cases h with
  | tup hq rl => exact ⟨_, _, rfl, hq.sq, rl⟩
 ·cases e2
  exact ⟨a, vs, e1, h1, h2⟩
theorem pg_tp {w : Bool} {ts : List Tg} {xs : List Expr} {j : Nat} (hc : X.calm = true) (h : PGs X xs (TGts X.K cx ts)) (hs : xs.all notStar = true) (hl : ts.length = xs.length) : PG X (.Tuple xs j pos) (TGt X.K cx w (.tp ts)) := ⟨fun pins s σ H v u Q J r ⟨Z, ρ, F, p, ρ', R, rp, e, q⟩ => by
 obtain ⟨h1, h2⟩ := assign_stars (env := X.env) hs
 cases p with
 | tuple ps =>
  have e : bindTs cx ts ps ρ = some ρ' := by unfold bindT at e; exact e
  obtain ⟨a, vs, rfl, hq, rl⟩ := repB_tup rp
  refine (pg_tup hc h h1 h2).run pins s σ H _ u Q J r ⟨_, _, rfl, sqT_sub R.sub hq, ?_, Z, ρ, F, ps, ρ', R, rl, e, fun σ2 F2 g2 k2 => q σ2 F2 g2 (by rw [tgVs]; exact k2)⟩
  rw [rl.length, bindTs_len e, hl]
 | list ps =>
  have e : bindTs cx ts ps ρ = some ρ' := by unfold bindT at e; exact e
  have rp : Rep X.K Z v (.list ps) := rp.resolve_right fun ⟨_, _, _, _, _, z, _⟩ => nomatch z
  cases rp with
  | lst hq rl =>
   refine (pg_unl hc h h1 h2).run pins s σ H _ u Q J r ⟨_, _, rfl, .of (R.sub _ _ hq), ?_, Z, ρ, F, ps, ρ', R, rl, e, fun σ2 F2 g2 k2 => q σ2 F2 g2 (by rw [tgVs]; exact k2)⟩
   rw [rl.length, bindTs_len e, hl]
 | _ => unfold bindT at e; cases e⟩
end
end Mn
end
section
set_option maxHeartbeats 200000
namespace Mn
open PySem L2 PySem.Spec
variable [WW] [FX]
def TIt (K : PySem.W.Frag) (X : Cxt) (w : Bool) (g : Env → Option (List P × Env)) : TI := fun σ H R => ∃ Z ρ F ps ρ', Rel K Z H σ ρ F ∧ g ρ = some (ps, ρ') ∧
 ∀ Z' H' F' J G, Go K X σ Z H ρ F Z' H' ρ' F' → Wk w K J ps G → Hold K X G σ Z' H' ρ' F' → R J H'
theorem PI.mono {X : Cx} {tg e : Expr} {t t' : TI} (h : PI X tg e t) (i : ∀ σ H R, t' σ H R → t σ H R) : PI X tg e t' := ⟨fun pins s σ H R J q => h.run pins s σ H R J (i σ H R q)⟩
def iAny (K : PySem.W.Frag) (te : TE) : TI := fun σ H R => iList K te σ H R ∨ iTup K te σ H R ∨ iStr te σ H R ∨ iKeys te σ H R ∨ iKeysU te σ H R
section
variable {K : PySem.W.Frag} {X : Cxt} {σ : St} {Z H : Hp} {ρ ρ' : Env} {F : Nat → List Addr}
theorem repK_ok : ∀ {kvs : List (Key × V)} {ps : List (P × P)}, RepK K Z kvs ps → (ps.map (·.1) = kvs.map fun kv => ofKey kv.1) ∧ ∀ kv ∈ kvs, KeyOk kv.1
 | _, _, .nil => ⟨rfl, fun _ h => by cases h⟩
 | _, _, .cons hk _ r => by
  obtain ⟨h1, h2⟩ := repK_ok r
  refine ⟨by rw [List.map_cons, List.map_cons, h1], fun kv hm => ?_⟩
  rcases List.mem_cons.mp hm with h | h
  ·subst h; exact hk
  ·exact h2 kv h
theorem itemsP_dict {ps : List (P × P)} (h : ∀ q r, ps ≠ (PyData.none, q) :: r) : itemsP (.dict ps) = some (ps.map (·.1)) := by
 unfold itemsP
 split
 ·cases ‹PyData.dict ps = _›
 ·cases ‹PyData.dict ps = _›
 ·rename_i q r e
  cases e
  exact (h _ _ rfl).elim
 ·rename_i e
  cases e
  rfl
 ·cases ‹PyData.dict ps = _›
 ·rename_i h1 _
  exact (h1 _ rfl).elim
theorem it_any {te : TE} {p : P} {ps : List P} {R : L2.It → Hp → Prop} (hi : itemsP p = some ps)
  (ht : ∀ Qv : VK, (∀ Z' H' F' v, Go K X σ Z H ρ F Z' H' ρ' F' → Rep K Z' v p → Qv v H') → te σ H Qv)
  (q : ∀ Z' H' F' J G, Go K X σ Z H ρ F Z' H' ρ' F' → Wk false K J ps G → Hold K X G σ Z' H' ρ' F' → R J H') : iAny K te σ H R := by
 cases p with
 | tuple qs =>
  cases hi
  refine .inr (.inl (ht _ fun Z' H' F' v g rp => ?_))
  cases rp with
  | tup hq rl => exact ⟨_, rfl, ⟨_, sqT_sub g.rel.sub hq.sq⟩, q Z' H' F' _ _ g (wk_tup _) (Hold.zz fun Z2 H2 z s => ⟨_, sqT_sub s (sqT_sub z hq.sq), rl.sub z⟩)⟩
 | list qs =>
  cases hi
  refine .inl (ht _ fun Z' H' F' v g rp => ?_)
  cases rp with
  | lst hq rl => exact ⟨_, rfl, ⟨_, .of (g.rel.sub _ _ hq)⟩, q Z' H' F' _ _ g (wk_list _) (Hold.zz fun Z2 H2 z s => ⟨_, .of (s _ _ (z _ _ hq)), rl.sub z⟩)⟩
 | str z =>
  cases hi
  refine .inr (.inr (.inl (ht _ fun Z' H' F' v g rp => ?_)))
  cases rp with
  | str _ h1 h2 => exact ⟨_, rfl, q Z' H' F' _ _ g (wk_str h1) (fun _ _ _ _ _ _ => trivial)⟩
 | dict qs =>
  refine .inr (.inr (.inr (.inl (ht _ fun Z' H' F' v g rp => ?_))))
  cases rp with
  | dk hq rk =>
   rw [itemsP_dict (repK_head rk)] at hi
   cases hi
   obtain ⟨h1, h2⟩ := repK_ok rk
   exact ⟨_, _, rfl, .inl ⟨_, g.rel.sub _ _ hq, q Z' H' F' _ _ g (by rw [h1]; exact wk_keys h2) (Hold.zz fun Z2 H2 z s => s _ _ (z _ _ hq))⟩⟩
  | dt hq rk => cases hi
 | none => cases hi
 | bool _ => cases hi
 | int _ => cases hi
theorem dRel_vals : ∀ {vs : List (Key × V)} {ps : List (Key × P)}, DRel K Z vs ps → RepL K Z (vs.map (·.2)) (ps.map (·.2))
 | _, _, .nil => .nil
 | _, _, .cons h t => .cons h.2.2 (dRel_vals t)
theorem dRel_keys : ∀ {vs : List (Key × V)} {ps : List (Key × P)}, DRel K Z vs ps → (ps.map fun kv => ofKey kv.1) = (vs.map fun kv => ofKey kv.1) ∧ ∀ kv ∈ vs, KeyOk kv.1
 | _, _, .nil => ⟨rfl, fun _ h => by cases h⟩
 | _, _, .cons h t => by
  obtain ⟨h1, h2⟩ := dRel_keys t
  refine ⟨by rw [List.map_cons, List.map_cons, h1, h.1], fun kv hm => ?_⟩
  rcases List.mem_cons.mp hm with q | q
  ·subst q; rw [h.1]; exact h.2.1
  ·exact h2 kv q
end
section
variable {T : Tab} {k : Nat} {cx : Cxt} {X : Cx} {x y z tg : Expr} {pos p2 p3 apos tpos : Pos}
theorem pi_any {te : TE} (h : PE X x te) : PI X tg x (iAny X.K te) := ⟨fun pins s σ H R J q => by
 rcases q with q | q | q | q | q
 ·exact (pi_list h).run pins s σ H R J q
 ·exact (pi_tup h).run pins s σ H R J q
 ·exact (pi_str h).run pins s σ H R J q
 ·exact (pi_keys h).run pins s σ H R J q
 ·exact (pi_keysU h).run pins s σ H R J q⟩
theorem pi_of {e : E} (h : PE X x (TEx X.K cx (ev cx e))) : PI X tg x (TIt X.K cx false (evit cx (.of e))) := PI.mono (pi_any (px_of h)) fun σ H R ⟨Z, ρ, F, ps, ρ', R0, e1, q⟩ => by
 simp only [evit] at e1
 split at e1
 ·rename_i m ρ1 em
  split at e1
  ·rename_i ps2 ei
   cases e1
   unfold itemsM at ei
   split at ei
   ·rename_i p ep
    exact it_any ei (fun Qv hq => ⟨Z, ρ, F, p, _, R0, by unfold toPg; rw [em]; simp only [ep], hq⟩) q
   ·cases ei
  ·cases e1
 ·cases e1
theorem pi_lk {i : Nat} (h : PE X x (tVr i)) : PI X tg x (TIt X.K cx false (evit cx (.lk i))) := PI.mono (pi_any h) fun σ H R ⟨Z, ρ, F, ps, ρ', R0, e1, q⟩ => by
 simp only [evit] at e1
 split at e1
 ·rename_i p em
  split at e1
  ·rename_i ps2 ei
   cases e1
   obtain ⟨v, hv, ow⟩ := R0.own i _ em
   generalize F i = G at ow
   cases ow with
   | v rp => exact it_any ei (fun Qv hq => ⟨v, hv, R0.fx, hq Z H F v (.refl R0) rp⟩) q
  ·cases e1
 ·rename_i m em
  split at e1
  ·rename_i ps2 ei
   cases e1
   obtain ⟨v, hv, ow⟩ := R0.own i _ em
   generalize F i = G at ow
   cases ow with
   | kl h1 hz rl =>
    cases ei
    refine .inl ⟨_, hv, R0.fx, _, rfl, ⟨_, .of h1⟩, q Z H F _ _ (.refl R0) (wk_list _) fun σ2 Z2 H2 ρ2 F2 g => ?_⟩
    obtain ⟨w, hw, ow2⟩ := g.rel.own i _ (g.lk.lk i _ em)
    rw [g.sg i _ em, hv] at hw
    cases hw
    generalize F2 i = G2 at ow2
    cases ow2 with
    | kl h3 _ r3 => exact ⟨_, .of h3, r3⟩
   | kd h1 hz rl =>
    cases ei
    obtain ⟨k1, k2⟩ := dRel_keys rl
    exact .inr (.inr (.inr (.inl ⟨_, hv, R0.fx, _, _, rfl, .inl ⟨_, h1, q Z H F _ _ (.refl R0) (by rw [k1]; exact wk_keys k2) fun σ2 Z2 H2 ρ2 F2 g => g.st.fz _ _ _ h1⟩⟩)))
   | kt h1 hz rl => cases ei
   | ku h1 hz rl =>
    cases ei
    exact .inr (.inr (.inr (.inr ⟨_, hv, R0.fx, _, _, _, rfl, h1, q Z H F _ _ (.refl R0) (wk_keysU _) fun σ2 Z2 H2 ρ2 F2 g => ⟨g.st.fz _ _ _ h1, (uKeys_rep rl).sub g.st.zz⟩⟩)))
  ·cases e1
 ·cases e1
theorem pi_vals {i : Nat} (h : PE X x (tVr i)) (h0 : notCall0 x = true) (hl : (apos.endLine == pos.line) = true) : PI X tg (.Call (.Attribute x "values" apos) [] [] pos) (TIt X.K cx false (evit cx (.vals i))) := PI.mono (pi_values h (base_of h0) hl) fun σ H R ⟨Z, ρ, F, ps, ρ', R0, e1, q⟩ => by
 simp only [evit] at e1
 split at e1
 ·rename_i m em
  split at e1
  ·rename_i ps2 ei
   cases e1
   obtain ⟨v, hv, ow⟩ := R0.own i _ em
   generalize F i = G at ow
   cases ow with
   | kl h1 hz rl => cases ei
   | kd h1 hz rl =>
    cases ei
    exact ⟨_, hv, R0.fx, _, _, _, rfl, h1, q Z H F _ _ (.refl R0) (wk_vals _) fun σ2 Z2 H2 ρ2 F2 g => ⟨g.st.fz _ _ _ h1, (dRel_vals rl).sub g.st.zz⟩⟩
   | kt h1 hz rl => cases ei
   | ku h1 hz rl => cases ei
  ·cases e1
 ·cases e1
theorem rg_own {es : EL} {σ : St} {H : Hp} {Z : Hp} {ρ ρ' : Env} {F : Nat → List Addr} {rs : List R} {ms : List M} {Q : List V → Hp → Prop} (R0 : Rel X.K Z H σ ρ F) (e : evl cx es ρ = some (rs, ρ')) (e2 : rds ρ' rs = some ms)
  (q : ∀ Z' H' F' vs, Go X.K cx σ Z H ρ F Z' H' ρ' F' → OwnL X.K Z' H' ms vs → Q vs H') : TAr X.K cx (evl cx es) σ H Q := ⟨Z, ρ, F, rs, ρ', R0, e, fun Z' H' F' vs Gs g o => q Z' H' F' vs g (o.own g.rel e2)⟩
theorem own_int {K : PySem.W.Frag} {Z H : Hp} {i : Int} {v : V} {G : List Addr} (o : Own K Z H (.v (.int i)) v G) : v = .int i := (Own.view o).int
theorem rg_start {es : EL} {n : Nat} (hl : elLen es = n) {σ : St} {H : Hp} {R : L2.It → Hp → Prop} : TIt X.K cx false (evit cx (.rg es)) σ H R → ∃ ms ps, rgItems ms = some ps ∧ ms.length = n ∧
  ∀ Q : List V → Hp → Prop, (∀ H' vs, (∀ J, (∃ Z', Wk false X.K J ps (fun _ _ => True) ∧ Sub Z' H') → R J H') → (∃ Z', OwnL X.K Z' H' ms vs ∧ Sub Z' H') → Q vs H') → TAr X.K cx (evl cx es) σ H Q := fun ⟨Z, ρ, F, ps, ρ', R0, e1, q⟩ => by
 simp only [evit] at e1
 split at e1
 ·rename_i rs ρ1 e2
  split at e1
  ·rename_i ms e3
   split at e1
   ·rename_i ps2 e4
    cases e1
    exact ⟨ms, ps, e4, by rw [rds_len e3, evl_len e2, hl], fun Q hQ => rg_own R0 e2 e3 fun Z' H' F' vs g o => hQ H' vs (fun J ⟨_, w, _⟩ => q Z' H' F' J _ g w fun _ _ _ _ _ _ => trivial) ⟨Z', o, g.rel.sub⟩⟩
   ·cases e1
  ·cases e1
 ·cases e1
theorem pi_rg1 {es : EL} (g : Good T k cx X) (hg : glB X.env.scope "range" = true) (ha : PA X [x] (TAr X.K cx (evl cx es))) (hs : notStar x = true) (hl : elLen es = 1) : PI X tg (.Call (.Name "range" p2) [x] [] pos) (TIt X.K cx false (evit cx (.rg es))) :=
 PI.mono (pi_range1 (gl_of hg).1 (g.free _ (by decide +kernel)) ha (by rw [star_of hs]; rfl)) fun σ H R h => by
  obtain ⟨ms, ps, e, hn, q⟩ := rg_start hl h
  match ms, hn with
  | [m], _ =>
  unfold rgItems at e
  split at e
  ·rename_i j hm
   cases hm
   split at e
   ·rename_i c
    cases e
    refine q _ fun H' vs hJ ⟨Z', o, s⟩ => ?_
    cases o with
    | cons o1 o2 =>
     cases o2
     have := own_int o1
     subst this
     exact ⟨j, rfl, c.1, c.2, hJ _ ⟨Z', wk_rng 0 _, s⟩⟩
   ·cases e
  ·rename_i hm; cases hm
  ·rename_i hm; cases hm
  ·cases e
theorem pi_rg2 {es : EL} (g : Good T k cx X) (hg : glB X.env.scope "range" = true) (ha : PA X [x, y] (TAr X.K cx (evl cx es))) (hs : notStar x = true) (hs2 : notStar y = true) (hl : elLen es = 2) : PI X tg (.Call (.Name "range" p2) [x, y] [] pos) (TIt X.K cx false (evit cx (.rg es))) :=
 PI.mono (pi_range2 (gl_of hg).1 (g.free _ (by decide +kernel)) ha (by rw [star_of hs, star_of hs2]; rfl) (by rw [star_of hs2]; rfl)) fun σ H R h => by
  obtain ⟨ms, ps, e, hn, q⟩ := rg_start hl h
  match ms, hn with
  | [m, m2], _ =>
  unfold rgItems at e
  split at e
  ·rename_i hm; cases hm
  ·rename_i i j hm
   cases hm
   split at e
   ·rename_i c
    cases e
    refine q _ fun H' vs hJ ⟨Z', o, s⟩ => ?_
    cases o with
    | cons o1 o2 =>
     cases o2 with
     | cons o2 o3 =>
      cases o3
      have := own_int o1
      subst this
      have := own_int o2
      subst this
      exact ⟨i, j, rfl, c, hJ _ ⟨Z', wk_rng i _, s⟩⟩
   ·cases e
  ·rename_i hm; cases hm
  ·cases e
theorem pi_rg3 {es : EL} (g : Good T k cx X) (hg : glB X.env.scope "range" = true) (ha : PA X [x, y, z] (TAr X.K cx (evl cx es))) (hs : notStar x = true) (hs2 : [y, z].all notStar = true) (hl : elLen es = 3) : PI X tg (.Call (.Name "range" p2) [x, y, z] [] pos) (TIt X.K cx false (evit cx (.rg es))) :=
 PI.mono (pi_range3 (gl_of hg).1 (g.free _ (by decide +kernel)) ha (star_of hs) (stars_of hs2)) fun σ H R h => by
  obtain ⟨ms, ps, e, hn, q⟩ := rg_start hl h
  match ms, hn with
  | [m, m2, m3], _ =>
  unfold rgItems at e
  split at e
  ·rename_i hm; cases hm
  ·rename_i hm; cases hm
  ·rename_i i j w hm
   cases hm
   split at e
   ·rename_i c
    cases e
    obtain ⟨rfl, c⟩ := c
    refine q _ fun H' vs hJ ⟨Z', o, s⟩ => ?_
    cases o with
    | cons o1 o2 =>
     cases o2 with
     | cons o2 o3 =>
      cases o3 with
      | cons o3 o4 =>
       cases o4
       have := own_int o1
       subst this
       have := own_int o2
       subst this
       have := own_int o3
       subst this
       exact ⟨i, j, -1, _, rfl, RgC.neg c.1 c.2.1 c.2.2.1 c.2.2.2, hJ _ ⟨Z', wk_rngC i (-1) _, s⟩⟩
   ·cases e
  ·cases e
theorem pi_en {e : E} {elts : List Expr} {kk : Nat} (g : Good T k cx X) (hg : glB X.env.scope "enumerate" = true) (h : PE X x (TEx X.K cx (ev cx e))) (hs : notStar x = true) : PI X (.Tuple elts kk tpos) (.Call (.Name "enumerate" p2) [x] [] pos) (TIt X.K cx true (evit cx (.en e))) :=
 PI.mono (pi_enumA (gl_of hg).1 (g.free _ (by decide +kernel)) (ps_cons h ps_nil (star_of hs)) (by rw [star_of hs]; rfl)) fun σ H R ⟨Z, ρ, F, ps, ρ', R0, e1, q⟩ => by
  simp only [evit] at e1
  split at e1
  ·rename_i m ρ1 em
   split at e1
   ·rename_i ps2 ep
    cases e1
    refine ⟨Z, ρ, F, [.list ps2], ρ', R0, by simp only [evp, em, ep], fun Z1 H1 F1 vs g1 rl => ?_⟩
    cases rl with
    | cons r1 r2 =>
     cases r2
     cases r1 with
     | lst hq rl => exact ⟨_, _, rfl, .inl ⟨.of (g1.rel.sub _ _ hq), q Z1 H1 F1 _ _ g1 (wk_enum _) (Hold.zz fun Z2 H2 z s => ⟨_, .of (s _ _ (z _ _ hq)), rl.sub z⟩)⟩⟩
   ·rename_i ps2 ep
    cases e1
    refine ⟨Z, ρ, F, [.tuple ps2], ρ', R0, by simp only [evp, em, ep], fun Z1 H1 F1 vs g1 rl => ?_⟩
    cases rl with
    | cons r1 r2 =>
     cases r2
     cases r1 with
     | tup hq rl => exact ⟨_, _, rfl, .inr ⟨sqT_sub g1.rel.sub hq.sq, q Z1 H1 F1 _ _ g1 (wk_enumT _) (Hold.zz fun Z2 H2 z s => ⟨_, sqT_sub s (sqT_sub z hq.sq), rl.sub z⟩)⟩⟩
   ·cases e1
  ·cases e1
theorem pi_zp {a b : E} {elts : List Expr} {kk : Nat} (g : Good T k cx X) (hg : glB X.env.scope "zip" = true) (h : PE X x (TEx X.K cx (ev cx a))) (h2 : PE X y (TEx X.K cx (ev cx b))) (hs : notStar x = true) (hs2 : notStar y = true) : PI X (.Tuple elts kk tpos) (.Call (.Name "zip" p2) [x, y] [] pos) (TIt X.K cx true (evit cx (.zp a b))) :=
 PI.mono (RZ.pi_zipA (gl_of hg).1 (g.free _ (by decide +kernel)) (ps_cons h (ps_cons h2 ps_nil (star_of hs2)) (star_of hs)) (star_of hs) (by rw [star_of hs2]; rfl)) fun σ H R ⟨Z, ρ, F, ps, ρ', R0, e1, q⟩ => by
  simp only [evit] at e1
  split at e1
  ·rename_i m ρ1 em
   split at e1
   ·rename_i m2 ρ2 em2
    split at e1
    ·rename_i ps2 ep
     cases e1
     unfold zipM at ep
     split at ep
     ·rename_i u w eu ew
      cases ep
      refine ⟨Z, ρ, F, [.tuple u, .tuple w], ρ', R0, by simp only [evp, em, em2, eu, ew], fun Z1 H1 F1 vs g1 rl => ?_⟩
      cases rl with
      | cons r1 r2 =>
       cases r2 with
       | cons r2 r3 =>
        cases r3
        cases r1 with
        | tup hq rl =>
         cases r2 with
         | tup hq2 rl2 => exact ⟨_, _, _, _, rfl, .inr ⟨sqT_sub g1.rel.sub hq.sq, sqT_sub g1.rel.sub hq2.sq, q Z1 H1 F1 _ _ g1 (wk_zipT _ _) (Hold.zz fun Z2 H2 z s => ⟨_, _, sqT_sub s (sqT_sub z hq.sq), sqT_sub s (sqT_sub z hq2.sq), rl.sub z, rl2.sub z⟩)⟩⟩
     ·rename_i u w eu ew
      cases ep
      refine ⟨Z, ρ, F, [.list u, .list w], ρ', R0, by simp only [evp, em, em2, eu, ew], fun Z1 H1 F1 vs g1 rl => ?_⟩
      cases rl with
      | cons r1 r2 =>
       cases r2 with
       | cons r2 r3 =>
        cases r3
        cases r1 with
        | lst hq rl =>
         cases r2 with
         | lst hq2 rl2 => exact ⟨_, _, _, _, rfl, .inl ⟨.of (g1.rel.sub _ _ hq), .of (g1.rel.sub _ _ hq2), q Z1 H1 F1 _ _ g1 (wk_zip _ _) (Hold.zz fun Z2 H2 z s => ⟨_, _, .of (s _ _ (z _ _ hq)), .of (s _ _ (z _ _ hq2)), rl.sub z, rl2.sub z⟩)⟩⟩
     ·cases ep
    ·cases e1
   ·cases e1
  ·cases e1
end
end Mn
end
section
set_option maxHeartbeats 200000
namespace Mn
open PySem L2 PySem.Spec
variable [WW] [FX]
abbrev EvS := Env → Option (Fl × Env)
def Fin (K : PySem.W.Frag) (D : Ends) (Z H : Hp) (A : AS) (σ' : St) (Z' H' : Hp) (F' : Nat → List Addr) : Fl → Prop
 | .nx => D.nx σ' H'
 | .ct => D.ct σ' H'
 | .bk => D.bk σ' H'
 | .rt m => ∀ v G, Res K Z H A Z' H' F' m v G → D.rt v H'
def TSt (K : PySem.W.Frag) (X : Cxt) (g : EvS) : TS := fun D σ H => ∃ Z ρ F f ρ', Rel K Z H σ ρ F ∧ g ρ = some (f, ρ') ∧
 ∀ σ' Z' H' F', Gs K X σ Z H ρ F σ' Z' H' ρ' F' → Fin K D Z H (U F) σ' Z' H' F' f
section
variable {K : PySem.W.Frag} {X : Cxt} {σ σ1 σ2 : St} {Z H Z1 H1 Z2 H2 : Hp} {ρ ρ1 ρ2 : Env} {F F1 F2 : Nat → List Addr} {i : Nat}
theorem Gs.alloc {G : List Addr} (x : Gs K X σ Z H ρ F σ1 Z1 H1 ρ1 F1) (y : Alloc Z1 H1 Z2 H2 G) : Gs K X σ Z H ρ F σ1 Z2 H2 ρ1 F1 :=
 ⟨x.rel.alloc y, x.st.trans (y.step _), x.lk, x.sg, x.pg⟩
theorem Fin.base {D : Ends} {f : Fl} (g : Gs K X σ Z H ρ F σ1 Z1 H1 ρ1 F1) (h : Fin K D Z H (U F) σ2 Z2 H2 F2 f) : Fin K D Z1 H1 (U F1) σ2 Z2 H2 F2 f := by
 cases f with
 | rt m => exact fun v G r => h v G (g.res r)
 | _ => exact h
theorem Rel.poke {d : Addr} {u : HO} {m m' : M} {v : V} (R : Rel K Z H σ ρ F) (e : slot ρ i = some m) (hs : σ[i]? = some (some v)) (hF : F i = [d]) (hz : Z d = none) (ni : ∀ o C dx fs, H d ≠ some (.frz o (.ins C dx fs))) (o : Own K Z (L2.upd H d u) m' v [d]) : Rel K Z (L2.upd H d u) σ (ρ.set i (some m')) F := by
 refine ⟨fun a w h => ?_, by rw [List.length_set]; exact R.len, fun j m2 ej => ?_, fun j ej => ?_, R.dj, fun q eq => ?_⟩
 ·have : a ≠ d := fun q => by subst q; rw [hz] at h; cases h
  rw [upd_ne this]; exact R.sub a w h
 ·by_cases q : i = j
  ·subst q
   rw [slot_self _ (slot_lt e)] at ej
   cases ej
   exact ⟨v, hs, hF ▸ o⟩
  ·rw [slot_other _ q] at ej
   obtain ⟨w, h1, h2⟩ := R.own j m2 ej
   refine ⟨w, h1, h2.keep (Sub.rfl' _) (fun a ha x hx => ?_) fun a ha => (h2.at_ a ha).1⟩
   have : a ≠ d := fun z => by
    subst z
    exact q (R.dj i j a (by rw [hF]; simp) ha)
   rw [upd_ne this]; exact hx
 ·by_cases q : i = j
  ·subst q; rw [slot_self _ (slot_lt e)] at ej; cases ej
  ·rw [slot_other _ q] at ej; exact R.no j ej
 ·obtain ⟨f1, f2⟩ := R.fx q eq
  have : q.p ≠ d := fun z => by rw [z] at f1; exact ni _ _ _ _ f1
  exact ⟨by rw [upd_ne this]; exact f1, f2⟩
theorem Rel.swap {m m' : M} {v : V} (R : Rel K Z H σ ρ F) (e : slot ρ i = some m) (hs : σ[i]? = some (some v)) (o : Own K Z H m' v (F i)) : Rel K Z H σ (ρ.set i (some m')) F := by
 refine ⟨R.sub, by rw [List.length_set]; exact R.len, fun j m2 ej => ?_, fun j ej => ?_, R.dj, R.fx⟩
 ·by_cases q : i = j
  ·subst q
   rw [slot_self _ (slot_lt e)] at ej
   cases ej
   exact ⟨v, hs, o⟩
  ·rw [slot_other _ q] at ej
   exact R.own j m2 ej
 ·by_cases q : i = j
  ·subst q; rw [slot_self _ (slot_lt e)] at ej; cases ej
  ·rw [slot_other _ q] at ej; exact R.no j ej
structure Lkb (K : PySem.W.Frag) (Z H : Hp) (m : M) (v : V) (G : List Addr) (d : Addr) (u : HO) : Prop where
 ev : v = .ref d
 eg : G = [d]
 at_ : H d = some u
 mu : Mut (some u)
 nf : ∀ o' u', u ≠ .frz o' u'
 ni : ∀ C dx fs, u ≠ .ins C dx fs
 zn : Z d = none
 lock : ∀ od, Own K Z (L2.upd H d (.frz od u)) (.k m) v [d]
 free : ∀ Z' H' G' od, Own K Z' H' (.k m) v G' → H' d = some (.frz od u) → G' = [d] ∧ Z' d = none ∧ Own K Z' (L2.upd H' d u) m v [d]
theorem lkb_d {kvs : List (Key × P)} {v : V} {G : List Addr} (o : Own K Z H (.d kvs) v G) : ∃ d u, Lkb K Z H (.d kvs) v G d u := by
 cases o with
 | d h hz r => exact ⟨_, _, rfl, rfl, h, trivial, (fun _ _ z => by cases z), (fun _ _ _ z => by cases z), hz, fun od => .kd upd_same hz r, fun Z' H' G' od o2 e => by
  cases o2 with
  | kd h2 hz2 r2 =>
   rw [e] at h2; cases h2
   exact ⟨rfl, hz2, .d upd_same hz2 r2⟩⟩
theorem lkb_u {kvs : List (NK × P)} {v : V} {G : List Addr} (o : Own K Z H (.u kvs) v G) : ∃ d u, Lkb K Z H (.u kvs) v G d u := by
 cases o with
 | uo h hz r => exact ⟨_, _, rfl, rfl, h, trivial, (fun _ _ z => by cases z), (fun _ _ _ z => by cases z), hz, fun od => .ku upd_same hz r, fun Z' H' G' od o2 e => by
  cases o2 with
  | ku h2 hz2 r2 =>
   rw [e] at h2
   injection h2 with h2
   injection h2 with h2 h3
   exact ⟨rfl, hz2, .uo (by rw [upd_same, h3]) hz2 r2⟩⟩
theorem lock_in {m : M} {v : V} {d : Addr} {u : HO} (R : Rel K Z H σ ρ F) (e : slot ρ i = some m) (hs : σ[i]? = some (some v)) (L : Lkb K Z H m v (F i) d u) (od : Obj) : Rel K Z (L2.upd H d (.frz od u)) σ (ρ.set i (some (.k m))) F :=
 R.poke e hs L.eg L.zn (fun _ _ _ _ z => by rw [L.at_] at z; injection z with z; exact L.nf _ _ z) (L.lock od)
theorem lock_out {m : M} {v : V} {d : Addr} {u : HO} {od : Obj} (e : slot ρ i = some m) (nk : isLk (some m) = false) (hs : σ[i]? = some (some v)) (L : Lkb K Z H m v (F i) d u)
  (g : Gs K X σ Z (L2.upd H d (.frz od u)) (ρ.set i (some (.k m))) F σ1 Z1 H1 ρ1 F1) : H1 d = some (.frz od u) ∧ Gs K X σ Z H ρ F σ1 Z1 (L2.upd H1 d u) (ρ1.set i (some m)) F1 ∧ Own K Z1 (L2.upd H1 d u) m v [d] ∧ F1 i = [d] := by
 have hi := slot_lt e
 have hd : H1 d = some (.frz od u) := g.st.fz _ _ _ upd_same
 have e1 : slot ρ1 i = some (.k m) := g.lk.lk i m (slot_self _ hi)
 have s1 : σ1[i]? = some (some v) := (g.sg i m (slot_self _ hi)).trans hs
 obtain ⟨w, h1, h2⟩ := g.rel.own i _ e1
 rw [s1] at h1; cases h1
 obtain ⟨k1, k2, k3⟩ := L.free _ _ _ od h2 hd
 have hdF : U F d := ⟨i, by rw [L.eg]; simp⟩
 refine ⟨hd, ⟨g.rel.poke e1 s1 k1 k2 (fun _ _ _ _ z => by rw [hd] at z; injection z with z; injection z with _ z; exact L.ni _ _ _ z) k3, ⟨fun a o h n => ?_, g.st.zz, fun a o h => ?_, fun a h => ?_, fun a o w h => ?_⟩, ⟨fun j n hj => ?_, fun j hp hn => ?_, ?_⟩, fun j n hj => ?_, g.pg⟩, k3, k1⟩
 ·have q : a ≠ d := fun z => n (z ▸ hdF)
  rw [upd_ne q]
  exact g.st.fr a o (by rw [upd_ne q]; exact h) n
 ·rcases g.st.zn a o h with h | h | h | h
  ·exact .inl h
  ·exact .inr (.inl h)
  ·by_cases q : a = d
   ·subst q; rw [upd_same] at h; cases h
   ·rw [upd_ne q] at h; exact .inr (.inr (.inl h))
  ·exact .inr (.inr (.inr h))
 ·rcases g.st.an a h with h | h
  ·exact .inl h
  ·by_cases q : a = d
   ·subst q; rw [upd_same] at h; cases h
   ·rw [upd_ne q] at h; exact .inr h
 ·by_cases q : a = d
  ·subst q; rw [L.at_] at h; cases h; exact (L.nf _ _ rfl).elim
  ·rw [upd_ne q]
   exact g.st.fz a o w (by rw [upd_ne q]; exact h)
 ·have q : i ≠ j := fun z => by subst z; rw [e] at hj; cases hj; cases nk
  rw [slot_other _ q]
  exact g.lk.lk j n (by rw [slot_other _ q]; exact hj)
 ·by_cases q : i = j
  ·subst q; rw [slot_self _ (slot_lt e1)]; exact fun z => nomatch z
  ·rw [slot_other _ q]
   exact g.lk.pm j hp (by rw [slot_other _ q]; exact hn)
 ·rw [List.length_set, g.lk.len, List.length_set]
 ·have q : i ≠ j := fun z => by subst z; rw [e] at hj; cases hj; cases nk
  exact g.sg j n (by rw [slot_other _ q]; exact hj)
theorem list_in {ps : List P} (R : Rel K Z H σ ρ F) (e : slot ρ i = some (.l ps)) : Rel K Z H σ (ρ.set i (some (.k (.l ps)))) F := by
 obtain ⟨v, h1, h2⟩ := R.own i _ e
 refine R.swap e h1 ?_
 generalize F i = G at h2
 cases h2 with
 | l h hz r => exact .kl h hz r
theorem list_out {ps : List P} (e : slot ρ i = some (.l ps)) (g : Gs K X σ Z H (ρ.set i (some (.k (.l ps)))) F σ1 Z1 H1 ρ1 F1) : Gs K X σ Z H ρ F σ1 Z1 H1 (ρ1.set i (some (.l ps))) F1 := by
 have hi := slot_lt e
 have e1 : slot ρ1 i = some (.k (.l ps)) := g.lk.lk i _ (slot_self _ hi)
 obtain ⟨w, h1, h2⟩ := g.rel.own i _ e1
 refine ⟨g.rel.swap e1 h1 ?_, g.st, ⟨fun j n hj => ?_, fun j hp hn => ?_, by rw [List.length_set, g.lk.len, List.length_set]⟩, fun j n hj => ?_, g.pg⟩
 ·generalize F1 i = G at h2
  cases h2 with
  | kl h hz r => exact .l h hz r
 ·have q : i ≠ j := fun z => by subst z; rw [e] at hj; cases hj
  rw [slot_other _ q]
  exact g.lk.lk j n (by rw [slot_other _ q]; exact hj)
 ·by_cases q : i = j
  ·subst q; rw [slot_self _ (slot_lt e1)]; exact fun z => nomatch z
  ·rw [slot_other _ q]
   exact g.lk.pm j hp (by rw [slot_other _ q]; exact hn)
 ·have q : i ≠ j := fun z => by subst z; rw [e] at hj; cases hj
  exact g.sg j n (by rw [slot_other _ q]; exact hj)
def unlk (lk : Option (Nat × M)) (ρ : Env) : Env := match lk with
 | none => ρ
 | some (i, m) => ρ.set i (some m)
theorem lockE_cases {it : It} {lk : Option (Nat × M)} {ρ0 : Env} (e : lockE it ρ = some (lk, ρ0)) : (lk = none ∧ ρ0 = ρ) ∨ ∃ j m, lk = some (j, m) ∧ slot ρ j = some m ∧ ρ0 = ρ.set j (some (.k m)) ∧ ((∃ ps, m = .l ps) ∨ (∃ kvs, m = .d kvs) ∨ ∃ kvs, m = .u kvs) := by
 have hv : ∀ j, lockV j ρ = some (lk, ρ0) → (lk = none ∧ ρ0 = ρ) ∨ ∃ j m, lk = some (j, m) ∧ slot ρ j = some m ∧ ρ0 = ρ.set j (some (.k m)) ∧ ((∃ ps, m = .l ps) ∨ (∃ kvs, m = .d kvs) ∨ ∃ kvs, m = .u kvs) := by
  intro j h
  unfold lockV at h
  split at h <;> rename_i h1
  ·cases h; exact .inr ⟨_, _, rfl, h1, rfl, .inl ⟨_, rfl⟩⟩
  ·cases h; exact .inr ⟨_, _, rfl, h1, rfl, .inr (.inl ⟨_, rfl⟩)⟩
  ·cases h; exact .inr ⟨_, _, rfl, h1, rfl, .inr (.inr ⟨_, rfl⟩)⟩
  ·cases h; exact .inl ⟨rfl, rfl⟩
  ·cases h; exact .inl ⟨rfl, rfl⟩
  ·cases h
 unfold lockE at e
 split at e
 ·exact hv _ e
 ·exact hv _ e
 ·cases e; exact .inl ⟨rfl, rfl⟩
end
section
variable {T : Tab} {k : Nat} {cx : Cxt} {X : Cx} {x y z : Expr} {st : Stmt} {pos p2 p3 apos tpos : Pos} {a b : List Stmt}
def lockW (it : It) (G : EvS) : EvS := fun ρ => match lockE it ρ with
 | none => none
 | some (lk, ρ0) => match G ρ0 with
  | none => none
  | some (f, ρ2) => some (f, unlk lk ρ2)
theorem ps_lk {it : It} {G : EvS} (h : PS X st (TSt X.K cx G)) : PS X st (TSt X.K cx (lockW it G)) := ⟨fun pins s σ H D J ⟨Z, ρ, F, f, ρ', R, e, q⟩ => by
 unfold lockW at e
 split at e
 ·cases e
 ·rename_i lk ρ0 e1
  split at e
  ·cases e
  ·rename_i f2 ρ2 e2
   cases e
   rcases lockE_cases e1 with ⟨rfl, rfl⟩ | ⟨j, m, rfl, hj, rfl, hm⟩
   ·exact h.run pins s σ H D J ⟨Z, _, F, f, ρ2, R, e2, q⟩
   ·have dk : ∀ v d u, σ[j]? = some (some v) → Lkb X.K Z H m v (F j) d u → isLk (some m) = false → wpAny (model X.prog X.w) X.A (exec st X.env) (SP X pins D) X.xe s := by
     intro v d u hs L nk
     refine (ps_lock h).run pins s σ H D J ⟨d, u, L.at_, L.mu, fun od => ⟨Z, _, F, f, ρ2, lock_in R hj hs L od, e2, fun σ' Z' H' F' g => ?_⟩⟩
     obtain ⟨k1, k2, k3, k4⟩ := lock_out hj nk hs L g
     have q2 := q _ _ _ _ k2
     cases f with
     | nx => exact ⟨k1, q2⟩
     | ct => exact ⟨k1, q2⟩
     | bk => exact ⟨k1, q2⟩
     | rt m2 =>
      refine fun w G r => ⟨k1, q2 w G ⟨?_, r.ap, fun a ha => ?_⟩⟩
      ·refine r.own.keep (Sub.rfl' _) (fun a ha o ho => ?_) fun a ha => (r.own.at_ a ha).1
       have : a ≠ d := fun z => r.ap a ha ⟨j, by rw [k4, z]; simp⟩
       rw [upd_ne this]; exact ho
      ·rcases r.nw a ha with h | h
       ·exact .inl h
       ·by_cases z : a = d
        ·subst z; rw [upd_same] at h; cases h
        ·rw [upd_ne z] at h; exact .inr h
    rcases hm with ⟨ps, rfl⟩ | ⟨kvs, rfl⟩ | ⟨kvs, rfl⟩
    ·exact h.run pins s σ H D J ⟨Z, _, F, f, ρ2, list_in R hj, e2, fun σ' Z' H' F' g => q σ' Z' H' F' (list_out hj g)⟩
    ·obtain ⟨v, h1, h2⟩ := R.own j _ hj
     obtain ⟨d, u, L⟩ := lkb_d h2
     exact dk v d u h1 L rfl
    ·obtain ⟨v, h1, h2⟩ := R.own j _ hj
     obtain ⟨d, u, L⟩ := lkb_u h2
     exact dk v d u h1 L rfl⟩
def forG (X : Cxt) (tg : Tg) (it : It) (b : EvS) : EvS := fun ρ => match evit X it ρ with
 | none => none
 | some (ps, ρ1) => forL (bindT X tg) b ps ρ1
def notSet : Expr → Bool
 | .Set _ _ _ => false
 | _ => true
theorem folded_of {env : PySem.Env} (h : notSet x = true) : ∀ v, foldedSetIterable x env v = pure v := by
 intro v
 cases x <;> first | rfl | cases h
theorem ps_forM {w0 : Bool} {tg : Tg} {it : It} {B : EvS} (g : Good T k cx X) (hi : PI X x y (TIt X.K cx w0 (evit cx it))) (ht : PG X x (TGt X.K cx w0 tg)) (hb : PSs X b (TSt X.K cx B)) (hn : notSet y = true) : PS X (.For x y b [] pos) (TSt X.K cx (forG cx tg it B)) := by
 have hp : PassesOwn (model X.prog X.w) X.A X.env X.xe := by rw [g.xe]; exact .never
 refine PS.mono (ps_for hp g.calm hi ht hb (folded_of hn)) fun D σ H ⟨Z, ρ, F, f, ρ', R, e, q⟩ => ?_
 unfold forG at e
 split at e
 ·cases e
 ·rename_i ps ρ1 e1
  refine ⟨Z, ρ, F, ps, ρ1, R, e1, fun Z1 H1 F1 J G g1 wk hold => ?_⟩
  refine ⟨fun i m σ2 H2 => m + i = ps.length ∧ ∃ Z2 ρ2 F2, Gs X.K cx σ Z1 H1 ρ1 F1 σ2 Z2 H2 ρ2 F2 ∧ forL (bindT cx tg) B (ps.drop i) ρ2 = some (f, ρ'), ⟨ps.length, rfl, Z1, ρ1, F1, .refl g1.rel, e⟩, ?_⟩
  rintro i m σ2 H2 ⟨hm, Z2, ρ2, F2, g2, e2⟩
  by_cases hlt : i < ps.length
  ·refine .inr ⟨wk.goes i Z2 H2 hlt (hold _ _ _ _ _ g2), fun σ3 H3 => m - 1 + (i + 1) = ps.length ∧ ∃ Z3 ρ3 F3, Gs X.K cx σ Z1 H1 ρ1 F1 σ3 Z3 H3 ρ3 F3 ∧ forL (bindT cx tg) B (ps.drop (i + 1)) ρ3 = some (f, ρ'), fun σ3 H3 h => ⟨m - 1, by omega, h⟩, fun v H3 y3 => ?_⟩
   obtain ⟨Z3, p, al, hp3, rp⟩ := wk.yields i Z2 H2 v H3 hlt (hold _ _ _ _ _ g2) g2.rel.sub y3
   have hd : ps.drop i = p :: ps.drop (i + 1) := by
    rw [List.drop_eq_getElem_cons hlt]
    have : ps[i] = p := by rw [List.getElem?_eq_getElem hlt] at hp3; exact Option.some.inj hp3
    rw [this]
   rw [hd] at e2
   unfold forL at e2
   split at e2
   ·cases e2
   ·rename_i ρ4 e4
    have g3 := g2.alloc al
    refine ⟨Z3, ρ2, F2, p, ρ4, g3.rel, rp, e4, fun σ4 F4 g4 _ => ?_⟩
    have g5 := g3.trans g4
    have gt := g1.gs.trans g5
    split at e2
    ·cases e2
    ·rename_i ρ5 e5
     cases e2
     exact ⟨Z3, ρ4, F4, .bk, _, g4.rel, e5, fun σ6 Z6 H6 F6 g6 => q σ6 Z6 H6 F6 (gt.trans g6)⟩
    ·rename_i m2 ρ5 e5
     cases e2
     exact ⟨Z3, ρ4, F4, .rt m2, _, g4.rel, e5, fun σ6 Z6 H6 F6 g6 w G r => q σ6 Z6 H6 F6 (gt.trans g6) w G (gt.res r)⟩
    ·rename_i f2 ρ5 n1 n2 e5
     cases f2 with
     | nx => exact ⟨Z3, ρ4, F4, .nx, ρ5, g4.rel, e5, fun σ6 Z6 H6 F6 g6 => ⟨by omega, Z6, ρ5, F6, g5.trans g6, e2⟩⟩
     | ct => exact ⟨Z3, ρ4, F4, .ct, ρ5, g4.rel, e5, fun σ6 Z6 H6 F6 g6 => ⟨by omega, Z6, ρ5, F6, g5.trans g6, e2⟩⟩
     | bk => exact (n1 rfl).elim
     | rt m2 => exact (n2 m2 rfl).elim
  ·have ei : i = ps.length := by omega
   subst ei
   rw [List.drop_length] at e2
   unfold forL at e2
   cases e2
   exact .inl ⟨wk.stops Z2 H2 (hold _ _ _ _ _ g2), q σ2 Z2 H2 F2 (g1.gs.trans g2)⟩
theorem fr_eq {tg : Tg} {it : It} {sl : SL} (ρ : Env) : evs cx (.fr tg it sl) ρ = lockW it (forG cx tg it (evss cx sl)) ρ := by
 simp only [evs, lockW, forG]
 cases lockE it ρ with
 | none => rfl
 | some w =>
  obtain ⟨lk, ρ0⟩ := w
  dsimp only
  cases evit cx it ρ0 with
  | none => rfl
  | some w =>
   obtain ⟨ps, ρ1⟩ := w
   dsimp only
   cases forL (bindT cx tg) (evss cx sl) ps ρ1 with
   | none => rfl
   | some w =>
    obtain ⟨f, ρ2⟩ := w
    cases lk with
    | none => rfl
    | some im => rfl
theorem TSt.eq {G G' : EvS} (h : ∀ ρ, G' ρ = G ρ) (p : PS X st (TSt X.K cx G)) : PS X st (TSt X.K cx G') := by
 have : G' = G := funext h
 rw [this]; exact p
theorem snd_fr {w0 : Bool} {tg : Tg} {it : It} {sl : SL} (g : Good T k cx X) (hi : PI X x y (TIt X.K cx w0 (evit cx it))) (ht : PG X x (TGt X.K cx w0 tg)) (hb : PSs X b (TSt X.K cx (evss cx sl))) (hn : notSet y = true) : PS X (.For x y b [] pos) (TSt X.K cx (evs cx (.fr tg it sl))) :=
 TSt.eq fr_eq (ps_lk (ps_forM g hi ht hb hn))
theorem snd_wh {c : E} {sl : SL} (g : Good T k cx X) (hc : PT X x (TTs X.K cx (ev cx c))) (hb : PSs X b (TSt X.K cx (evss cx sl))) : PS X (.While x b [] pos) (TSt X.K cx (evs cx (.wh c sl))) := by
 have hp : PassesOwn (model X.prog X.w) X.A X.env X.xe := by rw [g.xe]; exact .never
 refine PS.mono (ps_while hp hc hb) fun D σ H ⟨Z, ρ, F, f, ρ', R, e, q⟩ => ?_
 have e : whL (fun ρ => ofB (ev cx c ρ)) (evss cx sl) WF ρ = some (f, ρ') := by simpa only [evs] using e
 generalize WF = n at e
 refine ⟨fun m σ2 H2 => ∃ Z2 ρ2 F2, Gs X.K cx σ Z H ρ F σ2 Z2 H2 ρ2 F2 ∧ whL (fun ρ => ofB (ev cx c ρ)) (evss cx sl) m ρ2 = some (f, ρ'), ⟨n, Z, ρ, F, .refl R, e⟩, ?_⟩
 rintro m σ2 H2 ⟨Z2, ρ2, F2, g2, e2⟩
 cases m with
 | zero => unfold whL at e2; cases e2
 | succ m =>
  unfold whL at e2
  split at e2
  ·cases e2
  ·rename_i ρ3 e3
   cases e2
   unfold ofB at e3
   split at e3
   ·rename_i b3 ρ4 e4
    cases e3
    exact ⟨Z2, ρ2, F2, false, _, g2.rel, e4, fun Z3 H3 F3 g3 => by
     dsimp only
     rw [if_neg Bool.false_ne_true]
     exact q σ2 Z3 H3 F3 (g2.trans g3.gs)⟩
   ·cases e3
  ·rename_i ρ3 e3
   unfold ofB at e3
   split at e3
   ·rename_i b3 ρ4 e4
    cases e3
    refine ⟨Z2, ρ2, F2, true, _, g2.rel, e4, fun Z3 H3 F3 g3 => ?_⟩
    dsimp only
    rw [if_pos rfl]
    refine ⟨fun σ4 H4 => ∃ Z4 ρ4 F4, Gs X.K cx σ Z H ρ F σ4 Z4 H4 ρ4 F4 ∧ whL (fun ρ => ofB (ev cx c ρ)) (evss cx sl) m ρ4 = some (f, ρ'), fun σ4 H4 h => ⟨m, Nat.lt_succ_self m, h⟩, ?_⟩
    have gt := g2.trans g3.gs
    split at e2
    ·cases e2
    ·rename_i ρ5 e5
     cases e2
     exact ⟨Z3, _, F3, .bk, _, g3.rel, e5, fun σ6 Z6 H6 F6 g6 => q σ6 Z6 H6 F6 (gt.trans g6)⟩
    ·rename_i m2 ρ5 e5
     cases e2
     exact ⟨Z3, _, F3, .rt m2, _, g3.rel, e5, fun σ6 Z6 H6 F6 g6 w G r => q σ6 Z6 H6 F6 (gt.trans g6) w G (gt.res r)⟩
    ·rename_i f2 ρ5 n1 n2 e5
     cases f2 with
     | nx => exact ⟨Z3, _, F3, .nx, ρ5, g3.rel, e5, fun σ6 Z6 H6 F6 g6 => ⟨Z6, ρ5, F6, gt.trans g6, e2⟩⟩
     | ct => exact ⟨Z3, _, F3, .ct, ρ5, g3.rel, e5, fun σ6 Z6 H6 F6 g6 => ⟨Z6, ρ5, F6, gt.trans g6, e2⟩⟩
     | bk => exact (n1 rfl).elim
     | rt m2 => exact (n2 m2 rfl).elim
   ·cases e3
theorem ss_nil : PSs X [] (TSt X.K cx (evss cx .nil)) := PSs.mono pss_nil fun D σ H ⟨Z, ρ, F, f, ρ', R, e, q⟩ => by
 simp only [evss] at e
 cases e
 exact q σ Z H F (.refl R)
theorem ss_cons {s1 : S} {sl : SL} (h : PS X st (TSt X.K cx (evs cx s1))) (hs : PSs X b (TSt X.K cx (evss cx sl))) : PSs X (st :: b) (TSt X.K cx (evss cx (.cons s1 sl))) := PSs.mono (pss_cons h hs) fun D σ H ⟨Z, ρ, F, f, ρ', R, e, q⟩ => by
 simp only [evss] at e
 split at e
 ·cases e
 ·rename_i ρ1 e1
  exact ⟨Z, ρ, F, .nx, ρ1, R, e1, fun σ1 Z1 H1 F1 g1 => ⟨Z1, ρ1, F1, f, ρ', g1.rel, e, fun σ2 Z2 H2 F2 g2 => (q σ2 Z2 H2 F2 (g1.trans g2)).base g1⟩⟩
 ·rename_i f2 ρ1 n1 e1
  cases e
  refine ⟨Z, ρ, F, f, _, R, e1, fun σ1 Z1 H1 F1 g1 => ?_⟩
  have := q σ1 Z1 H1 F1 g1
  cases f with
  | nx => exact (n1 rfl).elim
  | _ => exact this
theorem snd_if {c : E} {s1 s2 : SL} (hc : PT X x (TTs X.K cx (ev cx c))) (ha : PSs X a (TSt X.K cx (evss cx s1))) (hb : PSs X b (TSt X.K cx (evss cx s2))) : PS X (.If x a b pos) (TSt X.K cx (evs cx (.ifs c s1 s2))) := PS.mono (ps_if hc ha hb) fun D σ H ⟨Z, ρ, F, f, ρ', R, e, q⟩ => by
 simp only [evs] at e
 split at e
 ·rename_i c1 ρ1 e1
  unfold ofB at e1
  split at e1
  ·rename_i b3 ρ4 e4
   cases e1
   refine ⟨Z, ρ, F, c1, _, R, e4, fun Z1 H1 F1 g1 => ?_⟩
   cases c1 with
   | true =>
    rw [if_pos rfl] at e ⊢
    exact ⟨Z1, _, F1, f, ρ', g1.rel, e, fun σ2 Z2 H2 F2 g2 => (q σ2 Z2 H2 F2 (g1.gs.trans g2)).base g1.gs⟩
   | false =>
    rw [if_neg Bool.false_ne_true] at e ⊢
    exact ⟨Z1, _, F1, f, ρ', g1.rel, e, fun σ2 Z2 H2 F2 g2 => (q σ2 Z2 H2 F2 (g1.gs.trans g2)).base g1.gs⟩
  ·cases e1
 ·cases e
theorem snd_ret {a : E} (h : PE X x (TEx X.K cx (ev cx a))) : PS X (.Return (some x) pos) (TSt X.K cx (evs cx (.ret a))) := PS.mono (ps_ret h) fun D σ H ⟨Z, ρ, F, f, ρ', R, e, q⟩ => by
 simp only [evs] at e
 split at e
 ·rename_i m ρ1 e1
  cases e
  exact ⟨Z, ρ, F, m, _, R, e1, fun Z1 H1 F1 v G g1 r => q σ Z1 H1 F1 g1.gs v G r⟩
 ·cases e
theorem snd_ret0 : PS X (.Return none pos) (TSt X.K cx (evs cx .ret0)) := PS.mono ps_retN fun D σ H ⟨Z, ρ, F, f, ρ', R, e, q⟩ => by
 simp only [evs] at e
 cases e
 exact q σ Z H F (.refl R) _ [] ⟨.v .non, no0, no0⟩
theorem snd_pass : PS X (.Pass pos) (TSt X.K cx (evs cx .pass)) := PS.mono ps_pass fun D σ H ⟨Z, ρ, F, f, ρ', R, e, q⟩ => by
 simp only [evs] at e
 cases e
 exact q σ Z H F (.refl R)
theorem snd_brk : PS X (.Break pos) (TSt X.K cx (evs cx .brk)) := PS.mono ps_break fun D σ H ⟨Z, ρ, F, f, ρ', R, e, q⟩ => by
 simp only [evs] at e
 cases e
 exact q σ Z H F (.refl R)
theorem snd_cont : PS X (.Continue pos) (TSt X.K cx (evs cx .cont)) := PS.mono ps_continue fun D σ H ⟨Z, ρ, F, f, ρ', R, e, q⟩ => by
 simp only [evs] at e
 cases e
 exact q σ Z H F (.refl R)
end
end Mn
end
section
set_option maxHeartbeats 200000
namespace Mn
open PySem L2 PySem.Spec
variable [WW] [FX]
theorem wipe_get {σ : St} {j : Nat} : ∀ {vs : List Nat}, (wipe σ vs)[j]? = if j ∈ vs ∧ j < σ.length then some none else σ[j]?
 | [] => by simp [wipe]
 | v :: vs => by
  unfold wipe
  have ih := wipe_get (σ := σ) (j := j) (vs := vs)
  have hl := wipe_length σ vs
  by_cases q : v = j
  ·subst q
   by_cases h : v < σ.length
   ·rw [List.getElem?_set_self (by rw [hl]; exact h), if_pos ⟨by simp, h⟩]
   ·rw [List.getElem?_eq_none (by simp [hl]; omega), if_neg (fun z => h z.2), List.getElem?_eq_none (by omega)]
  ·rw [List.getElem?_set_ne q, ih]
   by_cases h : j ∈ vs
   ·simp [h]
   ·have : ¬ j ∈ v :: vs := by simp [h, Ne.symm q]
    simp [h, Ne.symm q]
theorem wipe_eq {σ σ2 : St} {vs : List Nat} (hl : σ2.length = σ.length) (h : ∀ j, j ∉ vs → σ2[j]? = σ[j]?) : wipe σ2 vs = wipe σ vs := by
 apply List.ext_getElem?
 intro j
 rw [wipe_get, wipe_get, hl]
 by_cases q : j ∈ vs
 ·by_cases w : j < σ.length
  ·simp [q, w]
  ·rw [if_neg (fun z => w z.2), if_neg (fun z => w z.2), List.getElem?_eq_none (by omega), List.getElem?_eq_none (by omega)]
 ·simp [q, h j q]
theorem wipeE_len (ρ : Env) : ∀ vs : List Nat, (wipeE ρ vs).length = ρ.length
 | [] => rfl
 | v :: vs => by unfold wipeE; rw [List.length_set, wipeE_len ρ vs]
theorem wipeE_slot {ρ : Env} {j : Nat} : ∀ {vs : List Nat}, slot (wipeE ρ vs) j = if j ∈ vs then none else slot ρ j
 | [] => by simp [wipeE]
 | v :: vs => by
  unfold wipeE
  rw [slot_set, wipeE_slot, wipeE_len]
  by_cases q : v = j
  ·subst q
   by_cases h : v < ρ.length
   ·simp [h]
   ·have : slot ρ v = none := by
     unfold slot
     rw [List.getElem?_eq_none (by omega)]; rfl
    simp [h, this]
  ·rw [if_neg (fun z => q z.1)]
   simp [Ne.symm q]
theorem backE_len (ρ0 ρ : Env) : ∀ vs : List Nat, (backE ρ0 ρ vs).length = ρ.length
 | [] => rfl
 | v :: vs => by unfold backE; rw [List.length_set, backE_len ρ0 ρ vs]
theorem backE_slot {ρ0 ρ : Env} {j : Nat} (hl : ρ.length = ρ0.length) : ∀ {vs : List Nat}, slot (backE ρ0 ρ vs) j = if j ∈ vs then slot ρ0 j else slot ρ j
 | [] => by simp [backE]
 | v :: vs => by
  unfold backE
  rw [slot_set, backE_slot hl, backE_len]
  by_cases q : v = j
  ·subst q
   by_cases h : v < ρ.length
   ·simp [h]
   ·have : slot ρ v = none := by
     unfold slot
     rw [List.getElem?_eq_none (by omega)]; rfl
    have : slot ρ0 v = none := by
     unfold slot
     rw [List.getElem?_eq_none (by omega)]; rfl
    simp [h, *]
  ·rw [if_neg (fun z => q z.1)]
   simp [Ne.symm q]
section
variable {K : PySem.W.Frag} {X : Cxt} {σ σ1 σ2 : St} {Z H Z1 H1 Z2 H2 : Hp} {ρ ρ1 ρ2 : Env} {F F1 F2 : Nat → List Addr} {i : Nat} {vs : List Nat}
theorem own_ok (h : ownOk X ρ vs = true) {i : Nat} (hi : i ∈ vs) : pmAt X i = false ∧ (slot ρ i = none ∨ ∃ p, slot ρ i = some (.v p)) := by
 unfold ownOk at h
 have h1 := List.all_eq_true.mp h i hi
 rw [Bool.and_eq_true, Bool.not_eq_true'] at h1
 refine ⟨h1.1, ?_⟩
 have h2 := h1.2
 split at h2
 ·exact .inl ‹_›
 ·exact .inr ⟨_, ‹_›⟩
 ·cases h2
theorem Rel.wipe (R : Rel K Z H σ ρ F) : ∀ vs : List Nat, (∀ v ∈ vs, ¬ fxAt v) → ∃ F2, Rel K Z H (L2.wipe σ vs) (wipeE ρ vs) F2 ∧ ∀ a, U F2 a → U F a
 | [], _ => ⟨F, R, fun _ h => h⟩
 | v :: vs, nx => by
  obtain ⟨F2, R2, k2⟩ := R.wipe vs fun w hw => nx w (List.mem_cons_of_mem _ hw)
  have R3 := R2.del v
  refine ⟨fset F2 v [], ?_, fun a h => k2 a (U_del h)⟩
  unfold L2.wipe wipeE
  refine ⟨R3.sub, by rw [List.length_set]; exact R3.len, fun j m e => ?_, R3.no, R3.dj, R3.fx.set _ (nx v List.mem_cons_self)⟩
  have hj : v ≠ j := fun q => by
   subst q
   by_cases h : v < (wipeE ρ vs).length
   ·rw [slot_self _ h] at e; cases e
   ·have := slot_lt e
    rw [List.length_set] at this
    exact h this
  rw [List.getElem?_set_ne hj]
  exact R3.own j m e
theorem Gs.wipe (pk : PmOk X) (g : Gs K X σ Z H ρ F σ1 Z1 H1 ρ1 F1) (ok : ownOk X ρ vs = true) : ∃ F2, Gs K X σ Z H ρ F (L2.wipe σ1 vs) Z1 H1 (wipeE ρ1 vs) F2 ∧ ∀ a, U F2 a → U F1 a := by
 obtain ⟨F2, R2, k⟩ := g.rel.wipe vs fun v hv q => by
  have := pk v q
  rw [(own_ok ok hv).1] at this
  cases this
 have nk : ∀ (j : Nat) (m : M), slot ρ j = some (.k m) → j ∉ vs := fun j m e hj => by
  rcases (own_ok ok hj).2 with q | ⟨p, q⟩ <;> rw [q] at e <;> cases e
 refine ⟨F2, ⟨R2, ⟨g.st.fr, g.st.zz, g.st.zn, fun a h => g.st.an a (k a h), g.st.fz⟩, ⟨fun j m e => ?_, fun j hp hn => ?_, by rw [wipeE_len, g.lk.len]⟩, fun j m e => ?_, fun j hp => ?_⟩, k⟩
 ·rw [wipeE_slot, if_neg (nk j m e)]; exact g.lk.lk j m e
 ·have : j ∉ vs := fun hj => by rw [(own_ok ok hj).1] at hp; cases hp
  rw [wipeE_slot, if_neg this]; exact g.lk.pm j hp hn
 ·rw [wipe_get, if_neg (fun z => nk j m e z.1)]; exact g.sg j m e
 ·have : j ∉ vs := fun hj => by rw [(own_ok ok hj).1] at hp; cases hp
  rw [wipe_get, if_neg (fun z => this z.1)]; exact g.pg j hp
theorem Gs.back (g : Gs K X σ Z H ρ F (L2.wipe σ vs) Z1 H1 (wipeE ρ1 vs) F1) (R : Rel K Z H σ ρ F) (ok : ownOk X ρ vs = true) (hl : ρ1.length = ρ.length) : Go K X σ Z H ρ F Z1 H1 (backE ρ ρ1 vs) F1 := by
 have sl : ∀ j, j ∉ vs → slot (backE ρ ρ1 vs) j = slot (wipeE ρ1 vs) j := fun j hj => by rw [backE_slot hl, if_neg hj, wipeE_slot, if_neg hj]
 have so : ∀ j, j ∈ vs → slot (backE ρ ρ1 vs) j = slot ρ j := fun j hj => by rw [backE_slot hl, if_pos hj]
 have fo : ∀ j, j ∈ vs → F1 j = [] := fun j hj => g.rel.no j (by rw [wipeE_slot, if_pos hj])
 refine ⟨⟨g.rel.sub, by rw [backE_len, hl]; exact R.len, fun j m e => ?_, fun j e => ?_, g.rel.dj, R.fx.stay g.st.fz⟩, g.st, ⟨fun j m e => ?_, fun j hp hn => ?_, by rw [backE_len, hl]⟩⟩
 ·by_cases hj : j ∈ vs
  ·rw [so j hj] at e
   rcases (own_ok ok hj).2 with q | ⟨p, q⟩
   ·rw [q] at e; cases e
   ·rw [q] at e; cases e
    obtain ⟨v, h1, h2⟩ := R.own j _ q
    refine ⟨v, h1, ?_⟩
    rw [fo j hj]
    generalize F j = G at h2
    cases h2 with
    | v rp => exact .v (rp.sub g.st.zz)
  ·rw [sl j hj] at e
   obtain ⟨v, h1, h2⟩ := g.rel.own j m e
   rw [wipe_get, if_neg (fun z => hj z.1)] at h1
   exact ⟨v, h1, h2⟩
 ·by_cases hj : j ∈ vs
  ·exact fo j hj
  ·rw [sl j hj] at e; exact g.rel.no j e
 ·have hj : j ∉ vs := fun hj => by
   rcases (own_ok ok hj).2 with q | ⟨p, q⟩ <;> rw [q] at e <;> cases e
  rw [sl j hj]; exact g.lk.lk j m e
 ·by_cases hj : j ∈ vs
  ·rw [so j hj]; exact hn
  ·rw [sl j hj]; exact g.lk.pm j hp hn
theorem Rel.fxn (R : Rel K Z H σ ρ F) {D : Addr} (h : H D = none) : ∀ q, FX.ob = some q → q.p ≠ D := fun q e z => by
 have := (R.fx q e).1
 rw [z, h] at this
 cases this
theorem Gs.side {D : Addr} {u : HO} (g : Gs K X σ Z H ρ F σ1 Z1 H1 ρ1 F1) (h0 : H D = none) (h1 : ¬ U F1 D) (h2 : Z1 D = none) (h3 : ∀ q, FX.ob = some q → q.p ≠ D) : Gs K X σ Z H ρ F σ1 Z1 (L2.upd H1 D u) ρ1 F1 := by
 refine ⟨⟨fun a w e => ?_, g.rel.len, fun j m e => ?_, g.rel.no, g.rel.dj, fun q e => ⟨by rw [upd_ne (h3 q e)]; exact (g.rel.fx q e).1, (g.rel.fx q e).2⟩⟩, ⟨fun a o e n => ?_, g.st.zz, g.st.zn, g.st.an, fun a o w e => ?_⟩, g.lk, g.sg, g.pg⟩
 ·have : a ≠ D := fun q => by subst q; rw [h2] at e; cases e
  rw [upd_ne this]; exact g.rel.sub a w e
 ·obtain ⟨v, k1, k2⟩ := g.rel.own j m e
  refine ⟨v, k1, k2.keep (Sub.rfl' _) (fun a ha o ho => ?_) fun a ha => (k2.at_ a ha).1⟩
  have : a ≠ D := fun q => h1 ⟨j, q ▸ ha⟩
  rw [upd_ne this]; exact ho
 ·have : a ≠ D := fun q => by subst q; rw [h0] at e; cases e
  rw [upd_ne this]; exact g.st.fr a o e n
 ·have : a ≠ D := fun q => by subst q; rw [h0] at e; cases e
  rw [upd_ne this]; exact g.st.fz a o w e
structure Acc (K : PySem.W.Frag) (Z H : Hp) (F : Nat → List Addr) (D : Addr) (qs : List P) : Prop where
 own : Own K Z H (.l qs) (.ref D) [D]
 ap : ¬ U F D
theorem Acc.step {D : Addr} {qs : List P} (a : Acc K Z H F D qs) (g : Gs K X σ Z H ρ F σ1 Z1 H1 ρ1 F1) : Acc K Z1 H1 F1 D qs := by
 obtain ⟨o, h⟩ := a.own.step (A := U F) (A' := U F1) (fun b hb => by simp at hb; subst hb; exact a.ap) g.st g.rel.sub
 exact ⟨o, h D (by simp)⟩
theorem Acc.zn {D : Addr} {qs : List P} (a : Acc K Z H F D qs) : Z D = none := (a.own.at_ D (by simp)).1
end
def TTt (K : PySem.W.Frag) (X : Cxt) (g : Env → Option (Bool × Env)) : TT := fun σ H Q => ∃ Z ρ F b ρ', Rel K Z H σ ρ F ∧ g ρ = some (b, ρ') ∧ ∀ Z' H' F', Go K X σ Z H ρ F Z' H' ρ' F' → Q b H'
theorem PTs.mono {X : Cx} {e : List Expr} {t t' : TT} (h : PTs X e t) (i : ∀ σ H Q, t' σ H Q → t σ H Q) : PTs X e t' := ⟨fun pins s σ H Q J q => h.run pins s σ H Q J (i σ H Q q)⟩
section
variable {T : Tab} {k : Nat} {cx : Cxt} {X : Cx} {x y z : Expr} {st : Stmt} {pos p2 p3 apos tpos : Pos}
theorem ts_nil : PTs X [] (TTt X.K cx (evt cx .nil)) := PTs.mono pts_nil fun σ H Q ⟨Z, ρ, F, b, ρ', R, e, q⟩ => by
 simp only [evt] at e
 cases e
 exact q Z H F (.refl R)
theorem ts_one {e0 : E} (h : PT X x (TTs X.K cx (ev cx e0))) : PTs X [x] (TTt X.K cx (evt cx (.cons e0 .nil))) := PTs.mono (pts_one h) fun σ H Q ⟨Z, ρ, F, b, ρ', R, e, q⟩ => by
 simp only [evt] at e
 split at e
 ·rename_i b3 ρ4 e4
  cases e
  exact ⟨Z, ρ, F, _, _, R, e4, q⟩
 ·cases e
def compG (X : Cxt) (own : List Nat) (tg : Tg) (it : It) (ts : EL) (e : E) : Ev1 := fun ρ => match evit X it ρ with
 | none => none
 | some (ps, ρ1) => if ownOk X ρ1 own = false then none else match compL (bindT X tg) (evt X ts) (toPg (ev X e)) own ps ρ1 [] with
  | none => none
  | some (qs, ρ2) => some (.l qs, backE ρ1 ρ2 own)
theorem bindT_len {X : Cxt} : (∀ {tg : Tg} {p : P} {ρ ρ' : Env}, bindT X tg p ρ = some ρ' → ρ'.length = ρ.length) := by
 intro tg
 apply Tg.rec (motive_1 := fun tg => ∀ {p : P} {ρ ρ' : Env}, bindT X tg p ρ = some ρ' → ρ'.length = ρ.length) (motive_2 := fun ts => ∀ {ps : List P} {ρ ρ' : Env}, bindTs X ts ps ρ = some ρ' → ρ'.length = ρ.length)
 ·intro i p ρ ρ' e
  unfold bindT sto at e
  split at e
  ·cases e
  ·cases e; exact List.length_set
 ·intro ts ih p ρ ρ' e
  cases p with
  | tuple ps => unfold bindT at e; exact ih e
  | list ps => unfold bindT at e; exact ih e
  | _ => unfold bindT at e; cases e
 ·intro ps ρ ρ' e
  cases ps with
  | nil => unfold bindTs at e; cases e; rfl
  | cons _ _ => unfold bindTs at e; cases e
 ·intro t ts ih ih2 ps ρ ρ' e
  cases ps with
  | nil => unfold bindTs at e; cases e
  | cons p ps =>
   unfold bindTs at e
   split at e
   ·rename_i ρ1 e1
    rw [ih2 e, ih e1]
   ·cases e
theorem lc_chain {w0 : Bool} {own : List Nat} {tg : Tg} {it : It} {ts : EL} {e0 : E} {σ : St} {H : Hp} {Q : VK} (pk : PmOk cx) (hv : ∀ j ∈ tgVs tg, j ∈ own) :
  TEx X.K cx (compG cx own tg it ts e0) σ H Q → tLc (TIt X.K cx w0 (evit cx it)) (TGt X.K cx w0 tg) (TTt X.K cx (evt cx ts)) (TPx X.K cx (toPg (ev cx e0))) own σ H Q := fun ⟨Z, ρ, F, m, ρ', R, e, q⟩ => by
 unfold compG at e
 split at e
 ·cases e
 ·rename_i ps ρ1 e1
  split at e
  ·cases e
  ·rename_i ok
   have ok : ownOk cx ρ1 own = true := by simpa using ok
   split at e
   ·cases e
   ·rename_i qs0 ρ2 e2
    cases e
    refine ⟨Z, ρ, F, ps, ρ1, R, e1, fun Z1 H1 F1 J G g1 wk hold D hD => ?_⟩
    have hz1 : Z1 D = none := z_none g1.rel.sub hD
    have hu1 : ¬ U F1 D := fun hu => by
     obtain ⟨_, u, hu2, _⟩ := g1.rel.mem hu
     rw [hD] at hu2; cases hu2
    refine ⟨fun i m H2 => m + i = ps.length ∧ ∃ Z2 ρ3 F2 acc, Gs X.K cx σ Z1 H1 ρ1 F1 (wipe σ own) Z2 H2 (wipeE ρ3 own) F2 ∧ Acc X.K Z2 H2 F2 D acc ∧ ρ3.length = ρ1.length ∧ compL (bindT cx tg) (evt cx ts) (toPg (ev cx e0)) own (ps.drop i) ρ3 acc = some (qs0, ρ2), ⟨ps.length, rfl, ?_⟩, ?_⟩
    ·obtain ⟨F2, g2, k2⟩ := (Gs.refl g1.rel : Gs X.K cx σ Z1 H1 ρ1 F1 σ Z1 H1 ρ1 F1).wipe pk ok
     have hu2 : ¬ U F2 D := fun h => hu1 (k2 D h)
     exact ⟨Z1, ρ1, F2, [], g2.side hD hu2 hz1 (g1.rel.fxn hD), ⟨.l upd_same hz1 .nil, hu2⟩, rfl, e2⟩
    ·rintro i m H2 ⟨hm, Z2, ρ3, F2, acc, g2, ac, hl3, e3⟩
     have hG := hold _ _ _ _ _ g2
     by_cases hlt : i < ps.length
     ·refine .inr ⟨wk.goes i Z2 H2 hlt hG, fun H3 => m - 1 + (i + 1) = ps.length ∧ ∃ Z2 ρ3 F2 acc, Gs X.K cx σ Z1 H1 ρ1 F1 (wipe σ own) Z2 H3 (wipeE ρ3 own) F2 ∧ Acc X.K Z2 H3 F2 D acc ∧ ρ3.length = ρ1.length ∧ compL (bindT cx tg) (evt cx ts) (toPg (ev cx e0)) own (ps.drop (i + 1)) ρ3 acc = some (qs0, ρ2), fun H3 h => ⟨m - 1, by omega, h⟩, fun v H3 y3 => ?_⟩
      obtain ⟨Z3, p, al, hp3, rp⟩ := wk.yields i Z2 H2 v H3 hlt hG g2.rel.sub y3
      have hd : ps.drop i = p :: ps.drop (i + 1) := by
       rw [List.drop_eq_getElem_cons hlt]
       have : ps[i] = p := by rw [List.getElem?_eq_getElem hlt] at hp3; exact Option.some.inj hp3
       rw [this]
      rw [hd] at e3
      unfold compL at e3
      split at e3
      ·cases e3
      ·rename_i ρ4 e4
       have g3 := g2.alloc al
       have ac3 := ac.step ((Gs.refl g2.rel : Gs X.K cx _ _ _ _ _ _ _ _ _ _).alloc al)
       refine ⟨Z3, _, F2, p, ρ4, g3.rel, rp, e4, fun σ4 F4 g4 k4 => ⟨?_, ?_⟩⟩
       ·have hlen : σ4.length = (wipe σ own).length := by rw [g4.rel.len, bindT_len e4, g3.rel.len]
        have h1 : wipe σ4 own = wipe (wipe σ own) own := wipe_eq hlen fun j hj => k4 j fun z => hj (hv j z)
        rw [h1]
        exact wipe_eq (by rw [wipe_length]) fun j hj => by rw [wipe_get, if_neg (fun z => hj z.1)]
       ·have hw4 : wipe σ4 own = wipe σ own := by
         have hlen : σ4.length = (wipe σ own).length := by rw [g4.rel.len, bindT_len e4, g3.rel.len]
         have h1 : wipe σ4 own = wipe (wipe σ own) own := wipe_eq hlen fun j hj => k4 j fun z => hj (hv j z)
         rw [h1]
         exact wipe_eq (by rw [wipe_length]) fun j hj => by rw [wipe_get, if_neg (fun z => hj z.1)]
        have g5 := g3.trans g4
        have ac4 := ac3.step g4
        split at e3
        ·cases e3
        ·rename_i ρ5 e5
         refine ⟨Z3, ρ4, F4, false, ρ5, g4.rel, e5, fun Z6 H6 F6 g6 => ?_⟩
         dsimp only
         rw [if_neg Bool.false_ne_true]
         obtain ⟨F7, g7, k7⟩ := (g5.trans g6.gs).wipe pk ok
         rw [hw4] at g7
         have ac6 := ac4.step g6.gs
         exact ⟨by omega, Z6, ρ5, F7, acc, g7, ⟨ac6.own, fun h => ac6.ap (k7 D h)⟩, by rw [g6.lk.len, bindT_len e4, wipeE_len, hl3], e3⟩
        ·rename_i ρ5 e5
         refine ⟨Z3, ρ4, F4, true, ρ5, g4.rel, e5, fun Z6 H6 F6 g6 => ?_⟩
         dsimp only
         rw [if_pos rfl]
         split at e3
         ·cases e3
         ·rename_i q1 ρ6 e6
          split at e3
          ·rename_i hlim
           refine ⟨Z6, ρ5, F6, q1, ρ6, g6.rel, e6, fun Z7 H7 F7 v7 g7 rp7 => ?_⟩
           have ac7 := (ac4.step g6.gs).step g7.gs
           have g8 := (g5.trans g6.gs).trans g7.gs
           obtain ⟨F9, g9, k9⟩ := g8.wipe pk ok
           rw [hw4] at g9
           have hu9 : ¬ U F9 D := fun h => ac7.ap (k9 D h)
           obtain ⟨o7, n7⟩ := ac7
           cases o7 with
           | l h7 hz7 r7 =>
            refine ⟨_, h7, ?_, by omega, Z7, ρ6, F9, acc ++ [q1], g9.side hD hu9 hz7 (g1.rel.fxn hD), ⟨.l upd_same hz7 (r7.app (.one rp7)), hu9⟩, by rw [g7.lk.len, g6.lk.len, bindT_len e4, wipeE_len, hl3], e3⟩
            rw [r7.length]
            exact Nat.lt_of_lt_of_le hlim LIM_line
          ·cases e3
     ·have ei : i = ps.length := by omega
      subst ei
      rw [List.drop_length] at e3
      unfold compL at e3
      cases e3
      refine .inl ⟨wk.stops Z2 H2 hG, ?_⟩
      have gb := g2.back g1.rel ok hl3
      refine q Z2 H2 F2 (.ref D) [D] (g1.trans gb) ⟨ac.own, fun a ha => by simp at ha; subst ha; exact ac.ap, fun a ha => by simp at ha; subst ha; exact new_back g1.st hD⟩
def lockX (it : It) (G : Ev1) : Ev1 := fun ρ => match lockE it ρ with
 | none => none
 | some (lk, ρ0) => match G ρ0 with
  | none => none
  | some (f, ρ2) => some (f, unlk lk ρ2)
theorem comp_eq {own : List Nat} {tg : Tg} {it : It} {ts : EL} {e : E} (ρ : Env) : ev cx (.comp own tg it ts e) ρ = lockX it (compG cx own tg it ts e) ρ := by
 simp only [ev, lockX, compG]
 cases lockE it ρ with
 | none => rfl
 | some w =>
  obtain ⟨lk, ρ0⟩ := w
  dsimp only
  cases evit cx it ρ0 with
  | none => rfl
  | some w =>
   obtain ⟨ps, ρ1⟩ := w
   dsimp only
   split
   ·rfl
   ·cases compL (bindT cx tg) (evt cx ts) (toPg (ev cx e)) own ps ρ1 [] with
    | none => rfl
    | some w =>
     obtain ⟨f, ρ2⟩ := w
     cases lk with
     | none => rfl
     | some im => rfl
theorem res_out {K : PySem.W.Frag} {X : Cxt} {σ σ1 : St} {Z H Z1 H1 : Hp} {ρ ρ1 : Env} {F F1 : Nat → List Addr} {j : Nat} {m m2 : M} {v w : V} {d : Addr} {u : HO} {od : Obj} {G : List Addr} (k4 : F1 j = [d]) (r : Res K Z (L2.upd H d (.frz od u)) (U F) Z1 H1 F1 m2 w G) : Res K Z H (U F) Z1 (L2.upd H1 d u) F1 m2 w G := by
 refine ⟨?_, r.ap, fun a ha => ?_⟩
 ·refine r.own.keep (Sub.rfl' _) (fun a ha o ho => ?_) fun a ha => (r.own.at_ a ha).1
  have : a ≠ d := fun z => r.ap a ha ⟨j, by rw [k4, z]; simp⟩
  rw [upd_ne this]; exact ho
 ·rcases r.nw a ha with h | h
  ·exact .inl h
  ·by_cases z : a = d
   ·subst z; rw [upd_same] at h; cases h
   ·rw [upd_ne z] at h; exact .inr h
theorem Gs.go {K : PySem.W.Frag} {X : Cxt} {σ : St} {Z H Z1 H1 : Hp} {ρ ρ1 : Env} {F F1 : Nat → List Addr} (g : Gs K X σ Z H ρ F σ Z1 H1 ρ1 F1) : Go K X σ Z H ρ F Z1 H1 ρ1 F1 := ⟨g.rel, g.st, g.lk⟩
theorem pe_lk {it : It} {G : Ev1} (h : PE X x (TEx X.K cx G)) : PE X x (TEx X.K cx (lockX it G)) := ⟨fun pins s σ H Q J ⟨Z, ρ, F, m0, ρ', R, e, q⟩ => by
 unfold lockX at e
 split at e
 ·cases e
 ·rename_i lk ρ0 e1
  split at e
  ·cases e
  ·rename_i f2 ρ2 e2
   cases e
   rcases lockE_cases e1 with ⟨rfl, rfl⟩ | ⟨j, m, rfl, hj, rfl, hm⟩
   ·exact h.run pins s σ H Q J ⟨Z, _, F, m0, ρ2, R, e2, q⟩
   ·have dk : ∀ v d u, σ[j]? = some (some v) → Lkb X.K Z H m v (F j) d u → isLk (some m) = false → wpAny (model X.prog X.w) X.A (eval x X.env) (EP X pins σ Q) X.xe s := by
     intro v d u hs L nk
     refine (pe_lock h).run pins s σ H Q J ⟨d, u, L.at_, L.mu, fun od => ⟨Z, _, F, m0, ρ2, lock_in R hj hs L od, e2, fun Z' H' F' w G g r => ?_⟩⟩
     obtain ⟨k1, k2, k3, k4⟩ := lock_out hj nk hs L g.gs
     exact ⟨k1, q _ _ _ w G k2.go (res_out (X := cx) (σ := σ) (σ1 := σ) (ρ := ρ) (ρ1 := ρ) (m := m) (v := v) k4 r)⟩
    rcases hm with ⟨ps, rfl⟩ | ⟨kvs, rfl⟩ | ⟨kvs, rfl⟩
    ·exact h.run pins s σ H Q J ⟨Z, _, F, m0, ρ2, list_in R hj, e2, fun Z' H' F' w G g r => q Z' H' F' w G (list_out hj g.gs).go r⟩
    ·obtain ⟨v, h1, h2⟩ := R.own j _ hj
     obtain ⟨d, u, L⟩ := lkb_d h2
     exact dk v d u h1 L rfl
    ·obtain ⟨v, h1, h2⟩ := R.own j _ hj
     obtain ⟨d, u, L⟩ := lkb_u h2
     exact dk v d u h1 L rfl⟩
theorem TEx.eq {G G' : Ev1} (h : ∀ ρ, G' ρ = G ρ) (p : PE X x (TEx X.K cx G)) : PE X x (TEx X.K cx G') := by
 have : G' = G := funext h
 rw [this]; exact p
theorem Good.blk (g : Good T k cx X) (s : Shared) (H : Hp) (scope : Scope) (C : Addr) (cl : List (Str × Addr)) (fp : List Addr) : Good T k cx (X.blk s H scope (compEnvC scope cl C X.env) fp) :=
 ⟨g.calm, g.nd, g.room, g.fns, g.free, g.gs, rfl, ⟨g.at_.P, g.at_.w⟩, g.pm, g.fo, g.fq, g.ms, g.ex, g.ds⟩
theorem snd_comp {w0 : Bool} {own : List Nat} {ownN : List (Str × Nat)} {tg : Tg} {it : It} {ts : EL} {e0 : E} {ifs : List Expr} {scope : Scope} (g : Good T k cx X) (hi : PI X x y (TIt X.K cx w0 (evit cx it))) (ok : BlkOk X.N X.env.scope scope ownN) (ho : own = ownN.map (·.2)) (hv : ∀ j ∈ tgVs tg, j ∈ own)
  (hg : ∀ X' : Cx, Good T k cx X' → X'.N = X.N → X'.K = X.K → X'.env.scope = relS scope X.env.scope → PG X' x (TGt X'.K cx w0 tg)) (ht : ∀ X' : Cx, Good T k cx X' → X'.N = X.N → X'.K = X.K → X'.env.scope = relS scope X.env.scope → PTs X' ifs (TTt X'.K cx (evt cx ts)))
  (he : ∀ X' : Cx, Good T k cx X' → X'.N = X.N → X'.K = X.K → X'.env.scope = relS scope X.env.scope → PE X' z (TEx X'.K cx (ev cx e0))) (hn : notSet y = true) :
  PE X (.ListComp z [⟨x, y, ifs, 0⟩] scope pos) (TEx X.K cx (ev cx (.comp own tg it ts e0))) := by
 subst ho
 refine TEx.eq comp_eq (pe_lk (PE.mono (pe_lc (g := TGt X.K cx w0 tg) (tt := TTt X.K cx (evt cx ts)) (te := TPx X.K cx (toPg (ev cx e0))) g.calm g.nd hi ok (fun s H C cl fp => hg _ (g.blk s H scope C cl fp) rfl rfl rfl) (fun s H C cl fp => ht _ (g.blk s H scope C cl fp) rfl rfl rfl) (fun s H C cl fp => px_of (he _ (g.blk s H scope C cl fp) rfl rfl rfl)) (folded_of hn)) fun σ H Q h => lc_chain g.pm hv h))
def asgG (X : Cxt) (i : Nat) (G : Ev1) : EvS := fun ρ => match G ρ with
 | some (m, ρ1) => match sto X i m ρ1 with
  | some ρ2 => some (.nx, ρ2)
  | none => none
 | none => none
theorem asg_lk {it : It} {G : Ev1} {t : TE} {i : Nat} (pk : PmOk cx) (h : PS X st (tAsg t (gName i))) (ht : ∀ σ H Q, TEx X.K cx G σ H Q → t σ H Q) : PS X st (TSt X.K cx (asgG cx i (lockX it G))) := ⟨fun pins s σ H D J ⟨Z, ρ, F, f, ρ', R, e, q⟩ => by
 unfold asgG at e
 split at e
 ·rename_i m0 ρ3 e0
  split at e
  ·rename_i ρ4 e4
   cases e
   unfold lockX at e0
   split at e0
   ·cases e0
   ·rename_i lk ρ0 e1
    split at e0
    ·cases e0
    ·rename_i f2 ρ2 e2
     cases e0
     rcases lockE_cases e1 with ⟨rfl, rfl⟩ | ⟨j, m, rfl, hj, rfl, hm⟩
     ·exact h.run pins s σ H D J (ht _ _ _ ⟨Z, _, F, m0, ρ2, R, e2, fun Z' H' F' v G g r => q _ _ _ _ (sto_gs pk g.gs r e4)⟩)
     ·have dk : ∀ v d u, σ[j]? = some (some v) → Lkb X.K Z H m v (F j) d u → isLk (some m) = false → wpAny (model X.prog X.w) X.A (exec st X.env) (SP X pins D) X.xe s := by
       intro v d u hs L nk
       refine (ps_lock h).run pins s σ H D J ⟨d, u, L.at_, L.mu, fun od => ht _ _ _ ⟨Z, _, F, m0, ρ2, lock_in R hj hs L od, e2, fun Z' H' F' w G g r => ?_⟩⟩
       obtain ⟨k1, k2, k3, k4⟩ := lock_out hj nk hs L g.gs
       exact ⟨k1, q _ _ _ _ (sto_gs pk k2 (res_out (X := cx) (σ := σ) (σ1 := σ) (ρ := ρ) (ρ1 := ρ) (m := m) (v := v) k4 r) e4)⟩
      rcases hm with ⟨ps, rfl⟩ | ⟨kvs, rfl⟩ | ⟨kvs, rfl⟩
      ·exact h.run pins s σ H D J (ht _ _ _ ⟨Z, _, F, m0, ρ2, list_in R hj, e2, fun Z' H' F' w G g r => q _ _ _ _ (sto_gs pk (list_out hj g.gs) r e4)⟩)
      ·obtain ⟨v, h1, h2⟩ := R.own j _ hj
       obtain ⟨d, u, L⟩ := lkb_d h2
       exact dk v d u h1 L rfl
      ·obtain ⟨v, h1, h2⟩ := R.own j _ hj
       obtain ⟨d, u, L⟩ := lkb_u h2
       exact dk v d u h1 L rfl
  ·cases e
 ·cases e⟩
theorem asg_eq {i : Nat} {e : E} (ρ : Env) : evs cx (.asg (.nm i) e) ρ = asgG cx i (ev cx e) ρ := by
 simp only [evs, asgG]
 cases ev cx e ρ with
 | none => rfl
 | some w =>
  obtain ⟨m, ρ1⟩ := w
  dsimp only
  cases sto cx i m ρ1 <;> rfl
theorem lockX_no (G : Ev1) (ρ : Env) : lockX (.rg .nil) G ρ = G ρ := by
 unfold lockX lockE
 dsimp only
 cases G ρ with
 | none => rfl
 | some w => rfl
def notComp : Expr → Bool
 | .ListComp _ _ _ _ => false
 | .SetComp _ _ _ _ => false
 | .DictComp _ _ _ _ _ => false
 | _ => true
theorem swaps_of {o : Option Expr} {l : Nat} {env : PySem.Env} (h : notComp x = true) : swapsWith x o l env = pure false := by
 cases x <;> first | rfl | cases h
theorem snd_set {i : Nat} {e : E} {n : Str} (g : Good T k cx X) (h : LocG X i n) (hx : PE X x (TEx X.K cx (ev cx e))) (hc : swapsWith x (some (.Name n p2)) pos.line X.env = pure false) : PS X (.Assign [.Name n p2] x pos) (TSt X.K cx (evs cx (.asg (.nm i) e))) := by
 have h1 := asg_lk (cx := cx) (it := .rg .nil) g.pm (ps_set (pos := pos) (pos' := p2) g.nd h.ix h.lc hx hc h.fn) (fun _ _ _ q => q)
 refine TSt.eq (fun ρ => ?_) h1
 rw [asg_eq]
 unfold asgG
 rw [lockX_no]
theorem snd_setLc {w0 : Bool} {own : List Nat} {ownN : List (Str × Nat)} {tg : Tg} {it : It} {ts : EL} {e0 : E} {ifs : List Expr} {scope : Scope} {i : Nat} {n : Str} (g : Good T k cx X) (hloc : locB X.N X.env.scope i n = true) (hi : PI X x y (TIt X.K cx w0 (evit cx it))) (ok : BlkOk X.N X.env.scope scope ownN) (ho : own = ownN.map (·.2)) (hv : ∀ j ∈ tgVs tg, j ∈ own)
  (hg : ∀ X' : Cx, Good T k cx X' → X'.N = X.N → X'.K = X.K → X'.env.scope = relS scope X.env.scope → PG X' x (TGt X'.K cx w0 tg)) (ht : ∀ X' : Cx, Good T k cx X' → X'.N = X.N → X'.K = X.K → X'.env.scope = relS scope X.env.scope → PTs X' ifs (TTt X'.K cx (evt cx ts)))
  (he : ∀ X' : Cx, Good T k cx X' → X'.N = X.N → X'.K = X.K → X'.env.scope = relS scope X.env.scope → PE X' z (TEx X'.K cx (ev cx e0))) (hn : notSet y = true)
  (hk : X.env.scope.kind = .function) (hl : (p2.line == p3.line) = true) (ha : (scope.names.any fun (n', k) => n' == n && (k == .local || k == .cell)) = false) :
  PS X (.Assign [.Name n p2] (.ListComp z [⟨x, y, ifs, 0⟩] scope p3) pos) (TSt X.K cx (evs cx (.asg (.nm i) (.comp own tg it ts e0)))) := by
 subst ho
 unfold locB at hloc
 rw [Bool.and_eq_true, decide_eq_true_eq, decide_eq_true_eq] at hloc
 have h1 := ps_setLc (g := TGt X.K cx w0 tg) (tt := TTt X.K cx (evt cx ts)) (te := TPx X.K cx (toPg (ev cx e0))) (spos := pos) g.calm g.nd hloc.1 hloc.2 (sw_true (l := pos.line) hk hloc.2 hl ha) hi ok (fun s H C cl fp => hg _ (g.blk s H scope C cl fp) rfl rfl rfl) (fun s H C cl fp => ht _ (g.blk s H scope C cl fp) rfl rfl rfl) (fun s H C cl fp => px_of (he _ (g.blk s H scope C cl fp) rfl rfl rfl)) (folded_of hn)
 refine TSt.eq (fun ρ => ?_) (asg_lk (cx := cx) (it := it) (G := compG cx (ownN.map (·.2)) tg it ts e0) g.pm h1 fun σ H Q h => lc_chain g.pm hv h)
 rw [asg_eq]
 unfold asgG
 rw [comp_eq]
end
end Mn
end
section
set_option maxHeartbeats 200000
namespace Mn
open PySem L2 PySem.Spec
variable [WW] [FX]
section
variable {K : PySem.W.Frag} {X : Cxt} {σ σ1 σ2 : St} {Z H Z1 H1 Z2 H2 : Hp} {ρ ρ1 ρ2 : Env} {F F1 F2 : Nat → List Addr} {i : Nat} {m m' : M} {v : V}
theorem Go.mut {a : Addr} {u u' : HO} {G : List Addr} (g : Go K X σ Z H ρ F Z1 H1 ρ1 F1) (e : slot ρ1 i = some m) (nk : isLk (some m) = false) (hs : σ[i]? = some (some v)) (ha : a ∈ F1 i) (hu : H1 a = some u) (nf : ∀ o' w, u ≠ .frz o' w)
  (o : Own K Z1 (L2.upd H1 a u') m' v G) (d : ∀ x ∈ G, x ∈ F1 i ∨ H1 x = none) : Go K X σ Z H ρ F Z1 (L2.upd H1 a u') (ρ1.set i (some m')) (fset F1 i G) := by
 have za : Z1 a = none := (g.rel.mem ⟨i, ha⟩).1
 have s : Sub Z1 (L2.upd H1 a u') := fun b w h => by
  have : b ≠ a := fun q => by subst q; rw [za] at h; cases h
  rw [upd_ne this]; exact g.rel.sub b w h
 have st : Step Z1 H1 Z1 (L2.upd H1 a u') (· ∈ F1 i) (· ∈ F1 i) := ⟨fun b w h n => by
  have : b ≠ a := fun q => n (q ▸ ha)
  rw [upd_ne this]; exact h, Sub.rfl' _, fun _ _ h => .inl h, fun _ h => .inl h, fun b o' w h => by
  by_cases q : b = a
  ·subst q; rw [hu] at h; cases h; exact (nf _ _ rfl).elim
  ·rw [upd_ne q]; exact h⟩
 obtain ⟨k1, k2⟩ := g.rel.upd (m := m') e st s hs o d
 exact ⟨k1, g.st.trans k2, g.lk.trans (lk_set e nk)⟩
end
section
variable {T : Tab} {k : Nat} {cx : Cxt} {X : Cx} {x y z : Expr} {st : Stmt} {pos p2 p3 apos tpos : Pos}
def notTupE : Expr → Bool
 | .Tuple _ _ _ => false
 | _ => true
theorem swapped_none {xs : List Expr} {j : Nat} {env : PySem.Env} (h : notTupE x = true) : swappedStores [.Tuple xs j p2] x env = pure none := by
 cases x <;> first | rfl | cases h
def noSwap (sc : Scope) (xs : List Expr) : Bool := xs.any fun x => match x with
 | .Name n _ => !(sc.names.lookup n == some .local)
 | _ => false
theorem filterMap_lt {α β : Type} {f : α → Option β} : ∀ {l : List α} {x : α}, x ∈ l → f x = none → (l.filterMap f).length < l.length
 | [], _, h, _ => by cases h
 | y :: l, x, h, e => by
  have hl := List.length_filterMap_le f l
  rcases List.mem_cons.mp h with q | q
  ·subst q
   rw [List.filterMap_cons_none e, List.length_cons]
   omega
  ·have := filterMap_lt q e
   rw [List.filterMap_cons, List.length_cons]
   split
   ·omega
   ·rw [List.length_cons]; omega
theorem swapped_none2 {xs vs : List Expr} {j k : Nat} {env : PySem.Env} (h : noSwap env.scope xs = true) : swappedStores [.Tuple xs j p2] (.Tuple vs k p3) env = pure none := by
 unfold swappedStores
 dsimp only
 split
 ·rfl
 ·split
  ·rfl
  ·rw [if_pos]
   rw [Bool.or_eq_true]
   refine .inl ?_
   rw [bne_iff_ne]
   obtain ⟨x, hx, e⟩ := List.any_eq_true.mp h
   refine Nat.ne_of_lt (filterMap_lt hx ?_)
   split at e
   ·rename_i n p
    dsimp only
    rw [if_neg]
    intro c
    rw [Bool.and_eq_true] at c
    have c1 : (env.scope.names.lookup n == some NameKind.local) = true := c.1
    rw [c1] at e
    cases e
   ·cases e
def tupOk (sc : Scope) (xs : List Expr) (z : Expr) : Bool := notTupE z || noSwap sc xs
theorem swapped_ok {xs : List Expr} {j : Nat} {env : PySem.Env} (h : tupOk env.scope xs x = true) : swappedStores [.Tuple xs j p2] x env = pure none := by
 unfold tupOk at h
 cases hn : notTupE x with
 | true => exact swapped_none hn
 | false =>
  rw [hn, Bool.false_or] at h
  cases x <;> first | (cases hn; done) | exact swapped_none2 h
theorem snd_asgT {ts : List Tg} {e : E} {xs : List Expr} {j : Nat} (g : Good T k cx X) (hx : PE X x (TEx X.K cx (ev cx e))) (ht : PG X (.Tuple xs j p2) (TGt X.K cx false (.tp ts))) (hc : notComp x = true) (hn : tupOk X.env.scope xs x = true) : PS X (.Assign [.Tuple xs j p2] x pos) (TSt X.K cx (evs cx (.asg (.tp ts) e))) :=
 PS.mono (ps_asg hx ht (by
  have h := swaps_of (x := x) (o := some (Expr.Tuple xs j p2)) (l := pos.line) (env := X.env) hc
  rw [← h]; rfl) (swapped_ok hn) (by rw [assignEach_cons rfl]; rfl)) fun D σ H ⟨Z, ρ, F, f, ρ', R, e, q⟩ => by
  simp only [evs] at e
  split at e
  ·rename_i m ρ1 e1
   split at e
   ·rename_i h1; cases h1
   ·rename_i p h2
    obtain ⟨ρ2, e2, e3⟩ := Option.map_eq_some_iff.mp e
    cases e3
    refine ⟨Z, ρ, F, _, ρ1, R, e1, fun Z1 H1 F1 v G g1 r => ?_⟩
    obtain ⟨ow, ap, nw⟩ := r
    cases ow with
    | v rp => exact ⟨Z1, ρ1, F1, p, _, g1.rel, rp.b, e2, fun σ2 F2 g2 _ => q σ2 Z1 H1 F2 (g1.gs.trans g2)⟩
   ·cases e
  ·cases e
theorem tps_tup {es : EL} {xs : List Expr} {j : Nat} (h : PA X xs (TPs X.K cx (evp cx es))) (hl : elLen es ≤ 1000) : PE X (.Tuple xs j pos) (fun σ H Q => ∃ Z ρ F ps ρ', Rel X.K Z H σ ρ F ∧ evp cx es ρ = some (ps, ρ') ∧ ∀ Z' H' F' vs p, Go X.K cx σ Z H ρ F Z' H' ρ' F' → RepL X.K Z' vs ps → Z' p = some (.tup vs) → Q (.ref p) H') :=
 PE.mono (pe_tup h) fun σ H Q ⟨Z, ρ, F, ps, ρ', R, e, q⟩ => ⟨Z, ρ, F, ps, ρ', R, e, fun Z1 H1 F1 vs g1 r1 => ⟨by rw [r1.length, evp_len e]; exact lim_le (Nat.le_trans hl (by decide)), fun p hp => by
  have zz : Sub Z1 (L2.upd Z1 p (.tup vs)) := sub_upd (z_none g1.rel.sub hp)
  exact q _ _ F1 vs p (g1.alloc (.imm g1.rel.sub hp)) (r1.sub zz) upd_same⟩⟩
theorem lst_case {K : PySem.W.Frag} {Z H : Hp} {ps : List P} {v : V} {G : List Addr} (o : Own K Z H (.l ps) v G) : ∃ a vs, v = .ref a ∧ G = [a] ∧ H a = some (.lst vs) ∧ Z a = none ∧ RepL K Z vs ps := by
 cases o with
 | l h hz r => exact ⟨_, _, rfl, rfl, h, hz, r⟩
theorem dic_case {K : PySem.W.Frag} {Z H : Hp} {ps : List (Key × P)} {v : V} {G : List Addr} (o : Own K Z H (.d ps) v G) : ∃ a vs, v = .ref a ∧ G = [a] ∧ H a = some (.dK vs) ∧ Z a = none ∧ DRel K Z vs ps := by
 cases o with
 | d h hz r => exact ⟨_, _, rfl, rfl, h, hz, r⟩
theorem dict_case {K : PySem.W.Frag} {Z H : Hp} {ps : List (List Key × P)} {v : V} {G : List Addr} (o : Own K Z H (.t ps) v G) : ∃ a vs, v = .ref a ∧ G = [a] ∧ H a = some (.dT vs) ∧ Z a = none ∧ TRel K Z vs ps := by
 cases o with
 | t h hz r => exact ⟨_, _, rfl, rfl, h, hz, r⟩
theorem nst_case {K : PySem.W.Frag} {Z H : Hp} {ps : List (Key × M)} {v : V} {G : List Addr} (o : Own K Z H (.n ps) v G) : ∃ a vs G1, v = .ref a ∧ G = a :: G1 ∧ H a = some (.dK vs) ∧ Z a = none ∧ OwnN K Z H ps vs G1 ∧ a ∉ G1 := by
 cases o with
 | n h hz r q => exact ⟨_, _, _, rfl, rfl, h, hz, r, q⟩
theorem valV_getA {K : PySem.W.Frag} {Z H : Hp} {ms : List (Key × M)} {vs : List (Key × V)} {G : List Addr} (r : OwnN K Z H ms vs G) : vs.length = ms.length := by
 suffices ∀ {ms : List (Key × M)} {vs : List (Key × V)} {G : List Addr}, OwnN K Z H ms vs G → vs.length = ms.length from this r
 intro ms
 induction ms with
 | nil => intro vs G r; cases r; rfl
 | cons m ms ih =>
  intro vs G r
  cases r with
  | cons _ _ _ r _ => rw [List.length_cons, List.length_cons, ih r]
theorem tRel_len {K : PySem.W.Frag} {Z : Hp} {vs : List (List Key × V)} {ps : List (List Key × P)} (r : TRel K Z vs ps) : vs.length = ps.length := Paired.length r
omit [WW] [FX] in
theorem putA_none {α : Type} {kvs : List (Key × α)} {k : Key} {x : α} (h : getA kvs k = none) : putA kvs k x = kvs ++ [(k, x)] := by
 unfold putA
 rw [if_neg]
 intro q
 obtain ⟨kv, h1, h2⟩ := List.any_eq_true.mp q
 unfold getA at h
 rw [Option.map_eq_none_iff, List.find?_eq_none] at h
 exact h kv h1 h2
theorem putK_none {kvs : List (Key × V)} {k : Key} {x : V} (h : valV kvs k = none) : putK kvs k x = kvs ++ [(k, x)] := by
 unfold putK
 rw [if_neg]
 rw [valV_any, h]
 exact Bool.false_ne_true
def DPutU (K : PySem.W.Frag) (H : Hp) (a : Addr) (y v : V) (H' : Hp) : Prop := ∃ vs k b, H a = some (TupO a vs) ∧ KeysAt K H vs ∧ y = .ref b ∧ NkAt K H k b ∧ vs.length < sizeLine ∧ H' = L2.upd H a (TupO a (putU vs k b v))
def sDPutA (K : PySem.W.Frag) (td ty tv : TE) : TS := fun D σ H => tv σ H fun v H1 => td σ H1 fun x H2 => ty σ H2 fun y H3 => ∃ a H', x = .ref a ∧ (DPut H3 a y v H' ∨ DPutU K H3 a y v H') ∧ D.nx σ H'
theorem ps_dputA {o i value : Expr} {td ty tv : TE} {pos' : Pos} (hu : X.A.units + 16 < cLine) (hw : AtW X) (ho : PE X o td) (hi : PE X i ty) (hv : PE X value tv) (hs : swapsWith value (some (.Subscript o i pos')) pos.line X.env = pure false) :
  PS X (.Assign [.Subscript o i pos'] value pos) (sDPutA X.K td ty tv) := by
 refine ⟨fun pins s σ H D I h => ?_⟩
 refine wpAny_Assign_Subscript (thn (hv.run pins s σ H _ I h) fun r s1 ⟨v, H1, I1, rv, q1⟩ => thn (ho.run pins s1 σ H1 _ I1 q1) fun u s2 ⟨x, H2, I2, rx, q2⟩ => thn (hi.run pins s2 σ H2 _ I2 q2) fun iv s3 ⟨y, H3, I3, ry, a, H', ex, g, q3⟩ => ?_) hs
 subst ex
 obtain rfl : u = Value.ref a := rx
 rcases g with g | ⟨vs, k, b, k1, k2, k3, k4, k5, k6⟩
 ·exact d_setItem (by omega) I3 g ry rv fun s4 I4 => ⟨σ, H', I4, q3⟩
 ·subst k3 k6
  cases ry
  exact uu_set hu I3 hw k1 k2 k4 rv k5 fun s4 I4 => ⟨σ, _, I4, q3⟩
theorem uno_case {K : PySem.W.Frag} {Z H : Hp} {ps : List (NK × P)} {v : V} {G : List Addr} (o : Own K Z H (.u ps) v G) : ∃ a vs, v = .ref a ∧ G = [a] ∧ H a = some (TupO a vs) ∧ Z a = none ∧ URel K Z vs ps := by
 cases o with
 | uo h hz r => exact ⟨_, _, rfl, rfl, h, hz, r⟩
theorem putM_ok {K : PySem.W.Frag} {X : Cxt} {σ : St} {Z H Z1 H1 : Hp} {ρ ρ1 : Env} {F F1 : Nat → List Addr} {i : Nat} {c c2 : M} {p xv : P} {ov yv w : V} (g : Go K X σ Z H ρ F Z1 H1 ρ1 F1) (e : slot ρ1 i = some c) (hs : σ[i]? = some (some ov)) (hp : Rep K Z1 yv p) (hx : Rep K Z1 w xv) (e5 : putM c p xv = some c2) :
  (∃ a vs n j, c = .l vs ∧ ov = .ref a ∧ yv = .int n ∧ ∃ ws, H1 a = some (.lst ws) ∧ ixN ws.length n = some j ∧ ∃ F2, Go K X σ Z H ρ F Z1 (L2.upd H1 a (.lst (ws.set j w))) (ρ1.set i (some c2)) F2) ∨
  ((∀ vs, c ≠ .l vs) ∧ ∃ a H2, ov = .ref a ∧ (DPut H1 a yv w H2 ∨ DPutU K H1 a yv w H2) ∧ ∃ F2, Go K X σ Z H ρ F Z1 H2 (ρ1.set i (some c2)) F2) := by
 obtain ⟨ov2, h1, h2⟩ := g.rel.own i c e
 rw [hs] at h1; cases h1
 generalize hG : F1 i = G at h2
 unfold putM at e5
 split at e5
 ·rename_i ps
  split at e5
  ·rename_i n
   obtain ⟨j, hj, e6⟩ := Option.map_eq_some_iff.mp e5
   subst e6
   obtain ⟨a, vs, rfl, hG2, h, hz, r⟩ := lst_case h2
   subst hG2
   cases hp
   refine .inl ⟨a, ps, n, j, rfl, rfl, rfl, vs, h, by rw [r.length]; exact hj, _, g.mut (u := .lst vs) e rfl hs (by rw [hG]; simp) h (fun _ _ z => by cases z) (.l upd_same hz (r.set hx j)) (fun x hx => .inl (by rw [hG]; exact hx))⟩
  ·cases e5
 ·rename_i kvs
  refine .inr ⟨(fun vs z => by cases z), ?_⟩
  split at e5
  ·rename_i k ek
   split at e5
   ·rename_i hl
    cases e5
    obtain ⟨a, vs, rfl, hG2, h, hz, r⟩ := dic_case h2
    subst hG2
    obtain ⟨rfl, ko, _⟩ := keyOf_v ek hp
    exact ⟨a, _, rfl, .inl (DPut.k h (by rw [dRel_len r]; exact Nat.lt_of_lt_of_le hl LIM_line)), _, g.mut (u := .dK vs) e rfl hs (by rw [hG]; simp) h (fun _ _ z => by cases z) (.d upd_same hz (dRel_put r ko hx)) (fun x hx => .inl (by rw [hG]; exact hx))⟩
   ·cases e5
  ·cases e5
 ·rename_i kvs
  refine .inr ⟨(fun vs z => by cases z), ?_⟩
  split at e5
  ·rename_i k ek
   obtain ⟨a, vs, G1, rfl, hG2, h, hz, r, na⟩ := nst_case h2
   subst hG2
   obtain ⟨rfl, ko, _⟩ := keyOf_v ek hp
   have gv := ownN_get k r
   have st : Step Z1 H1 Z1 (L2.upd H1 a (.dK (putK vs k w))) (fun b => b = a) (fun b => b = a) := ⟨fun b u hb n => by rw [upd_ne n]; exact hb, Sub.rfl' _, fun _ _ h => .inl h, fun _ h => .inl h, fun b o' u hb => by
    by_cases q : b = a
    ·subst q; rw [h] at hb; cases hb
    ·rw [upd_ne q]; exact hb⟩
   have sb : Sub Z1 (L2.upd H1 a (.dK (putK vs k w))) := fun b u hb => by
    have : b ≠ a := fun q => by subst q; rw [hz] at hb; cases hb
    rw [upd_ne this]; exact g.rel.sub b u hb
   obtain ⟨r2, _⟩ := r.step (A := fun b => b = a) (A' := fun b => b = a) (fun b hb q => na (q ▸ hb)) st sb
   split at e5
   ·rename_i q0 ek2
    have hl : kvs.length < LIM := by
     by_cases hl : kvs.length < LIM
     ·exact hl
     ·rw [if_neg hl] at e5; cases e5
    rw [if_pos hl] at e5
    cases e5
    have hl : vs.length < sizeLine := by rw [valV_getA r]; exact Nat.lt_of_lt_of_le hl LIM_line
    obtain ⟨v0, Gk, k1, k2, k3, k4⟩ := ownN_upd (A' := fun b => b ∈ ([] : List Addr)) k r2 ek2
    have hgk : Gk = [] := by cases k2; rfl
    subst hgk
    obtain ⟨G3, r3, k5⟩ := k4 (Step.refl _) sb (.v hx) (fun _ h => by cases h)
    exact ⟨a, _, rfl, .inl (DPut.k h hl), _, g.mut (u := .dK vs) e rfl hs (by rw [hG]; simp) h (fun _ _ z => by cases z) (.n upd_same hz r3 (fun hb => by
     rcases k5 a hb with z | z
     ·exact na z
     ·cases z)) (fun x hx => by
     rcases List.mem_cons.mp hx with z | z
     ·subst z; exact .inl (by rw [hG]; simp)
     ·rcases k5 x z with z | z
      ·exact .inl (by rw [hG]; simp [z])
      ·cases z)⟩
   ·rename_i ek2
    split at e5
    ·rename_i hl
     cases e5
     rw [ek2] at gv
     obtain ⟨G3, r3, k5⟩ := ownN_new (G := G1) r2 ko ek2 (.v hx) (fun _ h => by cases h)
     refine ⟨a, _, rfl, .inl (DPut.k h (by rw [valV_getA r]; exact Nat.lt_of_lt_of_le hl LIM_line)), _, g.mut (u := .dK vs) e rfl hs (by rw [hG]; simp) h (fun _ _ z => by cases z) (by
      rw [putA_none ek2]
      refine .n (vs := vs ++ [(k, w)]) ?_ hz ?_ (fun hb => by
       rcases k5 a hb with z | z
       ·exact na z
       ·cases z)
      ·rw [upd_same, putK_none gv]
      ·exact r3) (fun x hx => by
      rcases List.mem_cons.mp hx with z | z
      ·subst z; exact .inl (by rw [hG]; simp)
      ·rcases k5 x z with z | z
       ·exact .inl (by rw [hG]; simp [z])
       ·cases z)⟩
    ·cases e5
   ·cases e5
  ·cases e5
 ·rename_i kvs
  refine .inr ⟨(fun vs z => by cases z), ?_⟩
  split at e5
  ·rename_i k ek
   split at e5
   ·rename_i hl
    cases e5
    obtain ⟨a, vs, rfl, hG2, h, hz, r⟩ := uno_case h2
    subst hG2
    obtain ⟨b, rfl, hb, _⟩ := nkOf_v ek hp
    exact ⟨a, _, rfl, .inr ⟨vs, k, b, h, uRel_at g.rel.sub r, rfl, hb.sub g.rel.sub, by rw [Paired.length r]; exact Nat.lt_of_lt_of_le hl LIM_line, rfl⟩, _, g.mut (u := TupO a vs) e rfl hs (by rw [hG]; simp) h (fun _ _ z => by cases z) (.uo upd_same hz (uRel_put r hb hx)) (fun x hx => .inl (by rw [hG]; exact hx))⟩
   ·cases e5
  ·cases e5
 ·cases e5
theorem swaps_sub {o i : Expr} {l : Nat} {env : PySem.Env} : swapsWith x (some (.Subscript o i p2)) l env = pure false := by
 cases x <;> rfl
theorem some_of {ρ : Env} {i : Nat} {b : Bool} (h : ¬ (slot ρ i).isSome = false) : ∃ m, slot ρ i = some m := by
 cases e : slot ρ i with
 | none => rw [e] at h; exact (h rfl).elim
 | some m => exact ⟨m, rfl⟩
theorem snd_sto {i : Nat} {kx e : E} (g : Good T k cx X) (ho : PE X x (tVr i)) (hk : PE X y (TEx X.K cx (ev cx kx))) (he : PE X z (TEx X.K cx (ev cx e))) (hnt : notTupE z = true) (hns : notSlice y = true) :
  PS X (.Assign [.Subscript x y p2] z pos) (TSt X.K cx (evs cx (.sto i kx e))) := ⟨fun pins s σ H D J ⟨Z, ρ, F, f, ρ', R, e0, q⟩ => by
 simp only [evs] at e0
 split at e0
 ·cases e0
 rename_i hsome
 obtain ⟨m0, em0⟩ := some_of (b := true) hsome
 obtain ⟨ov, hs, _⟩ := R.own i m0 em0
 split at e0
 ·rename_i m ρ1 e1
  split at e0
  ·rename_i xv e2
   split at e0
   ·rename_i p ρ2 e3
    split at e0
    ·rename_i c e4
     split at e0
     ·rename_i c2 e5
      cases e0
      have hp1 : toPg (ev cx e) ρ = some (xv, ρ1) := by unfold toPg; rw [e1]; simp only [e2]
      have fin : ∀ {Z1 H1 : Hp} {F1 : Nat → List Addr} {w : V} {Z2 H2 : Hp} {F2 : Nat → List Addr} {v2 : V} {G2 : List Addr}, Go X.K cx σ Z H ρ F Z1 H1 ρ1 F1 → Rep X.K Z1 w xv → Go X.K cx σ Z1 H1 ρ1 F1 Z2 H2 ρ2 F2 → Res X.K Z1 H1 (U F1) Z2 H2 F2 (.v p) v2 G2 →
        (∃ a vs n j, c = .l vs ∧ ov = .ref a ∧ v2 = .int n ∧ ∃ ws, H2 a = some (.lst ws) ∧ ixN ws.length n = some j ∧ D.nx σ (L2.upd H2 a (.lst (ws.set j w)))) ∨ ((∀ vs, c ≠ .l vs) ∧ ∃ a H3, ov = .ref a ∧ (DPut H2 a v2 w H3 ∨ DPutU X.K H2 a v2 w H3) ∧ D.nx σ H3) := by
       intro Z1 H1 F1 w Z2 H2 F2 v2 G2 g1 rw1 g2 r2
       obtain ⟨ow, _, _⟩ := r2
       cases ow with
       | v rp =>
        rcases putM_ok (g1.trans g2) e4 hs rp (rw1.sub g2.st.zz) e5 with ⟨a, vs, n, j, k1, k2, k3, ws, k4, k5, F3, k6⟩ | ⟨k1, a, H3, k2, k3, F3, k4⟩
        ·exact .inl ⟨a, vs, n, j, k1, k2, k3, ws, k4, k5, q _ _ _ _ k6.gs⟩
        ·exact .inr ⟨k1, a, H3, k2, k3, q _ _ _ _ k4.gs⟩
      by_cases hl : ∃ vs, c = .l vs
      ·obtain ⟨vs, hl⟩ := hl
       have hsw : swapsWithSole [.Subscript x y p2] z pos.line X.env = pure false := by
        have h := swaps_sub (x := z) (o := x) (i := y) (p2 := p2) (l := pos.line) (env := X.env)
        rw [← h]; rfl
       have hsp : swappedStores [.Subscript x y p2] z X.env = pure none := by cases z <;> first | rfl | cases hnt
       have hpg : PG X (.Subscript x y p2) (gSub (tVr i) (TEx X.K cx (ev cx kx)) rSetL) := pg_sub ho hk set_list (fun v => by
        cases y <;> first | rfl | cases hns)
       refine (ps_asg (px_of he) hpg hsw hsp (by rw [assignEach_cons rfl]; rfl)).run pins s σ H D J ⟨Z, ρ, F, xv, ρ1, R, hp1, fun Z1 H1 F1 w g1 rw1 => ⟨ov, hs, g1.rel.fx, Z1, ρ1, F1, .v p, _, g1.rel, e3, fun Z2 H2 F2 v2 G2 g2 r2 => ?_⟩⟩
       rcases fin g1 rw1 g2 r2 with ⟨a, vs, n, j, k1, k2, k3, ws, k4, k5, k6⟩ | ⟨k1, _⟩
       ·exact ⟨a, ws, n, j, k2, k3, k4, k5, k6⟩
       ·exact (k1 vs hl).elim
      ·refine (ps_dputA (pos := pos) (pos' := p2) (by have := g.room.units; omega) g.at_ ho hk (px_of he) swaps_sub).run pins s σ H D J ⟨Z, ρ, F, xv, ρ1, R, hp1, fun Z1 H1 F1 w g1 rw1 => ⟨ov, hs, g1.rel.fx, Z1, ρ1, F1, .v p, _, g1.rel, e3, fun Z2 H2 F2 v2 G2 g2 r2 => ?_⟩⟩
       rcases fin g1 rw1 g2 r2 with ⟨a, vs, n, j, k1, _⟩ | ⟨k1, a, H3, k2, k3, k4⟩
       ·exact (hl ⟨_, k1⟩).elim
       ·exact ⟨a, H3, k2, k3, k4⟩
     ·cases e0
    ·cases e0
   ·cases e0
  ·cases e0
 ·cases e0⟩
theorem snd_stt {i : Nat} {ks : EL} {e : E} {ys : List Expr} {j : Nat} (g : Good T k cx X) (ho : PE X x (tVr i)) (hk : PA X ys (TPs X.K cx (evp cx ks))) (he : PE X z (TEx X.K cx (ev cx e))) (hl : elLen ks ≤ 1000) :
  PS X (.Assign [.Subscript x (.Tuple ys j p3) p2] z pos) (TSt X.K cx (evs cx (.stt i ks e))) := PS.mono (ps_dput (pos' := p2) (by have := g.room.units; omega) ho (tps_tup hk hl) (px_of he) swaps_sub) fun D σ H ⟨Z, ρ, F, f, ρ', R, e0, q⟩ => by
 simp only [evs] at e0
 split at e0
 ·cases e0
 rename_i hsome
 obtain ⟨m0, em0⟩ := some_of (b := true) hsome
 obtain ⟨ov, hs, _⟩ := R.own i m0 em0
 split at e0
 ·rename_i m ρ1 e1
  split at e0
  ·rename_i xv e2
   split at e0
   ·rename_i ps ρ2 e3
    split at e0
    ·rename_i kvs kk e4 e5
     split at e0
     ·rename_i hlim
      cases e0
      refine ⟨Z, ρ, F, xv, ρ1, R, by unfold toPg; rw [e1]; simp only [e2], fun Z1 H1 F1 w g1 rw1 => ⟨ov, hs, g1.rel.fx, Z1, ρ1, F1, ps, _, g1.rel, e3, fun Z2 H2 F2 vs b g2 rl hb => ?_⟩⟩
      obtain ⟨rfl, ko, _⟩ := keysAll_v e5 rl
      have gg := g1.trans g2
      obtain ⟨ov2, h1, h2⟩ := gg.rel.own i _ e4
      rw [hs] at h1; cases h1
      generalize hG : F2 i = G at h2
      obtain ⟨a, vs2, rfl, hG2, h, hz, r⟩ := dict_case h2
      subst hG2
      exact ⟨a, _, rfl, DPut.t h (gg.rel.sub _ _ hb) (by rw [tRel_len r]; exact Nat.lt_of_lt_of_le hlim LIM_line), q _ _ _ _ (gg.mut (u := .dT vs2) e4 rfl hs (by rw [hG]; simp) h (fun _ _ z => by cases z) (.t upd_same hz (tRel_put r ko (rw1.sub g2.st.zz))) (fun x hx => .inl (by rw [hG]; exact hx))).gs⟩
     ·cases e0
    ·cases e0
   ·cases e0
  ·cases e0
 ·cases e0
def sNPut (td ty tv : TE) : TS := fun D σ H => tv σ H fun v H1 => td σ H1 fun x H2 => ty σ H2 fun y H3 => ∃ (a : Addr) (vs : List (Option Key × V)) (k : Option Key), x = .ref a ∧ H3 a = some (NoneO a vs) ∧ vs.length < sizeLine ∧ y = okV k ∧ D.nx σ (L2.upd H3 a (NoneO a (putK vs k v)))
theorem ps_nput {o i value : Expr} {td ty tv : TE} {pos' : Pos} (hw : AtW X) (ho : PE X o td) (hi : PE X i ty) (hv : PE X value tv) (hs : swapsWith value (some (.Subscript o i pos')) pos.line X.env = pure false) :
  PS X (.Assign [.Subscript o i pos'] value pos) (sNPut td ty tv) := by
 refine ⟨fun pins s σ H D I h => ?_⟩
 refine wpAny_Assign_Subscript (thn (hv.run pins s σ H _ I h) fun r s1 ⟨v, H1, I1, rv, q1⟩ => thn (ho.run pins s1 σ H1 _ I1 q1) fun u s2 ⟨x, H2, I2, rx, q2⟩ => thn (hi.run pins s2 σ H2 _ I2 q2) fun iv s3 ⟨y, H3, I3, ry, a, vs, k, ex, e, hl, ey, q3⟩ => ?_) hs
 subst ex ey
 obtain rfl : u = Value.ref a := rx
 exact nn_set I3 hw e hl ry rv fun s4 I4 => ⟨σ, _, I4, q3⟩
theorem nRel_len {K : PySem.W.Frag} {Z : Hp} {vs : List (Option Key × V)} {ps : List (RK × P)} (r : NRel K Z vs ps) : vs.length = ps.length := Paired.length r
theorem non_case {K : PySem.W.Frag} {Z H : Hp} {ps : List (RK × P)} {v : V} {G : List Addr} (h0 : ps.isEmpty = false) (h1 : (ps.all fun kv => rkN kv.1) = true) (o : Own K Z H (.r ps) v G) : ∃ a vs, v = .ref a ∧ G = [a] ∧ H a = some (NoneO a vs) ∧ Z a = none ∧ NRel K Z vs ps := by
 cases o with
 | rn h hz r => exact ⟨_, _, rfl, rfl, h, hz, r⟩
theorem snd_stn {i : Nat} {kx e : E} (g : Good T k cx X) (ho : PE X x (tVr i)) (hk : PE X y (TEx X.K cx (ev cx kx))) (he : PE X z (TEx X.K cx (ev cx e))) :
  PS X (.Assign [.Subscript x y p2] z pos) (TSt X.K cx (evs cx (.stn i kx e))) := PS.mono (ps_nput (pos' := p2) g.at_ ho hk (px_of he) swaps_sub) fun D σ H ⟨Z, ρ, F, f, ρ', R, e0, q⟩ => by
 simp only [evs] at e0
 split at e0
 ·cases e0
 rename_i hsome
 obtain ⟨m0, em0⟩ := some_of (b := true) hsome
 obtain ⟨ov, hs, _⟩ := R.own i m0 em0
 split at e0
 ·rename_i m ρ1 e1
  split at e0
  ·rename_i xv e2
   split at e0
   ·rename_i p ρ2 e3
    split at e0
    ·rename_i kvs kk e4 e5
     split at e0
     ·rename_i hlim
      obtain ⟨hl, hne, hkn, hall⟩ := hlim
      cases e0
      refine ⟨Z, ρ, F, xv, ρ1, R, by unfold toPg; rw [e1]; simp only [e2], fun Z1 H1 F1 w g1 rw1 => ⟨ov, hs, g1.rel.fx, Z1, ρ1, F1, .v p, _, g1.rel, e3, fun Z2 H2 F2 v2 G2 g2 r2 => ?_⟩⟩
      obtain ⟨ow, _, _⟩ := r2
      cases ow with
      | v rp =>
       cases kk with
       | inr kk => cases hkn
       | inl kk =>
        obtain ⟨ey, ko⟩ := rkOf_v e5 rp
        obtain ⟨v3, h1, h2⟩ := (g1.trans g2).rel.own i _ e4
        rw [hs] at h1
        cases h1
        have hG : ∃ G, F2 i = G := ⟨_, rfl⟩
        obtain ⟨G, hG⟩ := hG
        rw [hG] at h2
        obtain ⟨a, vs, rfl, hG2, h, hz, r⟩ := non_case hne hall h2
        subst hG2
        refine ⟨a, vs, kk, rfl, h, by rw [nRel_len r]; exact Nat.lt_of_lt_of_le hl LIM_line, ey, q _ _ _ _ ((g1.trans g2).mut (u := NoneO a vs) e4 rfl hs (by rw [hG]; simp) h (fun _ _ z => by cases z) (.rn upd_same hz (nRel_put r ko (rw1.sub g2.st.zz))) (fun x hx => .inl (by rw [hG]; exact hx))).gs⟩
     ·cases e0
    ·cases e0
   ·cases e0
  ·cases e0
 ·cases e0
end
end Mn
end
section
set_option maxHeartbeats 200000
namespace Mn
open PySem L2 PySem.Spec
variable [WW] [FX]
section
variable {T : Tab} {k : Nat} {cx : Cxt} {X : Cx} {x y z : Expr} {st : Stmt} {pos p2 p3 apos tpos : Pos}
theorem few_of {cpos : Pos} {env : PySem.Env} (h : notStar x = true) : ((backTo cpos (starEach [x] env)).all (fun x => !x.1) && (backToKw cpos (keywordEach [] env)).all (fun x => x.1.isSome)
   && decide (([x] : List Expr).length + ([] : List Keyword).length + (if ([] : List Keyword).isEmpty then 0 else 1) < 30)) = true := by
 rw [star_of h]; rfl
theorem plain0 {cpos : Pos} {env : PySem.Env} : (backTo cpos (starEach [] env)).any (·.1) = false := rfl
theorem isL_of {ρ : Env} {i : Nat} (h : ¬ isL (slot ρ i) = false) : ∃ ps, slot ρ i = some (.l ps) := by
 cases e : slot ρ i with
 | none => rw [e] at h; exact (h rfl).elim
 | some m =>
  rw [e] at h
  cases m with
  | l ps => exact ⟨ps, rfl⟩
  | _ => exact (h rfl).elim
theorem isNd_of {ρ : Env} {i : Nat} (h : ¬ isNd (slot ρ i) = false) : ∃ ps, slot ρ i = some (.n ps) := by
 cases e : slot ρ i with
 | none => rw [e] at h; exact (h rfl).elim
 | some m =>
  rw [e] at h
  cases m with
  | n ps => exact ⟨ps, rfl⟩
  | _ => exact (h rfl).elim
theorem toPg_evp {e : E} {ρ ρ1 : Env} {m : M} {p : P} (h1 : ev cx e ρ = some (m, ρ1)) (h2 : toP m = some p) : evp cx (.cons e .nil) ρ = some ([p], ρ1) := by
 simp only [evp, h1, h2]
theorem repL1 {K : PySem.W.Frag} {Z : Hp} {vs : List V} {p : P} (r : RepL K Z vs [p]) : ∃ v, vs = [v] ∧ Rep K Z v p := by
 cases r with
 | cons h t => cases t; exact ⟨_, rfl, h⟩
theorem snd_app {i : Nat} {e : E} (ho : PE X x (tVr i)) (he : PE X y (TEx X.K cx (ev cx e))) (h0 : notCall0 x = true) (hs : notStar y = true) (hl : (apos.endLine == p2.line) = true) :
  PS X (.Expr (.Call (.Attribute x "append" apos) [y] [] p2) pos) (TSt X.K cx (evs cx (.app i e))) :=
 PS.mono (ps_expr (pe_bm PySem.F.plainAttrs_list PySem.F.slot_list_append PySem.F.type_list_append mt_append ho (ps_cons he ps_nil (star_of hs)) (base_of h0) (few_of hs) hl (star_of hs) plain0) (swaps_of rfl)) fun D σ H ⟨Z, ρ, F, f, ρ', R, e0, q⟩ => by
  simp only [evs] at e0
  split at e0
  ·cases e0
  rename_i hsome
  obtain ⟨ps0, em0⟩ := isL_of hsome
  obtain ⟨ov, hov, o0⟩ := R.own i _ em0
  obtain ⟨a, vs0, rfl, _, ha, _, _⟩ := lst_case o0
  split at e0
  ·rename_i m ρ1 e1
   split at e0
   ·rename_i p ps e2 e3
    split at e0
    ·rename_i hlim
     cases e0
     refine ⟨_, hov, R.fx, Or.inl ⟨rfl, _, SqL.of ha⟩, Z, ρ, F, [p], ρ1, R, toPg_evp e1 e2, fun Z1 H1 F1 vs g1 rl => ?_⟩
     obtain ⟨w, rfl, rw1⟩ := repL1 rl
     obtain ⟨ov2, h1, h2⟩ := g1.rel.own i _ e3
     rw [hov] at h1; cases h1
     generalize hG : F1 i = G at h2
     obtain ⟨a2, vs, hva, hG2, h, hz, r⟩ := lst_case h2
     cases hva
     subst hG2
     exact ⟨a, vs, w, rfl, rfl, h, by rw [r.length]; exact Nat.lt_of_lt_of_le hlim LIM_line, q _ _ _ _ (g1.mut (u := .lst vs) e3 rfl hov (by rw [hG]; simp) h (fun _ _ z => by cases z) (.l upd_same hz (r.app (.one rw1))) (fun x hx => .inl (by rw [hG]; exact hx))).gs⟩
    ·cases e0
   ·cases e0
  ·cases e0
theorem snd_ext {i : Nat} {e : E} (ho : PE X x (tVr i)) (he : PE X y (TEx X.K cx (ev cx e))) (h0 : notCall0 x = true) (hs : notStar y = true) (hl : (apos.endLine == p2.line) = true) :
  PS X (.Expr (.Call (.Attribute x "extend" apos) [y] [] p2) pos) (TSt X.K cx (evs cx (.ext i e))) :=
 PS.mono (ps_expr (pe_bm PySem.F.plainAttrs_list PySem.F.slot_list_extend PySem.F.type_list_extend mt_extend ho (ps_cons he ps_nil (star_of hs)) (base_of h0) (few_of hs) hl (star_of hs) plain0) (swaps_of rfl)) fun D σ H ⟨Z, ρ, F, f, ρ', R, e0, q⟩ => by
  simp only [evs] at e0
  split at e0
  ·cases e0
  rename_i hsome
  obtain ⟨ps0, em0⟩ := isL_of hsome
  obtain ⟨ov, hov, o0⟩ := R.own i _ em0
  obtain ⟨a, vs0, rfl, _, ha, _, _⟩ := lst_case o0
  split at e0
  ·rename_i m ρ1 e1
   split at e0
   ·rename_i qs ps e2 e3
    split at e0
    ·rename_i hlim
     cases e0
     refine ⟨_, hov, R.fx, Or.inl ⟨rfl, _, SqL.of ha⟩, Z, ρ, F, [.list qs], ρ1, R, toPg_evp e1 e2, fun Z1 H1 F1 vs g1 rl => ?_⟩
     obtain ⟨w, rfl, rw1⟩ := repL1 rl
     obtain ⟨ov2, h1, h2⟩ := g1.rel.own i _ e3
     rw [hov] at h1; cases h1
     generalize hG : F1 i = G at h2
     obtain ⟨a2, vs, hva, hG2, h, hz, r⟩ := lst_case h2
     cases hva
     subst hG2
     cases rw1 with
     | lst hb rb => exact ⟨a, _, vs, _, rfl, rfl, h, g1.rel.sub _ _ hb, by rw [r.length, rb.length]; exact lim_le hlim, q _ _ _ _ (g1.mut (u := .lst vs) e3 rfl hov (by rw [hG]; simp) h (fun _ _ z => by cases z) (.l upd_same hz (r.app rb)) (fun x hx => .inl (by rw [hG]; exact hx))).gs⟩
    ·cases e0
   ·cases e0
  ·cases e0
theorem dic_of {K : PySem.W.Frag} {Z H : Hp} {kvs : List (Key × P)} {v : V} {G : List Addr} (o : Own K Z H (.d kvs) v G) : ∃ a vs, v = .ref a ∧ G = [a] ∧ H a = some (.dK vs) ∧ Z a = none ∧ DRel K Z vs kvs := by
 cases o with
 | d h z r => exact ⟨_, _, rfl, rfl, h, z, r⟩
theorem uno_ne {K : PySem.W.Frag} {Z : Hp} {ps : List (NK × P)} {vs : List (NK × Addr × V)} (h : ps ≠ []) (r : URel K Z vs ps) : vs ≠ [] := by
 intro e
 subst e
 cases r
 exact h rfl
theorem set_same {ρ : Env} {i : Nat} {m : M} (e : slot ρ i = some m) : ρ.set i (some m) = ρ := by
 unfold slot at e
 apply List.ext_getElem?
 intro j
 rw [List.getElem?_set]
 split
 ·rename_i q
  subst q
  split
  ·rename_i hl
   rw [List.getElem?_eq_getElem hl] at e ⊢
   have : ρ[i] = some m := e
   rw [this]
  ·rename_i hl
   rw [List.getElem?_eq_none (by omega)]
 ·rfl
theorem snd_upd {i : Nat} {e : E} (g : Good T k cx X) (ho : PE X x (tVr i)) (he : PE X y (TEx X.K cx (ev cx e))) (h0 : notCall0 x = true) (hs : notStar y = true) (hl : (apos.endLine == p2.line) = true) :
  PS X (.Expr (.Call (.Attribute x "update" apos) [y] [] p2) pos) (TSt X.K cx (evs cx (.upd i e))) :=
 PS.mono (ps_expr (pe_updA g.calm (by have := g.room.units; omega) g.at_ ho he (m1_of h0 hs hl)) (swaps_of rfl)) fun D σ H ⟨Z, ρ, F, f, ρ', R, e0, q⟩ => by
  simp only [evs] at e0
  split at e0
  ·cases e0
  rename_i hsome
  split at e0
  ·rename_i m ρ1 e1
   split at e0
   ·rename_i c ec
    split at e0
    ·rename_i c2 eu
     cases e0
     have hb : ∃ m0, slot ρ i = some m0 ∧ ((∃ kvs, m0 = .d kvs) ∨ ∃ kvs, m0 = .u kvs) := by
      cases e : slot ρ i with
      | none => rw [e] at hsome; exact (hsome rfl).elim
      | some m0 =>
       rw [e] at hsome
       refine ⟨m0, rfl, ?_⟩
       cases m0 with
       | d kvs => exact .inl ⟨_, rfl⟩
       | u kvs => exact .inr ⟨_, rfl⟩
       | _ => exact (hsome rfl).elim
     obtain ⟨m0, em0, hk⟩ := hb
     obtain ⟨ov, hov, o0⟩ := R.own i _ em0
     have hb2 : ∃ a, ov = .ref a ∧ ((∃ kvs, H a = some (.dK kvs)) ∨ ∃ vs, H a = some (TupO a vs) ∧ KeysAt X.K H vs) := by
      rcases hk with ⟨kvs, rfl⟩ | ⟨kvs, rfl⟩
      ·obtain ⟨a, vs, rfl, _, h, _, _⟩ := dic_of o0
       exact ⟨a, rfl, .inl ⟨_, h⟩⟩
      ·obtain ⟨a, vs, rfl, _, h, _, r⟩ := uno_case o0
       exact ⟨a, rfl, .inr ⟨_, h, uRel_at R.sub r⟩⟩
     obtain ⟨a, rfl, hty⟩ := hb2
     refine ⟨_, hov, R.fx, a, rfl, hty, Z, ρ, F, m, ρ1, R, e1, fun Z1 H1 F1 w Gm g1 r1 => ?_⟩
     obtain ⟨ov2, h1, h2⟩ := g1.rel.own i _ ec
     rw [hov] at h1; cases h1
     generalize hG : F1 i = G at h2
     have ap : ∀ b ∈ Gm, a ∈ G → a ≠ b := fun b hb ha z => r1.ap b hb ⟨i, by rw [hG, ← z]; exact ha⟩
     have hm := r1.own
     unfold updM at eu
     split at eu
     ·rename_i kvs more
      split at eu
      ·rename_i hlim
       cases eu
       obtain ⟨a2, vs, hva, hG2, h, hz, r⟩ := dic_of h2
       cases hva
       subst hG2
       obtain ⟨b, ws, rfl, hGb, hb, hzb, rb⟩ := dic_of hm
       subst hGb
       exact ⟨b, rfl, ap b (by simp) (by simp), .inl ⟨vs, ws, h, hb, by rw [dRel_len r, dRel_len rb]; exact lim_le hlim, q _ _ _ _ (g1.mut (u := .dK vs) ec rfl hov (by rw [hG]; simp) h (fun _ _ z => by cases z) (.d upd_same hz (dRel_merge rb r)) (fun x hx => .inl (by rw [hG]; exact hx))).gs⟩⟩
      ·cases eu
     ·rename_i kvs ps
      split at eu
      ·rename_i more em
       split at eu
       ·rename_i hlim
        cases eu
        obtain ⟨a2, vs, hva, hG2, h, hz, r⟩ := dic_of h2
        cases hva
        subst hG2
        obtain ⟨b, ws, rfl, hGb, hb, hzb, rb⟩ := lst_case hm
        subst hGb
        obtain ⟨as, zs, rfl, k2, k3⟩ := pairsK_v g1.rel.sub em rb
        exact ⟨b, rfl, ap b (by simp) (by simp), .inr (.inr (.inr (.inl ⟨vs, zs, as, h, hb, k2, by rw [dRel_len r, dRel_len k3]; exact lim_le hlim, q _ _ _ _ (g1.mut (u := .dK vs) ec rfl hov (by rw [hG]; simp) h (fun _ _ z => by cases z) (.d upd_same hz (dRel_merge k3 r)) (fun x hx => .inl (by rw [hG]; exact hx))).gs⟩)))⟩
       ·cases eu
      ·cases eu
     ·rename_i kvs ps
      split at eu
      ·rename_i more em
       split at eu
       ·rename_i hlim
        cases eu
        obtain ⟨a2, vs, hva, hG2, h, hz, r⟩ := uno_case h2
        cases hva
        subst hG2
        obtain ⟨b, ws, rfl, hGb, hb, hzb, rb⟩ := lst_case hm
        subst hGb
        obtain ⟨as, zs, rfl, k2, k3⟩ := pairsU_v g1.rel.sub em rb
        exact ⟨b, rfl, ap b (by simp) (by simp), .inr (.inr (.inr (.inr ⟨vs, zs, as, h, hb, uRel_at g1.rel.sub r, uRel_at g1.rel.sub k3, k2, by rw [Paired.length r, Paired.length k3]; exact lim_le hlim, q _ _ _ _ (g1.mut (u := TupO a vs) ec rfl hov (by rw [hG]; simp) h (fun _ _ z => by cases z) (.uo upd_same hz (uRel_merge k3 r)) (fun x hx => .inl (by rw [hG]; exact hx))).gs⟩)))⟩
       ·cases eu
      ·cases eu
     ·rename_i kvs more
      split at eu
      ·rename_i hlim
       obtain ⟨u1, hlim⟩ := hlim
       cases eu
       obtain ⟨a2, vs, hva, hG2, h, hz, r⟩ := uno_case h2
       cases hva
       subst hG2
       obtain ⟨b, ws, rfl, hGb, hb, hzb, rb⟩ := uno_case hm
       subst hGb
       exact ⟨b, rfl, ap b (by simp) (by simp), .inr (.inl ⟨vs, ws, h, hb, uRel_at g1.rel.sub r, uRel_at g1.rel.sub rb, uno_ne u1 r, by rw [Paired.length r, Paired.length rb]; exact lim_le hlim, q _ _ _ _ (g1.mut (u := TupO a vs) ec rfl hov (by rw [hG]; simp) h (fun _ _ z => by cases z) (.uo upd_same hz (uRel_merge rb r)) (fun x hx => .inl (by rw [hG]; exact hx))).gs⟩)⟩
      ·cases eu
     ·rename_i kvs
      split at eu
      ·rename_i u1
       cases eu
       obtain ⟨a2, vs, hva, hG2, h, hz, r⟩ := uno_case h2
       cases hva
       subst hG2
       obtain ⟨b, ws, rfl, hGb, hb, hzb, rb⟩ := dic_of hm
       subst hGb
       cases rb
       rw [set_same ec] at q
       exact ⟨b, rfl, ap b (by simp) (by simp), .inr (.inr (.inl ⟨vs, h, hb, uRel_at g1.rel.sub r, uno_ne u1 r, q _ _ _ _ g1.gs⟩))⟩
      ·cases eu
     ·cases eu
    ·cases e0
   ·cases e0
  ·cases e0
theorem snd_expr {e : E} (he : PE X x (TEx X.K cx (ev cx e))) (hc : notComp x = true) : PS X (.Expr x pos) (TSt X.K cx (evs cx (.expr e))) := PS.mono (ps_expr he (swaps_of hc)) fun D σ H ⟨Z, ρ, F, f, ρ', R, e0, q⟩ => by
 simp only [evs] at e0
 split at e0
 ·rename_i m ρ1 e1
  cases e0
  exact ⟨Z, ρ, F, m, _, R, e1, fun Z1 H1 F1 v G g1 r => q _ _ _ _ g1.gs⟩
 ·cases e0
def parB (sc : Scope) (n1 n2 : Str) (q1 q2 : Pos) (a b : Expr) : Bool := (sc.kind == .function) && ((sc.names.lookup n1 == some .local) && ((sc.names.lookup n2 == some .local) && ((q2.line == q1.line) && ((!(n1 == n2)) && ((!([a, b].all (foldedForSure 8))) && ((!([a, b].all (constantsAlone 8))) && (notStar a && notStar b)))))))
theorem not_star_any {a b : Expr} (h : notStar a = true) (h2 : notStar b = true) : ([a, b].any fun | .Starred .. => true | _ => false) = false := by
 have h0 : ∀ e, notStar e = true → (match e with | .Starred .. => true | _ => false) = false := fun e h => by cases e <;> first | rfl | cases h
 rw [List.any_cons, List.any_cons, List.any_nil, h0 a h, h0 b h2]
 rfl
theorem swapped_par {n1 n2 : Str} {q1 q2 : Pos} {a b : Expr} {kt k2 : Nat} {pt pt2 : Pos} {env : PySem.Env} (h : parB env.scope n1 n2 q1 q2 a b = true) : swappedStores [.Tuple [.Name n1 q1, .Name n2 q2] kt pt] (.Tuple [a, b] k2 pt2) env = pure (some [n1, n2]) := by
 unfold parB at h
 simp only [Bool.and_eq_true, Bool.not_eq_true', beq_iff_eq] at h
 obtain ⟨h1, h2, h3, h4, h5, h6, h7, h8, h9⟩ := h
 have hb : env.blockKind = .function := by unfold Env.blockKind; rw [h1]; rfl
 have k1 : env.kindOf n1 = some .local := h2
 have k2' : env.kindOf n2 = some .local := h3
 unfold swappedStores
 have e1 : (!((2 == 2 || 2 == 3)) || (2 != 2) || ScopeKind.function != ScopeKind.function) = false := by decide
 have hne : ([n1, n2] : List Str).eraseDups.length = 2 := by
  rw [List.eraseDups_cons]
  have : ([n2].filter fun b => !b == n1) = [n2] := by
   rw [List.filter_cons]
   have : (n2 == n1) = false := by
    cases q : n2 == n1 with
    | false => rfl
    | true =>
     have : n2 = n1 := eq_of_beq q
     subst this
     simp at h5
   simp [this]
  rw [this]
  rfl
 have hst := not_star_any h8 h9
 have hl : (q2.line == q1.line) = true := by simpa using h4
 simp only [List.length_cons, List.length_nil, hb, hst, h6, h7, List.head?_cons, Option.map_some, Option.getD_some, Expr.pos, List.filterMap_cons, List.filterMap_nil, k1, k2', hl, beq_self_eq_true, Bool.and_true, Bool.true_and, if_true, hne]
 rw [if_neg (by decide), if_neg (by rw [Bool.not_eq_true]; exact hst)]
 rfl
theorem snd_par {i j : Nat} {a b : E} {n1 n2 : Str} {kt k2 : Nat} {pt pt2 : Pos} (g : Good T k cx X) (h1 : locB X.N X.env.scope i n1 = true) (h2 : locB X.N X.env.scope j n2 = true) (hij : i ≠ j) (hp : parB X.env.scope n1 n2 p2 p3 x y = true) (ha : PE X x (TEx X.K cx (ev cx a))) (hb : PE X y (TEx X.K cx (ev cx b))) :
  PS X (.Assign [.Tuple [.Name n1 p2, .Name n2 p3] kt pt] (.Tuple [x, y] k2 pt2) pos) (TSt X.K cx (evs cx (.par i j a b))) := by
 unfold locB at h1 h2
 rw [Bool.and_eq_true, decide_eq_true_eq, decide_eq_true_eq] at h1 h2
 have hst : notStar x = true ∧ notStar y = true := by
  unfold parB at hp
  simp only [Bool.and_eq_true] at hp
  exact hp.2.2.2.2.2.2.2
 refine PS.mono (ps_par g.calm g.nd h1.1 h2.1 hij h1.2 h2.2 (pa_cons ha (pa_cons hb pa_nil (star_of hst.2)) (star_of hst.1)) (swapped_par hp) rfl) fun D σ H ⟨Z, ρ, F, f, ρ', R, e0, q⟩ => ?_
 simp only [evs] at e0
 split at e0
 ·rename_i m1 ρ1 e1
  split at e0
  ·rename_i m2 ρ2 e2
   split at e0
   ·rename_i ρ3 e3
    split at e0
    ·rename_i ρ4 e4
     cases e0
     refine ⟨Z, ρ, F, m1, ρ1, R, e1, fun Z1 H1 F1 v G g1 r1 => ⟨Z1, ρ1, F1, m2, ρ2, g1.rel, e2, fun Z2 H2 F2 v2 G2 g2 r2 => ⟨v, v2, rfl, ?_⟩⟩⟩
     have gg := (g1.trans g2).gs
     have r1' := r1.carry g2
     have gs1 := sto_gs g.pm gg r1' e3
     have dj : ∀ a ∈ G2, a ∉ G := fun a ha hb => by
      rcases r2.nw a ha with h | h
      ·exact r1.ap a hb h
      ·obtain ⟨_, u, hu, _⟩ := r1.own.at_ a hb
       rw [h] at hu; cases hu
     have r2' : Res X.K Z H (U F) Z2 H2 (fset F2 i G) m2 v2 G2 := by
      have := res_go g1 r2
      refine ⟨this.own, fun a ha hu => ?_, this.nw⟩
      rcases U_fset_sub hu with h | h
      ·exact dj a ha h
      ·exact this.ap a ha h
     exact q _ _ _ _ (sto_gs g.pm gs1 r2' e4)
    ·cases e0
   ·cases e0
  ·cases e0
 ·cases e0
theorem snd_aug {i : Nat} {e : E} {op : BOp} {n : Str} (g : Good T k cx X) (h : LocG X i n) (he : PE X x (TEx X.K cx (ev cx e))) : PS X (.AugAssign (.Name n p2) (bOp op) x pos) (TSt X.K cx (evs cx (.aug i op e))) := by
 have key : ∀ (f : Int → Int → Int), PS X (.AugAssign (.Name n p2) (bOp op) x pos) (tAug i (TEx X.K cx (ev cx e)) (ipI f)) → (∀ a b ρ1, (match op with
   | .add => (sto cx i (.v (.int (a + b))) ρ1).map fun ρ2 => ((.nx : Fl), ρ2)
   | .sub => (sto cx i (.v (.int (a - b))) ρ1).map fun ρ2 => (.nx, ρ2)
   | _ => none) = (sto cx i (.v (.int (f a b))) ρ1).map fun ρ2 => ((.nx : Fl), ρ2)) → PS X (.AugAssign (.Name n p2) (bOp op) x pos) (TSt X.K cx (evs cx (.aug i op e))) := by
  intro f hp hf
  refine PS.mono hp fun D σ H ⟨Z, ρ, F, fl, ρ', R, e0, q⟩ => ?_
  simp only [evs] at e0
  split at e0
  ·rename_i a b ρ1 e1 e2
   have e0 := (hf a b ρ1).symm.trans e0
   obtain ⟨ρ2, e3, e4⟩ := Option.map_eq_some_iff.mp e0
   cases e4
   obtain ⟨v, hv, ow⟩ := R.own i _ e1
   have := own_int ow
   subst this
   refine ⟨_, hv, Z, ρ, F, _, ρ1, R, e2, fun Z1 H1 F1 v G g1 r1 => ?_⟩
   have := own_int r1.own
   subst this
   exact ⟨a, b, rfl, rfl, q _ _ _ _ (sto_gs (v := .int (f a b)) g.pm g1.gs ⟨.v (.int _), no0, no0⟩ e3)⟩
  ·cases e0
 cases op with
 | add => exact key (fun a b => a + b) (ps_aug (op := .Add) g.nd h.ix h.lc he ip_add h.fn) fun a b ρ1 => rfl
 | sub => exact key (fun a b => a - b) (ps_aug (op := .Sub) g.nd h.ix h.lc he ip_sub h.fn) fun a b ρ1 => rfl
 | _ => exact ⟨fun pins s σ H D J ⟨Z, ρ, F, fl, ρ', R, e0, q⟩ => by
   simp only [evs] at e0
   split at e0 <;> cases e0⟩
end
end Mn
end
section
set_option maxHeartbeats 200000
namespace Mn
open PySem L2 PySem.Spec
variable [WW] [FX]
section
variable {T : Tab} {k : Nat} {cx : Cxt} {X : Cx} {x y z : Expr} {st : Stmt} {pos p2 p3 p4 apos tpos : Pos}
theorem repL_last {K : PySem.W.Frag} {Z : Hp} {vs : List V} {ps : List P} {p : P} (r : RepL K Z vs ps) (h : ps[ps.length - 1]? = some p) : ∃ v, vs[vs.length - 1]? = some v ∧ Rep K Z v p := by
 obtain ⟨v, h1, h2⟩ := r.get h
 exact ⟨v, by rw [r.length]; exact h1, h2⟩
theorem snd_pop0 {i : Nat} (ho : PE X x (tVr i)) (h0 : notCall0 x = true) (hl : (apos.endLine == pos.line) = true) : PE X (.Call (.Attribute x "pop" apos) [] [] pos) (TEx X.K cx (ev cx (.pop i .nil))) :=
 PE.mono (pe_bm0 PySem.F.plainAttrs_list PySem.F.slot_list_pop PySem.F.type_list_pop mt_pop ho (base_of h0) hl) fun σ H Q ⟨Z, ρ, F, m, ρ', R, e, q⟩ => by
  simp only [ev, evl, rds] at e
  split at e
  ·cases e
  split at e
  ·rename_i ps e1 e2
   split at e
   ·rename_i p ep
    cases e
    obtain ⟨ov, hov, o0⟩ := R.own i _ e1
    generalize hG : F i = G at o0
    obtain ⟨a, vs, rfl, hG2, h, hz, r⟩ := lst_case o0
    subst hG2
    obtain ⟨v, hv, rv⟩ := repL_last r ep
    have gm := (Go.refl (X := cx) R).mut (u := .lst vs) (m' := .l ps.dropLast) e1 rfl hov (by rw [hG]; simp) h (fun _ _ z => by cases z) (.l (vs := vs.dropLast) upd_same hz r.dropLast) (fun x hx => .inl (by rw [hG]; exact hx))
    exact ⟨_, hov, R.fx, Or.inl ⟨rfl, _, SqL.of h⟩, a, vs, v, rfl, rfl, h, hv, q _ _ _ v [] gm ⟨.v rv, no0, no0⟩⟩
   ·cases e
  ·rename_i h1 h2; cases h2
  ·cases e
theorem snd_pop1 {i : Nat} {es : EL} (ho : PE X x (tVr i)) (ha : PA X [y] (TAr X.K cx (evl cx es))) (hs : notStar y = true) (h0 : notCall0 x = true) (hl : (apos.endLine == pos.line) = true) (hn : elLen es = 1) : PE X (.Call (.Attribute x "pop" apos) [y] [] pos) (TEx X.K cx (ev cx (.pop i es))) :=
 PE.mono (pe_bm PySem.F.plainAttrs_list PySem.F.slot_list_pop PySem.F.type_list_pop mt_popAt ho ha (base_of h0) (few_of hs) hl (star_of hs) plain0) fun σ H Q ⟨Z, ρ, F, m, ρ', R, e, q⟩ => by
  simp only [ev] at e
  split at e
  ·cases e
  rename_i hsome
  obtain ⟨ps0, em0⟩ := isL_of hsome
  obtain ⟨ov, hov, o0⟩ := R.own i _ em0
  obtain ⟨a, vs0, rfl, _, ha0, _, _⟩ := lst_case o0
  split at e
  ·rename_i rs ρ1 e1
   refine ⟨_, hov, R.fx, Or.inl ⟨rfl, _, SqL.of ha0⟩, Z, ρ, F, rs, ρ1, R, e1, fun Z1 H1 F1 us Gs g1 o1 => ?_⟩
   split at e
   ·rename_i ps e2 e3
    have := rds_len e3
    rw [evl_len e1, hn] at this
    cases this
   ·rename_i ps j e2 e3
    split at e
    ·rename_i hj
     split at e
     ·rename_i p ep
      cases e
      have ol := o1.own g1.rel e3
      cases ol with
      | cons oj ot =>
       cases ot
       have := own_int oj
       subst this
       obtain ⟨ov2, h1, h2⟩ := g1.rel.own i _ e2
       rw [hov] at h1; cases h1
       generalize hG : F1 i = G at h2
       obtain ⟨a2, vs, hva, hG2, h, hz, r⟩ := lst_case h2
       cases hva
       subst hG2
       obtain ⟨v, hv, rv⟩ := r.get ep
       have hL : (LIM : Nat) = 1000000 := rfl
       have gm := g1.mut (u := .lst vs) (m' := .l (ps.eraseIdx j.toNat)) e2 rfl hov (by rw [hG]; simp) h (fun _ _ z => by cases z) (.l (vs := vs.eraseIdx j.toNat) upd_same hz (r.erase _)) (fun x hx => .inl (by rw [hG]; exact hx))
       exact ⟨a, vs, j, j.toNat, v, rfl, rfl, h, by omega, by omega, seqIndex_of hj.1 (by rw [r.length]; exact hj.2.1), hv, q _ _ _ v [] gm ⟨.v rv, no0, no0⟩⟩
     ·cases e
    ·cases e
   ·cases e
  ·cases e
theorem index_eq {m1 m3 : M} {ms : List M} (e : mtM .index m1 ms = some m3) : ∃ ps x j, vw m1 = .l ps ∧ ms = [.v x] ∧ flatP x = true ∧ ps.all flatP = true ∧ ps.findIdx? (fun y => PyData.eqv y x) = some j ∧ m3 = .v (.int j) := by
 unfold mtM at e
 split at e
 all_goals first
  | (rename_i h0 _ _; cases h0; done)
  | (rename_i h0 _; cases h0; done)
  | (rename_i h0; cases h0; done)
  | skip
 ·rename_i ps x _ e1
  split at e
  ·rename_i hf
   split at e
   ·rename_i j ej
    cases e
    exact ⟨ps, x, j, e1, rfl, hf.1, hf.2, ej, rfl⟩
   ·cases e
  ·cases e
 ·cases e
theorem snd_index {a : E} {es : EL} (ha : PE X x (TOp X.K cx (opE a (ev cx a)))) (hb : PA X [y] (TAr X.K cx (evl cx es))) (hs : notStar y = true) (h0 : notCall0 x = true) (hl : (apos.endLine == pos.line) = true) : PE X (.Call (.Attribute x "index" apos) [y] [] pos) (TEx X.K cx (ev cx (.mt .index a es))) :=
 PE.mono (pe_bm PySem.F.plainAttrs_list PySem.F.slot_list_index PySem.F.type_list_index mt_index ha hb (base_of h0) (few_of hs) hl (star_of hs) plain0) fun σ H Q ⟨Z, ρ, F, m, ρ', R, e, q⟩ => by
  simp only [ev] at e
  split at e
  ·rename_i r1 ρ1 e1
   split at e
   ·rename_i hb1
    split at e
    ·rename_i rs ρ2 e2
     split at e
     ·rename_i m1 ms e3 e4
      split at e
      ·rename_i m3 e5
       cases e
       refine ⟨Z, ρ, F, r1, ρ1, R, e1, fun Z1 H1 F1 v1 G1 g1 o1 => ?_⟩
       cases e6 : rd ρ1 r1 with
       | none => rw [e6] at hb1; cases hb1
       | some m0 =>
        rw [e6] at hb1
        obtain ⟨_, w0⟩ := o1.rd g1.rel e6
        have h7 : ∃ ps0, m0 = .l ps0 := by cases m0 <;> first | exact ⟨_, rfl⟩ | cases hb1
        obtain ⟨ps0, rfl⟩ := h7
        obtain ⟨a0, vs0, rfl, _, ha0, _, _⟩ := lst_case w0
        refine ⟨Or.inl ⟨rfl, _, SqL.of ha0⟩, Z1, ρ1, F1, rs, _, g1.rel, e2, fun Z2 H2 F2 us Gs g2 o2 => ?_⟩
        obtain ⟨ps, xx, j, k1, k2, k3, k4, k5, k6⟩ := index_eq e5
        subst k2 k6
        obtain ⟨_, w1⟩ := (o1.carry g2).rd g2.rel e3
        have vw1 := w1.view
        rw [k1] at vw1
        obtain ⟨c, vs, hc, hcl, rl⟩ := vw1.lstl
        cases hc
        have ol := o2.own g2.rel e4
        cases ol with
        | cons oj ot =>
         cases ot
         cases oj with
         | v rx =>
          obtain ⟨hj1, hj2, hj3⟩ := List.findIdx?_eq_some_iff_getElem.mp k5
          obtain ⟨z, hz, rz⟩ := rl.get (List.getElem?_eq_getElem hj1)
          have fl : ∀ i p, ps[i]? = some p → flatP p = true := fun i p hp => List.all_eq_true.mp k4 p (List.mem_of_getElem? hp)
          refine ⟨_, vs, _, j, z, rfl, rfl, SqL.of hcl, by rw [flat_rep rx]; exact k3, by rw [flats_rep rl]; exact k4, hz, ?_, fun mm z' hm hz' => ?_, q _ _ _ _ [] (g1.trans g2) ⟨.v (.int _), no0, no0⟩⟩
          ·rw [eqv_rep rz rx (fl _ _ (List.getElem?_eq_getElem hj1)) k3]; exact hj2
          ·obtain ⟨p', hp', rp'⟩ := rl.getV hz'
           rw [eqv_rep rp' rx (fl _ _ hp') k3]
           obtain ⟨hml, hme⟩ := List.getElem?_eq_some_iff.mp hp'
           have := hj3 mm hm
           subst hme
           simpa using this
      ·cases e
     ·cases e
    ·cases e
   ·cases e
  ·cases e
theorem count_eq {m1 m3 : M} {ms : List M} (e : mtM .count m1 ms = some m3) : ∃ ps x, vw m1 = .l ps ∧ ms = [.v x] ∧ flatP x = true ∧ ps.all flatP = true ∧ m3 = .v (.int ((ps.countP fun y => PyData.eqv y x : Nat) : Int)) := by
 unfold mtM at e
 split at e
 all_goals first
  | (rename_i h0 _ _; cases h0; done)
  | (rename_i h0 _; cases h0; done)
  | (rename_i h0; cases h0; done)
  | skip
 ·rename_i ps x _ e1
  split at e
  ·rename_i hf
   cases e
   exact ⟨ps, x, e1, rfl, hf.1, hf.2, rfl⟩
  ·cases e
 ·cases e
theorem countP_rep {K : PySem.W.Frag} {Z : Hp} {v : V} {x : P} (rx : Rep K Z v x) (fx : flatP x = true) : ∀ {vs : List V} {ps : List P}, RepL K Z vs ps → ps.all flatP = true → (vs.countP fun z => eqV z v) = ps.countP fun y => PyData.eqv y x
 | _, _, .nil, _ => rfl
 | _, _, .cons h r, f => by
  rw [List.all_cons, Bool.and_eq_true] at f
  rw [List.countP_cons, List.countP_cons, eqv_rep h rx f.1 fx, countP_rep rx fx r f.2]
theorem snd_count {a : E} {es : EL} (ha : PE X x (TOp X.K cx (opE a (ev cx a)))) (hb : PA X [y] (TAr X.K cx (evl cx es))) (hs : notStar y = true) (h0 : notCall0 x = true) (hl : (apos.endLine == pos.line) = true) : PE X (.Call (.Attribute x "count" apos) [y] [] pos) (TEx X.K cx (ev cx (.mt .count a es))) :=
 PE.mono (pe_bm PySem.F.plainAttrs_list PySem.F.slot_list_count PySem.F.type_list_count mt_cntF ha hb (base_of h0) (few_of hs) hl (star_of hs) plain0) fun σ H Q ⟨Z, ρ, F, m, ρ', R, e, q⟩ => by
  simp only [ev] at e
  split at e
  ·rename_i r1 ρ1 e1
   split at e
   ·rename_i hb1
    split at e
    ·rename_i rs ρ2 e2
     split at e
     ·rename_i m1 ms e3 e4
      split at e
      ·rename_i m3 e5
       cases e
       refine ⟨Z, ρ, F, r1, ρ1, R, e1, fun Z1 H1 F1 v1 G1 g1 o1 => ?_⟩
       cases e6 : rd ρ1 r1 with
       | none => rw [e6] at hb1; cases hb1
       | some m0 =>
        rw [e6] at hb1
        obtain ⟨_, w0⟩ := o1.rd g1.rel e6
        have h7 : ∃ ps0, m0 = .l ps0 := by cases m0 <;> first | exact ⟨_, rfl⟩ | cases hb1
        obtain ⟨ps0, rfl⟩ := h7
        obtain ⟨a0, vs0, rfl, _, ha0, _, _⟩ := lst_case w0
        refine ⟨Or.inl ⟨rfl, _, SqL.of ha0⟩, Z1, ρ1, F1, rs, _, g1.rel, e2, fun Z2 H2 F2 us Gs g2 o2 => ?_⟩
        obtain ⟨ps, xx, k1, k2, k3, k4, k6⟩ := count_eq e5
        subst k2 k6
        obtain ⟨_, w1⟩ := (o1.carry g2).rd g2.rel e3
        have vw1 := w1.view
        rw [k1] at vw1
        obtain ⟨c, vs, hc, hcl, rl⟩ := vw1.lstl
        cases hc
        have ol := o2.own g2.rel e4
        cases ol with
        | cons oj ot =>
         cases ot
         cases oj with
         | v rx =>
          refine ⟨_, vs, _, rfl, rfl, SqL.of hcl, by rw [flat_rep rx]; exact k3, by rw [flats_rep rl]; exact k4, ?_⟩
          rw [countP_rep rx k3 rl k4]
          exact q _ _ _ _ [] (g1.trans g2) ⟨.v (.int _), no0, no0⟩
      ·cases e
     ·cases e
    ·cases e
   ·cases e
  ·cases e
def chOp : COp → Bool
 | .isN => false | .notN => false | .isB => false | .notB => false
 | _ => true
theorem snd_cmp2 {op op2 : COp} {a b c : E} (g : Good T k cx X) (ha : PE X x (TEx X.K cx (ev cx a))) (hb : PE X y (TEx X.K cx (ev cx b))) (hc : PE X z (TEx X.K cx (ev cx c))) (h1 : chOp op = true) (h2 : chOp op2 = true) (hm : behindInMarks (cOp op2) z = false) :
  PE X (.Compare x [cOp op, cOp op2] [y, z] pos) (TEx X.K cx (ev cx (.cmp2 op op2 a b c))) ∧ PT X (.Compare x [cOp op, cOp op2] [y, z] pos) (TTs X.K cx (ev cx (.cmp2 op op2 a b c))) := by
 have n1 : ∀ {o : COp}, chOp o = true → (o = .isN ∨ o = .notN → False) := fun h q => by
  rcases q with q | q <;> (subst q; cases h)
 have hR := cmp_R (X := X) g.room.units g.at_ op
 have hR2 := cmp_R (X := X) g.room.units g.at_ op2
 have chain : ∀ σ H Q, TEx X.K cx (ev cx (.cmp2 op op2 a b c)) σ H Q → tChain (rCmp X.K op) (rCmp X.K op2) (TEx X.K cx (ev cx a)) (TEx X.K cx (ev cx b)) (TEx X.K cx (ev cx c)) σ H Q := fun σ H Q ⟨Z, ρ, F, m, ρ', R, e, q⟩ => by
  simp only [ev] at e
  split at e
  ·rename_i m1 ρ1 e1
   split at e
   ·rename_i m2 ρ2 e2
    refine ⟨Z, ρ, F, m1, ρ1, R, e1, fun Z1 H1 F1 v1 G1 g1 r1 => ⟨Z1, ρ1, F1, m2, ρ2, g1.rel, e2, fun Z2 H2 F2 v2 G2 g2 r2 => ?_⟩⟩
    have gg := g1.trans g2
    split at e
    ·rename_i e3
     cases e
     exact cmp_ok op g2.rel.sub (r1.carry g2).own r2.own (fun hq => (n1 h1 hq).elim) e3 fun Z3 H3 v3 G3 al o3 => ⟨false, (Own.view o3).bl, by
      rw [if_neg Bool.false_ne_true]
      exact q Z3 H3 F2 _ [] (gg.alloc al) res_bl⟩
    ·rename_i e3
     split at e
     ·rename_i m3 ρ3 e4
      split at e
      ·rename_i mr e5
       cases e
       refine cmp_ok op g2.rel.sub (r1.carry g2).own r2.own (fun hq => (n1 h1 hq).elim) e3 fun Z3 H3 v3 G3 al o3 => ⟨true, (Own.view o3).bl, ?_⟩
       rw [if_pos rfl]
       have g3 := gg.alloc al
       refine ⟨Z3, ρ2, F2, m3, _, g3.rel, e4, fun Z4 H4 F4 v4 G4 g4 r4 => ?_⟩
       have gal : Go X.K cx σ Z2 H2 ρ2 F2 Z3 H3 ρ2 F2 := (Go.refl g2.rel).alloc al
       have r2' := (r2.carry gal).carry g4
       exact cmp_ok op2 g4.rel.sub r2'.own r4.own (fun hq => (n1 h2 hq).elim) e5 (ask_done (g3.trans g4) q)
      ·cases e
     ·cases e
    ·cases e
   ·cases e
  ·cases e
 refine ⟨PE.mono (pe_chain hR hR2 ha hb hc hm) chain, PT.mono (pt_chain hR hR2 ha hb hc hm) fun σ H Q ⟨Z, ρ, F, c0, ρ', R, e, q⟩ => ?_⟩
 refine chain _ _ _ ⟨Z, ρ, F, _, ρ', R, e, fun Z' H' F' v G g1 r1 => ?_⟩
 have := (Own.view r1.own).bl
 subst this
 exact ⟨c0, rfl, q Z' H' F' g1⟩
theorem own_at {K : PySem.W.Frag} {Z H : Hp} {ms : List (Key × M)} {vs : List (Key × V)} {G : List Addr} {kk : Key} {m : M} (r : OwnN K Z H ms vs G) (e : getA ms kk = some m) : ∃ v Gk, valV vs kk = some v ∧ Own K Z H m v Gk ∧ ∀ a ∈ Gk, a ∈ G := by
 obtain ⟨v, Gk, h1, h2, h3, _⟩ := ownN_upd (A' := fun _ => False) kk r e
 exact ⟨v, Gk, h1, h2, h3⟩
theorem putK_same {K : PySem.W.Frag} {Z H : Hp} {kk : Key} {v : V} : ∀ {ms : List (Key × M)} {vs : List (Key × V)} {G : List Addr}, OwnN K Z H ms vs G → valV vs kk = some v → putK vs kk v = vs := by
 have aux : ∀ {ms : List (Key × M)} {vs : List (Key × V)} {G : List Addr}, OwnN K Z H ms vs G → (valV vs kk = some v ∨ valV vs kk = none) → (vs.map fun kv => if kv.1 = kk then (kv.1, v) else kv) = vs := by
  intro ms
  induction ms with
  | nil => intro vs G r _; cases r; rfl
  | cons m ms ih =>
   intro vs G r h
   cases r with
   | @cons k0 m0 v0 ms vs G G2 ko kn o t d =>
    by_cases q : k0 = kk
    ·subst q
     have hn := ownN_get k0 t
     rw [kn] at hn
     rw [List.map_cons, if_pos rfl, ih t (.inr hn)]
     rcases h with h | h
     ·rw [valV_pos rfl] at h; cases h; rfl
     ·rw [valV_pos rfl] at h; cases h
    ·rw [List.map_cons, if_neg q]
     rw [valV_neg q] at h
     rw [ih t h]
 intro ms vs G r h
 unfold putK
 rw [if_pos (by rw [valV_any, h]; rfl)]
 exact aux r (.inl h)
theorem snd_getf {i j jj : Nat} {f : Str} (g : Good T k cx X) (ho : PE X x (tVr i)) (hy : PE X y (tVr j)) (hl : (apos.endLine == pos.line) = true) (hs : notStar y = true) :
  PE X (.Call (.Attribute (.Subscript x (.Constant (.str f) jj p3) p2) "get" apos) [y] [] pos) (TEx X.K cx (ev cx (.getf i f j))) :=
 PE.mono (pe_g1 (by have := g.room.units; omega) g.at_ (pe_dget (by have := g.room.units; omega) ho (pe_str (x := f)) (fun _ _ => rfl)) hy (m1_of rfl hs hl)) fun σ H Q ⟨Z, ρ, F, m, ρ', R, e, q⟩ => by
  simp only [ev] at e
  split at e
  ·rename_i m0 p e1 e2
   split at e
   ·rename_i kvs ef
    split at e
    ·rename_i kk ek
     cases e
     obtain ⟨ov, hov, o0⟩ := R.own i _ e1
     obtain ⟨yv, hyv, oy⟩ := R.own j _ e2
     generalize F j = Gj at oy
     cases oy with
     | v rp =>
      unfold field at ef
      split at ef
      ·rename_i ms
       obtain ⟨a, vs, G1, rfl, _, h, hz, r, na⟩ := nst_case o0
       obtain ⟨v, Gk, h1, h2, _⟩ := own_at r ef
       obtain ⟨b, ws, rfl, _, hb, hzb, rb⟩ := dic_case h2
       obtain ⟨rfl, ko, _⟩ := keyOf_v ek rp
       refine ⟨_, hov, R.fx, a, .ref b, rfl, by rw [← h1]; exact DGet.k (k := .inr f) h, b, rfl, .inl (.inl ⟨_, .inl hb⟩), _, hyv, R.fx, _, .inl (.inl ⟨_, kk, .inl hb, rfl, rfl⟩), ?_⟩
       have ht := dRel_hit rb kk
       cases eg : getA kvs kk with
       | none =>
        rw [eg] at ht q
        have : valV ws kk = none := ht
        rw [this]
        exact q Z H F _ [] (.refl R) ⟨.v .non, no0, no0⟩
       | some w =>
        rw [eg] at ht q
        obtain ⟨v2, h3, h4⟩ := (show ∃ v, valV ws kk = some v ∧ Rep X.K Z v w from ht)
        rw [h3]
        exact q Z H F _ [] (.refl R) ⟨.v h4, no0, no0⟩
      ·cases ef
    ·cases e
   ·cases e
  ·cases e
theorem snd_getn {i : Nat} {kx : E} {jj : Nat} (g : Good T k cx X) (ho : PE X x (tVr i)) (hy : PE X y (TEx X.K cx (ev cx kx))) (hl : (apos.endLine == pos.line) = true) (hs : notStar y = true) (h0 : notCall0 x = true) :
  PE X (.Call (.Attribute x "get" apos) [y, .List [] p3] [] pos) (TEx X.K cx (ev cx (.getn i kx))) :=
 PE.mono (pe_g2 (by have := g.room.units; omega) g.at_ ho hy (pe_lst pa_nil) (m2_of h0 hs rfl hl)) fun σ H Q ⟨Z, ρ, F, m, ρ', R, e, q⟩ => by
  simp only [ev] at e
  split at e
  ·cases e
  rename_i hsome
  obtain ⟨ps0, em0⟩ := isNd_of hsome
  obtain ⟨ov, hov, o0⟩ := R.own i _ em0
  obtain ⟨a, vs0, G0, rfl, _, ha0, _, _, _⟩ := nst_case o0
  split at e
  ·rename_i p ρ1 e1
   refine ⟨_, hov, R.fx, a, rfl, .inl (.inl ⟨_, .inl ha0⟩), Z, ρ, F, _, ρ1, R, e1, fun Z1 H1 F1 yv Gy g1 r1 => ⟨Nat.zero_le _, fun D hD => ?_⟩⟩
   obtain ⟨oy, _, _⟩ := r1
   cases oy with
   | v rp =>
    have al : Alloc Z1 H1 Z1 (L2.upd H1 D (.lst [])) [D] := .own g1.rel.sub hD
    have g2 := g1.alloc al
    unfold getN at e
    split at e
    ·rename_i kvs kk e2 ek
     obtain ⟨rfl, ko, _⟩ := keyOf_v ek rp
     obtain ⟨ov2, h1, h2⟩ := g2.rel.own i _ e2
     rw [hov] at h1; cases h1
     generalize hG : F1 i = G at h2
     obtain ⟨a2, vs, G1, hva, hG2, h, hz, r, na⟩ := nst_case h2
     cases hva
     subst hG2
     split at e
     ·rename_i q0 eg
      cases e
      obtain ⟨v, Gk, k1, k2, _⟩ := own_at r eg
      refine ⟨some v, .inl (.inl ⟨_, kk, .inl h, rfl, k1.symm⟩), ?_⟩
      cases k2 with
      | v rv => exact q _ _ F1 v [] g2 ⟨.v rv, no0, no0⟩
     ·rename_i ps eg
      cases e
      obtain ⟨v, Gk, k1, k2, k3, k4⟩ := ownN_upd (A' := fun _ => False) kk r eg
      obtain ⟨b, ws, rfl, rfl, hb, hzb, rb⟩ := lst_case k2
      refine ⟨some (.ref b), .inl (.inl ⟨_, kk, .inl h, rfl, k1.symm⟩), ?_⟩
      have hbG : b ∈ G1 := k3 b (by simp)
      have hab : b ≠ a := fun z => na (z ▸ hbG)
      have zz : Sub Z1 (L2.upd Z1 b (.lst ws)) := sub_upd hzb
      have hs2 : Sub (L2.upd Z1 b (.lst ws)) (L2.upd H1 D (.lst [])) := fun c w hw => by
       by_cases qb : c = b
       ·subst qb; rw [upd_same] at hw; cases hw; exact hb
       ·rw [upd_ne qb] at hw; exact g2.rel.sub c w hw
      have st : Step Z1 (L2.upd H1 D (.lst [])) (L2.upd Z1 b (.lst ws)) (L2.upd H1 D (.lst [])) (· ∈ [b]) (fun _ => False) := ⟨fun _ _ h _ => h, zz, fun c w hw => by
       by_cases qb : c = b
       ·exact .inr (.inl (by simp [qb]))
       ·rw [upd_ne qb] at hw; exact .inl hw, fun _ h => h.elim, fun _ _ _ h => h⟩
      obtain ⟨G3, r3, k5⟩ := k4 (v' := .ref b) (G' := []) (m' := .v (.list ps)) st hs2 (.v (.lst upd_same (rb.sub zz))) (fun _ h => by cases h)
      rw [putK_same r k1] at r3
      have ga : Go X.K cx σ Z H ρ F (L2.upd Z1 b (.lst ws)) (L2.upd H1 D (.lst [])) (ρ1.set i (some (.n (putA kvs kk (.v (.list ps)))))) (fset F1 i (a :: G3)) := by
       have hbF : b ∈ F1 i := by rw [hG]; exact List.mem_cons_of_mem _ hbG
       have st2 : Step Z1 (L2.upd H1 D (.lst [])) (L2.upd Z1 b (.lst ws)) (L2.upd H1 D (.lst [])) (· ∈ F1 i) (· ∈ F1 i) := ⟨fun _ _ h _ => h, zz, fun c w hw => by
        by_cases qb : c = b
        ·exact .inr (.inl (by rw [qb]; exact hbF))
        ·rw [upd_ne qb] at hw; exact .inl hw, fun _ h => .inl h, fun _ _ _ h => h⟩
       have hza : L2.upd Z1 b (.lst ws) a = none := by rw [upd_ne (Ne.symm hab)]; exact hz
       obtain ⟨q1, q2⟩ := g2.rel.upd (m := .n (putA kvs kk (.v (.list ps)))) (G := a :: G3) e2 st2 hs2 hov (.n h hza r3 (fun hm => by
        rcases k5 a hm with z | z
        ·exact na z
        ·cases z)) (fun c hc => .inl (by
        rw [hG]
        rcases List.mem_cons.mp hc with z | z
        ·simp [z]
        ·rcases k5 c z with z | z
         ·simp [z]
         ·cases z))
       exact ⟨q1, g2.st.trans q2, g2.lk.trans (lk_set e2 rfl)⟩
      exact q _ _ _ (.ref b) [] ga ⟨.v (.lst upd_same (rb.sub zz)), no0, no0⟩
     ·cases e
     ·rename_i eg
      cases e
      have hn := ownN_get kk r
      rw [eg] at hn
      refine ⟨none, .inl (.inl ⟨_, kk, .inl h, rfl, hn.symm⟩), ?_⟩
      have hzD : Z1 D = none := z_none g1.rel.sub hD
      have nwD : U F D ∨ H D = none := new_back g1.st hD
      obtain ⟨g3, zz⟩ := freeze (o := .lst []) g2 upd_same hzD (fun hu => by
       obtain ⟨_, w, hw, _⟩ := g1.rel.mem hu
       rw [hD] at hw; cases hw) nwD trivial (fun _ _ z => by cases z) (.inl rfl)
      rw [upd_eq upd_same] at g3
      exact q _ _ _ (.ref D) [] g3 ⟨.v (.lst upd_same .nil), no0, no0⟩
    ·cases e
  ·cases e
end
end Mn
end
section
set_option maxHeartbeats 200000
namespace Mn
open PySem L2 PySem.Spec
variable [WW] [FX]
section
variable {T : Tab} {k : Nat} {cx : Cxt} {X : Cx} {x y z : Expr} {st : Stmt} {pos p2 p3 p4 apos tpos : Pos}
def frzG (g : Ev1) : Ev1 := fun ρ => match g ρ with
 | some (m, ρ1) => some (frzL m, ρ1)
 | none => none
theorem pe_frz {g : Ev1} (h : PE X x (TEx X.K cx g)) : PE X x (TEx X.K cx (frzG g)) := PE.mono h fun σ H Q ⟨Z, ρ, F, m, ρ', R, e, q⟩ => by
 unfold frzG at e
 split at e
 ·rename_i m0 ρ1 e1
  cases e
  refine ⟨Z, ρ, F, m0, _, R, e1, fun Z1 H1 F1 v G g1 r1 => ?_⟩
  by_cases hm : ∃ ps, m0 = .l ps
  ·obtain ⟨ps, rfl⟩ := hm
   obtain ⟨ow, ap, nw⟩ := r1
   obtain ⟨a, vs, rfl, rfl, h, hz, r⟩ := lst_case ow
   obtain ⟨g2, zz⟩ := freeze (o := .lst vs) g1 h hz (ap a (by simp)) (nw a (by simp)) trivial (fun _ _ z => by cases z) (.inl rfl)
   rw [upd_eq h] at g2
   exact q _ _ _ (.ref a) [] g2 ⟨.v (.lst upd_same (r.sub zz)), no0, no0⟩
  ·have : frzL m0 = m0 := by cases m0 <;> first | rfl | exact (hm ⟨_, rfl⟩).elim
   rw [this] at q
   exact q Z1 H1 F1 v G g1 r1
 ·cases e
inductive KvOk (X : Cx) (cx : Cxt) (pos : Pos) : EL → List (Option Expr) → List Expr → List (TE × TE) → Prop
 | nil : KvOk X cx pos .nil [] [] []
 | cons {f : Str} {e : E} {r : EL} {j : Nat} {v : Expr} {ks : List (Option Expr)} {vs : List Expr} {trs : List (TE × TE)} {pq : Pos} : KeyOk (.inr f) → PE X v (TEx X.K cx (ev cx e)) → KvOk X cx pos r ks vs trs → KvOk X cx pos (.cons (.ks f) (.cons e r)) (some (.Constant (.str f) j pq) :: ks) (v :: vs) ((tC (.str f), TEx X.K cx (frzG (ev cx e))) :: trs)
 | consI {f : Int} {e : E} {r : EL} {j : Nat} {v : Expr} {ks : List (Option Expr)} {vs : List Expr} {trs : List (TE × TE)} {pq : Pos} : PE X v (TEx X.K cx (ev cx e)) → KvOk X cx pos r ks vs trs → KvOk X cx pos (.cons (.ki f) (.cons e r)) (some (.Constant (.int f) j pq) :: ks) (v :: vs) ((tC (.int f), TEx X.K cx (frzG (ev cx e))) :: trs)
theorem KvOk.pps {es : EL} {ks : List (Option Expr)} {vs : List Expr} {trs : List (TE × TE)} (h : KvOk X cx pos es ks vs trs) : PPs X pos ks vs trs ∧ ks.all (·.isSome) = true ∧ ks.length = vs.length := by
 induction h with
 | nil => exact ⟨pps_nil, rfl, rfl⟩
 | cons ko hv _ ih => exact ⟨pps_cons pe_str (pe_frz hv) ih.1, by rw [List.all_cons, ih.2.1]; rfl, by rw [List.length_cons, List.length_cons, ih.2.2]⟩
 | consI hv _ ih => exact ⟨pps_cons pe_int (pe_frz hv) ih.1, by rw [List.all_cons, ih.2.1]; rfl, by rw [List.length_cons, List.length_cons, ih.2.2]⟩
structure KvRes (K : PySem.W.Frag) (Z H : Hp) (A : AS) (Z' H' : Hp) (F' : Nat → List Addr) (xs : List (Key × M)) (ws : List (Key × V)) (G : List Addr) : Prop where
 own : OwnN K Z' H' xs ws G
 ap : ∀ a ∈ G, ¬ U F' a
 nw : ∀ a ∈ G, A a ∨ H a = none
theorem kv_chain {es : EL} {ks : List (Option Expr)} {vs : List Expr} {trs : List (TE × TE)} (h : KvOk X cx pos es ks vs trs) : ∀ {σ : St} {H : Hp} {Q : List (V × V) → Hp → Prop}, (∃ Z ρ F xs ρ', Rel X.K Z H σ ρ F ∧ evkv cx es ρ = some (xs, ρ') ∧
  ∀ Z' H' F' ws G, Go X.K cx σ Z H ρ F Z' H' ρ' F' → KvRes X.K Z H (U F) Z' H' F' xs ws G → Q (ws.map fun kv => (kV kv.1, kv.2)) H') → tPairs trs σ H Q := by
 induction h with
 | nil =>
  intro σ H Q ⟨Z, ρ, F, xs, ρ', R, e, q⟩
  simp only [evkv] at e
  cases e
  exact q Z H F [] [] (.refl R) ⟨.nil, no0, no0⟩
 | @cons f e0 r j v ks vs trs pq ko hv _ ih =>
  intro σ H Q ⟨Z, ρ, F, xs, ρ', R, e, q⟩
  simp only [evkv] at e
  split at e
  ·rename_i m ρ1 e1
   split at e
   ·rename_i xs2 ρ2 e2
    split at e
    ·cases e
    ·rename_i hn
     cases e
     refine ⟨Z, ρ, F, frzL m, ρ1, R, by unfold frzG; rw [e1], fun Z1 H1 F1 v1 G1 g1 r1 => ih ⟨Z1, ρ1, F1, xs2, _, g1.rel, e2, fun Z2 H2 F2 ws G2 g2 k2 => ?_⟩⟩
     have r1' := r1.carry g2
     have dj : ∀ a ∈ G1, a ∉ G2 := fun a ha hb => by
      rcases k2.nw a hb with h | h
      ·exact r1.ap a ha h
      ·obtain ⟨_, u, hu, _⟩ := r1.own.at_ a ha
       rw [h] at hu; cases hu
     have hg : getA xs2 (.inr f) = none := by
      cases hq : getA xs2 (.inr f) with
      | none => rfl
      | some w => rw [hq] at hn; exact (hn rfl).elim
     refine q Z2 H2 F2 ((.inr f, v1) :: ws) (G1 ++ G2) (g1.trans g2) ⟨.cons ko hg r1'.own k2.own dj, fun a ha => ?_, fun a ha => ?_⟩
     ·rcases List.mem_append.mp ha with h | h
      ·exact r1'.ap a h
      ·exact k2.ap a h
     ·rcases List.mem_append.mp ha with h | h
      ·exact r1.nw a h
      ·rcases k2.nw a h with z | z
       ·exact g1.st.an a z
       ·exact new_back g1.st z
   ·cases e
  ·cases e
 | @consI f e0 r j v ks vs trs pq hv _ ih =>
  intro σ H Q ⟨Z, ρ, F, xs, ρ', R, e, q⟩
  simp only [evkv] at e
  split at e
  ·rename_i m ρ1 e1
   split at e
   ·rename_i xs2 ρ2 e2
    split at e
    ·cases e
    ·rename_i hn
     cases e
     refine ⟨Z, ρ, F, frzL m, ρ1, R, by unfold frzG; rw [e1], fun Z1 H1 F1 v1 G1 g1 r1 => ih ⟨Z1, ρ1, F1, xs2, _, g1.rel, e2, fun Z2 H2 F2 ws G2 g2 k2 => ?_⟩⟩
     have r1' := r1.carry g2
     have dj : ∀ a ∈ G1, a ∉ G2 := fun a ha hb => by
      rcases k2.nw a hb with h | h
      ·exact r1.ap a ha h
      ·obtain ⟨_, u, hu, _⟩ := r1.own.at_ a ha
       rw [h] at hu; cases hu
     have hg : getA xs2 (.inl f) = none := by
      cases hq : getA xs2 (.inl f) with
      | none => rfl
      | some w => rw [hq] at hn; exact (hn rfl).elim
     refine q Z2 H2 F2 ((.inl f, v1) :: ws) (G1 ++ G2) (g1.trans g2) ⟨.cons (show KeyOk (.inl f) from trivial) hg r1'.own k2.own dj, fun a ha => ?_, fun a ha => ?_⟩
     ·rcases List.mem_append.mp ha with h | h
      ·exact r1'.ap a h
      ·exact k2.ap a h
     ·rcases List.mem_append.mp ha with h | h
      ·exact r1.nw a h
      ·rcases k2.nw a h with z | z
       ·exact g1.st.an a z
       ·exact new_back g1.st z
   ·cases e
  ·cases e
theorem merge_own {K : PySem.W.Frag} {Z H : Hp} : ∀ {ms : List (Key × M)} {ws : List (Key × V)} {G : List Addr} (acc : List (Key × V)), OwnN K Z H ms ws G → (∀ kv ∈ acc, valV ws kv.1 = none) → mergeK acc ws = acc ++ ws
 | _, _, _, acc, .nil, _ => by rw [List.append_nil]; rfl
 | _, _, _, acc, @OwnN.cons _ _ _ _ k0 m0 v0 ms vs G G2 ko kn o t d, h => by
  have hn := ownN_get k0 t
  rw [kn] at hn
  have h1 : valV acc k0 = none := by
   cases hq : valV acc k0 with
   | none => rfl
   | some w =>
    unfold valV at hq
    obtain ⟨kv, h2, h3⟩ := Option.map_eq_some_iff.mp hq
    have h4 := List.mem_of_find?_eq_some h2
    have h5 := List.find?_some h2
    have h6 : kv.1 = k0 := by simpa using h5
    have := h kv h4
    rw [h6, valV_pos rfl] at this
    cases this
  show mergeK (putK acc k0 v0) vs = _
  rw [putK_none h1, merge_own _ t fun kv hm => ?_]
  ·simp
  ·rcases List.mem_append.mp hm with h2 | h2
   ·have h3 := h kv h2
    by_cases q : k0 = kv.1
    ·rw [valV_pos q] at h3; cases h3
    ·rw [valV_neg q] at h3; exact h3
   ·simp at h2
    subst h2
    exact hn
theorem ownN_drel {K : PySem.W.Frag} {Z H : Hp} : ∀ {ms : List (Key × M)} {vs : List (Key × V)} {G : List Addr} {ps : List (Key × P)}, OwnN K Z H ms vs G → allVs ms = some ps → DRel K Z vs ps
 | _, _, _, ps, .nil, e => by
  simp only [allVs] at e
  cases e
  exact .nil
 | _, _, _, ps, .cons (k := k) (m := m) ko kn o r d, e => by
  cases o with
  | v hr =>
   simp only [allVs] at e
   obtain ⟨qs, e1, rfl⟩ := Option.map_eq_some_iff.mp e
   exact .cons ⟨rfl, ko, hr⟩ (ownN_drel r e1)
  | _ => simp only [allVs] at e; cases e
theorem own_dd {K : PySem.W.Frag} {Z H : Hp} {a : Addr} {ms : List (Key × M)} {vs : List (Key × V)} {G : List Addr} (t : Nat) (h : H a = some (.dK vs)) (hz : Z a = none) (r : OwnN K Z H ms vs G) (hn : a ∉ G) : ∃ G', Own K Z H (ddM t ms) (.ref a) (a :: G') ∧ ∀ x ∈ G', x ∈ G := by
 unfold ddM
 split
 ·cases e : allVs ms with
  | some ps => exact ⟨[], .d h hz (ownN_drel r e), fun x hx => by cases hx⟩
  | none => exact ⟨G, .n h hz r hn, fun x hx => hx⟩
 ·exact ⟨G, .n h hz r hn, fun x hx => hx⟩
theorem snd_dd {t : Nat} {es : EL} {ks : List (Option Expr)} {vs : List Expr} {trs : List (TE × TE)} (h : KvOk X cx pos es ks vs trs) (h0 : ks ≠ []) (h15 : ks.length ≤ 15) : PE X (.Dict ks vs pos) (TEx X.K cx (ev cx (.dd t es))) := by
 obtain ⟨hp, ha, hl⟩ := h.pps
 refine PE.mono (pe_disp hp ha hl h0 h15) fun σ H Q ⟨Z, ρ, F, m, ρ', R, e, q⟩ => fun D hD => ?_
 simp only [ev] at e
 split at e
 ·rename_i xs ρ1 e1
  cases e
  have g0 : Go X.K cx σ Z H ρ F Z (L2.upd H D (.dK [])) ρ F := (Go.refl R).alloc (.own R.sub hD)
  have hzD := z_none R.sub hD
  have hu : ¬ U F D := fun hu => by
   obtain ⟨_, w, hw, _⟩ := R.mem hu
   rw [hD] at hw; cases hw
  have o0 : Own X.K Z (L2.upd H D (.dK [])) (.d []) (.ref D) [D] := .d upd_same hzD .nil
  refine kv_chain h ⟨Z, ρ, F, xs, _, g0.rel, e1, fun Z2 H2 F2 ws G g2 k2 => ?_⟩
  obtain ⟨o2, n2⟩ := o0.step (fun a ha => by simp at ha; subst ha; exact hu) g2.st g2.rel.sub
  obtain ⟨a, vs2, hva, _, h2, hz2, r2⟩ := dic_case o2
  cases hva
  cases r2
  have hlen : ws.length ≤ 15 := by
   have h1 := valV_getA k2.own
   have h3 : ∀ {es : EL} {ks : List (Option Expr)} {vs : List Expr} {trs : List (TE × TE)}, KvOk X cx pos es ks vs trs → ∀ {ρ ρ' : Env} {xs : List (Key × M)}, evkv cx es ρ = some (xs, ρ') → xs.length = ks.length := by
    intro es ks vs trs hk
    induction hk with
    | nil => intro ρ ρ' xs e; simp only [evkv] at e; cases e; rfl
    | cons _ _ _ ih =>
     intro ρ ρ' xs e
     simp only [evkv] at e
     split at e
     ·split at e
      ·rename_i e5
       split at e
       ·cases e
       ·cases e
        rw [List.length_cons, List.length_cons, ih e5]
      ·cases e
     ·cases e
    | consI _ _ ih =>
     intro ρ ρ' xs e
     simp only [evkv] at e
     split at e
     ·split at e
      ·rename_i e5
       split at e
       ·cases e
       ·cases e
        rw [List.length_cons, List.length_cons, ih e5]
      ·cases e
     ·cases e
   rw [h1, h3 h e1]; exact h15
  refine ⟨h2, ws, rfl, hlen, ?_⟩
  rw [merge_own [] k2.own (fun _ h => by cases h), List.nil_append]
  have hDG : D ∉ G := fun hm => by
   rcases k2.nw D hm with z | z
   ·exact hu z
   ·rw [upd_same] at z; cases z
  have gs : Go X.K cx σ Z H ρ F Z2 (L2.upd H2 D (.dK ws)) _ F2 := ((g0.trans g2).gs.side hD (n2 D (by simp)) hz2 (R.fxn hD)).go
  obtain ⟨G', oG, hG'⟩ := own_dd (K := X.K) (Z := Z2) t (H := L2.upd H2 D (.dK ws)) (a := D) upd_same hz2 (k2.own.keep (Sub.rfl' _) (fun a ha o ho => by
   have : a ≠ D := fun z => hDG (z ▸ ha)
   rw [upd_ne this]; exact ho) fun a ha => (k2.own.at_ a ha).1) hDG
  refine q _ _ F2 (.ref D) (D :: G') gs ⟨oG, fun a ha => ?_, fun a ha => ?_⟩
  ·rcases List.mem_cons.mp ha with z | z
   ·subst z; exact n2 a (by simp)
   ·exact k2.ap a (hG' a z)
  ·rcases List.mem_cons.mp ha with z | z
   ·subst z; exact .inr hD
   ·have z := hG' a z
    rcases k2.nw a z with w | w
    ·exact .inl w
    ·by_cases qa : a = D
     ·subst qa; exact (hDG z).elim
     ·rw [upd_ne qa] at w; exact .inr w
 ·cases e
theorem snd_dr {x y : Expr} {T : Tab} {k : Nat} {a b : E} (g : Good T k cx X) (hk : PE X x (TEx X.K cx (ev cx a))) (hv : PE X y (TEx X.K cx (ev cx b))) : PE X (.Dict [some x] [y] pos) (TEx X.K cx (ev cx (.dr a b))) := by
 refine ⟨fun pins s σ H Q I q0 => ?_⟩
 obtain ⟨Z, ρ, F, m, ρ', R, e, q⟩ := q0
 simp only [ev] at e
 split at e
 ·rename_i p ρ1 e1
  split at e
  ·rename_i m1 ρ2 e3
   split at e
   ·rename_i xv e4
    split at e
    ·rename_i kk e2
     cases e
     cases kk with
     | inr kk =>
      cases p <;> cases e2
     | inl kk =>
      refine (pe_dispN g.at_ hk (px_of hv)).run pins s σ H Q I fun D hD => ?_
      have g0 : Go X.K cx σ Z H ρ F Z (L2.upd H D (NoneO D [])) ρ F := (Go.refl R).alloc (.own R.sub hD)
      have hzD := z_none R.sub hD
      have hu : ¬ U F D := fun hu => by
       obtain ⟨_, w, hw, _⟩ := R.mem hu
       rw [hD] at hw; cases hw
      have o0 : Own X.K Z (L2.upd H D (NoneO D [])) (.r []) (.ref D) [D] := .rn upd_same hzD .nil
      refine ⟨Z, ρ, F, .v p, ρ1, g0.rel, e1, fun Z1 H1 F1 v1 G1 g1 r1 => ?_⟩
      obtain ⟨ow, _, _⟩ := r1
      cases ow with
      | v rp =>
       refine ⟨Z1, ρ1, F1, xv, ρ', g1.rel, by unfold toPg; rw [e3]; simp only [e4], fun Z2 H2 F2 w g2 rw2 => ?_⟩
       have gg := g1.trans g2
       obtain ⟨o2, n2⟩ := o0.step (fun a ha => by simp at ha; subst ha; exact hu) gg.st gg.rel.sub
       have h2 : H2 D = some (NoneO D []) := gg.st.fr D _ upd_same hu
       have hz2 : Z2 D = none := (o2.at_ D (by simp)).1
       obtain ⟨ey, ko⟩ := rkOf_v e2 rp
       refine ⟨h2, kk, ey, ?_⟩
       have gs : Go X.K cx σ Z H ρ F Z2 (L2.upd H2 D (NoneO D [(kk, w)])) _ F2 := ((g0.trans gg).gs.side hD (n2 D (by simp)) hz2 (R.fxn hD)).go
       refine q _ _ F2 (.ref D) [D] gs ⟨.rn upd_same hz2 (.cons ⟨rfl, ko, rw2⟩ .nil), fun a ha => ?_, fun a ha => ?_⟩
       ·simp at ha; subst ha; exact n2 a (by simp)
       ·simp at ha; subst ha; exact .inr hD
    ·rename_i kk e2 e5
     cases e
     refine (pe_dispU (by have := g.room.units; omega) g.at_ hk (px_of hv)).run pins s σ H Q I fun D hD => ?_
     have g0 : Go X.K cx σ Z H ρ F Z (L2.upd H D (TupO D [])) ρ F := (Go.refl R).alloc (.own R.sub hD)
     have hzD := z_none R.sub hD
     have hu : ¬ U F D := fun hu => by
      obtain ⟨_, w, hw, _⟩ := R.mem hu
      rw [hD] at hw; cases hw
     have o0 : Own X.K Z (L2.upd H D (TupO D [])) (.u []) (.ref D) [D] := .uo upd_same hzD .nil
     refine ⟨Z, ρ, F, .v p, ρ1, g0.rel, e1, fun Z1 H1 F1 v1 G1 g1 r1 => ?_⟩
     obtain ⟨ow, _, _⟩ := r1
     cases ow with
     | v rp =>
      refine ⟨Z1, ρ1, F1, xv, ρ', g1.rel, by unfold toPg; rw [e3]; simp only [e4], fun Z2 H2 F2 w g2 rw2 => ?_⟩
      have gg := g1.trans g2
      obtain ⟨o2, n2⟩ := o0.step (fun a ha => by simp at ha; subst ha; exact hu) gg.st gg.rel.sub
      have h2 : H2 D = some (TupO D []) := gg.st.fr D _ upd_same hu
      have hz2 : Z2 D = none := (o2.at_ D (by simp)).1
      obtain ⟨c, ey, hc, _⟩ := nkOf_v e5 rp
      refine ⟨h2, kk, c, ey, (hc.sub g2.st.zz).sub g2.rel.sub, ?_⟩
      have gs : Go X.K cx σ Z H ρ F Z2 (L2.upd H2 D (TupO D [(kk, c, w)])) _ F2 := ((g0.trans gg).gs.side hD (n2 D (by simp)) hz2 (R.fxn hD)).go
      refine q _ _ F2 (.ref D) [D] gs ⟨.uo upd_same hz2 (.cons ⟨rfl, hc.sub g2.st.zz, rw2⟩ .nil), fun a ha => ?_, fun a ha => ?_⟩
      ·simp at ha; subst ha; exact n2 a (by simp)
      ·simp at ha; subst ha; exact .inr hD
    ·cases e
   ·cases e
  ·cases e
 ·cases e
theorem Go.mutN {K : PySem.W.Frag} {X : Cxt} {σ : St} {Z H Z1 H1 : Hp} {ρ ρ1 : Env} {F F1 : Nat → List Addr} {i : Nat} {a b : Addr} {kk : Key} {m m' : M} {ms : List (Key × M)} {vs : List (Key × V)} {G1 : List Addr} {u u' : HO} (g : Go K X σ Z H ρ F Z1 H1 ρ1 F1) (e : slot ρ1 i = some (.n ms)) (hs : σ[i]? = some (some (.ref a)))
  (hG : F1 i = a :: G1) (h : H1 a = some (.dK vs)) (hz : Z1 a = none) (r : OwnN K Z1 H1 ms vs G1) (na : a ∉ G1) (eg : getA ms kk = some m) (hv : valV vs kk = some (.ref b)) (hb : H1 b = some u) (nf : ∀ o' w, u ≠ .frz o' w)
  (ho : ∀ Gk, Own K Z1 H1 m (.ref b) Gk → Gk = [b]) (o : Own K Z1 (L2.upd H1 b u') m' (.ref b) [b]) : ∃ F2, Go K X σ Z H ρ F Z1 (L2.upd H1 b u') (ρ1.set i (some (.n (putA ms kk m')))) F2 := by
 obtain ⟨v, Gk, k1, k2, k3, k4⟩ := ownN_upd (A' := (· ∈ [b])) kk r eg
 rw [hv] at k1
 cases k1
 have := ho Gk k2
 subst this
 have hbG : b ∈ G1 := k3 b (by simp)
 have hab : a ≠ b := fun z => na (z ▸ hbG)
 have zb : Z1 b = none := (r.at_ b hbG).1
 have sb : Sub Z1 (L2.upd H1 b u') := fun c w hc => by
  have : c ≠ b := fun q => by subst q; rw [zb] at hc; cases hc
  rw [upd_ne this]; exact g.rel.sub c w hc
 have st : Step Z1 H1 Z1 (L2.upd H1 b u') (· ∈ [b]) (· ∈ [b]) := ⟨fun c w hc n => by rw [upd_ne (fun q => n (by simp [q]))]; exact hc, Sub.rfl' _, fun _ _ h => .inl h, fun _ h => .inl h, fun c o' w hc => by
  by_cases q : c = b
  ·subst q; rw [hb] at hc; cases hc; exact (nf _ _ rfl).elim
  ·rw [upd_ne q]; exact hc⟩
 obtain ⟨G3, r3, k5⟩ := k4 (v' := .ref b) st sb o (fun x hx => .inl hx)
 rw [putK_same r hv] at r3
 refine ⟨_, g.mut (a := b) (u := u) (u' := u') (m' := .n (putA ms kk m')) (G := a :: G3) e rfl hs (by rw [hG]; exact List.mem_cons_of_mem _ hbG) hb nf (.n (by rw [upd_ne hab]; exact h) hz r3 (fun hm => ?_)) (fun c hc => .inl ?_)⟩
 ·rcases k5 a hm with z | z
  ·exact na z
  ·simp at z; exact hab z
 ·rw [hG]
  rcases List.mem_cons.mp hc with z | z
  ·simp [z]
  ·rcases k5 c z with w | w
   ·simp [w]
   ·simp at w; subst w; exact List.mem_cons_of_mem _ hbG
theorem aside {K : PySem.W.Frag} {X : Cxt} {σ : St} {Z H Z1 H1 : Hp} {ρ ρ1 : Env} {F F1 : Nat → List Addr} {i : Nat} {m : M} (R : Rel K Z H σ ρ F) (e : slot ρ i = some m) (nk : isLk (some m) = false) (g : Go K X σ Z H (ρ.set i none) (fset F i []) Z1 H1 ρ1 F1) (hn : slot ρ1 i = none) :
  Go K X σ Z H ρ F Z1 H1 (ρ1.set i (some m)) (fset F1 i (F i)) ∧ (∀ a ∈ F i, ∀ o, H a = some o → H1 a = some o) ∧ ∀ a ∈ F i, Z1 a = none := by
 obtain ⟨v, h1, h2, h3⟩ := R.del_own e
 obtain ⟨o2, n2⟩ := h2.step h3 g.st g.rel.sub
 have hi : i < ρ1.length := by rw [g.lk.len, List.length_set]; exact slot_lt e
 refine ⟨⟨g.rel.put hn hi h1 o2 n2, ⟨fun a o h n => g.st.fr a o h fun q => n (U_del q), g.st.zz, fun a o h => ?_, fun a h => ?_, g.st.fz⟩, ⟨fun j n hj => ?_, fun j hp hj => ?_, by rw [List.length_set, g.lk.len, List.length_set]⟩⟩, fun a ha o ho => g.st.fr a o ho (h3 a ha), fun a ha => (o2.at_ a ha).1⟩
 ·rcases g.st.zn a o h with h | h | h | h
  ·exact .inl h
  ·exact .inr (.inl (U_del h))
  ·exact .inr (.inr (.inl h))
  ·exact .inr (.inr (.inr h))
 ·rcases U_fset_sub h with h | h
  ·exact .inl ⟨i, h⟩
  ·rcases g.st.an a h with h | h
   ·exact .inl (U_del h)
   ·exact .inr h
 ·have q : i ≠ j := fun z => by subst z; rw [e] at hj; cases hj; cases nk
  rw [slot_other _ q]
  exact g.lk.lk j n (by rw [slot_other _ q]; exact hj)
 ·by_cases q : i = j
  ·subst q; rw [slot_self _ hi]; exact fun z => nomatch z
  ·rw [slot_other _ q]
   exact g.lk.pm j hp (by rw [slot_other _ q]; exact hj)
theorem dRel_drop {K : PySem.W.Frag} {Z : Hp} (k : Key) {vs : List (Key × V)} {ps : List (Key × P)} (r : DRel K Z vs ps) : DRel K Z (dropK vs k) (ps.filter fun kv => decide (kv.1 ≠ k)) := by
 unfold dropK
 induction r with
 | nil => exact .nil
 | @cons x y xs ys h1 _ ih =>
  rw [List.filter_cons, List.filter_cons, h1.1]
  split
  ·exact .cons h1 ih
  ·exact ih
theorem snd_dpop {i : Nat} {e : E} (ho : PE X x (tVr i)) (he : PE X y (TEx X.K cx (ev cx e))) (h0 : notCall0 x = true) (hs : notStar y = true) (hl : (apos.endLine == pos.line) = true) : PE X (.Call (.Attribute x "pop" apos) [y] [] pos) (TEx X.K cx (ev cx (.dpop i e))) :=
 PE.mono (pe_dpop1 ho he (m1_of h0 hs hl)) fun σ H Q ⟨Z, ρ, F, m, ρ', R, e0, q⟩ => by
  simp only [ev] at e0
  split at e0
  ·rename_i kvs0 em0
   obtain ⟨ov, hov, o0⟩ := R.own i _ em0
   obtain ⟨a, vs0, rfl, _, ha0, _, _⟩ := dic_case o0
   split at e0
   ·rename_i p ρ1 e1
    split at e0
    ·rename_i kvs k e2 ek
     split at e0
     ·rename_i q0 eg
      cases e0
      refine ⟨_, hov, R.fx, a, rfl, .inl ⟨_, .inl ha0⟩, Z, ρ, F, .v p, ρ1, R, e1, fun Z1 H1 F1 yv Gy g1 r1 => ?_⟩
      obtain ⟨oy, _, _⟩ := r1
      cases oy with
      | v rp =>
       obtain ⟨ov2, h1, h2⟩ := g1.rel.own i _ e2
       rw [hov] at h1; cases h1
       generalize hG : F1 i = G at h2
       obtain ⟨a2, vs, hva, hG2, h, hz, r⟩ := dic_case h2
       cases hva
       subst hG2
       obtain ⟨rfl, ko, _⟩ := keyOf_v ek rp
       have hit := dRel_hit r k
       rw [eg] at hit
       obtain ⟨v2, h3, h4⟩ := (show ∃ v, valV vs k = some v ∧ Rep X.K Z1 v q0 from hit)
       have gm := g1.mut (u := .dK vs) (m' := .d (kvs.filter fun kv => decide (kv.1 ≠ k))) e2 rfl hov (by rw [hG]; simp) h (fun _ _ z => by cases z) (.d upd_same hz (dRel_drop k r)) (fun x hx => .inl (by rw [hG]; exact hx))
       exact ⟨vs, k, v2, h, rfl, h3, q _ _ _ v2 [] gm ⟨.v h4, no0, no0⟩⟩
     ·cases e0
    ·cases e0
   ·cases e0
  ·cases e0
theorem fld_at {K : PySem.W.Frag} {σ : St} {Z H : Hp} {ρ : Env} {F : Nat → List Addr} {i j : Nat} {f : Str} {kvs : List (NK × P)} {kk : NK} (R : Rel K Z H σ ρ F) (e : fldU (slot ρ i) f (slot ρ j) = some (kvs, kk)) : ∃ (a b bk : Addr) (vs : List (Key × V)) (ws : List (NK × Addr × V)), σ[i]? = some (some (.ref a)) ∧ σ[j]? = some (some (.ref bk)) ∧ DGet H a (.str f) (some (.ref b)) ∧ H b = some (TupO b ws) ∧ URel K Z ws kvs ∧ NkAt K Z kk bk := by
 unfold fldU at e
 split at e
 ·rename_i m0 p e1 e2
  split at e
  ·rename_i kv2 k2 ef ek
   cases e
   obtain ⟨ov, hov, o0⟩ := R.own i _ e1
   obtain ⟨yv, hyv, oy⟩ := R.own j _ e2
   generalize F j = Gj at oy
   cases oy with
   | v rp =>
    unfold field at ef
    split at ef
    ·rename_i ms
     obtain ⟨a, vs, G1, rfl, _, h, hz, r, na⟩ := nst_case o0
     obtain ⟨v, Gk, h1, h2, _⟩ := own_at r ef
     obtain ⟨b, ws, rfl, _, hb, hzb, rb⟩ := uno_case h2
     obtain ⟨bk, rfl, hbk, _⟩ := nkOf_v ek rp
     exact ⟨a, b, bk, vs, ws, hov, hyv, by rw [← h1]; exact DGet.k (k := .inr f) h, hb, rb, hbk⟩
    ·cases ef
  ·cases e
 ·cases e
theorem snd_fgu {i j jj : Nat} {f : Str} (g : Good T k cx X) (ho : PE X x (tVr i)) (hy : PE X y (tVr j)) (hs : notSlice y = true) :
  PE X (.Subscript (.Subscript x (.Constant (.str f) jj p3) p2) y pos) (TEx X.K cx (ev cx (.fgu i f j))) :=
 PE.mono (pe_ix (sub_R g.room.units g.at_) (pe_dget (by have := g.room.units; omega) ho (pe_str (x := f)) (fun _ _ => rfl)) hy (plain_ix hs)) fun σ H Q ⟨Z, ρ, F, m, ρ', R, e, q⟩ => by
  simp only [ev] at e
  split at e
  ·rename_i kvs kk e1
   split at e
   ·rename_i qv eg
    cases e
    obtain ⟨a, b, bk, vs, ws, hov, hyv, hd, hb, rb, hbk⟩ := fld_at R e1
    have hit := uRel_hit rb kk
    rw [eg] at hit
    obtain ⟨v2, h3, h4⟩ := (show ∃ v, valU ws kk = some v ∧ Rep X.K Z v qv from hit)
    exact ⟨_, hov, R.fx, a, _, rfl, hd, _, hyv, R.fx, .inr (.inr (.inr ⟨b, bk, kk, ws, v2, rfl, rfl, hbk.sub R.sub, .inl hb, uRel_at R.sub rb, h3, q Z H F _ [] (.refl R) ⟨.v h4, no0, no0⟩⟩))⟩
   ·cases e
  ·cases e
theorem snd_fni {i j jj : Nat} {f : Str} (g : Good T k cx X) (ho : PE X x (tVr i)) (hy : PE X y (tVr j)) (hm : behindInMarks (cOp .nin) (.Subscript x (.Constant (.str f) jj p3) p2) = false) :
  PE X (.Compare y [cOp .nin] [.Subscript x (.Constant (.str f) jj p3) p2] pos) (TEx X.K cx (ev cx (.fni i f j))) ∧ PT X (.Compare y [cOp .nin] [.Subscript x (.Constant (.str f) jj p3) p2] pos) (TTs X.K cx (ev cx (.fni i f j))) := by
 have hR := cmp_R (X := X) g.room.units g.at_ .nin
 have hg : PE X (.Subscript x (.Constant (.str f) jj p3) p2) _ := pe_dget (by have := g.room.units; omega) ho (pe_str (x := f)) (fun _ _ => rfl)
 refine ⟨PE.mono (pe_cmpR hR hy hg hm) fun σ H Q ⟨Z, ρ, F, m, ρ', R, e, q⟩ => ?_, PT.mono (pt_cmpR hR hy hg hm) fun σ H Q ⟨Z, ρ, F, c, ρ', R, e, q⟩ => ?_⟩
 ·simp only [ev] at e
  split at e
  ·rename_i kvs kk e1
   cases e
   obtain ⟨a, b, bk, vs, ws, hov, hyv, hd, hb, rb, hbk⟩ := fld_at R e1
   refine ⟨_, hyv, R.fx, _, hov, R.fx, a, _, rfl, hd, .inr (.inr (.inr (.inr ⟨b, bk, kk, ws, rfl, hbk.sub R.sub, rfl, .inl hb, uRel_at R.sub rb, ?_⟩)))⟩
   rw [uRel_any rb kk]
   exact q Z H F _ [] (.refl R) res_bl
  ·cases e
 ·simp only [ev] at e
  split at e
  ·rename_i kvs kk e1
   cases e
   obtain ⟨a, b, bk, vs, ws, hov, hyv, hd, hb, rb, hbk⟩ := fld_at R e1
   refine ⟨_, hyv, R.fx, _, hov, R.fx, a, _, rfl, hd, .inr (.inr (.inr (.inr ⟨b, bk, kk, ws, rfl, hbk.sub R.sub, rfl, .inl hb, uRel_at R.sub rb, ?_⟩)))⟩
   rw [uRel_any rb kk]
   exact ⟨_, rfl, q Z H F (.refl R)⟩
  ·cases e
theorem snd_stf {i : Nat} {f : Str} {jj : Nat} {kx e : E} (g : Good T k cx X) (ho : PE X x (tVr i)) (hk : PE X y (TEx X.K cx (ev cx kx))) (he : PE X z (TEx X.K cx (ev cx e))) :
  PS X (.Assign [.Subscript (.Subscript x (.Constant (.str f) jj p3) p4) y p2] z pos) (TSt X.K cx (evs cx (.stf i f kx e))) := PS.mono (ps_dput (pos' := p2) (by have := g.room.units; omega) (pe_dget (by have := g.room.units; omega) ho (pe_str (x := f)) (fun _ _ => rfl)) hk (px_of he) swaps_sub) fun D σ H ⟨Z, ρ, F, fl, ρ', R, e0, q⟩ => by
 simp only [evs] at e0
 split at e0
 ·cases e0
 rename_i hsome
 obtain ⟨ps0, em0⟩ := isNd_of hsome
 obtain ⟨ov, hov, _⟩ := R.own i _ em0
 split at e0
 ·rename_i m ρ1 e1
  split at e0
  ·rename_i xv e2
   split at e0
   ·rename_i kvs e3
    split at e0
    ·rename_i kv2 e4
     split at e0
     ·rename_i p ρ2 e5
      split at e0
      ·rename_i kk e6 e7
       split at e0
       ·rename_i hlim
        cases e0
        refine ⟨Z, ρ, F, xv, ρ1, R, by unfold toPg; rw [e1]; simp only [e2], fun Z1 H1 F1 w g1 rw1 => ?_⟩
        obtain ⟨ov2, h1, h2⟩ := g1.rel.own i _ e3
        rw [hov] at h1; cases h1
        have hG : ∃ G, F1 i = G := ⟨_, rfl⟩
        obtain ⟨G, hG⟩ := hG
        rw [hG] at h2
        obtain ⟨a, vs, G1, rfl, hG2, h, hz, r, na⟩ := nst_case h2
        subst hG2
        obtain ⟨v, Gk, k1, k2, k3⟩ := own_at r e4
        obtain ⟨b, ws, rfl, hGk, hb, hzb, rb⟩ := dic_case k2
        subst hGk
        have hbG : b ∈ G1 := k3 b (by simp)
        refine ⟨_, hov, g1.rel.fx, a, .ref b, rfl, by rw [← k1]; exact DGet.k (k := .inr f) h, Z1, _, fset F1 i [], .v p, ρ2, g1.rel.del i, e5, fun Z2 H2 F2 yv Gy g2 r2 => ?_⟩
        obtain ⟨oy, _, _⟩ := r2
        cases oy with
        | v rp =>
         obtain ⟨rfl, ko, _⟩ := keyOf_v e7 rp
         obtain ⟨g3, fr, zn⟩ := aside g1.rel e3 rfl g2 e6
         have hF : ∀ c ∈ a :: G1, c ∈ F1 i := fun c hc => by rw [hG]; exact hc
         have h' := fr a (hF a (by simp)) _ h
         have hb' := fr b (hF b (List.mem_cons_of_mem _ hbG)) _ hb
         have r' : OwnN X.K Z2 H2 kvs vs G1 := r.keep g3.st.zz (fun c hc o ho => fr c (hF c (List.mem_cons_of_mem _ hc)) o ho) fun c hc => zn c (hF c (List.mem_cons_of_mem _ hc))
         have e3' : slot (ρ2.set i (some (.n kvs))) i = some (.n kvs) := slot_self _ (by rw [g2.lk.len, List.length_set]; exact slot_lt e3)
         obtain ⟨F4, g4⟩ := (g1.trans g3).mutN (u' := .dK (putK ws kk w)) (m' := .d (putA kv2 kk xv)) e3' hov (by rw [fset_self, hG]) h' (zn a (hF a (by simp))) r' na e4 k1.symm.symm hb' (fun _ _ z => by cases z) (fun Gk' o' => by
          cases o' with
          | d _ _ _ => rfl) (.d upd_same (zn b (hF b (List.mem_cons_of_mem _ hbG))) (dRel_put (dRel_sub g3.st.zz rb) ko (rw1.sub g3.st.zz)))
         rw [List.set_set] at g4
         exact ⟨b, _, rfl, DPut.k hb' (by rw [dRel_len rb]; exact Nat.lt_of_lt_of_le hlim LIM_line), q _ _ _ _ g4.gs⟩
       ·cases e0
      ·cases e0
     ·cases e0
    ·cases e0
   ·cases e0
  ·cases e0
 ·cases e0
theorem snd_stg {i : Nat} {f : Str} {jj : Nat} {kx e : E} (g : Good T k cx X) (ho : PE X x (tVr i)) (hk : PE X y (TEx X.K cx (ev cx kx))) (he : PE X z (TEx X.K cx (ev cx e))) :
  PS X (.Assign [.Subscript (.Subscript x (.Constant (.str f) jj p3) p4) y p2] z pos) (TSt X.K cx (evs cx (.stg i f kx e))) := PS.mono (ps_dputA (pos := pos) (pos' := p2) (by have := g.room.units; omega) g.at_ (pe_dget (by have := g.room.units; omega) ho (pe_str (x := f)) (fun _ _ => rfl)) hk (px_of he) swaps_sub) fun D σ H ⟨Z, ρ, F, fl, ρ', R, e0, q⟩ => by
 simp only [evs] at e0
 split at e0
 ·cases e0
 rename_i hsome
 obtain ⟨ps0, em0⟩ := isNd_of hsome
 obtain ⟨ov, hov, _⟩ := R.own i _ em0
 split at e0
 ·rename_i m ρ1 e1
  split at e0
  ·rename_i xv e2
   split at e0
   ·rename_i kvs e3
    split at e0
    ·rename_i kv2 e4
     split at e0
     ·rename_i p ρ2 e5
      split at e0
      ·rename_i kk e6 e7
       split at e0
       ·rename_i hlim
        cases e0
        refine ⟨Z, ρ, F, xv, ρ1, R, by unfold toPg; rw [e1]; simp only [e2], fun Z1 H1 F1 w g1 rw1 => ?_⟩
        obtain ⟨ov2, h1, h2⟩ := g1.rel.own i _ e3
        rw [hov] at h1; cases h1
        have hG : ∃ G, F1 i = G := ⟨_, rfl⟩
        obtain ⟨G, hG⟩ := hG
        rw [hG] at h2
        obtain ⟨a, vs, G1, rfl, hG2, h, hz, r, na⟩ := nst_case h2
        subst hG2
        obtain ⟨v, Gk, k1, k2, k3⟩ := own_at r e4
        obtain ⟨b, ws, rfl, hGk, hb, hzb, rb⟩ := uno_case k2
        subst hGk
        have hbG : b ∈ G1 := k3 b (by simp)
        refine ⟨_, hov, g1.rel.fx, a, .ref b, rfl, by rw [← k1]; exact DGet.k (k := .inr f) h, Z1, _, fset F1 i [], .v p, ρ2, g1.rel.del i, e5, fun Z2 H2 F2 yv Gy g2 r2 => ?_⟩
        obtain ⟨oy, _, _⟩ := r2
        cases oy with
        | v rp =>
         obtain ⟨bk, rfl, hbk, _⟩ := nkOf_v e7 rp
         obtain ⟨g3, fr, zn⟩ := aside g1.rel e3 rfl g2 e6
         have hF : ∀ c ∈ a :: G1, c ∈ F1 i := fun c hc => by rw [hG]; exact hc
         have h' := fr a (hF a (by simp)) _ h
         have hb' := fr b (hF b (List.mem_cons_of_mem _ hbG)) _ hb
         have r' : OwnN X.K Z2 H2 kvs vs G1 := r.keep g3.st.zz (fun c hc o ho => fr c (hF c (List.mem_cons_of_mem _ hc)) o ho) fun c hc => zn c (hF c (List.mem_cons_of_mem _ hc))
         have e3' : slot (ρ2.set i (some (.n kvs))) i = some (.n kvs) := slot_self _ (by rw [g2.lk.len, List.length_set]; exact slot_lt e3)
         obtain ⟨F4, g4⟩ := (g1.trans g3).mutN (u' := TupO b (putU ws kk bk w)) (m' := .u (putA kv2 kk xv)) e3' hov (by rw [fset_self, hG]) h' (zn a (hF a (by simp))) r' na e4 k1.symm.symm hb' (fun _ _ z => by cases z) (fun Gk' o' => by
          cases o' with
          | uo _ _ _ => rfl) (.uo upd_same (zn b (hF b (List.mem_cons_of_mem _ hbG))) (uRel_put (uRel_sub g3.st.zz rb) hbk (rw1.sub g3.st.zz)))
         rw [List.set_set] at g4
         exact ⟨b, _, rfl, .inr ⟨ws, kk, bk, hb', uRel_at g2.rel.sub (uRel_sub g3.st.zz rb), rfl, hbk.sub g2.rel.sub, by rw [Paired.length rb]; exact Nat.lt_of_lt_of_le hlim LIM_line, rfl⟩, q _ _ _ _ g4.gs⟩
       ·cases e0
      ·cases e0
     ·cases e0
    ·cases e0
   ·cases e0
  ·cases e0
 ·cases e0
theorem snd_sda {i : Nat} {kx e : E} {apos2 : Pos} {cpos : Pos} (ho : PE X x (tVr i)) (hk : PE X y (TEx X.K cx (ev cx kx))) (he : PE X z (TEx X.K cx (ev cx e))) (h0 : notCall0 x = true) (hs : notStar y = true) (hs2 : notStar z = true) (hl : (apos.endLine == cpos.line) = true) (hl2 : (apos2.endLine == p2.line) = true) :
  PS X (.Expr (.Call (.Attribute (.Call (.Attribute x "setdefault" apos) [y, .List [] p3] [] cpos) "append" apos2) [z] [] p2) pos) (TSt X.K cx (evs cx (.sda i kx e))) :=
 PS.mono (ps_expr (pe_bm PySem.F.plainAttrs_list PySem.F.slot_list_append PySem.F.type_list_append mt_append (pe_dsetd ho hk (pe_lst pa_nil) (m2_of h0 hs rfl hl)) (ps_cons he ps_nil (star_of hs2)) (base_of rfl) (few_of hs2) hl2 (star_of hs2) plain0) (swaps_of rfl)) fun D σ H ⟨Z, ρ, F, fl, ρ', R, e0, q⟩ => by
  simp only [evs] at e0
  split at e0
  ·cases e0
  rename_i hsome
  obtain ⟨ps0, em0⟩ := isNd_of hsome
  obtain ⟨ov, hov, o0⟩ := R.own i _ em0
  obtain ⟨a, vs0, G0, rfl, _, ha0, _, _, _⟩ := nst_case o0
  split at e0
  ·rename_i p ρ1 e1
   split at e0
   ·rename_i kvs kk e2 e3
    split at e0
    ·cases e0
    ·rename_i ps es
     split at e0
     ·rename_i m2 ρ2 e4
      split at e0
      ·rename_i xv e5 e6
       cases e0
       refine ⟨_, hov, R.fx, a, rfl, .inl ⟨_, .inl ha0⟩, Z, ρ, F, _, ρ1, R, e1, fun Z1 H1 F1 yv Gy g1 r1 => ⟨Nat.zero_le _, fun L hL => ?_⟩⟩
       obtain ⟨oy, _, _⟩ := r1
       cases oy with
       | v rp =>
        obtain ⟨rfl, ko, _⟩ := keyOf_v e3 rp
        have hzL : Z1 L = none := z_none g1.rel.sub hL
        have hLU : ¬ U F1 L := fun hu => by
         obtain ⟨_, w, hw, _⟩ := g1.rel.mem hu
         rw [hL] at hw; cases hw
        have g2 := g1.alloc (.own (o := .lst []) g1.rel.sub hL)
        obtain ⟨ov2, h1, h2⟩ := g2.rel.own i _ e2
        rw [hov] at h1; cases h1
        have hG : ∃ G, F1 i = G := ⟨_, rfl⟩
        obtain ⟨G, hG⟩ := hG
        rw [hG] at h2
        obtain ⟨a2, vs, G1, hva, hG2, h, hz, r, na⟩ := nst_case h2
        cases hva
        subst hG2
        have there : ∀ {H3 : Hp} {F3 : Nat → List Addr} {vs3 : List (Key × V)} {G3 : List Addr} {b : Addr} {ws : List V} {kvs3 : List (Key × M)}, Go X.K cx σ Z H ρ F Z1 H3 (ρ1.set i (some (.n kvs3))) F3 → F3 i = a :: G3 → H3 a = some (.dK vs3) → OwnN X.K Z1 H3 kvs3 vs3 G3 → a ∉ G3 →
          getA kvs3 kk = some (.l ps) → valV vs3 kk = some (.ref b) → H3 b = some (.lst ws) → RepL X.K Z1 ws ps → b ∈ G3 → ps.length < LIM → (∀ y, putA kvs3 kk y = putA kvs kk y) →
          (fun x H1 => tyV X.K "list" x H1 ∧ TPs X.K cx (evp cx (.cons e .nil)) σ H1 fun xs H2 => rAppend x xs H2 fun _ H3 => D.nx σ H3) (V.ref b) H3 := by
         intro H3 F3 vs3 G3 b ws kvs3 g3 hF3 ha3 r3 na3 eg hv hb rb hbG hlim hput
         have el : slot (ρ1.set i (some (.n kvs3))) i = some (.n kvs3) := slot_self _ (slot_lt e2)
         refine ⟨Or.inl ⟨rfl, _, SqL.of hb⟩, Z1, _, fset F3 i [], [xv], ρ2, (g3.rel.del i), ?_, fun Z4 H4 F4 us g4 rl => ?_⟩
         ·rw [List.set_set]
          exact toPg_evp e4 e5
         ·obtain ⟨w, rfl, rw4⟩ := repL1 rl
          obtain ⟨g5, fr, zn⟩ := aside g3.rel el rfl g4 e6
          have hF : ∀ c ∈ a :: G3, c ∈ F3 i := fun c hc => by rw [hF3]; exact hc
          have ha' := fr a (hF a (by simp)) _ ha3
          have hb' := fr b (hF b (List.mem_cons_of_mem _ hbG)) _ hb
          have r' : OwnN X.K Z4 H4 kvs3 vs3 G3 := r3.keep g5.st.zz (fun c hc o ho => fr c (hF c (List.mem_cons_of_mem _ hc)) o ho) fun c hc => zn c (hF c (List.mem_cons_of_mem _ hc))
          have el5 : slot (ρ2.set i (some (.n kvs3))) i = some (.n kvs3) := slot_self _ (by rw [g4.lk.len, List.length_set, List.length_set]; exact slot_lt e2)
          obtain ⟨F6, g6⟩ := (g3.trans g5).mutN (u' := .lst (ws ++ [w])) (m' := .l (ps ++ [xv])) el5 hov (by rw [fset_self, hF3]) ha' (zn a (hF a (by simp))) r' na3 eg hv hb' (fun _ _ z => by cases z) (fun Gk' o' => by
           cases o' with
           | l _ _ _ => rfl) (.l upd_same (zn b (hF b (List.mem_cons_of_mem _ hbG))) ((rb.sub g5.st.zz).app (.one rw4)))
          rw [List.set_set, hput] at g6
          exact ⟨b, ws, w, rfl, rfl, hb', by rw [rb.length]; exact Nat.lt_of_lt_of_le hlim LIM_line, q _ _ _ _ g6.gs⟩
        have hzL2 : L ≠ a := fun z => by
         subst z
         exact hLU ⟨i, by rw [hG]; simp⟩
        unfold sdN at es
        split at es
        ·rename_i ps2 eg
         split at es
         ·rename_i hlim
          cases es
          obtain ⟨v, Gk, k1, k2, k3⟩ := own_at r eg
          obtain ⟨b, ws, rfl, hGk, hb, hzb, rb⟩ := lst_case k2
          subst hGk
          have hbG : b ∈ G1 := k3 b (by simp)
          have e2' : ρ1.set i (some (.n kvs)) = ρ1 := by
           apply List.ext_getElem?
           intro j
           by_cases qj : i = j
           ·subst qj
            rw [List.getElem?_set_self (slot_lt e2)]
            unfold slot at e2
            cases hq : ρ1[i]? with
            | none => rw [hq] at e2; cases e2
            | some o => rw [hq] at e2; cases o with
             | none => cases e2
             | some m => cases e2; rfl
           ·rw [List.getElem?_set_ne qj]
          refine ⟨vs, kk, h, rfl, ?_, fun v hv => ?_, fun hv => ?_⟩
          ·rw [valV_getA r]; exact Nat.lt_of_lt_of_le hlim.2 LIM_line
          ·rw [k1] at hv; cases hv
           exact there (by rw [e2']; exact g2) hG h r na eg k1 hb rb hbG hlim.1 (fun _ => rfl)
          ·rw [k1] at hv; cases hv
         ·cases es
        ·rename_i eg
         split at es
         ·rename_i hlim
          cases es
          have hn := ownN_get kk r
          rw [eg] at hn
          refine ⟨vs, kk, h, rfl, by rw [valV_getA r]; exact Nat.lt_of_lt_of_le hlim LIM_line, fun v hv => ?_, fun _ => ?_⟩
          ·have hn : valV vs kk = none := hn
           rw [hn] at hv; cases hv
          ·have hn : valV vs kk = none := hn
           have ha1 : H1 a = some (.dK vs) := by rw [upd_ne (Ne.symm hzL2)] at h; exact h
           have hLG : L ∉ G1 := fun z => hLU ⟨i, by rw [hG]; exact List.mem_cons_of_mem _ z⟩
           have r1' : OwnN X.K Z1 (L2.upd (L2.upd H1 L (.lst [])) a (.dK (putK vs kk (.ref L)))) kvs vs G1 := r.keep (Sub.rfl' _) (fun c hc o ho => by
            have : c ≠ a := fun z => na (z ▸ hc)
            rw [upd_ne this]; exact ho) fun c hc => (r.at_ c hc).1
           obtain ⟨G3, r3, k5⟩ := ownN_new (G := G1) (v := .ref L) (m := .l []) (G' := [L]) r1' ko eg (.l (by rw [upd_ne hzL2]; exact upd_same) hzL .nil) (fun c hc => by simp at hc; subst hc; exact hLG)
           rw [← putA_none eg, ← putK_none hn] at r3
           have na3 : a ∉ G3 := fun hm => by
            rcases k5 a hm with z | z
            ·exact na z
            ·simp at z; exact hzL2 z.symm
           have eg3 : getA (putA kvs kk (.l [])) kk = some (.l []) := by rw [getA_put, if_pos rfl]
           obtain ⟨v3, Gk, q1, q2, q3⟩ := own_at r3 eg3
           have hv3 : valV (putK vs kk (.ref L)) kk = some (.ref L) := by
            rw [putK_none hn]
            unfold valV at hn ⊢
            rw [List.find?_append]
            rw [Option.map_eq_none_iff] at hn
            rw [hn]
            simp
           rw [hv3] at q1
           cases q1
           obtain ⟨b, ws, hb1, hGk, hb, hzb, rb⟩ := lst_case q2
           cases hb1
           subst hGk
           have hs3 : Sub Z1 (L2.upd (L2.upd H1 L (.lst [])) a (.dK (putK vs kk (.ref L)))) := fun c w hc => by
            have h1 : c ≠ a := fun z => by subst z; rw [hz] at hc; cases hc
            have h2 : c ≠ L := fun z => by subst z; rw [hzL] at hc; cases hc
            rw [upd_ne h1, upd_ne h2]; exact g1.rel.sub c w hc
           have haF : a ∈ F1 i := by rw [hG]; simp
           have st : Step Z1 H1 Z1 (L2.upd (L2.upd H1 L (.lst [])) a (.dK (putK vs kk (.ref L)))) (· ∈ F1 i) (· ∈ F1 i) := ⟨fun c w hc n => by
            have h1 : c ≠ a := fun z => n (z ▸ haF)
            have h2 : c ≠ L := fun z => by subst z; rw [hL] at hc; cases hc
            rw [upd_ne h1, upd_ne h2]; exact hc, Sub.rfl' _, fun _ _ h => .inl h, fun _ h => .inl h, fun c o' w hc => by
            have h1 : c ≠ a := fun z => by subst z; rw [ha1] at hc; cases hc
            have h2 : c ≠ L := fun z => by subst z; rw [hL] at hc; cases hc
            rw [upd_ne h1, upd_ne h2]; exact hc⟩
           obtain ⟨w1, w2⟩ := g1.rel.upd (m := .n (putA kvs kk (.l []))) (G := a :: G3) e2 st hs3 hov (.n upd_same hz r3 na3) (fun c hc => by
            rcases List.mem_cons.mp hc with z | z
            ·subst z; exact .inl haF
            ·rcases k5 c z with z | z
             ·exact .inl (by rw [hG]; exact List.mem_cons_of_mem _ z)
             ·simp at z; subst z; exact .inr hL)
           exact there (ws := ws) ⟨w1, g1.st.trans w2, g1.lk.trans (lk_set e2 rfl)⟩ (fset_self _ _ _) upd_same r3 na3 eg3 hv3 hb rb (q3 L (by simp)) (show 0 < LIM by decide) (fun y => by
            rw [putA_none eg, putA_none eg]
            have hany : ((kvs ++ [(kk, M.l [])]).any fun kv => decide (kv.1 = kk)) = true := by simp
            unfold putA
            rw [if_pos hany, List.map_append, List.map_cons, if_pos rfl]
            have hm : (kvs.map fun kv => if kv.1 = kk then (kv.1, y) else kv) = kvs := by
             have : ∀ {l : List (Key × M)}, getA l kk = none → (l.map fun kv => if kv.1 = kk then (kv.1, y) else kv) = l := by
              intro l
              induction l with
              | nil => intro _; rfl
              | cons p r ih =>
               intro hn
               by_cases q : p.1 = kk
               ·simp [getA, List.find?_cons, q] at hn
               ·rw [List.map_cons, if_neg q, ih (by simpa [getA, List.find?_cons, q] using hn)]
             exact this eg
            rw [hm]
            rfl)
         ·cases es
        ·cases es
      ·cases e0
     ·cases e0
   ·cases e0
  ·cases e0
end
end Mn
end
section
set_option maxHeartbeats 1000000
namespace Zp
open PySem
open PySem.Sem (wp)
def ItI (t : Bool) (h : Heap) (it l : Addr) (k : Nat) : Prop := match t with
 | true => h.IsTupleIter it l k
 | false => h.IsListIter it l k
def SqI (t : Bool) (h : Heap) (l : Addr) (xs : Array Value) : Prop := match t with
 | true => h.IsTuple l xs
 | false => h.IsList l xs
theorem ItI.at {t : Bool} {h h' : Heap} {it l : Addr} {k : Nat} (x : ItI t h it l k) (e : ∀ o, h.get? it = some o → h'.get? it = some o) : ItI t h' it l k := by
 cases t with
 | true => exact Heap.IsTupleIter.at x e
 | false => exact Heap.IsListIter.at x e
theorem ItI.ext {t : Bool} {h h' : Heap} {it l c : Addr} {k : Nat} (x : ItI t h it l k) (e : Heap.ExtBut c h h') (hn : it ≠ c) : ItI t h' it l k := x.at fun o q => e _ _ hn q
theorem ItI.get {t : Bool} {h : Heap} {it l : Addr} {k : Nat} (x : ItI t h it l k) : ∃ o, h.get? it = some o := by
 cases t with
 | true => obtain ⟨o, e, _⟩ := x; exact ⟨o, e⟩
 | false => obtain ⟨o, e, _⟩ := x; exact ⟨o, e⟩
theorem ItI.lt {t : Bool} {h : Heap} {it l : Addr} {k : Nat} (x : ItI t h it l k) : it < h.objs.size := by
 obtain ⟨o, e⟩ := x.get
 exact Heap.lt_size e
theorem SqI.ext {t : Bool} {h h' : Heap} {l c : Addr} {xs : Array Value} (x : SqI t h l xs) (e : Heap.ExtBut c h h') (hn : l ≠ c) : SqI t h' l xs := by
 cases t with
 | true => exact Heap.IsTuple.extBut x e hn
 | false => exact Heap.IsList.extBut x e hn
section
variable {prog : Program} {w : World} {A : Around} {E : Value → Shared → Prop} {s : Shared}
theorem nextG_item {t : Bool} {it l : Addr} {i : Nat} {items : Array Value} {x : Value} {Q : Value → Shared → Prop} (hit : ItI t s.heap it l i) (hl : SqI t s.heap l items) (hx : items[i]? = some x)
  (hQ : ∀ h', ItI t h' it l (i + 1) → Heap.SameBut it s.heap h' → Q x { s with heap := h' }) : wpAny (model prog w) A (Builtin.SmallTypes.nextOf (.ref it)) Q E s := by
 cases t with
 | true => exact RZ.nextOf_tuple_item hit hl hx hQ
 | false => exact wpAny_nextOf_list_item hit hl hx hQ
theorem nextG_end {t : Bool} {it l : Addr} {i : Nat} {items : Array Value} {Q : Value → Shared → Prop} (hh : A.handled = none) (hit : ItI t s.heap it l i) (hl : SqI t s.heap l items) (hx : items[i]? = none)
  (hE : ∀ h' e, Heap.ExtBut it s.heap h' → (∃ o, h'.get? e = some o ∧ o.cls = .type "StopIteration") → E (.ref e) { s with heap := h' }) : wpAny (model prog w) A (Builtin.SmallTypes.nextOf (.ref it)) Q E s := by
 cases t with
 | true => exact RZ.nextOf_tuple_end hh hit hl hx hE
 | false => exact wpAny_nextOf_list_end hh hit hl hx hE
variable {z TI TO T i1 i2 l1 l2 : Addr} {k1 k2 : Nat} {xs ys : Array Value} {x y a b : Value} {t1 t2 : Bool}
theorem zipG_free {Q : Value → Shared → Prop} (D : ZipApart z TI TO i1 i2 l1 l2) (hz : IsZip s.heap z TI TO .none) (hTI : IsPair s.heap TI (.ref i1) (.ref i2)) (hTO : IsPair s.heap TO a b)
  (h1 : ItI t1 s.heap i1 l1 k1) (h2 : ItI t2 s.heap i2 l2 k2) (hl1 : SqI t1 s.heap l1 xs) (hl2 : SqI t2 s.heap l2 ys) (hx : xs[k1]? = some x) (hy : ys[k2]? = some y)
  (hQ : ∀ h', IsZip h' z TI TO (rawInt s.heap.objs.size) → IsPair h' TO x y → ItI t1 h' i1 l1 (k1 + 1) → ItI t2 h' i2 l2 (k2 + 1) → IsPair h' s.heap.objs.size x y →
   (∀ c o, c ≠ z → c ≠ TO → c ≠ i1 → c ≠ i2 → s.heap.get? c = some o → h'.get? c = some o) → Q (.ref s.heap.objs.size) { s with heap := h' }) :
  wpAny (model prog w) A (Builtin.«zip.__next__» ⟨[.ref z], []⟩) (fun fin s' => ∃ v, fin = .done (.ret v) ∧ Q v s') E s := by
 show wpAny _ _ (field (.ref z) 2 >>= _) _ _ _
 refine wpAny_bind (wpAny_field hz rfl (x := .bool false) rfl ?_)
 show wpAny _ _ (field (.ref z) 3 >>= _) _ _ _
 refine wpAny_bind (wpAny_field hz rfl (x := .ref TI) rfl (wpAny_bind (wpAny_seqItems hTI rfl ?_)))
 show wpAny _ _ (Builtin.SmallTypes.ownedTupleIsFree (.ref z) >>= _) _ _ _
 refine wpAny_bind ?_
 unfold Builtin.SmallTypes.ownedTupleIsFree
 refine wpAny_bind (wpAny_field hz rfl (x := .none) rfl (wpAny_pure ?_))
 simp only [if_true]
 refine wpAny_bind (wpAny_rule (wpAny_bind (wpAny_field hz rfl (x := .ref TO) rfl (wpAny_bind (wpAny_setField_rec hz (by simp) fun ha za sa => ?_)))))
 have za : IsZip ha z TI TO .ellipsis := za
 refine wpAny_bind ?_
 simp only [List.zipIdx_cons, List.zipIdx_nil, List.forIn_cons, List.forIn_nil]
 refine wpAny_bind (wpAny_bind (wpAny_onRaise ?_))
 show wpAny _ _ (Builtin.SmallTypes.nextOf (.ref i1) >>= _) _ _ _
 refine wpAny_bind (nextG_item (h1.ext sa.extBut D.i1z) (hl1.ext sa.extBut D.l1z) hx fun hb ib sb => wpAny_pure ?_)
 have tb : IsPair hb TO a b := sb.extBut _ _ D.TOi1 (sa.extBut _ _ D.TOz hTO)
 refine wpAny_bind (wpAny_seqItems tb rfl (wpAny_bind (wpAny_updateSeq_pair tb fun hc tc sc => ?_)))
 have tc : IsPair hc TO x b := tc
 refine wpAny_bind (wpAny_letGo (wpAny_pure (wpAny_bind (wpAny_bind (wpAny_onRaise ?_)))))
 show wpAny _ _ (Builtin.SmallTypes.nextOf (.ref i2) >>= _) _ _ _
 refine wpAny_bind (nextG_item (((h2.ext sa.extBut D.i2z).ext sb.extBut D.i12.symm).ext sc.extBut D.TOi2.symm) (((hl2.ext sa.extBut D.l2z).ext sb.extBut D.l2i1).ext sc.extBut D.l2TO) hy fun hd id_ sd => wpAny_pure ?_)
 have td : IsPair hd TO x b := sd.extBut _ _ D.TOi2 tc
 refine wpAny_bind (wpAny_seqItems td rfl (wpAny_bind (wpAny_updateSeq_pair td fun he te se => ?_)))
 have te : IsPair he TO x y := te
 refine wpAny_bind (wpAny_letGo (wpAny_pure (wpAny_pure (wpAny_bind (wpAny_seqItems te rfl (wpAny_bind (wpAny_newTuple ?_)))))))
 have n : he.objs.size = s.heap.objs.size := by rw [se.1, sd.1, sc.1, sb.1, sa.1]
 have ze : IsZip he z TI TO .ellipsis := se.extBut _ _ D.TOz.symm (sd.extBut _ _ D.i2z.symm (sc.extBut _ _ D.TOz.symm (sb.extBut _ _ D.i1z.symm za)))
 have kp : ∀ c o, c ≠ z → c ≠ TO → c ≠ i1 → c ≠ i2 → s.heap.get? c = some o → he.get? c = some o := fun c o c1 c2 c3 c4 e => se.extBut _ _ c2 (sd.extBut _ _ c4 (sc.extBut _ _ c2 (sb.extBut _ _ c3 (sa.extBut _ _ c1 e))))
 have ie : ItI t1 he i1 l1 (k1 + 1) := ((ib.ext sc.extBut D.TOi1.symm).ext sd.extBut D.i12).ext se.extBut D.TOi1.symm
 have je : ItI t2 he i2 l2 (k2 + 1) := id_.ext se.extBut D.TOi2.symm
 have zl : z < he.objs.size := Heap.lt_size ze
 show wpAny _ _ (Builtin.SmallTypes.ownedTupleHandOut (.ref z) (.ref he.objs.size) >>= _) _ _ _
 refine wpAny_bind ?_
 unfold Builtin.SmallTypes.ownedTupleHandOut
 have zf : IsZip (he.push { cls := .type "tuple", data := .seq #[x, y] }) z TI TO .ellipsis := Heap.get?_push_of_some _ ze
 refine wpAny_bind (wpAny_setField_rec zf (by simp) fun hg zg sg => ?_)
 have zg : IsZip hg z TI TO (rawInt he.objs.size) := zg
 refine wpAny_setField_rec zg (by simp) fun hi zi si => ?_
 have zi : IsZip hi z TI TO (rawInt he.objs.size) := zi
 have up : ∀ c o, c ≠ z → he.get? c = some o → hi.get? c = some o := fun c o c1 e => si.extBut _ _ c1 (sg.extBut _ _ c1 (Heap.get?_push_of_some _ e))
 have ti : IsPair hi he.objs.size x y := si.extBut _ _ (Nat.ne_of_gt zl) (sg.extBut _ _ (Nat.ne_of_gt zl) (Heap.get?_push_size _ rfl))
 rw [n] at zi ti
 refine wpAny_pure ⟨_, rfl, ?_⟩
 show Q (.ref he.objs.size) _
 rw [n]
 exact hQ hi zi (up _ _ D.TOz te) (ie.at fun o e => up _ o D.i1z e) (je.at fun o e => up _ o D.i2z e) ti fun c o c1 c2 c3 c4 e => up c o c1 (kp c o c1 c2 c3 c4 e)
theorem zipG_free_end {Q : Fin → Shared → Prop} (hh : A.handled = none) (D : ZipApart z TI TO i1 i2 l1 l2) (hz : IsZip s.heap z TI TO .none) (hTI : IsPair s.heap TI (.ref i1) (.ref i2)) (hTO : IsPair s.heap TO a b)
  (h1 : ItI t1 s.heap i1 l1 k1) (h2 : ItI t2 s.heap i2 l2 k2) (hl1 : SqI t1 s.heap l1 xs) (hl2 : SqI t2 s.heap l2 ys) (hend : xs[k1]? = none ∨ ys[k2]? = none)
  (hE : ∀ h' e, (∀ c o, c ≠ z → c ≠ TO → c ≠ i1 → c ≠ i2 → s.heap.get? c = some o → h'.get? c = some o) → (∃ o, h'.get? e = some o ∧ o.cls = .type "StopIteration") → E (.ref e) { s with heap := h' }) :
  wpAny (model prog w) A (Builtin.«zip.__next__» ⟨[.ref z], []⟩) Q E s := by
 show wpAny _ _ (field (.ref z) 2 >>= _) _ _ _
 refine wpAny_bind (wpAny_field hz rfl (x := .bool false) rfl ?_)
 show wpAny _ _ (field (.ref z) 3 >>= _) _ _ _
 refine wpAny_bind (wpAny_field hz rfl (x := .ref TI) rfl (wpAny_bind (wpAny_seqItems hTI rfl ?_)))
 show wpAny _ _ (Builtin.SmallTypes.ownedTupleIsFree (.ref z) >>= _) _ _ _
 refine wpAny_bind ?_
 unfold Builtin.SmallTypes.ownedTupleIsFree
 refine wpAny_bind (wpAny_field hz rfl (x := .none) rfl (wpAny_pure ?_))
 simp only [if_true]
 refine wpAny_bind (wpAny_rule (wpAny_bind (wpAny_field hz rfl (x := .ref TO) rfl (wpAny_bind (wpAny_setField_rec hz (by simp) fun ha za sa => ?_)))))
 have za : IsZip ha z TI TO .ellipsis := za
 refine wpAny_bind ?_
 simp only [List.zipIdx_cons, List.zipIdx_nil, List.forIn_cons, List.forIn_nil]
 refine wpAny_bind (wpAny_bind (wpAny_onRaise ?_))
 show wpAny _ _ (Builtin.SmallTypes.nextOf (.ref i1) >>= _) _ _ _
 cases hx : xs[k1]? with
 | none =>
  refine wpAny_bind (nextG_end hh (h1.ext sa.extBut D.i1z) (hl1.ext sa.extBut D.l1z) hx fun hb e sb he => ?_)
  obtain ⟨oe, hoe, hce⟩ := he
  have zb : IsZip hb z TI TO .ellipsis := sb _ _ D.i1z.symm za
  have hez : e ≠ z := fun q => by subst q; rw [zb] at hoe; cases hoe; simp at hce
  exact wpAny_setField_rec zb (by simp) fun hc _ sc => hE hc e (fun c o c1 _ c3 _ q => sc.extBut _ _ c1 (sb _ _ c3 (sa.extBut _ _ c1 q))) ⟨oe, sc.extBut _ _ hez hoe, hce⟩
 | some x =>
  have hy : ys[k2]? = none := by rcases hend with h | h; rw [hx] at h; cases h; exact h
  refine wpAny_bind (nextG_item (h1.ext sa.extBut D.i1z) (hl1.ext sa.extBut D.l1z) hx fun hb ib sb => wpAny_pure ?_)
  have tb : IsPair hb TO a b := sb.extBut _ _ D.TOi1 (sa.extBut _ _ D.TOz hTO)
  refine wpAny_bind (wpAny_seqItems tb rfl (wpAny_bind (wpAny_updateSeq_pair tb fun hc tc sc => ?_)))
  refine wpAny_bind (wpAny_letGo (wpAny_pure (wpAny_bind (wpAny_bind (wpAny_onRaise ?_)))))
  show wpAny _ _ (Builtin.SmallTypes.nextOf (.ref i2) >>= _) _ _ _
  refine wpAny_bind (nextG_end hh (((h2.ext sa.extBut D.i2z).ext sb.extBut D.i12.symm).ext sc.extBut D.TOi2.symm) (((hl2.ext sa.extBut D.l2z).ext sb.extBut D.l2i1).ext sc.extBut D.l2TO) hy fun hd e sd he => ?_)
  obtain ⟨oe, hoe, hce⟩ := he
  have zd : IsZip hd z TI TO .ellipsis := sd _ _ D.i2z.symm (sc.extBut _ _ D.TOz.symm (sb.extBut _ _ D.i1z.symm za))
  have hez : e ≠ z := fun q => by subst q; rw [zd] at hoe; cases hoe; simp at hce
  exact wpAny_setField_rec zd (by simp) fun hf _ sf => hE hf e (fun c o c1 c2 c3 c4 q => sf.extBut _ _ c1 (sd _ _ c4 (sc.extBut _ _ c2 (sb.extBut _ _ c3 (sa.extBut _ _ c1 q))))) ⟨oe, sf.extBut _ _ hez hoe, hce⟩
theorem zipG_held {f : Bool} {oT : Obj} {Q : Value → Shared → Prop} (D : ZipApart z TI TO i1 i2 l1 l2) (hz : IsZipHeld s.heap z TI TO T f) (hT : s.heap.get? T = some oT) (hTI : IsPair s.heap TI (.ref i1) (.ref i2))
  (h1 : ItI t1 s.heap i1 l1 k1) (h2 : ItI t2 s.heap i2 l2 k2) (hl1 : SqI t1 s.heap l1 xs) (hl2 : SqI t2 s.heap l2 ys) (hx : xs[k1]? = some x) (hy : ys[k2]? = some y)
  (hQ : ∀ h', IsZipHeld h' z TI TO T true → ItI t1 h' i1 l1 (k1 + 1) → ItI t2 h' i2 l2 (k2 + 1) → IsPair h' s.heap.objs.size x y →
   (∀ c o, c ≠ z → c ≠ i1 → c ≠ i2 → s.heap.get? c = some o → h'.get? c = some o) → Q (.ref s.heap.objs.size) { s with heap := h' }) :
  wpAny (model prog w) A (Builtin.«zip.__next__» ⟨[.ref z], []⟩) (fun fin s' => ∃ v, fin = .done (.ret v) ∧ Q v s') E s := by
 show wpAny _ _ (field (.ref z) 2 >>= _) _ _ _
 refine wpAny_bind (wpAny_field hz rfl (x := .bool false) rfl ?_)
 show wpAny _ _ (field (.ref z) 3 >>= _) _ _ _
 refine wpAny_bind (wpAny_field hz rfl (x := .ref TI) rfl (wpAny_bind (wpAny_seqItems hTI rfl ?_)))
 show wpAny _ _ (Builtin.SmallTypes.ownedTupleIsFree (.ref z) >>= _) _ _ _
 refine wpAny_bind (wpAny_tupleHeld_zip hz hT fun ha za sa => ?_)
 simp only [Bool.false_eq_true, if_false]
 refine wpAny_bind ?_
 rw [← Array.forIn_toList]
 simp only [List.forIn_cons, List.forIn_nil]
 refine wpAny_bind (wpAny_bind (wpAny_holding ?_))
 show wpAny _ _ (Builtin.SmallTypes.nextOf (.ref i1) >>= _) _ _ _
 refine wpAny_bind (nextG_item (s := { s with heap := ha }) (h1.ext sa.extBut D.i1z) (hl1.ext sa.extBut D.l1z) hx fun hb ib sb => wpAny_pure (wpAny_pure (wpAny_bind (wpAny_bind (wpAny_holding ?_)))))
 show wpAny _ _ (Builtin.SmallTypes.nextOf (.ref i2) >>= _) _ _ _
 refine wpAny_bind (nextG_item (s := { s with heap := hb }) ((h2.ext sa.extBut D.i2z).ext sb.extBut D.i12.symm) ((hl2.ext sa.extBut D.l2z).ext sb.extBut D.l2i1) hy fun hc ic sc => wpAny_pure (wpAny_pure (wpAny_pure ?_)))
 show wpAny _ _ (newTuple [x, y] >>= _) _ _ _
 refine wpAny_bind (wpAny_newTuple ?_)
 have n : hc.objs.size = s.heap.objs.size := by rw [sc.1, sb.1, sa.1]
 have zc : IsZipHeld hc z TI TO T true := sc.extBut _ _ D.i2z.symm (sb.extBut _ _ D.i1z.symm za)
 have kp : ∀ c o, c ≠ z → c ≠ i1 → c ≠ i2 → s.heap.get? c = some o → hc.get? c = some o := fun c o c1 c2 c3 e => sc.extBut _ _ c3 (sb.extBut _ _ c2 (sa.extBut _ _ c1 e))
 have i1c : ItI t1 hc i1 l1 (k1 + 1) := ib.ext sc.extBut D.i12
 refine wpAny_pure ⟨_, rfl, ?_⟩
 show Q (.ref hc.objs.size) _
 have hp : IsPair (hc.push { cls := .type "tuple", data := .seq #[x, y] }) hc.objs.size x y := Heap.get?_push_size _ rfl
 rw [n] at hp ⊢
 exact hQ _ (Heap.get?_push_of_some _ zc) (i1c.at fun o e => Heap.get?_push_of_some _ e) (ic.at fun o e => Heap.get?_push_of_some _ e) hp fun c o c1 c2 c3 e => Heap.get?_push_of_some _ (kp c o c1 c2 c3 e)
theorem zipG_held_end {f : Bool} {oT : Obj} {Q : Fin → Shared → Prop} (hh : A.handled = none) (D : ZipApart z TI TO i1 i2 l1 l2) (hz : IsZipHeld s.heap z TI TO T f) (hT : s.heap.get? T = some oT) (hTI : IsPair s.heap TI (.ref i1) (.ref i2))
  (h1 : ItI t1 s.heap i1 l1 k1) (h2 : ItI t2 s.heap i2 l2 k2) (hl1 : SqI t1 s.heap l1 xs) (hl2 : SqI t2 s.heap l2 ys) (hend : xs[k1]? = none ∨ ys[k2]? = none)
  (hE : ∀ h' e, (∀ c o, c ≠ z → c ≠ i1 → c ≠ i2 → s.heap.get? c = some o → h'.get? c = some o) → (∃ o, h'.get? e = some o ∧ o.cls = .type "StopIteration") → E (.ref e) { s with heap := h' }) :
  wpAny (model prog w) A (Builtin.«zip.__next__» ⟨[.ref z], []⟩) Q E s := by
 show wpAny _ _ (field (.ref z) 2 >>= _) _ _ _
 refine wpAny_bind (wpAny_field hz rfl (x := .bool false) rfl ?_)
 show wpAny _ _ (field (.ref z) 3 >>= _) _ _ _
 refine wpAny_bind (wpAny_field hz rfl (x := .ref TI) rfl (wpAny_bind (wpAny_seqItems hTI rfl ?_)))
 show wpAny _ _ (Builtin.SmallTypes.ownedTupleIsFree (.ref z) >>= _) _ _ _
 refine wpAny_bind (wpAny_tupleHeld_zip hz hT fun ha za sa => ?_)
 simp only [Bool.false_eq_true, if_false]
 refine wpAny_bind ?_
 rw [← Array.forIn_toList]
 simp only [List.forIn_cons, List.forIn_nil]
 refine wpAny_bind (wpAny_bind (wpAny_holding ?_))
 show wpAny _ _ (Builtin.SmallTypes.nextOf (.ref i1) >>= _) _ _ _
 cases hx : xs[k1]? with
 | none => exact wpAny_bind (nextG_end (s := { s with heap := ha }) hh (h1.ext sa.extBut D.i1z) (hl1.ext sa.extBut D.l1z) hx fun hb e sb he => hE hb e (fun c o c1 c2 _ q => sb _ _ c2 (sa.extBut _ _ c1 q)) he)
 | some x =>
  have hy : ys[k2]? = none := by rcases hend with h | h; rw [hx] at h; cases h; exact h
  refine wpAny_bind (nextG_item (s := { s with heap := ha }) (h1.ext sa.extBut D.i1z) (hl1.ext sa.extBut D.l1z) hx fun hb ib sb => wpAny_pure (wpAny_pure (wpAny_bind (wpAny_bind (wpAny_holding ?_)))))
  show wpAny _ _ (Builtin.SmallTypes.nextOf (.ref i2) >>= _) _ _ _
  exact wpAny_bind (nextG_end (s := { s with heap := hb }) hh ((h2.ext sa.extBut D.i2z).ext sb.extBut D.i12.symm) ((hl2.ext sa.extBut D.l2z).ext sb.extBut D.l2i1) hy fun hc e sc he => hE hc e (fun c o c1 c2 c3 q => sc _ _ c3 (sb.extBut _ _ c2 (sa.extBut _ _ c1 q))) he)
theorem nextG_free {Q : Option Value → Shared → Prop} (D : ZipApart z TI TO i1 i2 l1 l2) (hz : IsZip s.heap z TI TO .none) (hTI : IsPair s.heap TI (.ref i1) (.ref i2)) (hTO : IsPair s.heap TO a b)
  (h1 : ItI t1 s.heap i1 l1 k1) (h2 : ItI t2 s.heap i2 l2 k2) (hl1 : SqI t1 s.heap l1 xs) (hl2 : SqI t2 s.heap l2 ys) (hx : xs[k1]? = some x) (hy : ys[k2]? = some y)
  (hQ : ∀ h', IsZip h' z TI TO (rawInt s.heap.objs.size) → IsPair h' TO x y → ItI t1 h' i1 l1 (k1 + 1) → ItI t2 h' i2 l2 (k2 + 1) → IsPair h' s.heap.objs.size x y →
   (∀ c o, c ≠ z → c ≠ TO → c ≠ i1 → c ≠ i2 → s.heap.get? c = some o → h'.get? c = some o) → Q (some (.ref s.heap.objs.size)) { s with heap := h' }) : wpAny (model prog w) A (pyNext (.ref z)) Q E s := by
 have hT : s.TypeIs (.ref z) "zip" := ⟨_, hz, rfl⟩
 unfold pyNext
 exact wpAny_bind (wpAny_attempt (wpAny_callSpecial?_slot (name := Str.ofString "__next__") hT F.slot_zip_next (wpAny_call_entry F.slot_zip_next hT F.entry_zip_next
  (zipG_free D hz hTI hTO h1 h2 hl1 hl2 hx hy fun h' a1 a2 a3 a4 a5 a6 => wpAny_pure (hQ h' a1 a2 a3 a4 a5 a6)) (F.args_zip_next_1 _))))
theorem nextG_free_end {Q : Option Value → Shared → Prop} (hh : A.handled = none) (D : ZipApart z TI TO i1 i2 l1 l2) (hz : IsZip s.heap z TI TO .none) (hTI : IsPair s.heap TI (.ref i1) (.ref i2)) (hTO : IsPair s.heap TO a b)
  (h1 : ItI t1 s.heap i1 l1 k1) (h2 : ItI t2 s.heap i2 l2 k2) (hl1 : SqI t1 s.heap l1 xs) (hl2 : SqI t2 s.heap l2 ys) (hend : xs[k1]? = none ∨ ys[k2]? = none)
  (hQ : ∀ h', (∀ c o, c ≠ z → c ≠ TO → c ≠ i1 → c ≠ i2 → s.heap.get? c = some o → h'.get? c = some o) → Q none { s with heap := h' }) : wpAny (model prog w) A (pyNext (.ref z)) Q E s := by
 have hT : s.TypeIs (.ref z) "zip" := ⟨_, hz, rfl⟩
 unfold pyNext
 refine wpAny_bind (wpAny_attempt (wpAny_callSpecial?_slot (name := Str.ofString "__next__") hT F.slot_zip_next (wpAny_call_entry F.slot_zip_next hT F.entry_zip_next
  (zipG_free_end hh D hz hTI hTO h1 h2 hl1 hl2 hend fun h' e hk he => ?_) (F.args_zip_next_1 _))))
 obtain ⟨o, ho, hc⟩ := he
 exact wpAny_bind (wpAny_isInstance (T := "StopIteration") (b := true) ⟨o, ho, hc⟩ isSubtype_stop (wpAny_pure (hQ _ hk)))
theorem nextG_held {f : Bool} {oT : Obj} {Q : Option Value → Shared → Prop} (D : ZipApart z TI TO i1 i2 l1 l2) (hz : IsZipHeld s.heap z TI TO T f) (hT : s.heap.get? T = some oT) (hTI : IsPair s.heap TI (.ref i1) (.ref i2))
  (h1 : ItI t1 s.heap i1 l1 k1) (h2 : ItI t2 s.heap i2 l2 k2) (hl1 : SqI t1 s.heap l1 xs) (hl2 : SqI t2 s.heap l2 ys) (hx : xs[k1]? = some x) (hy : ys[k2]? = some y)
  (hQ : ∀ h', IsZipHeld h' z TI TO T true → ItI t1 h' i1 l1 (k1 + 1) → ItI t2 h' i2 l2 (k2 + 1) → IsPair h' s.heap.objs.size x y →
   (∀ c o, c ≠ z → c ≠ i1 → c ≠ i2 → s.heap.get? c = some o → h'.get? c = some o) → Q (some (.ref s.heap.objs.size)) { s with heap := h' }) : wpAny (model prog w) A (pyNext (.ref z)) Q E s := by
 have hTy : s.TypeIs (.ref z) "zip" := ⟨_, hz, rfl⟩
 unfold pyNext
 exact wpAny_bind (wpAny_attempt (wpAny_callSpecial?_slot (name := Str.ofString "__next__") hTy F.slot_zip_next (wpAny_call_entry F.slot_zip_next hTy F.entry_zip_next
  (zipG_held D hz hT hTI h1 h2 hl1 hl2 hx hy fun h' a1 a3 a4 a5 a6 => wpAny_pure (hQ h' a1 a3 a4 a5 a6)) (F.args_zip_next_1 _))))
theorem nextG_held_end {f : Bool} {oT : Obj} {Q : Option Value → Shared → Prop} (hh : A.handled = none) (D : ZipApart z TI TO i1 i2 l1 l2) (hz : IsZipHeld s.heap z TI TO T f) (hT : s.heap.get? T = some oT) (hTI : IsPair s.heap TI (.ref i1) (.ref i2))
  (h1 : ItI t1 s.heap i1 l1 k1) (h2 : ItI t2 s.heap i2 l2 k2) (hl1 : SqI t1 s.heap l1 xs) (hl2 : SqI t2 s.heap l2 ys) (hend : xs[k1]? = none ∨ ys[k2]? = none)
  (hQ : ∀ h', (∀ c o, c ≠ z → c ≠ i1 → c ≠ i2 → s.heap.get? c = some o → h'.get? c = some o) → Q none { s with heap := h' }) : wpAny (model prog w) A (pyNext (.ref z)) Q E s := by
 have hTy : s.TypeIs (.ref z) "zip" := ⟨_, hz, rfl⟩
 unfold pyNext
 refine wpAny_bind (wpAny_attempt (wpAny_callSpecial?_slot (name := Str.ofString "__next__") hTy F.slot_zip_next (wpAny_call_entry F.slot_zip_next hTy F.entry_zip_next
  (zipG_held_end hh D hz hT hTI h1 h2 hl1 hl2 hend fun h' e hk he => ?_) (F.args_zip_next_1 _))))
 obtain ⟨o, ho, hc⟩ := he
 exact wpAny_bind (wpAny_isInstance (T := "StopIteration") (b := true) ⟨o, ho, hc⟩ isSubtype_stop (wpAny_pure (hQ _ hk)))
end
abbrev itc (t : Bool) : String := match t with
 | true => "tuple_iterator"
 | false => "list_iterator"
abbrev zA (t1 : Bool) (h : Heap) (l1 : Addr) : Heap := h.push { cls := .type (itc t1), data := .fields #[.ref l1, .int 0 0] }
abbrev zB (t1 t2 : Bool) (h : Heap) (l1 l2 : Addr) : Heap := (zA t1 h l1).push { cls := .type (itc t2), data := .fields #[.ref l2, .int 0 0] }
abbrev zC (t1 t2 : Bool) (h : Heap) (l1 l2 : Addr) : Heap := (zB t1 t2 h l1 l2).push { cls := .type "tuple", data := .seq #[.ref h.objs.size, .ref (zA t1 h l1).objs.size] }
abbrev zD (t1 t2 : Bool) (h : Heap) (l1 l2 : Addr) : Heap := (zC t1 t2 h l1 l2).push { cls := .type "tuple", data := .seq #[.none, .none] }
abbrev zE (t1 t2 : Bool) (h : Heap) (l1 l2 : Addr) : Heap := (zD t1 t2 h l1 l2).push { cls := .type "zip", data := .fields #[.none, .bool false, .bool false, .ref (zB t1 t2 h l1 l2).objs.size, .ref (zC t1 t2 h l1 l2).objs.size] }
theorem meets_TL (l1 l2 : Addr) (xs ys : Array Value) : Meets (Builtin.«zip.__new__» ⟨[.type "zip", .ref l1, .ref l2], []⟩) (fun _ R s => s.heap.IsTuple l1 xs ∧ s.heap.IsList l2 ys ∧
   R (.ok (.ret (.ref (zD true false s.heap l1 l2).objs.size))) { s with heap := zE true false s.heap l1 l2 }) :=
 .of_wp fun prog w A R s h => by
  obtain ⟨hp, g, d, tk, os⟩ := s
  obtain ⟨hl1, hl2, h⟩ := h
  have hsub := sub_zip
  have hL1 : Heap.IsTuple (Shared.heap ⟨hp, g, d, tk, os⟩) l1 xs := hl1
  have hL2 : Heap.IsList (Shared.heap ⟨hp.push { cls := .type "tuple_iterator", data := .fields #[.ref l1, .int 0 0] }, g, d, tk, os⟩) l2 ys := Heap.IsList.push hl2 _
  wp_walk using wpAny_pyIter_tuple hL1, wpAny_pyIter_list hL2
  exact ⟨_, rfl, h⟩
theorem meets_LT (l1 l2 : Addr) (xs ys : Array Value) : Meets (Builtin.«zip.__new__» ⟨[.type "zip", .ref l1, .ref l2], []⟩) (fun _ R s => s.heap.IsList l1 xs ∧ s.heap.IsTuple l2 ys ∧
   R (.ok (.ret (.ref (zD false true s.heap l1 l2).objs.size))) { s with heap := zE false true s.heap l1 l2 }) :=
 .of_wp fun prog w A R s h => by
  obtain ⟨hp, g, d, tk, os⟩ := s
  obtain ⟨hl1, hl2, h⟩ := h
  have hsub := sub_zip
  have hL1 : Heap.IsList (Shared.heap ⟨hp, g, d, tk, os⟩) l1 xs := hl1
  have hL2 : Heap.IsTuple (Shared.heap ⟨hp.push { cls := .type "list_iterator", data := .fields #[.ref l1, .int 0 0] }, g, d, tk, os⟩) l2 ys := Heap.IsTuple.push hl2 _
  wp_walk using wpAny_pyIter_list hL1, wpAny_pyIter_tuple hL2
  exact ⟨_, rfl, h⟩
theorem meets_G (t1 t2 : Bool) (l1 l2 : Addr) (xs ys : Array Value) : Meets (Builtin.«zip.__new__» ⟨[.type "zip", .ref l1, .ref l2], []⟩) (fun _ R s => SqI t1 s.heap l1 xs ∧ SqI t2 s.heap l2 ys ∧
   R (.ok (.ret (.ref (zD t1 t2 s.heap l1 l2).objs.size))) { s with heap := zE t1 t2 s.heap l1 l2 }) := by
 cases t1 <;> cases t2
 ·exact meets_zip_new l1 l2 xs ys
 ·exact meets_LT l1 l2 xs ys
 ·exact meets_TL l1 l2 xs ys
 ·exact RZ.meets_zipT_new l1 l2 xs ys
theorem itI_of {t : Bool} {h : Heap} {it l : Addr} (e : h.get? it = some { cls := .type (itc t), data := .fields #[.ref l, .int 0 0] }) : ItI t h it l 0 := by
 cases t
 ·exact ⟨_, e, rfl, rfl⟩
 ·exact ⟨_, e, rfl, rfl⟩
theorem call_zipG {t1 t2 : Bool} {prog : Program} {w : World} {A : Around} {E : Value → Shared → Prop} {s : Shared} {l1 l2 : Addr} {xs ys : Array Value} {Q : Value → Shared → Prop} (hl1 : SqI t1 s.heap l1 xs) (hl2 : SqI t2 s.heap l2 ys)
  (h : ∀ h', IsZip h' (s.heap.objs.size + 4) (s.heap.objs.size + 2) (s.heap.objs.size + 3) .none → IsPair h' (s.heap.objs.size + 2) (.ref s.heap.objs.size) (.ref (s.heap.objs.size + 1)) →
   IsPair h' (s.heap.objs.size + 3) .none .none → ItI t1 h' s.heap.objs.size l1 0 → ItI t2 h' (s.heap.objs.size + 1) l2 0 →
   (∀ c o, s.heap.get? c = some o → h'.get? c = some o) → Q (.ref (s.heap.objs.size + 4)) { s with heap := h' }) :
  wpAny (model prog w) A (call (.type "zip") [.ref l1, .ref l2]) Q E s := by
 refine callType_new F.called_zip (by decide) (F.typeCall_zip_2 _ _) (F.newCall_zip_2 _ _) (fun obj => F.args_object_init_3 obj _ _) F.entry_zip_new (meets_G t1 t2 l1 l2 xs ys) ⟨hl1, hl2, ?_⟩
 have z1 : (zA t1 s.heap l1).objs.size = s.heap.objs.size + 1 := Heap.size_push ..
 have z2 : (zB t1 t2 s.heap l1 l2).objs.size = s.heap.objs.size + 2 := by rw [Heap.size_push, z1]
 have z3 : (zC t1 t2 s.heap l1 l2).objs.size = s.heap.objs.size + 3 := by rw [Heap.size_push, z2]
 have z4 : (zD t1 t2 s.heap l1 l2).objs.size = s.heap.objs.size + 4 := by rw [Heap.size_push, z3]
 have up : ∀ {h : Heap} {o' o : Obj} {c : Addr}, h.get? c = some o → (h.push o').get? c = some o := fun e => Heap.get?_push_of_some _ e
 have g5 : (zE t1 t2 s.heap l1 l2).get? (zD t1 t2 s.heap l1 l2).objs.size = some _ := Heap.get?_push_size _ rfl
 have g4 : (zE t1 t2 s.heap l1 l2).get? (zC t1 t2 s.heap l1 l2).objs.size = some _ := up (Heap.get?_push_size _ rfl)
 have g3 : (zE t1 t2 s.heap l1 l2).get? (zB t1 t2 s.heap l1 l2).objs.size = some _ := up (up (Heap.get?_push_size _ rfl))
 have g2 : (zE t1 t2 s.heap l1 l2).get? (zA t1 s.heap l1).objs.size = some _ := up (up (up (Heap.get?_push_size _ rfl)))
 have g1 : (zE t1 t2 s.heap l1 l2).get? s.heap.objs.size = some _ := up (up (up (up (Heap.get?_push_size _ rfl))))
 show _ ∧ _
 rw [z2, z3, z4] at g5
 rw [z1, z2] at g3
 rw [z3] at g4
 rw [z1] at g2
 rw [z4]
 exact ⟨⟨_, g5, rfl⟩, h _ g5 g3 g4 (itI_of g1) (itI_of g2) fun c o x => up (up (up (up (up x))))⟩
end Zp
end
section
set_option maxHeartbeats 200000
namespace Mn
open PySem L2 PySem.Spec
variable [WW] [FX]
theorem zip_no_len : typeLookup (.type "zip") "__len__" = pure none := am_miss_of_fast (by decide +kernel)
theorem zip_no_hint : typeLookup (.type "zip") "__length_hint__" = pure none := am_miss_of_fast (by decide +kernel)
section
variable {X : Cx} {pins : List (Addr × Obj)} {σ : St} {a b z TI TO i1 i2 : Addr}
abbrev zfp (z TI TO i1 i2 : Addr) : List Addr := [z, TI, TO, i1, i2]
def SqG (t : Bool) (K : PySem.W.Frag) (H : Hp) (a : Addr) (xs : List V) : Prop := match t with
 | true => SqT K H a xs
 | false => SqL K H a xs
theorem SqG.sub {t : Bool} {K : PySem.W.Frag} {H H' : Hp} {a : Addr} {xs : List V} (s : Sub H H') (h : SqG t K H a xs) : SqG t K H' a xs := by
 cases t with
 | true => exact sqT_sub s h
 | false => exact sqL_sub s h
theorem seqG {t : Bool} {s : Shared} {H : Hp} {xs : List V} (I : Inv X pins σ H s) (h : SqG t X.K H a xs) : ∃ its : List Value, Vals xs its ∧ Zp.SqI t s.heap a its.toArray ∧ a < s.heap.objs.size := by
 cases t with
 | true =>
  obtain ⟨its, rv, p, _⟩ := I.tuple h
  obtain ⟨o, e, _⟩ := id p
  exact ⟨its, rv, p, Heap.lt_size e⟩
 | false =>
  obtain ⟨its, rv, p, _⟩ := I.list h
  exact ⟨its, rv, p.isList, p.lt⟩
variable {t1 t2 : Bool}
def ZAt (t1 t2 : Bool) (h : Heap) (a b z TI TO i1 i2 : Addr) (i : Nat) : Prop := IsPair h TI (.ref i1) (.ref i2) ∧ Zp.ItI t1 h i1 a i ∧ Zp.ItI t2 h i2 b i ∧ (∃ x y, IsPair h TO x y) ∧
 (IsZip h z TI TO .none ∨ ∃ T f x y, IsZipHeld h z TI TO T f ∧ IsPair h T x y ∧ T ≠ z ∧ T ≠ i1 ∧ T ≠ i2)
structure ZRes (H0 H : Hp) (S : Addr) (xs ys : List V) (i : Nat) (Ts : List Addr) : Prop where
 sub : Sub H0 H
 lst : H S = some (.lst (Ts.map V.ref))
 fr : ∀ T ∈ Ts, H0 T = none ∧ T ≠ S
 len : Ts.length = i
 pr : ∀ (j : Nat) (T : Addr) (x y : V), Ts[j]? = some T → xs[j]? = some x → ys[j]? = some y → ∃ o : Obj, o.dict = none ∧ H T = some (.frz o (.tup [x, y]))
theorem fpOk_sub {H H' : Hp} {c : Addr} (f : FpOk X pins H c) (h : H' c = none) : FpOk X pins H' c := ⟨h, f.2⟩
theorem IsL.upd_other {h : Heap} {S c : Addr} {f : Array Value → Array Value} {o : Obj} (hc : c ≠ S) (e : h.get? c = some o) : (h.update S (Obj.mapSeq f)).get? c = some o := (Heap.get?_update_other _ _ (Ne.symm hc)).trans e
theorem ZAt.keep {h h' : Heap} {i : Nat} (D : ZipApart z TI TO i1 i2 a b) (st : ZAt t1 t2 h a b z TI TO i1 i2 i) (k : ∀ c o, h.get? c = some o → (c ∈ zfp z TI TO i1 i2 ∨ ∃ x, o = { cls := .type "tuple", data := x }) → h'.get? c = some o)
  : ZAt t1 t2 h' a b z TI TO i1 i2 i := by
 obtain ⟨hTI, h1, h2, ⟨x0, y0, hTO⟩, hz⟩ := st
 refine ⟨k _ _ hTI (.inl (by simp)), h1.at fun o e => k _ o e (.inl (by simp)), h2.at fun o e => k _ o e (.inl (by simp)), ⟨x0, y0, k _ _ hTO (.inl (by simp))⟩, ?_⟩
 rcases hz with hz | ⟨T, f, x, y, hz, hT, r⟩
 ·exact .inl (k _ _ hz (.inl (by simp)))
 ·exact .inr ⟨T, f, x, y, k _ _ hz (.inl (by simp)), k _ _ hT (.inr ⟨_, rfl⟩), r⟩
variable {A : Around} {R : Result → Shared → Prop} {H0 : Hp} {S : Addr} {xs ys : List V} {n : Nat}
theorem zip_loop (hA : A.handled = none) (D : ZipApart z TI TO i1 i2 a b) (hq1 : SqG t1 X.K H0 a xs) (hq2 : SqG t2 X.K H0 b ys) (hn : n = min xs.length ys.length) (hsz : n ≤ sizeLine) (hS0 : H0 S = none) (hSf : S ∉ zfp z TI TO i1 i2) :
  ∀ (k i : Nat) (s : Shared) (H : Hp) (Ts : List Addr), n - i = k → i ≤ n → Inv X pins σ H s → (∀ c ∈ zfp z TI TO i1 i2, FpOk X pins H c) → ZAt t1 t2 s.heap a b z TI TO i1 i2 i → ZRes H0 H S xs ys i Ts →
  (∀ s' H' Ts', Inv X pins σ H' s' → ZRes H0 H' S xs ys n Ts' → R (.ok (.ret .none)) s') →
  codeAny (model X.prog X.w) A (.builtin "list.extend.loop" ⟨[.ref S, .ref z, .none], []⟩) R s := by
 intro k
 induction k with
 | zero =>
  intro i s H Ts hk hi I hf st zr hR
  have hin : i = n := by omega
  subst hin
  obtain ⟨hTI, h1, h2, ⟨x0, y0, hTO⟩, hz⟩ := st
  obtain ⟨its, rv, p, _⟩ := seqG I (hq1.sub zr.sub)
  obtain ⟨its2, rv2, p2, _⟩ := seqG I (hq2.sub zr.sub)
  have l1 := rv.length
  have l2 := rv2.length
  have he : its.toArray[i]? = none ∨ its2.toArray[i]? = none := by
   rcases Nat.le_total xs.length ys.length with h | h
   ·exact .inl (by simp; omega)
   ·exact .inr (by simp; omega)
  refine codeAny_builtin F.entry_extend_loop ?_
  rw [Around.under_plainId F.plain_extend_loop _]
  show wpAny _ A.in1 (pyNext (.ref z) >>= _) _ _ s
  have fin : ∀ h', (∀ c o, c ≠ z → c ≠ i1 → c ≠ i2 → c ≠ TO → s.heap.get? c = some o → h'.get? c = some o) → R (.ok (.ret .none)) { s with heap := h' } := fun h' hk' =>
   hR _ H Ts (I.turnedL (t' := s.toks) (ch := zfp z TI TO i1 i2) (fun c o hb q => hk' c o (fun q' => hb (by simp [q'])) (fun q' => hb (by simp [q'])) (fun q' => hb (by simp [q'])) (fun q' => hb (by simp [q'])) q) hf) zr
  rcases hz with hz | ⟨T, f, x, y, hz, hT, r1, r2, r3⟩
  ·exact wpAny_bind (Zp.nextG_free_end hA D hz hTI hTO h1 h2 p p2 he fun h' hk' => wpAny_pure (fin h' fun c o c1 c2 c3 c4 e => hk' c o c1 c4 c2 c3 e))
  ·exact wpAny_bind (Zp.nextG_held_end hA D hz hT hTI h1 h2 p p2 he fun h' hk' => wpAny_pure (fin h' fun c o c1 c2 c3 c4 e => hk' c o c1 c2 c3 e))
 | succ k ih =>
  intro i s H Ts hk hi I hf st zr hR
  have hlt : i < n := by omega
  obtain ⟨hTI, h1, h2, ⟨x0, y0, hTO⟩, hz⟩ := st
  obtain ⟨its, rv, p, _⟩ := seqG I (hq1.sub zr.sub)
  obtain ⟨its2, rv2, p2, _⟩ := seqG I (hq2.sub zr.sub)
  have hxl : i < xs.length := by omega
  have hyl : i < ys.length := by omega
  have hx : xs[i]? = some xs[i] := List.getElem?_eq_getElem hxl
  have hy : ys[i]? = some ys[i] := List.getElem?_eq_getElem hyl
  generalize xs[i] = x at hx
  generalize ys[i] = y at hy
  obtain ⟨u, hu, ru⟩ := rv.get hx
  obtain ⟨u2, hu2, ru2⟩ := rv2.get hy
  refine codeAny_builtin F.entry_extend_loop ?_
  rw [Around.under_plainId F.plain_extend_loop _]
  show wpAny _ A.in1 (pyNext (.ref z) >>= _) _ _ s
  have go : ∀ h', (ZAt t1 t2 h' a b z TI TO i1 i2 (i + 1)) → IsPair h' s.heap.objs.size u u2 → (∀ c o, c ∉ zfp z TI TO i1 i2 → s.heap.get? c = some o → h'.get? c = some o) →
    wpAny (model X.prog X.w) A.in1 (updateSeq S (·.push (.ref s.heap.objs.size)) >>= fun _ => again (.builtin "list.extend.loop" ⟨[.ref S, .ref z, .none], []⟩))
     (fun fin s' => match fin with | .done f => R (.ok f) s' | .again c' => c'.quiet = true ∧ codeAny (model X.prog X.w) A c' R s') (fun e s' => R (.error e) s') { s with heap := h' } := by
   intro h' st' hT hk'
   have new : ObjOk X.prog X.w (L2.upd H s.heap.objs.size (.frz { cls := .type "tuple", data := .seq #[u, u2] } (.tup [x, y]))) h' s.heap.objs.size (.frz { cls := .type "tuple", data := .seq #[u, u2] } (.tup [x, y])) :=
    ⟨hT, by show 2 ≤ sizeLine; exact lim_le (by decide), [u, u2], .cons ru (.cons ru2 .nil), ⟨_, hT, rfl, _, rfl⟩⟩
   have I1 : Inv X pins σ (L2.upd H s.heap.objs.size (.frz { cls := .type "tuple", data := .seq #[u, u2] } (.tup [x, y]))) { s with heap := h' } := I.turnedNew (t' := s.toks) (ch := zfp z TI TO i1 i2) hk' hf (Nat.le_refl _) new
   have hTn : H s.heap.objs.size = none := I.hok.fresh (Nat.le_refl _)
   have hST : S ≠ s.heap.objs.size := fun q => by
    have := zr.lst
    rw [q, hTn] at this; cases this
   have hS1 : (L2.upd H s.heap.objs.size (.frz { cls := .type "tuple", data := .seq #[u, u2] } (.tup [x, y]))) S = some (.lst (Ts.map V.ref)) := by rw [upd_ne hST]; exact zr.lst
   obtain ⟨itsS, nS, rS, eS, zS⟩ := I1.lst hS1
   have hlS : itsS.length = i := by rw [← rS.length, List.length_map, zr.len]
   refine wpAny_bind (wpAny_updateSeq eS rfl (wpAny_pure ⟨plainId_quiet F.plain_extend_loop _, ?_⟩) (by rw [List.size_toArray]; omega) (by show (itsS.toArray.push _).size ≤ sizeLine + 1; rw [Array.size_push, List.size_toArray]; omega))
   have I2 := I1.lset (t' := s.toks) (f := (·.push (.ref s.heap.objs.size))) (ys := (Ts ++ [s.heap.objs.size]).map V.ref) (its' := itsS ++ [.ref s.heap.objs.size]) hS1 eS (by simp) (by rw [List.map_append]; exact rS.append (.cons rfl .nil)) (by simp [zr.len]; omega)
   have hne : ∀ c ∈ zfp z TI TO i1 i2, c ≠ s.heap.objs.size := fun c hc q => by
    subst q
    have : ∀ {o}, s.heap.get? s.heap.objs.size = some o → False := fun e => Nat.lt_irrefl _ (Heap.lt_size e)
    have e' : s.heap.objs.size = z ∨ s.heap.objs.size = TI ∨ s.heap.objs.size = TO ∨ s.heap.objs.size = i1 ∨ s.heap.objs.size = i2 := by simpa using hc
    rcases e' with q | q | q | q | q
    ·rcases hz with hz | ⟨T, f, x1, y1, hz, _⟩
     ·rw [q] at this; exact this hz
     ·rw [q] at this; exact this hz
    ·rw [q] at this; exact this hTI
    ·rw [q] at this; exact this hTO
    ·obtain ⟨o, e⟩ := h1.get; rw [q] at this; exact this e
    ·obtain ⟨o, e⟩ := h2.get; rw [q] at this; exact this e
   refine ih (i + 1) _ (L2.upd (L2.upd H s.heap.objs.size (.frz { cls := .type "tuple", data := .seq #[u, u2] } (.tup [x, y]))) S (.lst ((Ts ++ [s.heap.objs.size]).map V.ref))) (Ts ++ [s.heap.objs.size]) (by omega) hlt I2 (fun c hc => ?_) (st'.keep D fun c o e hcc => ?_) ?_ hR
   ·refine fpOk_sub (hf c hc) ?_
    have h1 : c ≠ S := fun q => hSf (q ▸ hc)
    rw [upd_ne h1, upd_ne (hne c hc)]
    exact (hf c hc).1
   ·refine IsL.upd_other (fun q => ?_) e
    subst q
    rcases hcc with h | ⟨w, h⟩
    ·exact hSf h
    ·subst h
     rw [eS] at e
     simp at e
   ·refine ⟨fun c w hc => ?_, upd_same, fun T hT' => ?_, by simp [zr.len], fun j T x' y' e1 e2 e3 => ?_⟩
    ·have h1 : c ≠ S := fun q => by subst q; rw [hS0] at hc; cases hc
     have h2 : c ≠ s.heap.objs.size := fun q => by
      subst q
      rw [zr.sub _ _ hc] at hTn; cases hTn
     rw [upd_ne h1, upd_ne h2]; exact zr.sub c w hc
    ·rcases List.mem_append.mp hT' with h | h
     ·exact zr.fr T h
     ·simp at h
      subst h
      refine ⟨?_, Ne.symm hST⟩
      cases hq : H0 s.heap.objs.size with
      | none => rfl
      | some w => rw [zr.sub _ _ hq] at hTn; cases hTn
    ·by_cases hj : j < Ts.length
     ·rw [List.getElem?_append_left hj] at e1
      obtain ⟨o1, o2, this⟩ := zr.pr j T x' y' e1 e2 e3
      have h1 : T ≠ S := (zr.fr T (List.mem_of_getElem? e1)).2
      have h2 : T ≠ s.heap.objs.size := fun q => by subst q; rw [this] at hTn; cases hTn
      exact ⟨o1, o2, by rw [upd_ne h1, upd_ne h2]; exact this⟩
     ·have hj2 : j = i := by
       have := (List.getElem?_eq_some_iff.mp e1).1
       simp [zr.len] at this
       have := zr.len
       omega
      subst hj2
      rw [List.getElem?_append_right (by rw [zr.len]; exact Nat.le_refl _), zr.len, Nat.sub_self] at e1
      simp at e1
      subst e1
      rw [hx] at e2; cases e2
      rw [hy] at e3; cases e3
      exact ⟨_, rfl, by rw [upd_ne (Ne.symm hST), upd_same]⟩
  rcases hz with hz | ⟨T, f, x1, y1, hz, hT, r1, r2, r3⟩
  ·refine wpAny_bind (Zp.nextG_free D hz hTI hTO h1 h2 p p2 (x := u) (y := u2) (by simpa using hu) (by simpa using hu2) fun h' z' TO' h1' h2' hT hk' => ?_)
   have n0 : ∀ {c o}, s.heap.get? c = some o → s.heap.objs.size ≠ c := fun e => Nat.ne_of_gt (Heap.lt_size e)
   refine go h' ⟨hk' _ _ D.TIz D.TITO D.TIi1 D.TIi2 hTI, h1', h2', ⟨_, _, TO'⟩, .inr ⟨s.heap.objs.size, false, _, _, z', hT, n0 hz, ?_, ?_⟩⟩ hT fun c o hc e => hk' c o (fun q => hc (by simp [q])) (fun q => hc (by simp [q])) (fun q => hc (by simp [q])) (fun q => hc (by simp [q])) e
   ·obtain ⟨o, e⟩ := h1.get; exact n0 e
   ·obtain ⟨o, e⟩ := h2.get; exact n0 e
  ·refine wpAny_bind (Zp.nextG_held D hz hT hTI h1 h2 p p2 (x := u) (y := u2) (by simpa using hu) (by simpa using hu2) fun h' z' h1' h2' hT' hk' => ?_)
   exact go h' ⟨hk' _ _ D.TIz D.TIi1 D.TIi2 hTI, h1', h2', ⟨x0, y0, hk' _ _ D.TOz D.TOi1 D.TOi2 hTO⟩, .inr ⟨T, true, x1, y1, z', hk' _ _ r1 r2 r3 hT, r1, r2, r3⟩⟩ hT' fun c o hc e => hk' c o (fun q => hc (by simp [q])) (fun q => hc (by simp [q])) (fun q => hc (by simp [q])) e
theorem zip_extend (hA : A.handled = none) (D : ZipApart z TI TO i1 i2 a b) (hq1 : SqG t1 X.K H0 a xs) (hq2 : SqG t2 X.K H0 b ys) (hn : n = min xs.length ys.length) (hsz : n ≤ sizeLine) (hS0 : H0 S = none) (hSf : S ∉ zfp z TI TO i1 i2) {s : Shared} {H : Hp} {c0 : Nat}
  (I : Inv X pins σ H s) (hf : ∀ c ∈ zfp z TI TO i1 i2, FpOk X pins H c) (hz : IsZip s.heap z TI TO .none) (st : ZAt t1 t2 s.heap a b z TI TO i1 i2 0) (hsub : Sub H0 H) (hS : s.heap.get? S = some { cls := .type "list", data := .seq #[] c0 }) (hH : H S = some (.lst []))
  (hR : ∀ s' H' Ts', Inv X pins σ H' s' → ZRes H0 H' S xs ys n Ts' → R (.ok (.ret .none)) s') :
  wpAny (model X.prog X.w) A.in1 (Builtin.List.listExtendWith (.ref S) (.ref z) .none)
   (fun fin s' => match fin with | .done f => R (.ok f) s' | .again c' => c'.quiet = true ∧ codeAny (model X.prog X.w) A c' R s') (fun e s' => R (.error e) s') s := by
 have hSz : S ≠ z := fun e => hSf (by rw [e]; simp)
 have hT : s.TypeIs (.ref z) "zip" := ⟨_, hz, rfl⟩
 unfold Builtin.List.listExtendWith
 refine wpAny_bind (wpAny_typeOf hT ?_)
 have h1 : Builtin.List.listSameRef (.ref S) (.ref z) = false := by simp [Builtin.List.listSameRef, hSz]
 have h2 : (Value.type "zip" == Value.type "list") = false := by decide
 have h3 : (Value.type "zip" == Value.type "tuple") = false := by decide
 simp only [h1, h2, h3, Bool.or_false, Bool.false_eq_true, if_false]
 refine wpAny_bind (wpAny_pyIter_zip hz ?_)
 refine wpAny_bind (wpAny_holding ?_)
 unfold Builtin.List.listLengthHint
 refine wpAny_bind (wpAny_specialOf hT zip_no_len ?_)
 show wpAny _ A.in1 (specialOf (Value.ref z) (Str.ofString "__length_hint__") >>= _) _ _ _
 refine wpAny_bind (wpAny_specialOf hT zip_no_hint ?_)
 refine wpAny_pure ?_
 show wpAny _ A.in1 (rule "list.extend.makes-room" >>= fun _ => Builtin.List.listTouch (.ref S) >>= fun _ =>
  again (.builtin "list.extend.loop" ⟨[.ref S, .ref z, .none], []⟩)) _ _ _
 refine wpAny_bind (wpAny_rule ?_)
 refine wpAny_bind ?_
 show wpAny _ A.in1 (updateSeq S (·.push .none) >>= fun _ => updateSeq S (·.pop)) _ _ _
 refine wpAny_bind (wpAny_updateSeq hS rfl ?_)
 have hS₂ := Heap.get?_update_self (Obj.mapSeq (·.push Value.none)) hS rfl
 refine wpAny_updateSeq (hz := by seq_fits) hS₂ rfl ?_
 have hS₃ := Heap.get?_update_self (Obj.mapSeq (·.pop)) hS₂ rfl
 have oth : ∀ b o, b ≠ S → s.heap.get? b = some o → ((s.heap.update S (Obj.mapSeq (·.push Value.none))).update S (Obj.mapSeq (·.pop))).get? b = some o :=
  fun b o hb e => (Heap.get?_update_other _ _ (Ne.symm hb)).trans ((Heap.get?_update_other _ _ (Ne.symm hb)).trans e)
 have I2 : Inv X pins σ (L2.upd H S (.lst [])) { s with heap := (s.heap.update S (Obj.mapSeq (·.push Value.none))).update S (Obj.mapSeq (·.pop)), toks := s.toks } :=
  I.write (x := S) (e := S) (by rw [hH]; exact trivial) (.inl rfl) (fun c o hc e => oth c o hc e) ⟨_, hS₃⟩ ⟨Nat.zero_le _, [], _, .nil, hS₃⟩
 rw [upd_eq hH] at I2
 refine wpAny_pure ⟨plainId_quiet F.plain_extend_loop _, zip_loop hA D hq1 hq2 hn hsz hS0 hSf n 0 _ H [] rfl (Nat.zero_le _) I2 hf (st.keep D fun c o e hcc => ?_) ⟨hsub, hH, no0, rfl, fun j T x y e => by simp at e⟩ hR⟩
 refine oth c o (fun q => ?_) e
 subst q
 rcases hcc with h | ⟨w, h⟩
 ·exact hSf h
 ·subst h
  rw [hS] at e
  simp at e
theorem zip_init (hA : A.handled = none) (D : ZipApart z TI TO i1 i2 a b) (hq1 : SqG t1 X.K H0 a xs) (hq2 : SqG t2 X.K H0 b ys) (hn : n = min xs.length ys.length) (hsz : n ≤ sizeLine) (hS0 : H0 S = none) (hSf : S ∉ zfp z TI TO i1 i2) {s : Shared} {H : Hp}
  (I : Inv X pins σ H s) (hf : ∀ c ∈ zfp z TI TO i1 i2, FpOk X pins H c) (hz : IsZip s.heap z TI TO .none) (st : ZAt t1 t2 s.heap a b z TI TO i1 i2 0) (hsub : Sub H0 H) (hS : s.heap.get? S = some { cls := .type "list", data := .seq #[] }) (hH : H S = some (.lst []))
  (hR : ∀ s' H' Ts', Inv X pins σ H' s' → ZRes H0 H' S xs ys n Ts' → R (.ok (.ret .none)) s') :
  wpAny (model X.prog X.w) A.in1 (Builtin.«list.__init__» ⟨[.ref S, .ref z], []⟩)
   (fun fin s' => match fin with | .done f => R (.ok f) s' | .again c' => c'.quiet = true ∧ codeAny (model X.prog X.w) A c' R s') (fun e s' => R (.error e) s') s := by
 show wpAny _ A.in1 (do let old ← Builtin.List.listItems (.ref S); Builtin.List.listUpdate (.ref S) (fun _ => #[]); letGo old.toList.reverse; Builtin.List.listExtendWith (.ref S) (.ref z) .none) _ _ s
 refine wpAny_bind ?_
 unfold Builtin.List.listItems
 refine wpAny_bind (wpAny_seqItems hS rfl (wpAny_pure ?_))
 show wpAny _ A.in1 (updateSeq S (fun _ => #[]) >>= fun _ => letGo (#[] : Array Value).toList.reverse >>= fun _ => Builtin.List.listExtendWith (.ref S) (.ref z) .none) _ _ s
 refine wpAny_bind (wpAny_updateSeq hS rfl ?_)
 have hS₂ := Heap.get?_update_self (Obj.mapSeq (fun _ => (#[] : Array Value))) hS rfl
 have oth : ∀ b o, b ≠ S → s.heap.get? b = some o → (s.heap.update S (Obj.mapSeq (fun _ => (#[] : Array Value)))).get? b = some o :=
  fun b o hb e => (Heap.get?_update_other _ _ (Ne.symm hb)).trans e
 have I2 : Inv X pins σ (L2.upd H S (.lst [])) { s with heap := s.heap.update S (Obj.mapSeq (fun _ => (#[] : Array Value))), toks := s.toks } :=
  I.write (x := S) (e := S) (by rw [hH]; exact trivial) (.inl rfl) (fun c o hc e => oth c o hc e) ⟨_, hS₂⟩ ⟨Nat.zero_le _, [], _, .nil, hS₂⟩
 rw [upd_eq hH] at I2
 have hz' : IsZip (s.heap.update S (Obj.mapSeq (fun _ => (#[] : Array Value)))) z TI TO .none := oth _ _ (fun q => hSf (by rw [← q]; simp)) hz
 refine wpAny_bind (wpAny_letGo ?_)
 refine zip_extend hA D hq1 hq2 hn hsz hS0 hSf I2 hf hz' (st.keep D fun c o e hcc => ?_) hsub hS₂ hH hR
 refine oth c o (fun q => ?_) e
 subst q
 rcases hcc with h | ⟨w, h⟩
 ·exact hSf h
 ·subst h
  rw [hS] at e
  simp at e
theorem call_list_zip (hA : X.A.handled = none) (D : ZipApart z TI TO i1 i2 a b) {s : Shared} {H : Hp} {Q : VK} (hq1 : SqG t1 X.K H a xs) (hq2 : SqG t2 X.K H b ys) (hsz : min xs.length ys.length ≤ sizeLine)
  (I : Inv X pins σ H s) (hf : ∀ c ∈ zfp z TI TO i1 i2, FpOk X pins H c ∧ c < s.heap.objs.size) (hz : IsZip s.heap z TI TO .none) (st : ZAt t1 t2 s.heap a b z TI TO i1 i2 0)
  (q : ∀ S H' Ts, H S = none → ZRes H H' S xs ys (min xs.length ys.length) Ts → Q (.ref S) H') : wpAny (model X.prog X.w) X.A (call (.type "list") [.ref z]) (EP X pins σ Q) X.xe s := by
 have hSf : s.heap.objs.size ∉ zfp z TI TO i1 i2 := fun hm => Nat.lt_irrefl _ (hf _ hm).2
 have hS0 : H s.heap.objs.size = none := I.hok.fresh (Nat.le_refl _)
 refine callType_codes (Q₁ := fun obj s₁ => obj = .ref s.heap.objs.size ∧ s₁ = { s with heap := s.heap.push { cls := .type "list", data := .seq #[] } }) F.called_list (F.typeCall_list_1 _) F.entry_list_init
  (code_list_new _ ⟨rfl, rfl⟩) fun obj s₁ h₁ => ?_
 obtain ⟨rfl, rfl⟩ := h₁
 have hS : (s.heap.push { cls := .type "list", data := .seq #[] }).get? s.heap.objs.size = some { cls := .type "list", data := .seq #[] } := Heap.get?_push_size _ rfl
 have I1 := I.lnew (ys := []) (its := []) (t' := s.toks) .nil (Nat.zero_le _)
 have kp : ∀ c o, s.heap.get? c = some o → (s.heap.push { cls := .type "list", data := .seq #[] }).get? c = some o := fun c o e => Heap.get?_push_of_some _ e
 refine ⟨⟨_, hS, rfl⟩, F.args_list_init_2 _ _, zip_init (A := X.A.in1) hA D hq1 hq2 rfl hsz hS0 hSf I1 (fun c hc => fpOk_sub (hf c hc).1 ?_) (kp _ _ hz) (st.keep D fun c o e _ => kp c o e) (sub_upd hS0) hS upd_same fun s' H' Ts' I' zr => ?_⟩
 ·rw [upd_ne (Nat.ne_of_lt (hf c hc).2)]; exact (hf c hc).1.1
 ·exact ⟨rfl, .ref s.heap.objs.size, H', I', rfl, q _ _ _ hS0 zr⟩
end
section
variable {T : Tab} {k : Nat} {cx : Cxt} {X : Cx} {x y z : Expr} {st : Stmt} {pos p2 p3 p4 p5 apos tpos : Pos}
def tLZ (K : PySem.W.Frag) (ta : TA) : TE := fun σ H Q => ta σ H fun vs H1 => ∃ a b xs ys t1 t2, vs = [.ref a, .ref b] ∧ SqG t1 K H1 a xs ∧ SqG t2 K H1 b ys ∧ min xs.length ys.length ≤ sizeLine ∧ ∀ S H' Ts, H1 S = none → ZRes H1 H' S xs ys (min xs.length ys.length) Ts → Q (.ref S) H'
theorem pe_listZip {ta : TA} (hc : X.calm = true) (hg1 : Gl X "list") (hm1 : X.mg "list" = none) (hg : Gl X "zip") (hm : X.mg "zip" = none) (ha : PA X [x, y] ta) (hs : notStar x = true) (hs2 : notStar y = true) :
  PE X (.Call (.Name "list" p2) [.Call (.Name "zip" p3) [x, y] [] p4] [] pos) (tLZ X.K ta) := by
 refine ⟨fun pins s σ H Q I h => ?_⟩
 refine PyProof.Rows.Call_ (ld_blt I hg1 hm1 PyProof.Rows.boot_list (PyProof.Rows.callWith_type1 (PyProof.Rows.args_cons ?_ rfl) rfl rfl))
 refine PyProof.Rows.Call_ (ld_blt I hg hm PyProof.Rows.boot_zip (PyProof.Rows.callWith_type1 (thn (ha.run p4 pins s σ H _ I h) fun us s1 ⟨vs, H1, I1, r1, q1⟩ => ?_) (star_of hs) (by rw [star_of hs2]; rfl)))
 obtain ⟨a, b, xs, ys, t1, t2, ex, hqx, hqy, hsz, q⟩ := q1
 subst ex
 cases r1 with
 | cons r rr =>
  cases rr with
  | cons r' rr =>
   cases rr
   cases r
   cases r'
   obtain ⟨its, rv, p1, lt1⟩ := seqG I1 hqx
   obtain ⟨its2, rv2, p2, lt2⟩ := seqG I1 hqy
   have fresh5 : ∀ c, c ∈ [s1.heap.objs.size + 4, s1.heap.objs.size + 2, s1.heap.objs.size + 3, s1.heap.objs.size, s1.heap.objs.size + 1] → FpOk X pins H1 c ∧ c < s1.heap.objs.size + 5 := fun c hcm => by
    have e' : c = s1.heap.objs.size + 4 ∨ c = s1.heap.objs.size + 2 ∨ c = s1.heap.objs.size + 3 ∨ c = s1.heap.objs.size ∨ c = s1.heap.objs.size + 1 := by simpa using hcm
    have hle : s1.heap.objs.size ≤ c ∧ c < s1.heap.objs.size + 5 := by omega
    exact ⟨I1.fpOk hle.1 (I1.hok.fresh hle.1), hle.2⟩
   refine Zp.call_zipG p1 p2 fun h' hz hTI hTO h1 h2 hk => PyProof.Rows.args_nil ?_
   have I2 : Inv X pins σ H1 { s1 with heap := h' } := I1.kept (t' := s1.toks) hk
   refine call_list_zip (I.ok.hd hc) (PySem.W.ktu_apart s1.heap.objs.size a b lt1 lt2) hqx hqy hsz I2 (fun c hcm => ?_) hz ⟨hTI, h1, h2, ⟨_, _, hTO⟩, .inl hz⟩ q
   obtain ⟨k1, k2⟩ := fresh5 c hcm
   refine ⟨k1, ?_⟩
   show c < h'.objs.size
   have e' : c = s1.heap.objs.size + 4 ∨ c = s1.heap.objs.size + 2 ∨ c = s1.heap.objs.size + 3 ∨ c = s1.heap.objs.size ∨ c = s1.heap.objs.size + 1 := by simpa using hcm
   rcases e' with q | q | q | q | q
   ·rw [q]; exact Heap.lt_size hz
   ·rw [q]; exact Heap.lt_size hTI
   ·rw [q]; exact Heap.lt_size hTO
   ·rw [q]; exact h1.lt
   ·rw [q]; exact h2.lt
theorem zres_alloc {K : PySem.W.Frag} {Z H H' : Hp} {S : Addr} {vs ws : List V} {ps qs : List P} {Ts : List Addr} (s : Sub Z H) (hS : H S = none) (zr : ZRes H H' S vs ws (min vs.length ws.length) Ts) (r1 : RepL K Z vs ps) (r2 : RepL K Z ws qs) :
  ∃ Z', Alloc Z H Z' H' [S] ∧ Own K Z' H' (.l (zipP ps qs)) (.ref S) [S] := by
 have hcl : ∃ Z' : Hp, ∀ c, (c ∈ Ts → Z' c = H' c) ∧ (c ∉ Ts → Z' c = Z c) := ⟨fun c => if c ∈ Ts then H' c else Z c, fun c => ⟨fun h => if_pos h, fun h => if_neg h⟩⟩
 obtain ⟨Z', hZ⟩ := hcl
 have hST : S ∉ Ts := fun h => (zr.fr S h).2 rfl
 have zz : Sub Z Z' := fun c o e => by
  have : c ∉ Ts := fun h => by
   have := (zr.fr c h).1
   rw [s _ _ e] at this; cases this
  rw [(hZ c).2 this]; exact e
 have zs : Z' S = none := by rw [(hZ S).2 hST]; exact z_none s hS
 refine ⟨Z', ⟨zr.sub, zz, fun c o e => ?_, fun c o e => ?_, fun a ha => by simp at ha; subst ha; exact hS⟩, .l zr.lst zs ?_⟩
 ·by_cases h : c ∈ Ts
  ·rw [(hZ c).1 h] at e; exact e
  ·rw [(hZ c).2 h] at e; exact zr.sub _ _ (s _ _ e)
 ·by_cases h : c ∈ Ts
  ·exact .inr (.inl (zr.fr c h).1)
  ·rw [(hZ c).2 h] at e; exact .inl e
 ·-- item by item
  have key : ∀ {us : List V} {os : List P}, us.length = os.length → (∀ (j : Nat) v p, us[j]? = some v → os[j]? = some p → Rep K Z' v p) → RepL K Z' us os := by
   intro us
   induction us with
   | nil => intro os h _; cases os with
    | nil => exact .nil
    | cons _ _ => cases h
   | cons u us ih => intro os h hp; cases os with
    | nil => cases h
    | cons o os => exact .cons (hp 0 u o rfl rfl) (ih (by simpa using h) fun j v p e1 e2 => hp (j + 1) v p (by simpa using e1) (by simpa using e2))
  refine key (by rw [List.length_map, zr.len, zipP_len, r1.length, r2.length]) fun j v p e1 e2 => ?_
  rw [List.getElem?_map] at e1
  obtain ⟨T, hT, rfl⟩ := Option.map_eq_some_iff.mp e1
  have hj := (List.getElem?_eq_some_iff.mp hT).1
  rw [zr.len] at hj
  have h1 : vs[j]? = some (vs[j]'(by omega)) := List.getElem?_eq_getElem _
  have h2 : ws[j]? = some (ws[j]'(by omega)) := List.getElem?_eq_getElem _
  obtain ⟨p1, k1, k2⟩ := r1.getV h1
  obtain ⟨p2, k3, k4⟩ := r2.getV h2
  rw [zipP_get k1 k3] at e2
  cases e2
  obtain ⟨o1, o2, ht⟩ := zr.pr j T _ _ hT h1 h2
  have hm := List.mem_of_getElem? hT
  exact .tup (.inl ⟨o1, by rw [(hZ T).1 hm]; exact ht, o2⟩) (.cons (k2.sub zz) (.cons (k4.sub zz) .nil))
theorem seqG_any {K : PySem.W.Frag} {H : Hp} {c : Addr} {vs : List V} {p : Prop} (h : H c = some (.lst vs) ∨ (SqT K H c vs ∧ p)) : ∃ t, SqG t K H c vs := by
 rcases h with h | ⟨h, _⟩
 ·exact ⟨false, .of h⟩
 ·exact ⟨true, h⟩
theorem snd_listZip {es : EL} (g : Good T k cx X) (hg1 : glB X.env.scope "list" = true) (hg2 : glB X.env.scope "zip" = true) (ha : PA X [x, y] (TAr X.K cx (evl cx es))) (hs : notStar x = true) (hs2 : notStar y = true) (hn : elLen es = 2) :
  PE X (.Call (.Name "list" p2) [.Call (.Name "zip" p3) [x, y] [] p4] [] pos) (TEx X.K cx (ev cx (.bi .listZip es))) :=
 PE.mono (pe_listZip g.calm (gl_of hg1).1 (g.free _ (by decide +kernel)) (gl_of hg2).1 (g.free _ (by decide +kernel)) ha hs hs2) fun σ H Q ⟨Z, ρ, F, m, ρ', R, e, q⟩ => by
  simp only [ev] at e
  split at e
  ·rename_i rs ρ1 e1
   split at e
   ·rename_i ms e2
    split at e
    ·rename_i m3 e3
     cases e
     refine ⟨Z, ρ, F, rs, _, R, e1, fun Z1 H1 F1 us Gs g1 o1 => ?_⟩
     have ol := o1.own g1.rel e2
     have hl : ms.length = 2 := by rw [rds_len e2, evl_len e1, hn]
     match ms, hl with
     | [m1, m2], _ =>
     cases ol with
     | cons oa ot =>
      cases ot with
      | cons ob ot =>
       cases ot
       have e3 : (match seqOf m1, seqOf m2 with
        | some x, some y => if min x.length y.length ≤ LIM then some (M.l (zipP x y)) else none
        | _, _ => none) = some m := e3
       split at e3
       ·rename_i ps qs k1 k2
        split at e3
        ·rename_i hlim
         cases e3
         obtain ⟨a, vs, rfl, ha, ra⟩ := seq_any g1.rel.sub oa k1
         obtain ⟨b, ws, rfl, hb, rb⟩ := seq_any g1.rel.sub ob k2
         obtain ⟨t1, ha⟩ := seqG_any ha
         obtain ⟨t2, hb⟩ := seqG_any hb
         refine ⟨a, b, vs, ws, t1, t2, rfl, ha, hb, by rw [ra.length, rb.length]; exact lim_le hlim, fun S H' Ts hS zr => ?_⟩
         obtain ⟨Z2, al, ow⟩ := zres_alloc g1.rel.sub hS zr ra rb
         exact (ask_done g1 q) Z2 H' _ _ al ow
        ·cases e3
       ·cases e3
    ·cases e
   ·cases e
  ·cases e
theorem repL_rg {K : PySem.W.Frag} {Z : Hp} (i : Int) : ∀ l : List Nat, RepL K Z (l.map fun n => V.int (i + (n : Nat))) (l.map fun n => PyData.int (i + (n : Nat)))
 | [] => .nil
 | n :: l => .cons (.int _) (repL_rg i l)
theorem prg_pa {ta : TA} (hg : Gl X "range") (hm : X.mg "range" = none) (ha : PA X [x, y] ta) (hs : notStar x = true) (hs2 : notStar y = true) :
  PRg X (.Call (.Name "range" p3) [x, y] [] p4) fun σ H Q => ta σ H fun vs H1 => ∃ i j, vs = [.int i, .int j] ∧ Q i j H1 := by
 intro pins s σ H Q I h
 refine PyProof.Rows.Call_ (ld_blt I hg hm PyProof.Rows.boot_range (PyProof.Rows.callWith_type1 (thn (ha.run p4 pins s σ H _ I h) fun us s1 ⟨vs, H1, I1, r1, i, j, ex, q⟩ => ?_) (star_of hs) (by rw [star_of hs2]; rfl)))
 subst ex
 cases r1 with
 | cons r rr =>
  cases rr with
  | cons r' rr =>
   cases rr
   obtain ⟨t, rfl⟩ := r
   obtain ⟨t', rfl⟩ := r'
   exact PySem.call_range_2 ⟨_, i, j, _, _, _, H1, rfl, PySem.IsRange.new _ _ _ _ _ _ _, I1.kept fun b u e => Heap.get?_push_of_some _ e, q⟩
theorem snd_listRg {es : EL} (g : Good T k cx X) (hg1 : glB X.env.scope "list" = true) (hg2 : glB X.env.scope "range" = true) (ha : PA X [x, y] (TAr X.K cx (evl cx es))) (hs : notStar x = true) (hs2 : notStar y = true) (hn : elLen es = 2) :
  PE X (.Call (.Name "list" p2) [.Call (.Name "range" p3) [x, y] [] p4] [] pos) (TEx X.K cx (ev cx (.bi .listRg es))) :=
 PE.mono (pe_listRg g.calm (gl_of hg1).1 (g.free _ (by decide +kernel)) (prg_pa (gl_of hg2).1 (g.free _ (by decide +kernel)) ha hs hs2)) fun σ H Q ⟨Z, ρ, F, m, ρ', R, e, q⟩ => by
  simp only [ev] at e
  split at e
  ·rename_i rs ρ1 e1
   split at e
   ·rename_i ms e2
    split at e
    ·rename_i m3 e3
     cases e
     refine ⟨Z, ρ, F, rs, _, R, e1, fun Z1 H1 F1 us Gs g1 o1 => ?_⟩
     have ol := o1.own g1.rel e2
     have hl : ms.length = 2 := by rw [rds_len e2, evl_len e1, hn]
     match ms, hl with
     | [m1, m2], _ =>
     cases ol with
     | cons oa ot =>
      cases ot with
      | cons ob ot =>
       cases ot
       have va := oa.view
       have vb := ob.view
       have e3 : (match vw m1, vw m2 with
        | .v (.int i), .v (.int j) => if -(2 ^ 62) ≤ i ∧ i < 2 ^ 62 ∧ -(2 ^ 62) ≤ j ∧ j < 2 ^ 62 ∧ (j - i).toNat ≤ LIM then some (M.l ((List.range (j - i).toNat).map fun n => .int (i + (n : Nat)))) else none
        | _, _ => none) = some m := e3
       split at e3
       ·rename_i i j k1 k2
        rw [k1] at va
        rw [k2] at vb
        cases va.int
        cases vb.int
        split at e3
        ·rename_i hlim
         cases e3
         have hL : (LIM : Nat) = 1000000 := rfl
         refine ⟨i, j, rfl, ⟨hlim.1, hlim.2.1, hlim.2.2.1, hlim.2.2.2.1, by omega⟩, fun p hp => ?_⟩
         refine Ask.lst (ask_done g1 q) g1.rel.sub (vs := rgV i j) ?_ p hp
         unfold rgV
         exact repL_rg _ _
        ·cases e3
       ·cases e3
    ·cases e
   ·cases e
  ·cases e
end
end Mn
end
section
set_option maxHeartbeats 200000
namespace Mn
open PySem L2 PySem.Spec
variable [WW] [FX]
section
variable {K : PySem.W.Frag} {Z H : Hp}
theorem valU_pos {k : NK} {b : Addr} {v : V} {vs : List (NK × Addr × V)} : valU ((k, b, v) :: vs) k = some v := by simp [valU, List.find?_cons]
theorem valU_neg {k k0 : NK} {b : Addr} {v : V} {vs : List (NK × Addr × V)} (h : ¬ k0 = k) : valU ((k0, b, v) :: vs) k = valU vs k := by simp [valU, List.find?_cons, h]
theorem getA_pos {α : Type} {k : NK} {m : α} {ms : List (NK × α)} : getA ((k, m) :: ms) k = some m := by simp [getA, List.find?_cons]
theorem getA_neg {α : Type} {k k0 : NK} {m : α} {ms : List (NK × α)} (h : ¬ k0 = k) : getA ((k0, m) :: ms) k = getA ms k := by simp [getA, List.find?_cons, h]
theorem putA_pos {α : Type} {k : NK} {m m' : α} {ms : List (NK × α)} (kn : getA ms k = none) : putA ((k, m) :: ms) k m' = (k, m') :: ms := by
 have hm : (ms.map fun kv => if kv.1 = k then (kv.1, m') else kv) = ms := by
  have : ∀ {l : List (NK × α)}, getA l k = none → (l.map fun kv => if kv.1 = k then (kv.1, m') else kv) = l := by
   intro l
   induction l with
   | nil => intro _; rfl
   | cons p r ih =>
    intro hn
    by_cases q : p.1 = k
    ·simp [getA, List.find?_cons, q] at hn
    ·rw [List.map_cons, if_neg q, ih (by simpa [getA, List.find?_cons, q] using hn)]
  exact this kn
 unfold putA
 rw [List.any_cons, decide_eq_true rfl, Bool.true_or, if_pos rfl, List.map_cons, if_pos rfl, hm]
theorem putA_neg {α : Type} {k k0 : NK} {m m' : α} {ms : List (NK × α)} (h : ¬ k0 = k) : putA ((k0, m) :: ms) k m' = (k0, m) :: putA ms k m' := by
 unfold putA
 rw [List.any_cons]
 have : decide (k0 = k) = false := decide_eq_false h
 simp only [this, Bool.false_or]
 split
 ·rw [List.map_cons, if_neg h]
 ·rfl
theorem putU_noneA {α : Type} {k : NK} {x : α} : ∀ {kvs : List (NK × α)}, getA kvs k = none → putA kvs k x = kvs ++ [(k, x)]
 | [], _ => rfl
 | (k0, m) :: ms, h => by
  by_cases q : k0 = k
  ·subst q; rw [getA_pos] at h; cases h
  ·rw [putA_neg q, putU_noneA (by rw [getA_neg q] at h; exact h)]; rfl
theorem ownH_len : ∀ {ms : List (NK × M)} {vs : List (NK × Addr × V)} {G : List Addr}, OwnH K Z H ms vs G → vs.length = ms.length
 | _, _, _, .nil => rfl
 | _, _, _, .cons _ _ _ r _ => congrArg (· + 1) (ownH_len r)
theorem ownH_none {k : NK} : ∀ {ms : List (NK × M)} {vs : List (NK × Addr × V)} {G : List Addr}, OwnH K Z H ms vs G → getA ms k = none → valU vs k = none
 | _, _, _, .nil, _ => rfl
 | _, _, _, .cons (k := k0) _ _ _ r _, h => by
  by_cases q : k0 = k
  ·subst q; rw [getA_pos] at h; cases h
  ·rw [getA_neg q] at h
   rw [valU_neg q]
   exact ownH_none r h
theorem ownH_upd {A' : AS} (k : NK) : ∀ {ms : List (NK × M)} {vs : List (NK × Addr × V)} {G : List Addr} {m : M}, OwnH K Z H ms vs G → getA ms k = some m →
  ∃ v Gk, valU vs k = some v ∧ Own K Z H m v Gk ∧ (∀ a ∈ Gk, a ∈ G) ∧ ∀ {Z' H' : Hp} {m' : M} {G' : List Addr}, Step Z H Z' H' (· ∈ Gk) A' → Sub Z' H' → Own K Z' H' m' v G' → (∀ a ∈ G', a ∈ Gk ∨ H a = none) →
   ∃ G2, OwnH K Z' H' (putA ms k m') vs G2 ∧ ∀ a ∈ G2, a ∈ G ∨ a ∈ G'
 | _, _, _, m, .nil, e => by cases e
 | _, _, _, m, @OwnH.cons _ _ _ _ k0 b0 m0 v0 ms vs G G2 ko kn h t d, e => by
  by_cases q : k0 = k
  ·subst q
   rw [getA_pos] at e
   cases e
   refine ⟨v0, G, valU_pos, h, fun a ha => List.mem_append_left _ ha, fun {Z' H' m' G'} st s o nw => ?_⟩
   rw [putA_pos kn]
   obtain ⟨t2, _⟩ := t.step (fun a ha hg => d a hg ha) st s
   refine ⟨G' ++ G2, .cons (ko.sub st.zz) kn o t2 fun a ha hb => ?_, fun a ha => ?_⟩
   ·rcases nw a ha with z | z
    ·exact d a z hb
    ·obtain ⟨_, u, hu, _⟩ := t.at_ a hb
     rw [z] at hu; cases hu
   ·rcases List.mem_append.mp ha with z | z
    ·exact .inr z
    ·exact .inl (List.mem_append_right _ z)
  ·rw [getA_neg q] at e
   obtain ⟨v, Gk, h1, h2, h3, h4⟩ := ownH_upd (A' := A') k t e
   refine ⟨v, Gk, by rw [valU_neg q]; exact h1, h2, fun a ha => List.mem_append_right _ (h3 a ha), fun {Z' H' m' G'} st s o nw => ?_⟩
   obtain ⟨G3, h5, h6⟩ := h4 st s o nw
   rw [putA_neg q]
   obtain ⟨o2, _⟩ := h.step (fun a ha hg => d a ha (h3 a hg)) st s
   have kn' : getA (putA ms k m') k0 = none := by rw [getA_put, if_neg q]; exact kn
   refine ⟨G ++ G3, .cons (ko.sub st.zz) kn' o2 h5 fun a ha hb => ?_, fun a ha => ?_⟩
   ·rcases h6 a hb with z | z
    ·exact d a ha z
    ·rcases nw a z with w | w
     ·exact d a ha (h3 a w)
     ·obtain ⟨_, u, hu, _⟩ := h.at_ a ha
      rw [w] at hu; cases hu
   ·rcases List.mem_append.mp ha with z | z
    ·exact .inl (List.mem_append_left _ z)
    ·rcases h6 a z with w | w
     ·exact .inl (List.mem_append_right _ w)
     ·exact .inr w
theorem ownH_new {k : NK} {b : Addr} {m : M} {v : V} {G' : List Addr} : ∀ {ms : List (NK × M)} {vs : List (NK × Addr × V)} {G : List Addr}, OwnH K Z H ms vs G → NkAt K Z k b → getA ms k = none → Own K Z H m v G' → (∀ a ∈ G', a ∉ G) →
  ∃ G2, OwnH K Z H (ms ++ [(k, m)]) (vs ++ [(k, b, v)]) G2 ∧ ∀ a ∈ G2, a ∈ G ∨ a ∈ G'
 | _, _, _, .nil, ko, _, o, _ => ⟨G' ++ [], .cons ko rfl o .nil (fun _ _ h => by cases h), fun a h => .inr (by simpa using h)⟩
 | _, _, _, @OwnH.cons _ _ _ _ k0 b0 m0 v0 ms vs G1 G2 ko0 kn h t d, ko, e, o, dj => by
  have q : ¬ k0 = k := fun q => by subst q; rw [getA_pos] at e; cases e
  rw [getA_neg q] at e
  obtain ⟨G3, t3, k3⟩ := ownH_new t ko e o fun a ha hb => dj a ha (List.mem_append_right _ hb)
  refine ⟨G1 ++ G3, .cons ko0 ?_ h t3 fun a ha hb => ?_, fun a ha => ?_⟩
  ·have : getA (ms ++ [(k, m)]) k0 = none := by
    unfold getA at kn ⊢
    rw [List.find?_append]
    cases hx : ms.find? fun kv => decide (kv.1 = k0) with
    | some w => rw [hx] at kn; cases kn
    | none =>
     have : ¬ k = k0 := fun z => q z.symm
     simp [this]
   exact this
  ·rcases k3 a hb with z | z
   ·exact d a ha z
   ·exact dj a z (List.mem_append_left _ ha)
  ·rcases List.mem_append.mp ha with z | z
   ·exact .inl (List.mem_append_left _ z)
   ·rcases k3 a z with z2 | z2
    ·exact .inl (List.mem_append_right _ z2)
    ·exact .inr z2
theorem hst_case {ps : List (NK × M)} {v : V} {G : List Addr} (o : Own K Z H (.h ps) v G) : ∃ a vs G1, v = .ref a ∧ G = a :: G1 ∧ H a = some (TupO a vs) ∧ Z a = none ∧ OwnH K Z H ps vs G1 ∧ a ∉ G1 := by
 cases o with
 | ho h hz r q => exact ⟨_, _, _, rfl, rfl, h, hz, r, q⟩
end
def tUSetd (K : PySem.W.Frag) (td ty tx : TE) : TE := fun σ H Q => td σ H fun x H1 => ∃ a, x = .ref a ∧ (∃ vs, H1 a = some (TupO a vs) ∧ KeysAt K H1 vs) ∧ ty σ H1 fun y H2 => tx σ H2 fun z H3 => ∃ vs k b, H3 a = some (TupO a vs) ∧ KeysAt K H3 vs ∧ y = .ref b ∧ NkAt K H3 k b ∧ vs.length < sizeLine ∧
 (∀ v, valU vs k = some v → Q v H3) ∧ (valU vs k = none → Q z (upd H3 a (TupO a (vs ++ [(k, b, z)]))))
section
variable {T : Tab} {k : Nat} {cx : Cxt} {X : Cx} {x y z : Expr} {st : Stmt} {pos p2 p3 p4 apos tpos : Pos}
theorem pe_usetd {o e f : Expr} {td ty tx : TE} {apos cpos : Pos} (hu : X.A.units + 16 < cLine) (hw : AtW X) (ho : PE X o td) (he : PE X e ty) (hf : PE X f tx) (m : M2 X o "setdefault" apos e f cpos) : PE X (.Call (.Attribute o "setdefault" apos) [e, f] [] cpos) (tUSetd X.K td ty tx) := by
 refine ⟨fun pins s σ H Q I h => ?_⟩
 refine wpAny_Call_method m.base m.few m.line PySem.F.plainAttrs_dict PySem.F.slot_dict_setdefault PySem.F.type_dict_setdefault (thn (ho.run pins s σ H _ I h) fun u s1 ⟨x, H1, I1, rx, a, ex, d, q1⟩ => ?_)
 subst ex
 obtain rfl : u = Value.ref a := rx
 obtain ⟨vs, d, hk⟩ := d
 obtain ⟨xs, _, _, _, ob, _, _, e1, exd, _⟩ := uu_get I1 hw (.inl d) hk
 refine ⟨⟨ob, e1, exd.1⟩, fun b q => by cases q; exact ⟨ob, e1, exd.2.1⟩, ?_⟩
 rw [m.trees]
 refine Calls.callWith_builtin rfl (Calls.evalArgs_plain (Calls.spliced_cons (thn (he.run pins s1 σ H1 _ I1 q1) fun iv s2 ⟨y, H2, I2, ry, q2⟩ =>
  Calls.spliced_cons (thn (hf.run pins s2 σ H2 _ I2 q2) fun fv s3 ⟨z, H3, I3, rz, vs3, k3, b, ea, hka, ey, hb, hl, q3, q4⟩ => Calls.spliced_nil ?_))))
 subst ey
 cases ry
 exact uu_sd hu I3 hw ea hka hb rz hl (fun v w' s4 hv rw' I4 => ⟨v, _, I4, rw', q3 v hv⟩) fun s4 hn I4 => ⟨z, _, I4, rz, q4 hn⟩
theorem Go.mutH {K : PySem.W.Frag} {X : Cxt} {σ : St} {Z H Z1 H1 : Hp} {ρ ρ1 : Env} {F F1 : Nat → List Addr} {i : Nat} {a b : Addr} {kk : NK} {m m' : M} {ms : List (NK × M)} {vs : List (NK × Addr × V)} {G1 : List Addr} {u u' : HO} (g : Go K X σ Z H ρ F Z1 H1 ρ1 F1) (e : slot ρ1 i = some (.h ms)) (hs : σ[i]? = some (some (.ref a)))
  (hG : F1 i = a :: G1) (h : H1 a = some (TupO a vs)) (hz : Z1 a = none) (r : OwnH K Z1 H1 ms vs G1) (na : a ∉ G1) (eg : getA ms kk = some m) (hv : valU vs kk = some (.ref b)) (hb : H1 b = some u) (nf : ∀ o' w, u ≠ .frz o' w)
  (ho : ∀ Gk, Own K Z1 H1 m (.ref b) Gk → Gk = [b]) (o : Own K Z1 (L2.upd H1 b u') m' (.ref b) [b]) : ∃ F2, Go K X σ Z H ρ F Z1 (L2.upd H1 b u') (ρ1.set i (some (.h (putA ms kk m')))) F2 := by
 obtain ⟨v, Gk, k1, k2, k3, k4⟩ := ownH_upd (A' := (· ∈ [b])) kk r eg
 rw [hv] at k1
 cases k1
 have := ho Gk k2
 subst this
 have hbG : b ∈ G1 := k3 b (by simp)
 have hab : a ≠ b := fun z => na (z ▸ hbG)
 have zb : Z1 b = none := (r.at_ b hbG).1
 have sb : Sub Z1 (L2.upd H1 b u') := fun c w hc => by
  have : c ≠ b := fun q => by subst q; rw [zb] at hc; cases hc
  rw [upd_ne this]; exact g.rel.sub c w hc
 have st : Step Z1 H1 Z1 (L2.upd H1 b u') (· ∈ [b]) (· ∈ [b]) := ⟨fun c w hc n => by rw [upd_ne (fun q => n (by simp [q]))]; exact hc, Sub.rfl' _, fun _ _ h => .inl h, fun _ h => .inl h, fun c o' w hc => by
  by_cases q : c = b
  ·subst q; rw [hb] at hc; cases hc; exact (nf _ _ rfl).elim
  ·rw [upd_ne q]; exact hc⟩
 obtain ⟨G3, r3, k5⟩ := k4 st sb o (fun x hx => .inl hx)
 refine ⟨_, g.mut (a := b) (u := u) (u' := u') (m' := .h (putA ms kk m')) (G := a :: G3) e rfl hs (by rw [hG]; exact List.mem_cons_of_mem _ hbG) hb nf (.ho (by rw [upd_ne hab]; exact h) hz r3 (fun hm => ?_)) (fun c hc => .inl ?_)⟩
 ·rcases k5 a hm with z | z
  ·exact na z
  ·simp at z; exact hab z
 ·rw [hG]
  rcases List.mem_cons.mp hc with z | z
  ·simp [z]
  ·rcases k5 c z with w | w
   ·simp [w]
   ·simp at w; subst w; exact List.mem_cons_of_mem _ hbG
theorem isH_of {ρ : Env} {i : Nat} (h : ¬ isH (slot ρ i) = false) : ∃ ps, slot ρ i = some (.h ps) := by
 cases e : slot ρ i with
 | none => rw [e] at h; exact (h rfl).elim
 | some m =>
  rw [e] at h
  cases m with
  | h ps => exact ⟨ps, rfl⟩
  | _ => exact (h rfl).elim
theorem isUd_of {ρ : Env} {i : Nat} (h : ¬ isUd (slot ρ i) = false) : ∃ ps, slot ρ i = some (.u ps) := by
 cases e : slot ρ i with
 | none => rw [e] at h; exact (h rfl).elim
 | some m =>
  rw [e] at h
  cases m with
  | u ps => exact ⟨ps, rfl⟩
  | _ => exact (h rfl).elim
structure There (K : PySem.W.Frag) (X : Cxt) (σ : St) (Z H : Hp) (ρ : Env) (F : Nat → List Addr) (i : Nat) (a : Addr) (kk : NK) (m0 : M) (ρ1 : Env) (kvs : List (NK × M)) (Z3 H3 : Hp) (x : V) : Prop where
 to : ∃ kvs3 F3 G3 vs3 b, Go K X σ Z H ρ F Z3 H3 (ρ1.set i (some (.h kvs3))) F3 ∧ F3 i = a :: G3 ∧ H3 a = some (TupO a vs3) ∧ Z3 a = none ∧ OwnH K Z3 H3 kvs3 vs3 G3 ∧ a ∉ G3 ∧ getA kvs3 kk = some m0 ∧ valU vs3 kk = some (.ref b) ∧ Own K Z3 H3 m0 (.ref b) [b] ∧ b ∈ G3 ∧ x = .ref b ∧ ∀ y, putA kvs3 kk y = putA kvs kk y
theorem setd_go {i : Nat} {p : P} {kk : NK} {kvs : List (NK × M)} {m0 m1 : M} {u1 : HO} {ρ ρ1 : Env} {σ : St} {Z H Z1 H1 : Hp} {F F1 : Nat → List Addr} {yv : V} {a L : Addr} {Q : VK} (g1 : Go X.K cx σ Z H ρ F Z1 H1 ρ1 F1) (rp : Rep X.K Z1 yv p) (ek : nkOf p = some kk) (e2 : slot ρ1 i = some (.h kvs)) (hov : σ[i]? = some (some (.ref a))) (hL : H1 L = none) (hlen : kvs.length < LIM)
  (own1 : ∀ {Z' H' : Hp}, H' L = some u1 → Z' L = none → Own X.K Z' H' m1 (.ref L) [L])
  (hm : getA kvs kk = some m0 ∨ (getA kvs kk = none ∧ m0 = m1)) (hin : ∀ {Z' H' : Hp} {v : V} {G : List Addr}, Own X.K Z' H' m0 v G → ∃ b, v = .ref b ∧ G = [b])
  (cont : ∀ x H3, There X.K cx σ Z H ρ F i a kk m0 ρ1 kvs Z1 H3 x → Q x H3) :
  ∃ vs k b, (L2.upd H1 L u1) a = some (TupO a vs) ∧ KeysAt X.K (L2.upd H1 L u1) vs ∧ yv = .ref b ∧ NkAt X.K (L2.upd H1 L u1) k b ∧ vs.length < sizeLine ∧ (∀ v, valU vs k = some v → Q v (L2.upd H1 L u1)) ∧ (valU vs k = none → Q (.ref L) (L2.upd (L2.upd H1 L u1) a (TupO a (vs ++ [(k, b, .ref L)])))) := by
 obtain ⟨bk, rfl, hbk, _⟩ := nkOf_v ek rp
 have hzL : Z1 L = none := z_none g1.rel.sub hL
 have hLU : ¬ U F1 L := fun hu => by
  obtain ⟨_, w, hw, _⟩ := g1.rel.mem hu
  rw [hL] at hw; cases hw
 have al : Alloc Z1 H1 Z1 (L2.upd H1 L u1) [L] := .own g1.rel.sub hL
 have g2 := g1.alloc al
 obtain ⟨ov2, h1, h2⟩ := g2.rel.own i _ e2
 rw [hov] at h1; cases h1
 have hG : ∃ G, F1 i = G := ⟨_, rfl⟩
 obtain ⟨G, hG⟩ := hG
 rw [hG] at h2
 obtain ⟨a2, vs, G1, hva, hG2, h, hz, r, na⟩ := hst_case h2
 cases hva
 subst hG2
 have hL2 : L ≠ a := fun z => by
  subst z
  exact hLU ⟨i, by rw [hG]; simp⟩
 have hvl : vs.length < sizeLine := by rw [ownH_len r]; exact Nat.lt_of_lt_of_le hlen LIM_line
 refine ⟨vs, kk, bk, h, hKeys_at g2.rel.sub r, rfl, hbk.sub g2.rel.sub, hvl, fun v hv => ?_, fun hn => ?_⟩
 ·rcases hm with eg | ⟨eg, _⟩
  ·obtain ⟨v2, Gk, k1, k2, k3, _⟩ := ownH_upd (A' := fun _ => False) kk r eg
   rw [hv] at k1
   cases k1
   obtain ⟨b, rfl, rfl⟩ := hin k2
   refine cont _ _ ⟨kvs, F1, G1, vs, b, by rw [set_same e2]; exact g2, hG, h, hz, r, na, eg, hv, k2, k3 b (by simp), rfl, fun _ => rfl⟩
  ·rw [ownH_none r eg] at hv; cases hv
 ·rcases hm with eg | ⟨eg, rfl⟩
  ·obtain ⟨v2, Gk, k1, _⟩ := ownH_upd (A' := fun _ => False) kk r eg
   rw [hn] at k1; cases k1
  ·have ha1 : H1 a = some (TupO a vs) := by rw [upd_ne (Ne.symm hL2)] at h; exact h
   have hLG : L ∉ G1 := fun z => hLU ⟨i, by rw [hG]; exact List.mem_cons_of_mem _ z⟩
   generalize hH3 : L2.upd (L2.upd H1 L u1) a (TupO a (vs ++ [(kk, bk, V.ref L)])) = H3
   have r1' : OwnH X.K Z1 H3 kvs vs G1 := r.keep (Sub.rfl' _) (fun c hc o ho => by
    have : c ≠ a := fun z => na (z ▸ hc)
    rw [← hH3, upd_ne this]; exact ho) fun c hc => (r.at_ c hc).1
   have hL3 : H3 L = some u1 := by rw [← hH3, upd_ne hL2]; exact upd_same
   have oL : Own X.K Z1 H3 m0 (.ref L) [L] := own1 hL3 hzL
   obtain ⟨G3, r3, k5⟩ := ownH_new (v := .ref L) (m := m0) (G' := [L]) r1' hbk eg oL (fun c hc => by simp at hc; subst hc; exact hLG)
   have na3 : a ∉ G3 := fun hm => by
    rcases k5 a hm with z | z
    ·exact na z
    ·simp at z; exact hL2 z.symm
   rw [← putU_noneA eg] at r3
   have eg3 : getA (putA kvs kk m0) kk = some m0 := by rw [getA_put, if_pos rfl]
   have hv3 : valU (vs ++ [(kk, bk, V.ref L)]) kk = some (.ref L) := by
    unfold valU at hn ⊢
    rw [List.find?_append]
    rw [Option.map_eq_none_iff] at hn
    rw [hn]
    simp
   obtain ⟨v3, Gk, q1, q2, q3, _⟩ := ownH_upd (A' := fun _ => False) kk r3 eg3
   rw [hv3] at q1
   cases q1
   obtain ⟨b, hb1, hGk⟩ := hin q2
   cases hb1
   subst hGk
   have hs3 : Sub Z1 H3 := fun c w hc => by
    have h1 : c ≠ a := fun z => by subst z; rw [hz] at hc; cases hc
    have h2 : c ≠ L := fun z => by subst z; rw [hzL] at hc; cases hc
    rw [← hH3, upd_ne h1, upd_ne h2]; exact g1.rel.sub c w hc
   have haF : a ∈ F1 i := by rw [hG]; simp
   have st : Step Z1 H1 Z1 H3 (· ∈ F1 i) (· ∈ F1 i) := ⟨fun c w hc n => by
    have h1 : c ≠ a := fun z => n (z ▸ haF)
    have h2 : c ≠ L := fun z => by subst z; rw [hL] at hc; cases hc
    rw [← hH3, upd_ne h1, upd_ne h2]; exact hc, Sub.rfl' _, fun _ _ h => .inl h, fun _ h => .inl h, fun c o' w hc => by
    have h1 : c ≠ a := fun z => by subst z; rw [ha1] at hc; cases hc
    have h2 : c ≠ L := fun z => by subst z; rw [hL] at hc; cases hc
    rw [← hH3, upd_ne h1, upd_ne h2]; exact hc⟩
   have ha3 : H3 a = some (TupO a (vs ++ [(kk, bk, V.ref L)])) := by rw [← hH3]; exact upd_same
   obtain ⟨w1, w2⟩ := g1.rel.upd (m := .h (putA kvs kk m0)) (G := a :: G3) e2 st hs3 hov (.ho ha3 hz r3 na3) (fun c hc => by
    rcases List.mem_cons.mp hc with z | z
    ·subst z; exact .inl haF
    ·rcases k5 c z with z | z
     ·exact .inl (by rw [hG]; exact List.mem_cons_of_mem _ z)
     ·simp at z; subst z; exact .inr hL)
   refine cont _ _ ⟨_, _, G3, _, L, ⟨w1, g1.st.trans w2, g1.lk.trans (lk_set e2 rfl)⟩, fset_self _ _ _, ha3, hz, r3, na3, eg3, hv3, q2, q3 L (by simp), rfl, fun y => ?_⟩
   rw [putU_noneA eg, putU_noneA eg]
   have aux : ∀ {l : List (NK × M)}, getA l kk = none → putA (l ++ [(kk, m0)]) kk y = l ++ [(kk, y)] := by
    intro l
    induction l with
    | nil => intro _; exact putA_pos rfl
    | cons p r ih =>
     intro hn
     obtain ⟨pk, pm⟩ := p
     by_cases q : pk = kk
     ·subst q; rw [getA_pos] at hn; cases hn
     ·rw [List.cons_append, putA_neg q, ih (by rw [getA_neg q] at hn; exact hn)]; rfl
   exact aux eg
theorem snd_sdd {i : Nat} {kx jx e : E} {y2 : Expr} {cpos : Pos} (g : Good T k cx X) (ho : PE X x (tVr i)) (hk : PE X y (TEx X.K cx (ev cx kx))) (hj : PE X y2 (TEx X.K cx (ev cx jx))) (he : PE X z (TEx X.K cx (ev cx e))) (h0 : notCall0 x = true) (hs : notStar y = true) (hl : (apos.endLine == cpos.line) = true) :
  PS X (.Assign [.Subscript (.Call (.Attribute x "setdefault" apos) [y, .Dict [] [] p3] [] cpos) y2 p2] z pos) (TSt X.K cx (evs cx (.sdd i kx jx e))) :=
 PS.mono (ps_dput (pos' := p2) (by have := g.room.units; omega) (pe_usetd (by have := g.room.units; omega) g.at_ ho hk pe_dnewK (m2_of h0 hs rfl hl)) hj (px_of he) swaps_sub) fun D σ H ⟨Z, ρ, F, fl, ρ', R, e0, q⟩ => by
  simp only [evs] at e0
  split at e0
  ·cases e0
  split at e0
  ·rename_i m ρ0 e1
   split at e0
   ·rename_i xv ex
    split at e0
    ·cases e0
    rename_i hsome
    obtain ⟨ps0, em0⟩ := isH_of hsome
    split at e0
    ·rename_i p ρ1 e2
     split at e0
     ·rename_i kvs kk e3 e4
      split at e0
      ·cases e0
      ·rename_i ps es
       split at e0
       ·rename_i qv ρ2 e5
        split at e0
        ·rename_i jk e6 e7
         cases e0
         refine ⟨Z, ρ, F, xv, ρ0, R, by unfold toPg; rw [e1]; simp only [ex], fun Z0 H0 F0 w g0 rw0 => ?_⟩
         obtain ⟨ov, hov, o0⟩ := g0.rel.own i _ em0
         obtain ⟨a, vs0, G0, rfl, _, ha0, _, r0, _⟩ := hst_case o0
         refine ⟨_, hov, g0.rel.fx, a, rfl, ⟨vs0, ha0, hKeys_at g0.rel.sub r0⟩, Z0, ρ0, F0, _, ρ1, g0.rel, e2, fun Z1 H1 F1 yv Gy g1 r1 => fun L hL => ?_⟩
         obtain ⟨oy, _, _⟩ := r1
         have hlim : ps.length < LIM ∧ kvs.length < LIM ∧ (getA kvs kk = some (.d ps) ∨ (getA kvs kk = none ∧ M.d ps = M.d [])) := by
          unfold sdD at es
          split at es
          ·rename_i ps2 eg
           split at es
           ·rename_i hl
            cases es
            exact ⟨hl.1, hl.2, .inl eg⟩
           ·cases es
          ·rename_i eg
           split at es
           ·rename_i hl
            cases es
            exact ⟨by decide, hl, .inr ⟨eg, rfl⟩⟩
           ·cases es
          ·cases es
         cases oy with
         | v rp =>
          refine setd_go (Q := fun x H2 => TEx X.K cx (ev cx jx) σ H2 fun y H3 => ∃ a H4, x = V.ref a ∧ DPut H3 a y w H4 ∧ D.nx σ H4) (m0 := .d ps) (m1 := .d []) (g0.trans g1) rp e4 e3 hov hL hlim.2.1 (fun h1 h2 => .d h1 h2 .nil) hlim.2.2 (fun o => by
           cases o with
           | d _ _ _ => exact ⟨_, rfl, rfl⟩) fun xr H3 ⟨th⟩ => ?_
          obtain ⟨kvs3, F3, G3, vs3, b, g3, hF3, ha3, hz3, r3, na3, eg3, hv3, ob, hbG, rfl, hput⟩ := th
          have el : slot (ρ1.set i (some (.h kvs3))) i = some (.h kvs3) := slot_self _ (slot_lt e3)
          refine ⟨Z1, _, fset F3 i [], .v qv, ρ2, g3.rel.del i, by rw [List.set_set]; exact e5, fun Z4 H4 F4 jv Gj g4 r4 => ?_⟩
          obtain ⟨oj, _, _⟩ := r4
          cases oj with
          | v rj =>
           obtain ⟨rfl, ko, _⟩ := keyOf_v e7 rj
           obtain ⟨g5, fr, zn⟩ := aside g3.rel el rfl g4 e6
           have hF : ∀ c ∈ a :: G3, c ∈ F3 i := fun c hc => by rw [hF3]; exact hc
           have ha' := fr a (hF a (by simp)) _ ha3
           obtain ⟨b2, ws, hb2, _, hb, hzb, rb⟩ := dic_case ob
           cases hb2
           have hb' := fr b (hF b (List.mem_cons_of_mem _ hbG)) _ hb
           have r' : OwnH X.K Z4 H4 kvs3 vs3 G3 := r3.keep g5.st.zz (fun c hc o ho => fr c (hF c (List.mem_cons_of_mem _ hc)) o ho) fun c hc => zn c (hF c (List.mem_cons_of_mem _ hc))
           have el5 : slot (ρ2.set i (some (.h kvs3))) i = some (.h kvs3) := slot_self _ (by rw [g4.lk.len, List.length_set, List.length_set]; exact slot_lt e3)
           obtain ⟨F6, g6⟩ := (g3.trans g5).mutH (u' := .dK (putK ws jk w)) (m' := .d (putA ps jk xv)) el5 hov (by rw [fset_self, hF3]) ha' (zn a (hF a (by simp))) r' na3 eg3 hv3 hb' (fun _ _ z => by cases z) (fun Gk' o' => by
            cases o' with
            | d _ _ _ => rfl) (.d upd_same (zn b (hF b (List.mem_cons_of_mem _ hbG))) (dRel_put (dRel_sub g5.st.zz rb) ko ((rw0.sub g1.st.zz).sub g5.st.zz)))
           rw [List.set_set, hput] at g6
           exact ⟨b, _, rfl, DPut.k hb' (by rw [dRel_len rb]; exact Nat.lt_of_lt_of_le hlim.1 LIM_line), q _ _ _ _ g6.gs⟩
        ·cases e0
       ·cases e0
     ·cases e0
    ·cases e0
   ·cases e0
  ·cases e0
theorem snd_sdh {i : Nat} {kx e : E} {apos2 : Pos} {cpos : Pos} (g : Good T k cx X) (ho : PE X x (tVr i)) (hk : PE X y (TEx X.K cx (ev cx kx))) (he : PE X z (TEx X.K cx (ev cx e))) (h0 : notCall0 x = true) (hs : notStar y = true) (hs2 : notStar z = true) (hl : (apos.endLine == cpos.line) = true) (hl2 : (apos2.endLine == p2.line) = true) :
  PS X (.Expr (.Call (.Attribute (.Call (.Attribute x "setdefault" apos) [y, .List [] p3] [] cpos) "append" apos2) [z] [] p2) pos) (TSt X.K cx (evs cx (.sdh i kx e))) :=
 PS.mono (ps_expr (pe_bm PySem.F.plainAttrs_list PySem.F.slot_list_append PySem.F.type_list_append mt_append (pe_usetd (by have := g.room.units; omega) g.at_ ho hk (pe_lst pa_nil) (m2_of h0 hs rfl hl)) (ps_cons he ps_nil (star_of hs2)) (base_of rfl) (few_of hs2) hl2 (star_of hs2) plain0) (swaps_of rfl)) fun D σ H ⟨Z, ρ, F, fl, ρ', R, e0, q⟩ => by
  simp only [evs] at e0
  split at e0
  ·cases e0
  rename_i hsome
  obtain ⟨ps0, em0⟩ := isH_of hsome
  obtain ⟨ov, hov, o0⟩ := R.own i _ em0
  obtain ⟨a, vs0, G0, rfl, _, ha0, _, r0, _⟩ := hst_case o0
  split at e0
  ·rename_i p ρ1 e1
   split at e0
   ·rename_i kvs kk e2 e3
    split at e0
    ·cases e0
    ·rename_i ps es
     split at e0
     ·rename_i m2 ρ2 e4
      split at e0
      ·rename_i xv e5 e6
       cases e0
       refine ⟨_, hov, R.fx, a, rfl, ⟨vs0, ha0, hKeys_at R.sub r0⟩, Z, ρ, F, _, ρ1, R, e1, fun Z1 H1 F1 yv Gy g1 r1 => ⟨Nat.zero_le _, fun L hL => ?_⟩⟩
       have hlim : ps.length < LIM ∧ kvs.length < LIM ∧ (getA kvs kk = some (.l ps) ∨ (getA kvs kk = none ∧ M.l ps = M.l [])) := by
        unfold sdH at es
        split at es
        ·rename_i ps2 eg
         split at es
         ·rename_i hl
          cases es
          exact ⟨hl.1, hl.2, .inl eg⟩
         ·cases es
        ·rename_i eg
         split at es
         ·rename_i hl
          cases es
          exact ⟨by decide, hl, .inr ⟨eg, rfl⟩⟩
         ·cases es
        ·cases es
       obtain ⟨oy, _, _⟩ := r1
       cases oy with
       | v rp =>
        refine setd_go (Q := fun x H1 => tyV X.K "list" x H1 ∧ TPs X.K cx (evp cx (.cons e .nil)) σ H1 fun xs H2 => rAppend x xs H2 fun _ H3 => D.nx σ H3) (m0 := .l ps) (m1 := .l []) g1 rp e3 e2 hov hL hlim.2.1 (fun h1 h2 => .l h1 h2 .nil) hlim.2.2 (fun o => by
         cases o with
         | l _ _ _ => exact ⟨_, rfl, rfl⟩) fun xr H3 ⟨th⟩ => ?_
        obtain ⟨kvs3, F3, G3, vs3, b, g3, hF3, ha3, hz3, r3, na3, eg3, hv3, ob, hbG, rfl, hput⟩ := th
        have el : slot (ρ1.set i (some (.h kvs3))) i = some (.h kvs3) := slot_self _ (slot_lt e2)
        obtain ⟨b2, ws, hb2, _, hb, hzb, rb⟩ := lst_case ob
        cases hb2
        refine ⟨Or.inl ⟨rfl, _, SqL.of hb⟩, Z1, _, fset F3 i [], [xv], ρ2, (g3.rel.del i), ?_, fun Z4 H4 F4 us g4 rl => ?_⟩
        ·rw [List.set_set]
         exact toPg_evp e4 e5
        ·obtain ⟨w, rfl, rw4⟩ := repL1 rl
         obtain ⟨g5, fr, zn⟩ := aside g3.rel el rfl g4 e6
         have hF : ∀ c ∈ a :: G3, c ∈ F3 i := fun c hc => by rw [hF3]; exact hc
         have ha' := fr a (hF a (by simp)) _ ha3
         have hb' := fr b (hF b (List.mem_cons_of_mem _ hbG)) _ hb
         have r' : OwnH X.K Z4 H4 kvs3 vs3 G3 := r3.keep g5.st.zz (fun c hc o ho => fr c (hF c (List.mem_cons_of_mem _ hc)) o ho) fun c hc => zn c (hF c (List.mem_cons_of_mem _ hc))
         have el5 : slot (ρ2.set i (some (.h kvs3))) i = some (.h kvs3) := slot_self _ (by rw [g4.lk.len, List.length_set, List.length_set]; exact slot_lt e2)
         obtain ⟨F6, g6⟩ := (g3.trans g5).mutH (u' := .lst (ws ++ [w])) (m' := .l (ps ++ [xv])) el5 hov (by rw [fset_self, hF3]) ha' (zn a (hF a (by simp))) r' na3 eg3 hv3 hb' (fun _ _ z => by cases z) (fun Gk' o' => by
          cases o' with
          | l _ _ _ => rfl) (.l upd_same (zn b (hF b (List.mem_cons_of_mem _ hbG))) ((rb.sub g5.st.zz).app (.one rw4)))
         rw [List.set_set, hput] at g6
         exact ⟨b, ws, w, rfl, rfl, hb', by rw [rb.length]; exact Nat.lt_of_lt_of_le hlim.1 LIM_line, q _ _ _ _ g6.gs⟩
      ·cases e0
     ·cases e0
   ·cases e0
  ·cases e0
theorem uu_frzV {pins : List (Addr × Obj)} {σ : L2.St} {H : Hp} {s : Shared} {d : Addr} {o : Obj} {vs : List (NK × Addr × V)} (I : Inv X pins σ H s) (h : H d = some (.frz o (TupO d vs))) : (d == sysModules) = false ∧ s.heap.get? d = some o ∧ o.ExactDict ∧ ∃ (es : Array DictEntry) (ep : Nat), o.data = .dict es ep ∧ es.size = vs.length ∧
   ∀ (i : Nat) (k : NK) (b : Addr) (v : V), vs[i]? = some (k, b, v) → ∃ en : DictEntry, es[i]? = some en ∧ RelV v en.val := by
 obtain ⟨hd, q⟩ := (show ObjOk X.prog X.w H s.heap d (.frz o (TupO d vs)) from I.hok d _ h)
 obtain ⟨lo, o', es, ep, xs, h1, h2, h3, h4, h5, h6, h7⟩ := q.1
 rw [hd] at h1
 cases h1
 refine ⟨lo, hd, h2, es, ep, h3, ?_, fun i k b v e => ?_⟩
 ·have l1 : es.size = xs.length := size_of_entries h4
  have l2 : vs.length = xs.length := Paired.length h7
  omega
 ·obtain ⟨x, hb, e1, e2, e3⟩ := paired_get h7 e
  have q := entry_at h4 i
  rw [hb] at q
  exact ⟨_, q, e3⟩
def Itdu (d : Addr) (o : Obj) (vs : List (NK × Addr × V)) : L2.It :=
 ⟨fun i H => H d = some (.frz o (TupO d vs)) ∧ i < vs.length, fun i H x H' => H' = H ∧ ∃ (k : NK) (b : Addr), vs[i]? = some (k, b, x), fun i H => H d = some (.frz o (TupO d vs)) ∧ vs.length ≤ i⟩
theorem turn_valsU {P : Program} {w : World} {K : PySem.W.Frag} {tg : Expr} {d : Addr} {o : Obj} {es : Array DictEntry} {ep : Nat} {vs : List (NK × Addr × V)} (it : Addr) (hod : o.data = .dict es ep) : Turn P w K tg (Itdu d o vs) [it] it (fun i h => h.IsValIter it d i vs.length ep) where
 mem := by simp
 obj := fun i h st b hb => by
  have e : b = it := by simpa using hb
  subst e
  obtain ⟨oi, e, c, dd⟩ := st
  exact ⟨oi, e, fun v z => by rw [dd] at z; cases z⟩
 keep := fun i h h' st k => st.at fun oi e => k it (by simp) oi e
 item := by
  intro X hP hw hK hc i pins s σ H E I hf st hg
  subst hP hw hK
  obtain ⟨hd, hi⟩ := hg
  obtain ⟨f0, f1, f2, f3, f4, f5⟩ := hf it (by simp)
  obtain ⟨hs, hgd, hx, es', ep', hdt, hsz, ent⟩ := uu_frzV I hd
  obtain ⟨rfl, rfl⟩ := dict_ep hod hdt
  obtain ⟨⟨k, b, v⟩, hkv⟩ : ∃ p, vs[i]? = some p := ⟨vs[i], List.getElem?_eq_getElem hi⟩
  obtain ⟨en, hen, hval⟩ := ent i k b v hkv
  have hi2 : i < es'.size := by omega
  have hen2 : en = es'[i] := by
   rw [Array.getElem?_eq_getElem hi2] at hen
   exact (Option.some.inj hen).symm
  rw [← hsz] at st
  refine wpAny_pyNext_values_item_raw st ⟨o, hgd, hx, hdt⟩ hi2 fun h' st' sb => ?_
  have I1 : Inv X pins σ H { s with heap := h' } := I.turned (t' := s.toks) (fun b ob hb e => (sb.2 b hb).trans e) f0 f1 f3 f4 f5
  obtain ⟨oi, e, c, dd⟩ := id st'
  refine ⟨es'[i].val, rfl, go_of (s := { s with heap := h' }) e c dd (by decide) ⟨v, H, I1, by rw [← hen2]; exact hval, ⟨rfl, k, b, hkv⟩, ?_, fun b hb => (hf b hb).1⟩⟩
  show h'.IsValIter it d (i + 1) vs.length _
  rw [← hsz]
  exact st'
 done := by
  intro X hP hw hK hc i pins s σ H E I hf st hg
  subst hP hw hK
  obtain ⟨hd, hi⟩ := hg
  obtain ⟨f0, f1, f2, f3, f4, f5⟩ := hf it (by simp)
  obtain ⟨hs, hgd, hx, es', ep', hdt, hsz, ent⟩ := uu_frzV I hd
  obtain ⟨rfl, rfl⟩ := dict_ep hod hdt
  rw [← hsz] at st
  exact wpAny_pyNext_values_end_raw (I.ok.hd hc) st ⟨o, hgd, hx, hdt⟩ (by omega) fun h' eb => ⟨rfl, I.turned (t' := s.toks) (fun b ob hb e => eb b ob hb e) f0 f1 f3 f4 f5⟩
 self := fun A i s Q E st h => wpAny_pyIter_valiter st h
def iValsU (td : TE) : TI := fun σ H R => td σ H fun x H1 => ∃ d o vs, x = .ref d ∧ H1 d = some (.frz o (TupO d vs)) ∧ R (Itdu d o vs) H1
theorem pi_valuesU {tg e : Expr} {td : TE} {apos cpos : Pos} (he : PE X e td) (hbase : attributeBase e "values" X.env (eval e X.env) = eval e X.env) (hline : (apos.endLine == cpos.line) = true) : PI X tg (.Call (.Attribute e "values" apos) [] [] cpos) (iValsU td) := by
 refine ⟨fun pins s σ H R I h => ?_⟩
 refine wpAny_Call_method (T := "dict") (id := "dict.values") hbase rfl hline F.plainAttrs_dict F.slot_dict_values F.type_dict_values (thn (he.run pins s σ H _ I h) fun u s1 ⟨x, H1, I1, rx, d, o, vs, ex, hd, q⟩ => ?_)
 subst ex
 obtain rfl : u = Value.ref d := rx
 obtain ⟨hs, hgd, hx, es, ep, hdt, hsz, _⟩ := uu_frzV I1 hd
 have hT : s1.TypeIs (.ref d) "dict" := ⟨o, hgd, hx.1⟩
 refine ⟨hT, fun b q => by cases q; exact ⟨o, hgd, hx.2.1⟩, ?_⟩
 have I2 : Inv X pins σ H1 { s1 with heap := s1.heap.push { cls := .type "dict_values", data := .fields #[.ref d] } } := I1.kept (t' := s1.toks) fun b ob q => Heap.get?_push_of_some _ q
 have fin : wpAny (model X.prog X.w) X.A (pyIter (.ref s1.heap.objs.size)) (PIE X pins σ tg R) X.xe { s1 with heap := s1.heap.push { cls := .type "dict_values", data := .fields #[.ref d] } } := by
  refine wpAny_pyIter_values_raw (d := d) (es := es) (ep := ep) ⟨_, Heap.get?_push_size _ rfl, rfl, rfl⟩ ⟨o, Heap.get?_push_of_some _ hgd, hx, hdt⟩ (pi_one (tk := s1.toks) I2 _ (turn_valsU _ hdt) ⟨_, Heap.get?_push_size _ rfl, rfl, ?_⟩ q)
  rw [hsz] <;> rfl
 show wpAny _ _ (callWith cpos (.builtin "dict.values") [.ref d] [] []) _ X.xe s1
 exact method_meetsIn F.slot_dict_values F.entry_dict_values rfl (PySem.evalArgs_none ⟨rfl, hT, F.args_dict_values_1 _, _, meets_dict_values_raw d hs, ⟨⟨es, ep, o, hgd, hx, hdt⟩, fin⟩⟩)
theorem ownH_ix {K : PySem.W.Frag} {Z H : Hp} : ∀ {ms : List (NK × M)} {vs : List (NK × Addr × V)} {G : List Addr}, OwnH K Z H ms vs G → ∀ {i : Nat} {k : NK} {b : Addr} {v : V}, vs[i]? = some (k, b, v) → ∃ m Gk, ms[i]? = some (k, m) ∧ Own K Z H m v Gk ∧ ∀ a ∈ Gk, a ∈ G
 | _, _, _, .nil, _, _, _, _, h => by simp at h
 | _, _, _, .cons (G := G) ko kn o r d, 0, _, _, _, h => by
  simp at h
  obtain ⟨rfl, rfl, rfl⟩ := h
  exact ⟨_, G, rfl, o, fun a ha => List.mem_append_left _ ha⟩
 | _, _, _, .cons ko kn o r d, i + 1, _, _, _, h => by
  obtain ⟨m, Gk, h1, h2, h3⟩ := ownH_ix r (i := i) (by simpa using h)
  exact ⟨m, Gk, by simpa using h1, h2, fun a ha => List.mem_append_right _ (h3 a ha)⟩
theorem hlens_ix : ∀ {ms : List (NK × M)} {ns : List Nat}, hlens ms = some ns → ns.length = ms.length ∧ ∀ {i : Nat} {k : NK} {m : M}, ms[i]? = some (k, m) → (∃ ps, m = .d ps ∧ ns[i]? = some ps.length) ∨ ∃ ps, m = .l ps ∧ ns[i]? = some ps.length
 | [], ns, e => by cases e; exact ⟨rfl, fun h => by simp at h⟩
 | (k0, m0) :: r, ns, e => by
  have key : ∀ n : Nat, (hlens r).map (n :: ·) = some ns → ((∃ ps, m0 = .d ps ∧ n = ps.length) ∨ ∃ ps, m0 = .l ps ∧ n = ps.length) → ns.length = ((k0, m0) :: r).length ∧ ∀ {i : Nat} {k : NK} {m : M}, ((k0, m0) :: r)[i]? = some (k, m) → (∃ ps, m = .d ps ∧ ns[i]? = some ps.length) ∨ ∃ ps, m = .l ps ∧ ns[i]? = some ps.length := by
   intro n e hm
   obtain ⟨ns2, h1, h2⟩ := Option.map_eq_some_iff.mp e
   subst h2
   obtain ⟨h3, h4⟩ := hlens_ix h1
   refine ⟨by rw [List.length_cons, List.length_cons, h3], fun {i k m} h => ?_⟩
   cases i with
   | zero =>
    simp at h
    obtain ⟨rfl, rfl⟩ := h
    rcases hm with ⟨ps, rfl, rfl⟩ | ⟨ps, rfl, rfl⟩
    ·exact .inl ⟨ps, rfl, rfl⟩
    ·exact .inr ⟨ps, rfl, rfl⟩
   | succ i =>
    rcases h4 (i := i) (by simpa using h) with ⟨ps, a, b⟩ | ⟨ps, a, b⟩
    ·exact .inl ⟨ps, a, by simpa using b⟩
    ·exact .inr ⟨ps, a, by simpa using b⟩
  cases m0 with
  | d ps => exact key ps.length e (.inl ⟨ps, rfl, rfl⟩)
  | l ps => exact key ps.length e (.inr ⟨ps, rfl, rfl⟩)
  | _ => cases e
theorem repL_nats {K : PySem.W.Frag} {Z : Hp} : ∀ ns : List Nat, RepL K Z (ns.map fun (n : Nat) => V.int n) (ns.map fun (n : Nat) => PyData.int n)
 | [] => .nil
 | n :: ns => .cons (.int _) (repL_nats ns)
theorem snd_hln {i j : Nat} {n : Str} {q1 q2 q3 q4 apos cpos : Pos} {scope : Scope} (g : Good T k cx X) (ho : PE X x (tVr i)) (h0 : notCall0 x = true) (hl : (apos.endLine == cpos.line) = true) (ok : BlkOk X.N X.env.scope scope [(n, j)]) (hN : X.N[j]? = some n) (hgl : glB (relS scope X.env.scope) "len" = true) (hv : nmB X.N (relS scope X.env.scope) j n = true) (hlc : (relS scope X.env.scope).names.lookup n = some .local) :
  PE X (.ListComp (.Call (.Name "len" q1) [.Name n q2] [] q3) [⟨.Name n q4, .Call (.Attribute x "values" apos) [] [] cpos, [], 0⟩] scope pos) (TEx X.K cx (ev cx (.hln i j))) := by
 refine PE.mono (pe_lock (pe_lc (own := [(n, j)]) (g := gName j) (tt := tYes) (te := tCB (rBi X.K .len) (tCons (tVar j) tNil)) g.calm g.nd (pi_valuesU ho (base_of h0) hl) ok (fun s H C cl fp => pg_name (g.blk s H scope C cl fp).nd hN (.inl hlc) (.inr hlc)) (fun s H C cl fp => pts_nil) (fun s H C cl fp => ?_) (fun _ => rfl))) fun σ H Q ⟨Z, ρ, F, m, ρ', R, e, q⟩ => ?_
 ·have g' := g.blk s H scope C cl fp
  have hg' : Gl (X.blk s H scope (compEnvC scope cl C X.env) fp) "len" ∧ _ := gl_of (X := X.blk s H scope (compEnvC scope cl C X.env) fp) hgl
  have hnm : PE (X.blk s H scope (compEnvC scope cl C X.env) fp) (.Name n q2) (tVar j) := by
   have h3 := hv
   unfold nmB at h3
   simp only [Bool.and_eq_true, decide_eq_true_eq] at h3
   have h5 := plain_of h3.2.2
   exact pe_var (X := X.blk s H scope (compEnvC scope cl C X.env) fp) hN (vis_of h3.2.1) h5.1 h5.2.1
  exact pe_callB (id := "len") (bi_R g'.calm g'.at_ g'.room.units .len) hg'.1 (g'.free _ (by decide +kernel)) (by decide +kernel) (pa_cons hnm pa_nil rfl) (by decide) (by decide) rfl rfl
 ·simp only [ev] at e
  split at e
  ·cases e
  rename_i hj
  have hj : j < ρ.length := Nat.lt_of_not_le hj
  split at e
  ·rename_i m1 e1
   split at e
   ·rename_i ps e2
    cases e
    unfold hlnM at e2
    split at e2
    ·rename_i kvs
     split at e2
     ·rename_i hlim
      obtain ⟨ns, e3, e4⟩ := Option.map_eq_some_iff.mp e2
      subst e4
      obtain ⟨ov, hov, o0⟩ := R.own i _ e1
      obtain ⟨a, vs, G1, rfl, hG, ha, hz, r, na⟩ := hst_case o0
      obtain ⟨hn1, hn2⟩ := hlens_ix e3
      have hvl := ownH_len r
      refine ⟨a, TupO a vs, ha, trivial, fun od => ?_⟩
      generalize hHl : L2.upd H a (.frz od (TupO a vs)) = Hl
      have hla : Hl a = some (.frz od (TupO a vs)) := by rw [← hHl]; exact upd_same
      have hne : ∀ b, b ≠ a → Hl b = H b := fun b hb => by rw [← hHl]; exact upd_ne hb
      refine ⟨_, hov, fun q eq => ?_, a, od, vs, rfl, hla, fun D hD => ?_⟩
      ·obtain ⟨f1, f2⟩ := R.fx q eq
       have : q.p ≠ a := fun z => by rw [z, ha] at f1; cases f1
       exact ⟨by rw [hne _ this]; exact f1, f2⟩
      have hDa : D ≠ a := fun z => by rw [z, hla] at hD; cases hD
      have hDH : H D = none := by rw [← hne D hDa]; exact hD
      refine ⟨fun t m H2 => m + t = vs.length ∧ H2 = L2.upd Hl D (.lst ((ns.take t).map fun (n : Nat) => V.int n)), ⟨vs.length, rfl, by rw [List.take_zero]; rfl⟩, ?_⟩
      rintro t m H2 ⟨hm, rfl⟩
      have h2a : (L2.upd Hl D (.lst ((ns.take t).map fun (n : Nat) => V.int n))) a = some (.frz od (TupO a vs)) := by rw [upd_ne (Ne.symm hDa)]; exact hla
      by_cases hlt : t < vs.length
      ·refine .inr ⟨⟨h2a, hlt⟩, fun H' => m - 1 + (t + 1) = vs.length ∧ H' = L2.upd Hl D (.lst ((ns.take (t + 1)).map fun (n : Nat) => V.int n)), fun H' h => ⟨m - 1, by omega, h⟩, fun x H' y => ?_⟩
       obtain ⟨rfl, kk, b, hkv⟩ := y
       obtain ⟨mi, Gk, h1, h2, h3⟩ := ownH_ix r hkv
       have hx : ((wipe σ [j]).set j (some x))[j]? = some (some x) := List.getElem?_set_self (by rw [wipe_length, R.len]; exact hj)
       refine ⟨?_, ?_⟩
       ·show wipe ((wipe σ [j]).set j (some x)) [j] = wipe σ [j]
        show (((σ.set j none).set j (some x)).set j none) = σ.set j none
        rw [List.set_set, List.set_set]
       ·show tCB (rBi X.K .len) (tCons (tVar j) tNil) ((wipe σ [j]).set j (some x)) _ _
        refine ⟨x, hx, ?_⟩
        have fin : ∀ nn : Nat, ns[t]? = some nn → ∃ acc, (L2.upd Hl D (.lst ((ns.take t).map fun (n : Nat) => V.int n))) D = some (.lst acc) ∧ acc.length < sizeLine ∧ m - 1 + (t + 1) = vs.length ∧ L2.upd (L2.upd Hl D (.lst ((ns.take t).map fun (n : Nat) => V.int n))) D (.lst (acc ++ [V.int nn])) = L2.upd Hl D (.lst ((ns.take (t + 1)).map fun (n : Nat) => V.int n)) := by
         intro nn hnn
         refine ⟨_, upd_same, ?_, by omega, ?_⟩
         ·rw [List.length_map, List.length_take]
          have := lim_le hlim
          omega
         ·rw [upd_upd]
          have : ns.take (t + 1) = ns.take t ++ [nn] := by
           rw [List.take_add_one, hnn]; rfl
          rw [this, List.map_append]
          rfl
        have hnD : ∀ {b2 : Addr} {u : HO}, H b2 = some u → b2 ∈ Gk → (L2.upd Hl D (.lst ((ns.take t).map fun (n : Nat) => V.int n))) b2 = some u := fun {b2 u} hb hm => by
         have k1 : b2 ≠ D := fun z => by rw [z, hDH] at hb; cases hb
         have k2 : b2 ≠ a := fun z => na (z ▸ h3 b2 hm)
         rw [upd_ne k1, hne _ k2]; exact hb
        rcases hn2 h1 with ⟨ps, rfl, hps⟩ | ⟨ps, rfl, hps⟩
        ·obtain ⟨b2, ws, rfl, rfl, hb, _, rb⟩ := dic_case h2
         refine .inr (.inr (.inl ⟨b2, ws, rfl, .inl (hnD hb (by simp)), ?_⟩))
         rw [dRel_len rb]
         exact fin _ hps
        ·obtain ⟨b2, ws, rfl, rfl, hb, _, rb⟩ := lst_case h2
         refine .inl ⟨b2, ws, rfl, .inl (SqL.of (hnD hb (by simp))), ?_⟩
         rw [rb.length]
         exact fin _ hps
      ·have et : t = vs.length := by omega
       subst et
       have hfull : ns.take vs.length = ns := List.take_of_length_le (by omega)
       refine .inl ⟨⟨h2a, Nat.le_refl _⟩, h2a, ?_⟩
       have he : L2.upd (L2.upd Hl D (.lst ((ns.take vs.length).map fun (n : Nat) => V.int n))) a (TupO a vs) = L2.upd H D (.lst (ns.map fun (n : Nat) => V.int n)) := by
        funext b
        by_cases k1 : b = a
        ·subst k1
         rw [upd_same, upd_ne (Ne.symm hDa)]; exact ha.symm
        ·rw [upd_ne k1]
         by_cases k2 : b = D
         ·subst k2; rw [upd_same, upd_same, hfull]
         ·rw [upd_ne k2, upd_ne k2]; exact hne b k1
       rw [he]
       have hr : RepL X.K Z (ns.map fun (n : Nat) => V.int n) (ns.map fun (n : Nat) => PyData.int n) := repL_nats ns
       exact Ask.lst (ask_done (.refl R) q) R.sub hr D hDH
     ·cases e2
    ·cases e2
   ·cases e
  ·cases e
theorem snd_sdu {i : Nat} {kx e : E} (g : Good T k cx X) (ho : PE X x (tVr i)) (hk : PE X y (TEx X.K cx (ev cx kx))) (he : PE X z (TEx X.K cx (ev cx e))) (h0 : notCall0 x = true) (hs : notStar y = true) (hs2 : notStar z = true) (hl : (apos.endLine == p2.line) = true) :
  PS X (.Expr (.Call (.Attribute x "setdefault" apos) [y, z] [] p2) pos) (TSt X.K cx (evs cx (.sdu i kx e))) :=
 PS.mono (ps_expr (pe_usetd (by have := g.room.units; omega) g.at_ ho hk (px_of he) (m2_of h0 hs hs2 hl)) (swaps_of rfl)) fun D σ H ⟨Z, ρ, F, fl, ρ', R, e0, q⟩ => by
  simp only [evs] at e0
  split at e0
  ·cases e0
  rename_i hsome
  obtain ⟨ps0, em0⟩ := isUd_of hsome
  obtain ⟨ov, hov, o0⟩ := R.own i _ em0
  obtain ⟨a, vs0, rfl, _, ha0, _, r0⟩ := uno_case o0
  split at e0
  ·rename_i p ρ1 e1
   split at e0
   ·rename_i m2 ρ2 e2
    split at e0
    ·rename_i xv kvs kk ex e3 e4
     split at e0
     ·rename_i hlim
      cases e0
      refine ⟨_, hov, R.fx, a, rfl, ⟨vs0, ha0, uRel_at R.sub r0⟩, Z, ρ, F, _, ρ1, R, e1, fun Z1 H1 F1 yv Gy g1 r1 => ⟨Z1, ρ1, F1, xv, ρ2, g1.rel, by unfold toPg; rw [e2]; simp only [ex], fun Z2 H2 F2 w g2 rw2 => ?_⟩⟩
      obtain ⟨oy, _, _⟩ := r1
      cases oy with
      | v rp =>
       obtain ⟨b, rfl, hb, _⟩ := nkOf_v e4 rp
       have gg := g1.trans g2
       obtain ⟨ov2, h1, h2⟩ := gg.rel.own i _ e3
       rw [hov] at h1; cases h1
       have hG : ∃ G, F2 i = G := ⟨_, rfl⟩
       obtain ⟨G, hG⟩ := hG
       rw [hG] at h2
       obtain ⟨a2, vs, hva, hG2, h, hz, r⟩ := uno_case h2
       cases hva
       subst hG2
       refine ⟨vs, kk, b, h, uRel_at gg.rel.sub r, rfl, (hb.sub g2.st.zz).sub gg.rel.sub, by rw [Paired.length r]; exact Nat.lt_of_lt_of_le hlim LIM_line, fun v hv => ?_, fun hn => ?_⟩
       ·have ht := uRel_hit r kk
        have hs : (getA kvs kk).isSome = true := by rw [← ht.some_eq, hv]; rfl
        rw [if_pos hs, set_same e3] at q
        exact q _ _ _ _ gg.gs
       ·have ht := uRel_hit r kk
        have hs : (getA kvs kk).isSome = false := by rw [← ht.some_eq, hn]; rfl
        rw [if_neg (by rw [hs]; exact Bool.false_ne_true)] at q
        have hp : putU vs kk b w = vs ++ [(kk, b, w)] := by
         unfold putU
         rw [if_neg]
         rw [uRel_any r kk, hs]
         exact Bool.false_ne_true
        rw [← hp]
        exact q _ _ _ _ (gg.mut (u := TupO a vs) e3 rfl hov (by rw [hG]; simp) h (fun _ _ z => by cases z) (.uo upd_same hz (uRel_put r (hb.sub g2.st.zz) rw2)) (fun x hx => .inl (by rw [hG]; exact hx))).gs
     ·cases e0
    ·cases e0
   ·cases e0
  ·cases e0
theorem isUH_of {ρ : Env} {i : Nat} (h : ¬ isUH (slot ρ i) = false) : ∃ m, slot ρ i = some m ∧ isUH (some m) = true := by
 cases e : slot ρ i with
 | none => rw [e] at h; exact (h rfl).elim
 | some m => rw [e] at h; exact ⟨m, rfl, by simpa using h⟩
theorem isUH_at {K : PySem.W.Frag} {Z H : Hp} {m : M} {v : V} {G : List Addr} (s : Sub Z H) (o : Own K Z H m v G) (e : isUH (some m) = true) : ∃ a vs, v = .ref a ∧ Rd H a (TupO a vs) ∧ KeysAt K H vs := by
 have w := o.view
 unfold isUH at e
 dsimp only at e
 generalize hm : vw m = m' at *
 cases w <;> first | (cases e; done) | skip
 ·exact ⟨_, _, rfl, by assumption, uRel_at s (by assumption)⟩
 ·exact ⟨_, _, rfl, .inl (by assumption), hKeys_at s (by assumption)⟩
theorem lgt_ok {K : PySem.W.Frag} {Z H : Hp} {m : M} {a e : Addr} {y : V} {G : List Addr} {p : P} {ps : List P} {Q : VK} (s : Sub Z H) (o : Own K Z H m (.ref a) G) (hp : Rep K Z y p) (e1 : lgtM m p = some ps) (he : SqT K H e []) (q : Ask K Z H (.l ps) Q) :
  ∃ w, DGU K H a y w ∧ rBi K .list [w.getD (.ref e)] H Q := by
 have w := o.view
 unfold lgtM at e1
 split at e1
 ·rename_i kvs kk e2 e3
  obtain ⟨b, rfl, hb, _⟩ := nkOf_v e3 hp
  rw [e2] at w
  cases w with
  | @uo _ vs _ h r =>
   refine ⟨_, .inr ⟨vs, kk, b, h, uRel_at s r, rfl, hb.sub s, rfl⟩, ?_⟩
   have hit := uRel_hit r kk
   split at e1
   ·rename_i qs eg
    cases e1
    rw [eg] at hit
    obtain ⟨v, h3, h4⟩ := (show ∃ v, valU vs kk = some v ∧ Rep K Z v (.tuple ps) from hit)
    rw [h3]
    cases h4 with
    | tup h5 r5 => exact .inl ⟨_, _, rfl, .inr (sqT_sub s h5.sq), q.lst s r5⟩
   ·rename_i qs eg
    cases e1
    rw [eg] at hit
    obtain ⟨v, h3, h4⟩ := (show ∃ v, valU vs kk = some v ∧ Rep K Z v (.list ps) from hit)
    rw [h3]
    cases h4 with
    | lst h5 r5 => exact .inl ⟨_, _, rfl, .inl (SqL.of (s _ _ h5)), q.lst s r5⟩
   ·cases e1
   ·rename_i eg
    cases e1
    rw [eg] at hit
    rw [show valU vs kk = none from hit]
    exact .inl ⟨_, _, rfl, .inr he, q.lst s .nil⟩
 ·rename_i kvs kk e2 e3
  obtain ⟨b, rfl, hb, _⟩ := nkOf_v e3 hp
  rw [e2] at w
  cases w with
  | @ho _ vs _ G1 h r =>
   refine ⟨_, .inr ⟨vs, kk, b, .inl h, hKeys_at s r, rfl, hb.sub s, rfl⟩, ?_⟩
   split at e1
   ·rename_i qs eg
    cases e1
    obtain ⟨v, Gk, h3, h4, _⟩ := ownH_upd (A' := fun _ => False) kk r eg
    rw [h3]
    obtain ⟨c, ws, rfl, rfl, h5, _, r5⟩ := dic_case h4
    exact .inr (.inl ⟨c, ws, rfl, h5, q.lst s (keys_rep r5)⟩)
   ·rename_i qs eg
    cases e1
    obtain ⟨v, Gk, h3, h4, _⟩ := ownH_upd (A' := fun _ => False) kk r eg
    rw [h3]
    obtain ⟨c, ws, rfl, rfl, h5, _, r5⟩ := lst_case h4
    exact .inl ⟨_, _, rfl, .inl (SqL.of h5), q.lst s r5⟩
   ·cases e1
   ·rename_i eg
    cases e1
    rw [ownH_none r eg]
    exact .inl ⟨_, _, rfl, .inr he, q.lst s .nil⟩
 ·cases e1
theorem snd_lgt {i : Nat} {kx : E} {j : Nat} {q1 q2 cpos : Pos} (g : Good T k cx X) (ho : PE X x (tVr i)) (hk : PE X y (TEx X.K cx (ev cx kx))) (h0 : notCall0 x = true) (hs : notStar y = true) (hl : (apos.endLine == cpos.line) = true) (hgl : glB X.env.scope "list" = true) :
  PE X (.Call (.Name "list" q1) [.Call (.Attribute x "get" apos) [y, .Tuple [] j q2] [] cpos] [] pos) (TEx X.K cx (ev cx (.lgt i kx))) := by
 have ht : PE X (.Tuple [] j q2) (TEx X.K cx (ev cx (.tup .nil))) := snd_tup (ps_nil) (by decide)
 have hg := gl_of (X := X) hgl
 refine PE.mono (pe_callTy (bi_R g.calm g.at_ g.room.units .list) hg.1 (g.free _ (by decide +kernel)) (by decide +kernel) (pa_cons (pe_g2 (by have := g.room.units; omega) g.at_ ho hk ht (m2_of h0 hs rfl hl)) pa_nil rfl) (by decide) (by decide) rfl rfl) fun σ H Q ⟨Z, ρ, F, m, ρ', R, e, q⟩ => ?_
 simp only [ev] at e
 split at e
 ·cases e
 rename_i hu
 obtain ⟨m0, em0, eu⟩ := isUH_of hu
 split at e
 ·rename_i p ρ1 e1
  split at e
  ·rename_i m1 e2
   split at e
   ·rename_i ps e3
    cases e
    obtain ⟨ov, hov, o0⟩ := R.own i _ em0
    obtain ⟨a, vs0, rfl, hr0, hk0⟩ := isUH_at R.sub o0 eu
    refine ⟨_, hov, R.fx, a, rfl, .inr ⟨vs0, hr0, hk0⟩, Z, ρ, F, _, _, R, e1, fun Z1 H1 F1 yv Gy g1 r1 => ⟨Z1, _, F1, .v (.tuple []), _, g1.rel, rfl, fun Z2 H2 F2 w G2 g2 r2 => ?_⟩⟩
    obtain ⟨oy, _, _⟩ := r1
    obtain ⟨ow, _, _⟩ := r2
    cases oy with
    | v rp =>
     cases ow with
     | v rw2 =>
      cases rw2 with
      | tup h5 r5 =>
       cases r5
       obtain ⟨ov2, h1, h2⟩ := g2.rel.own i _ e2
       rw [hov] at h1; cases h1
       obtain ⟨w, k1, k2⟩ := lgt_ok g2.rel.sub h2 (rp.sub g2.st.zz) e3 (sqT_sub g2.rel.sub h5.sq) (ask_done (g1.trans g2) q)
       exact ⟨w, k1, k2⟩
   ·cases e
  ·cases e
 ·cases e
theorem snd_hst {i : Nat} {kx : E} {q1 p2 : Pos} (g : Good T k cx X) (ho : PE X x (tVr i)) (hk : PE X y (TEx X.K cx (ev cx kx))) (hs : notSlice y = true) (hgl : glB X.env.scope "sorted" = true) :
  PE X (.Call (.Name "sorted" q1) [.Subscript x y p2] [] pos) (TEx X.K cx (ev cx (.hst i kx))) := by
 have hg := gl_of (X := X) hgl
 refine PE.mono (pe_callB (id := "sorted") (bi_R g.calm g.at_ g.room.units .sorted) hg.1 (g.free _ (by decide +kernel)) (by decide +kernel) (pa_cons (pe_ix (sub_R g.room.units g.at_) ho hk (plain_ix hs)) pa_nil rfl) (by decide) (by decide) rfl rfl) fun σ H Q ⟨Z, ρ, F, m, ρ', R, e, q⟩ => ?_
 simp only [ev] at e
 split at e
 ·cases e
 rename_i hu
 obtain ⟨ps0, em0⟩ := isH_of hu
 split at e
 ·rename_i p ρ1 e1
  split at e
  ·rename_i m1 e2
   split at e
   ·rename_i ps e3
    cases e
    obtain ⟨ov, hov, o0⟩ := R.own i _ em0
    refine ⟨ov, hov, R.fx, Z, ρ, F, _, _, R, e1, fun Z1 H1 F1 yv Gy g1 r1 => ?_⟩
    obtain ⟨oy, _, _⟩ := r1
    cases oy with
    | v rp =>
     obtain ⟨ov2, h1, h2⟩ := g1.rel.own i _ e2
     rw [hov] at h1; cases h1
     have s1 := g1.rel.sub
     have q1 := ask_done g1 q
     unfold hstM at e3
     split at e3
     ·rename_i kvs kk e4
      obtain ⟨b, rfl, hb, _⟩ := nkOf_v e4 rp
      obtain ⟨a, vs, G1, rfl, _, h, _, r, _⟩ := hst_case h2
      split at e3
      ·rename_i qs eg
       obtain ⟨v, Gk, h3, h4, _⟩ := ownH_upd (A' := fun _ => False) kk r eg
       refine .inr (.inr (.inr ⟨a, b, kk, vs, v, rfl, rfl, hb.sub s1, .inl h, hKeys_at s1 r, h3, ?_⟩))
       refine sorted_ok (a := .d qs) (m := .l ps) s1 (.cons h4 .nil) ?_ q1
       split at e3
       ·rename_i hlt
        obtain ⟨xs, e5, e6⟩ := Option.map_eq_some_iff.mp e3
        subst e6
        dsimp only [biM]
        rw [if_pos hlt, e5]; rfl
       ·cases e3
      ·rename_i qs eg
       obtain ⟨v, Gk, h3, h4, _⟩ := ownH_upd (A' := fun _ => False) kk r eg
       refine .inr (.inr (.inr ⟨a, b, kk, vs, v, rfl, rfl, hb.sub s1, .inl h, hKeys_at s1 r, h3, ?_⟩))
       split at e3
       ·rename_i hlt
        obtain ⟨xs, e5, e6⟩ := Option.map_eq_some_iff.mp e3
        subst e6
        obtain ⟨c, ws, rfl, rfl, h5, _, r5⟩ := lst_case h4
        obtain ⟨rfl, ok⟩ := strsOf_v e5 r5
        refine .inl ⟨c, xs, rfl, SqL.of h5, by rw [← List.length_map (f := V.str), r5.length]; exact hlt, fun ys p hp hs hn => ?_⟩
        have ey := sortS_eq hp hs
        subst ey
        exact q1.lst s1 (repL_strs fun z hz => ok z (hp.mem_iff.mp hz)) p hn
       ·cases e3
      ·cases e3
     ·cases e3
   ·cases e
  ·cases e
 ·cases e
end
end Mn
end
section
set_option maxHeartbeats 200000
namespace Mn
open PySem L2 PySem.Spec PyProof
variable [WW] [FX]
section
variable {T : Tab} {k : Nat} {cx : Cxt} {X : Cx} {x y z : Expr} {pos p2 p3 apos : Pos}
theorem call_mid {K : PySem.W.Frag} {f : Nat} {σ : St} {Z H Z1 H1 : Hp} {ρ ρ1 ρ2 : Env} {F F1 : Nat → List Addr} {rs : List R} {vs : List V} {Gs : List (List Addr)} {m : M} {ms ms1 : List M} {Q : VK} (g1 : Go K cx σ Z H ρ F Z1 H1 ρ1 F1) (o1 : OpsOk K Z H (U F) σ Z1 H1 F1 rs vs Gs) (e2 : pull rs ρ1 = some (ms, ρ2))
  (q : ∀ Z' H' F' v G, Go K cx σ Z H ρ F Z' H' (putBack rs ms1 ρ2) F' → Res K Z H (U F) Z' H' F' m v G → Q v H') :
  ∃ Gs', Sub Z1 H1 ∧ ArgO K Z1 H1 ms vs Gs' ∧ ∀ Z' H' v G Gs2, Sub Z' H' → Step Z1 H1 Z' H' (inL Gs') (inL (G :: Gs2)) → Own K Z' H' m v G → ArgO K Z' H' ms1 vs Gs2 → (∀ a ∈ G, ¬ inL Gs2 a) → LkA ms ms1 → Q v H' := by
  obtain ⟨F2, Gs', R2, a1, os, k1, k2, k3⟩ := pull_ok g1.rel (fun _ h => h) o1 e2
  refine ⟨Gs', g1.rel.sub, a1, fun Z3 H3 v G Gs2 s3 st ow a2 dj lk => ?_⟩
  have R3 := R2.frame st s3 k2
  have fresh : ∀ a, inL (G :: Gs2) a → ¬ U F2 a := fun a h hu => by
   rcases st.an a h with h | h
   ·exact k2 a hu h
   ·obtain ⟨_, u, hu2, _⟩ := R2.mem hu
    rw [h] at hu2; cases hu2
  obtain ⟨F4, R4, k4⟩ := put_ok R3 a2 os fun a ⟨G2, hg, ha⟩ => fresh a ⟨G2, List.mem_cons_of_mem _ hg, ha⟩
  have back : ∀ a, inL Gs' a → U F a ∨ H a = none ∨ U F1 a := fun a h => by
   rcases k3 a h with h | ⟨G2, hg, h⟩
   ·exact .inr (.inr h)
   ·rcases o1.temps G2 hg a h with h | h
    ·exact .inl h
    ·exact .inr (.inl h)
  have st2 : Step Z H Z3 H3 (U F) (U F4) := by
   refine ⟨fun a o h n => ?_, g1.st.zz.trans st.zz, fun a o h => ?_, fun a h => ?_, fun a o u h => st.fz a o u (g1.st.fz a o u h)⟩
   ·have h1 := g1.st.fr a o h n
    refine st.fr a o h1 fun hi => ?_
    rcases back a hi with q | q | q
    ·exact n q
    ·rw [q] at h; cases h
    ·rcases g1.st.an a q with q | q
     ·exact n q
     ·rw [q] at h; cases h
   ·rcases st.zn a o h with h | h | h | h
    ·exact g1.st.zn a o h
    ·rcases back a h with q | q | q
     ·exact .inr (.inl q)
     ·exact .inr (.inr (.inl q))
     ·rcases g1.st.an a q with q | q
      ·exact .inr (.inl q)
      ·exact .inr (.inr (.inl q))
    ·rcases new_back g1.st h with q | q
     ·exact .inr (.inl q)
     ·exact .inr (.inr (.inl q))
    ·exact .inr (.inr (.inr h))
   ·have key : inL (G :: Gs2) a → U F a ∨ H a = none := fun h => by
     rcases st.an a h with h | h
     ·rcases back a h with q | q | q
      ·exact .inl q
      ·exact .inr q
      ·exact g1.st.an a q
     ·exact new_back g1.st h
    rcases k4 a h with h | ⟨G2, hg, h⟩
    ·exact g1.st.an a (k1 a h)
    ·exact key ⟨G2, List.mem_cons_of_mem _ hg, h⟩
  refine q Z3 H3 F4 v G ⟨R4, st2, g1.lk.trans (call_lk e2 os lk)⟩ ⟨ow, fun a ha hu => ?_, fun a ha => ?_⟩
  ·rcases k4 a hu with h | h
   ·exact fresh a ⟨G, List.mem_cons_self, ha⟩ h
   ·exact dj a ha h
  ·rcases st.an a ⟨G, List.mem_cons_self, ha⟩ with h | h
   ·rcases back a h with q | q | q
    ·exact .inl q
    ·exact .inr q
    ·exact g1.st.an a q
   ·exact new_back g1.st h
theorem snd_ex {f : Nat} {F0 : EFn} {es : EL} {xs : List Expr} {n : Str} (g : Good T k cx X) (h1 : T.fs[f]? = none) (h2 : T.ms.lookup f = none) (hf : T.ex.lookup f = some F0) (hn : n = F0.name) (hg : glB X.env.scope n = true) (ha : PA X (x :: xs) (TAr X.K cx (evl cx es))) (hs : notStar x = true) (hss : xs.all notStar = true) :
  PE X (.Call (.Name n p2) (x :: xs) [] pos) (TEx X.K cx (ev cx (.call f es))) := by
 obtain ⟨hgl, hp⟩ := gl_of hg
 obtain ⟨a, fd, ps, h1, h2, h3, h4⟩ := g.ex f F0 h1 h2 hf
 rw [← hn] at h1
 exact PE.mono (pe_call h4 g.room hgl h1 h2 h3 .nil pass0 ha (plain_of hp).1 (star_of hs) (stars_of hss)) fun σ H Q h => call_chain h
theorem frzmeth_ok {pins : List (Addr × Obj)} {σ : St} {H : Hp} {s : Shared} {A : Around} {E : Value → Shared → Prop} {a C dx h : Addr} {o : Obj} {fs : List (Str × V)} {m : Str} {pl : Sem Bool} {Q : Value × List Value → Shared → Prop} (I : Inv X pins σ H s) (e : H a = some (.frz o (.ins C dx fs))) (c : Cls X.K C) (k : Meth X.K C m h) (l : fs.lookup m = none)
  (hq : Q (.ref h, [.ref a]) s) : wpAny (model X.prog X.w) A (getMethod (.ref a) m pl) Q E s := by
 obtain ⟨mA, O, r, _, _, _⟩ := insR_get I e
 have hn : mA m = none := RelO.none_of (by rw [← l]; exact r m)
 exact get_meth I.kIn O (c.get m) k.at_ k.fn hn hq
theorem call_form {o : Expr} {m : Str} {apos pos : Pos} {xs : List Expr} {env : PySem.Env} (h0 : notCall0 o = true) (hs : xs.all notStar = true) (hl : (apos.endLine == pos.line) = true) (hn : xs.length < 28) : eval (.Call (.Attribute o m apos) xs [] pos) env = (do
   let ov ← eval o env
   standAt apos.atName
   let (f, first) ← holding [ov] (getMethod ov m (do return (← importBound o env).getD true))
   callWith pos f first (backTo pos (starEach xs env)) (backToKw pos (keywordEach [] env))) := by
 have hform : methodCallForm (xs.length + ([] : List Keyword).length) (backTo pos (starEach xs env)) (backToKw pos (keywordEach [] env)) = true := by
  have h1 := stars_of (pos := pos) (env := env) hs
  have h2 : (backTo pos (starEach xs env)).all (!·.1) = true := by
   rw [List.any_eq_false] at h1
   exact List.all_eq_true.mpr fun y hy => by simpa using h1 y hy
  unfold methodCallForm
  rw [h2]
  have h3 : xs.length + 0 + 0 < 30 := by omega
  simpa [backToKw, keywordEach] using h3
 have hpos : methodCallPos true o env apos pos = pure pos := by unfold methodCallPos; simp [hl]
 rw [arm_eval_Call, base_of h0]
 unfold methodCall
 rw [hform]
 simp only [hpos, pure_bind]
 rfl
theorem pe_self {q : FO} {m : Str} {f : Addr} {fd : FuncData} {ps : List Str} {sp : Sp} {t : TA} {n : Str} {e : Expr} {xs : List Expr} (he : PE X (.Name n p2) (tVr 0)) (c : Cls X.K q.C) (hm : Meth X.K q.C m f) (l : q.fs.lookup m = none) (hq : FX.ob = some q)
  (F : FnOk X.prog X.w X.K X.mg X.base CX0 k f fd ps sp) (hr : Room k X.A) (hb : Binds X.K fd ps []) (ha : PA X (e :: xs) t) (hst : (e :: xs).all notStar = true) (hl : (apos.endLine == pos.line) = true) (hn : (e :: xs).length < 28) :
  PE X (.Call (.Attribute (.Name n p2) m apos) (e :: xs) [] pos) (fun σ H Q => FXok σ H ∧ t σ H fun vs H2 => sp (.ref q.p :: vs) H2 Q E0) := by
 refine ⟨fun pins s σ H Q I ⟨fx, h⟩ => ?_⟩
 obtain ⟨k1, k2, _⟩ := fx q hq
 refine PySem.W.methodCall_KW (thn (he.run pins s σ H (fun x H' => x = .ref q.p ∧ H' = H) I ⟨_, k2, fx, rfl, rfl⟩) fun u s1 ⟨x, H1, I1, rx, e1, e2⟩ => ?_) (call_form rfl hst hl hn)
 subst e1 e2
 obtain rfl : u = Value.ref q.p := rx
 refine frzmeth_ok I1 k1 c hm l ?_
 rw [List.all_cons, Bool.and_eq_true] at hst
 refine PySem.W.callWith_K (first := [.ref q.p]) (h₀ := X.base) I1.ok.mod.kin hm.kp (thn (ha.run pos pins s1 σ H1 _ I1 h) fun us s2 ⟨vs, H2, I2, r, q2⟩ => ⟨I2.kIn, ?_⟩) (star_of hst.1) (stars_of hst.2)
 exact run_fn (dvs := []) (us := .ref q.p :: us) (vs := .ref q.p :: vs) F hr hb .nil pass0 I2 (.cons rfl r) (by rw [List.append_nil]; exact q2)
theorem pe_self0 {q : FO} {m : Str} {f : Addr} {fd : FuncData} {ps : List Str} {sp : Sp} {n : Str} (he : PE X (.Name n p2) (tVr 0)) (c : Cls X.K q.C) (hm : Meth X.K q.C m f) (l : q.fs.lookup m = none) (hq : FX.ob = some q)
  (F : FnOk X.prog X.w X.K X.mg X.base CX0 k f fd ps sp) (hr : Room k X.A) (hb : Binds X.K fd ps []) (hl : (apos.endLine == pos.line) = true) :
  PE X (.Call (.Attribute (.Name n p2) m apos) [] [] pos) (fun σ H Q => FXok σ H ∧ sp [.ref q.p] H Q E0) := by
 refine ⟨fun pins s σ H Q I ⟨fx, h⟩ => ?_⟩
 obtain ⟨k1, k2, _⟩ := fx q hq
 refine PySem.W.methodCall_KW (thn (he.run pins s σ H (fun x H' => x = .ref q.p ∧ H' = H) I ⟨_, k2, fx, rfl, rfl⟩) fun u s1 ⟨x, H1, I1, rx, e1, e2⟩ => ?_) (call_form rfl rfl hl (by decide))
 subst e1 e2
 obtain rfl : u = Value.ref q.p := rx
 refine frzmeth_ok I1 k1 c hm l ?_
 exact PySem.W.callWith_K0 (first := [.ref q.p]) I1.kIn hm.kp (run_fn (dvs := []) (us := [.ref q.p]) (vs := [.ref q.p]) F hr hb .nil pass0 I1 (.cons rfl .nil) h)
theorem OpsOk.app {K : PySem.W.Frag} {Z H Z1 H1 : Hp} {A : AS} {σ : St} {F1 : Nat → List Addr} {fs : List Nat} {us : List V} (hp : Paired (fun (j : Nat) (u : V) => σ[j]? = some (some u)) fs us) : ∀ {rs : List R} {vs : List V} {Gs : List (List Addr)}, OpsOk K Z H A σ Z1 H1 F1 rs vs Gs → ∃ Gs2, OpsOk K Z H A σ Z1 H1 F1 (rs ++ fs.map .pl) (vs ++ us) Gs2 ∧ ∀ G ∈ Gs2, G ∈ Gs ∨ G = []
 | _, _, _, .nil => by
  induction hp with
  | nil => exact ⟨_, .nil, fun _ h => by cases h⟩
  | @cons j u js us h t ih =>
   obtain ⟨Gs2, o, hG⟩ := ih
   refine ⟨[] :: Gs2, OpsOk.cons ⟨h, rfl⟩ o (fun a ha => by cases ha), fun G hg => ?_⟩
   rcases List.mem_cons.mp hg with e | e
   ·exact .inr e
   ·rcases hG G e with h | h
    ·cases h
    ·exact .inr h
 | _, _, _, .cons (G := G) h t d => by
  obtain ⟨Gs2, o, hG⟩ := OpsOk.app hp t
  refine ⟨G :: Gs2, .cons h o fun a ha G2 hg => ?_, fun G2 hg => ?_⟩
  ·rcases hG G2 hg with e | e
   ·exact d a ha G2 e
   ·subst e; exact fun z => by cases z
  ·rcases List.mem_cons.mp hg with e | e
   ·subst e; exact .inl List.mem_cons_self
   ·rcases hG G2 e with e | e
    ·exact .inl (List.mem_cons_of_mem _ e)
    ·exact .inr e
theorem OpsOk.len {K : PySem.W.Frag} {Z H Z1 H1 : Hp} {A : AS} {σ : St} {F1 : Nat → List Addr} {rs : List R} {vs : List V} {Gs : List (List Addr)} (o : OpsOk K Z H A σ Z1 H1 F1 rs vs Gs) : vs.length = rs.length := by
 induction o with
 | nil => rfl
 | cons _ _ _ ih => rw [List.length_cons, List.length_cons, ih]
def fldB (N : List Str) (fs : List Nat) (fl : List Str) : Bool := decide (fs.map (fun i => N[i]?) = fl.map fun f => some (selfDot f))
theorem fld_vals {N : List Str} {q : FO} {σ : St} {H : Hp} (hq : FX.ob = some q) (hN : q.N = N) (fx : FXok σ H) : ∀ {fs : List Nat} {fl : List Str}, fs.map (fun i => N[i]?) = fl.map (fun f => some (selfDot f)) → ∃ us, Paired (fun (j : Nat) (u : V) => σ[j]? = some (some u)) fs us ∧ ∀ (j : Nat) (f : Str), fl[j]? = some f → ∃ v, q.fs.lookup f = some v ∧ us[j]? = some v
 | [], [], _ => ⟨[], .nil, fun j f h => by simp at h⟩
 | [], _ :: _, h => by cases h
 | _ :: _, [], h => by cases h
 | i :: fs, f :: fl, h => by
  rw [List.map_cons, List.map_cons] at h
  injection h with h1 h2
  obtain ⟨us, h3, h4⟩ := fld_vals hq hN fx h2
  obtain ⟨v, h5, h6⟩ := (fx q hq).2.2 i f (by rw [hN]; exact h1)
  refine ⟨v :: us, .cons h6 h3, fun j f' hf => ?_⟩
  cases j with
  | zero => simp at hf; subst hf; exact ⟨v, h5, rfl⟩
  | succ j => exact h4 j f' (by simpa using hf)
theorem cm_mid {f : Nat} {F0 : MFn} {fs : List Nat} {σ : St} {Z H Z1 H1 : Hp} {ρ ρ1 ρ2 : Env} {F F1 : Nat → List Addr} {rs : List R} {vs : List V} {Gs : List (List Addr)} {m : M} {ms ms1 : List M} {Q : VK} {q : FO} (g : Good T k cx X) (hq : FX.ob = some q) (hfl : fldB X.N fs F0.fl = true) (hlen : rs.length = F0.np)
  (g1 : Go X.K cx σ Z H ρ F Z1 H1 ρ1 F1) (o1 : OpsOk X.K Z H (U F) σ Z1 H1 F1 rs vs Gs) (e2 : pull (rs ++ fs.map .pl) ρ1 = some (ms, ρ2)) (e3 : cx.C f ms = some (m, ms1))
  (qq : ∀ Z' H' F' v G, Go X.K cx σ Z H ρ F Z' H' (putBack (rs ++ fs.map .pl) ms1 ρ2) F' → Res X.K Z H (U F) Z' H' F' m v G → Q v H') : spM X.K cx.C f F0 q (.ref q.p :: vs) H1 Q E0 := by
 obtain ⟨us, h1, h2⟩ := fld_vals hq (g.fq q hq).1 g1.rel.fx (of_decide_eq_true hfl)
 obtain ⟨Gs2, o2, _⟩ := o1.app h1
 obtain ⟨Gs', h3, h4, h5⟩ := call_mid (f := f) (ms1 := ms1) (m := m) g1 o2 e2 qq
 have hl : vs.length = F0.np := o1.len.trans hlen
 refine ⟨Z1, ms, m, ms1, Gs', vs ++ us, e3, h3, h4, by rw [← hl, List.take_left], (g1.rel.fx q hq).1, fun j fl hj => ?_, h5⟩
 obtain ⟨v, k1, k2⟩ := h2 j fl hj
 exact ⟨v, k1, by rw [← hl, List.getElem?_append_right (Nat.le_add_right _ _), Nat.add_sub_cancel_left]; exact k2⟩
theorem snd_cm {f : Nat} {F0 : MFn} {es : EL} {fs : List Nat} {xs : List Expr} {m n : Str} {q : FO} (g : Good T k cx X) (h1 : T.fs[f]? = none) (hf : T.ms.lookup f = some F0) (hq : FX.ob = some q) (hn : m = F0.name) (hself : PE X (.Name n p2) (tVr 0)) (hel : elLen es = F0.np) (hfl : fldB X.N fs F0.fl = true)
  (ha : PA X xs (TAr X.K cx (evl cx es))) (hst : xs.all notStar = true) (hl : (apos.endLine == pos.line) = true) (hle : xs.length < 28) (hnil : xs = [] → es = .nil) :
  PE X (.Call (.Attribute (.Name n p2) m apos) xs [] pos) (TEx X.K cx (ev cx (.cm f es fs))) := by
 obtain ⟨a, fd, k1, k2, k3, k4⟩ := g.ms f F0 q h1 hf hq
 subst hn
 obtain ⟨_, g2, _⟩ := g.fq q hq
 cases xs with
 | nil =>
  have := hnil rfl
  subst this
  refine PE.mono (pe_self0 hself g2 k1 k2 hq k4 g.room k3 hl) fun σ H Q ⟨Z, ρ, F, m, ρ', R, e, qq⟩ => ⟨R.fx, ?_⟩
  simp only [ev, evl] at e
  split at e
  ·rename_i ms ρ2 e2
   split at e
   ·rename_i m3 ms1 e3
    cases e
    exact cm_mid g hq hfl (rs := []) hel (.refl R) .nil e2 e3 qq
   ·cases e
  ·cases e
 | cons e xs =>
  refine PE.mono (pe_self hself g2 k1 k2 hq k4 g.room k3 ha hst hl hle) fun σ H Q ⟨Z, ρ, F, m, ρ', R, e, qq⟩ => ⟨R.fx, ?_⟩
  simp only [ev] at e
  split at e
  ·rename_i rs ρ1 e1
   split at e
   ·rename_i ms ρ2 e2
    split at e
    ·rename_i m3 ms1 e3
     cases e
     exact ⟨Z, ρ, F, rs, ρ1, R, e1, fun Z1 H1 F1 vs Gs g1 o1 => cm_mid g hq hfl ((evl_len e1).trans hel) g1 o1 e2 e3 qq⟩
    ·cases e
   ·cases e
  ·cases e
end
end Mn
end
section
set_option maxHeartbeats 200000
namespace Mn
open PySem L2 PySem.Spec
variable [WW] [FX]
instance : DecidableEq BOp := fun a b => by cases a <;> cases b <;> first | exact isTrue rfl | exact isFalse (fun h => by cases h)
instance : DecidableEq COp := fun a b => by cases a <;> cases b <;> first | exact isTrue rfl | exact isFalse (fun h => by cases h)
def plainT : Expr → Bool
 | .UnaryOp .Not _ _ => false
 | .BoolOp _ _ _ => false
 | .IfExp _ _ _ _ => false
 | .Compare _ _ _ _ => false
 | _ => true
def notIf : Expr → Bool
 | .IfExp _ _ _ _ => false
 | _ => true
def isBool : Expr → Bool
 | .BoolOp _ _ _ => true
 | _ => false
theorem plainT_of {x : Expr} {env : PySem.Env} (h : plainT x = true) : ∀ whole, PySem.isTrue x env whole = (do let v ← whole; standAt x.pos; holding [v] (truthy v)) := by
 intro whole
 unfold PySem.isTrue
 split <;> first | rfl | (simp [plainT] at h)
def kn0 : E → Bool
 | .kn => true
 | _ => false
def ownN (N : List Str) (own : List Nat) : List (Str × Nat) := own.map fun i => ((N[i]?).getD (Str.ofString ""), i)
def blkB (N : List Str) (sc scope : Scope) (own : List Nat) : Bool :=
 decide (scope.kind = .function) && ((scope.names.all fun y => decide (scope.names.lookup y.1 = some y.2)) && ((own.all fun i => (N[i]?).isSome) &&
  ((scope.names.all fun y => !(decide (y.2 = .free)) || (decide (sc.names.lookup y.1 = some .cell) || decide (sc.names.lookup y.1 = some .free))) &&
   (scope.names.all fun y => !(decide (y.2 = .local) || decide (y.2 = .cell)) || ((own.any fun i => decide (N[i]? = some y.1)) || !(N.any fun n => decide (n = y.1)))))))
theorem blk_of {N : List Str} {sc scope : Scope} {own : List Nat} (h : blkB N sc scope own = true) : BlkOk N sc scope (ownN N own) := by
 unfold blkB at h
 simp only [Bool.and_eq_true, decide_eq_true_eq] at h
 obtain ⟨h1, h2, h3, h4, h5⟩ := h
 refine ⟨h1, fun y hy => ?_, fun p hp => ?_, fun y hy e => ?_, fun y hy e => ?_⟩
 ·exact of_decide_eq_true (List.all_eq_true.mp h2 y hy)
 ·unfold ownN at hp
  obtain ⟨i, hi, rfl⟩ := List.mem_map.mp hp
  have := List.all_eq_true.mp h3 i hi
  dsimp only
  cases q : N[i]? with
  | none => rw [q] at this; cases this
  | some n => rfl
 ·have := List.all_eq_true.mp h4 y hy
  rw [decide_eq_true e, Bool.not_true, Bool.false_or, Bool.or_eq_true, decide_eq_true_eq, decide_eq_true_eq] at this
  exact this
 ·have := List.all_eq_true.mp h5 y hy
  have h6 : (decide (y.2 = .local) || decide (y.2 = .cell)) = true := by
   rw [Bool.or_eq_true, decide_eq_true_eq, decide_eq_true_eq]; exact e
  rw [h6, Bool.not_true, Bool.false_or, Bool.or_eq_true, Bool.not_eq_true'] at this
  rcases this with q | q
  ·left
   obtain ⟨i, hi, hd⟩ := List.any_eq_true.mp q
   have hd := of_decide_eq_true hd
   unfold ownN
   rw [List.map_map]
   exact List.mem_map.mpr ⟨i, hi, by simp [hd]⟩
  ·right
   intro hm
   rw [List.any_eq_false] at q
   exact q y.1 hm (decide_eq_true rfl)
theorem ownN_snd (N : List Str) (own : List Nat) : own = (ownN N own).map (·.2) := by
 unfold ownN
 rw [List.map_map]
 exact (List.map_id own).symm
def nlen (n : Nat) : Bool := Nat.ble n 1000
mutual
def chkTg (N : List Str) (sc : Scope) (lc : List Str → Scope → Nat → Str → Bool) : Tg → Expr → Bool
 | .nm i, .Name n _ => lc N sc i n
 | .tp ts, .Tuple xs _ _ => chkTgs N sc lc ts xs
 | _, _ => false
def chkTgs (N : List Str) (sc : Scope) (lc : List Str → Scope → Nat → Str → Bool) : List Tg → List Expr → Bool
 | [], [] => true
 | t :: ts, x :: xs => chkTg N sc lc t x && (notStar x && chkTgs N sc lc ts xs)
 | _, _ => false
end
def isTupE : Expr → Bool
 | .Tuple _ _ _ => true
 | _ => false
def nameB (N : List Str) (sc : Scope) (i : Nat) : Expr → Bool
 | .Name n _ => nmB N sc i n
 | .Attribute (.Name n _) f _ => nmB N sc 0 n && decide (N[i]? = some (selfDot f))
 | _ => false
def itW : It → Bool
 | .en _ => true
 | .zp _ _ => true
 | _ => false
def callee (T : Tab) (sc : Scope) (f : Nat) (n : Str) : Bool := (match T.fs[f]? with
 | some F => decide (F.name = n)
 | none => (T.ms.lookup f).isNone && decide ((T.ex.lookup f).map (·.name) = some n)) && glB sc n
def cmB (T : Tab) (N : List Str) (sc : Scope) (f : Nat) (fs : List Nat) (n m : Str) (l : Nat) : Bool := nmB N sc 0 n && match T.fs[f]?, T.ms.lookup f with
 | none, some F => decide (m = F.name) && (decide (l = F.np) && (!F.fl.isEmpty && fldB N fs F.fl))
 | _, _ => false
def tyOf : BI → Option Ty
 | .isTup => some .tup | .isList => some .lst | .isStr => some .str | .isBool => some .bl | .isInt => some .int
 | _ => none
def isSTB : BI → Bool
 | .isST => true
 | _ => false
def biB (sc : Scope) (b : BI) (es : EL) (n : Str) (xs : List Expr) : Bool := !decide (biArity b = 0) && (decide (elLen es = biArity b) && (decide (n = biName b) && (glB sc n && !xs.isEmpty)))
def getB (m : Str) (x y : Expr) (apos pos : Pos) : Bool := decide (m = Str.ofString "get") && (notCall0 x && (notStar y && (apos.endLine == pos.line)))
def elVal : EL → Bool
 | .nil => true
 | .cons e r => !isPl e && elVal r
mutual
def chkE (T : Tab) (N : List Str) (sc : Scope) : E → Expr → Bool
 | .pl i, x => nameB N sc i x
 | .tk i, x => nameB N sc i x
 | .mv i, x => nameB N sc i x
 | .g c, x => match x with
  | .Name n _ => glB sc n && decide ((T.gs[c]?).map (·.1) = some n)
  | _ => false
 | .ki i, x => match x with
  | .Constant (.int j) _ _ => decide (i = j)
  | _ => false
 | .kb b, x => match x with
  | .Constant (.bool c) _ _ => decide (b = c)
  | _ => false
 | .kn, x => match x with
  | .Constant .none _ _ => true
  | _ => false
 | .ks s, x => match x with
  | .Constant (.str t) _ _ => decide (s = t) && (PyData.strOk t && nlen t.length)
  | _ => false
 | .tup es, x => match x with
  | .Tuple xs _ _ => chkEL T N sc es xs && nlen (elLen es)
  | _ => false
 | .lst es, x => match x with
  | .List xs _ => chkEL T N sc es xs && nlen (elLen es)
  | _ => false
 | .dnw _, x => match x with
  | .Dict [] [] _ => true
  | _ => false
 | .dd _ es, x => match x with
  | .Dict ks vs _ => chkKv T N sc es ks vs && (!ks.isEmpty && Nat.ble ks.length 15)
  | _ => false
 | .dr a b, x => match x with
  | .Dict [some y] [z] _ => chkE T N sc a y && chkE T N sc b z
  | _ => false
 | .bin op a b, x => match x with
  | .BinOp x o y _ => decide (o = bOp op) && (chkE T N sc a x && chkE T N sc b y)
  | _ => false
 | .neg a, x => match x with
  | .UnaryOp .USub x _ => chkE T N sc a x
  | _ => false
 | .cmp op a b, x => match x with
  | .Compare x [o] [y] _ => decide (o = cOp op) && ((kn0 b || (!decide (op = .isN) && !decide (op = .notN))) && (!(behindInMarks o y) && (chkE T N sc a x && chkE T N sc b y)))
  | _ => false
 | .cmp2 op op2 a b c, x => match x with
  | .Compare x [o, o2] [y, z] _ => decide (o = cOp op) && (decide (o2 = cOp op2) && (chOp op && (chOp op2 && (!(behindInMarks o2 z) && (chkE T N sc a x && (chkE T N sc b y && chkE T N sc c z))))))
  | _ => false
 | .ban a b, x => match x with
  | .BoolOp .And [x, y] _ => (notIf x && chkE T N sc a x) && (notIf y && chkE T N sc b y)
  | .BoolOp .And (x :: y :: z :: rest) p => (notIf x && chkE T N sc a x) && chkE T N sc b (.BoolOp .And (y :: z :: rest) p)
  | _ => false
 | .bor a b, x => match x with
  | .BoolOp .Or [x, y] _ => (notIf x && chkE T N sc a x) && (notIf y && chkE T N sc b y)
  | .BoolOp .Or (x :: y :: z :: rest) p => (notIf x && chkE T N sc a x) && chkE T N sc b (.BoolOp .Or (y :: z :: rest) p)
  | _ => false
 | .nt a, x => match x with
  | .UnaryOp .Not x _ => notIf x && chkE T N sc a x
  | _ => false
 | .ifx c a b, x => match x with
  | .IfExp z x y _ => (notIf z && chkE T N sc c z) && (chkE T N sc a x && chkE T N sc b y)
  | _ => false
 | .slc a lo hi, x => match x with
  | .Subscript x (.Slice l u none _) _ => chkE T N sc a x && ((match l with
   | none => elNo lo
   | some y => !elNo lo && chkE T N sc lo y) && (match u with
   | none => elNo hi
   | some y => !elNo hi && chkE T N sc hi y))
  | _ => false
 | .rev a, x => match x with
  | .Subscript x (.Slice none none (some (.UnaryOp .USub (.Constant (.int 1) _ _) _)) _) _ => chkE T N sc a x
  | _ => false
 | .sub a k, x => match x with
  | .Subscript x y _ => notSlice y && (chkE T N sc a x && chkE T N sc k y)
  | _ => false
 | .call f es, x => match x with
  | .Call (.Name n _) (x :: xs) [] _ => callee T sc f n && chkEL T N sc es (x :: xs)
  | _ => false
 | .bi b es, x => match x with
  | .Call (.Name n _) xs [] _ => if isSTB b = true then (match xs with
   | [x, .Tuple [.Name m1 _, .Name m2 _] _ _] => decide (n = Str.ofString "isinstance") && (glB sc n && (decide (m1 = Str.ofString "str") && (glB sc m1 && (decide (m2 = Str.ofString "tuple") && (glB sc m2 && chkEL T N sc es [x])))))
   | _ => false) else match tyOf b with
   | some t => match xs with
    | [x, .Name m _] => decide (n = Str.ofString "isinstance") && (glB sc n && (decide (m = Str.ofString (tyN t)) && (glB sc m && (bnames.any (fun s => decide (s = m)) && chkEL T N sc es [x]))))
    | _ => false
   | none => match xs with
    | [.Call (.Name m _) [x, y] [] _] => match b with
     | .listZip => decide (n = Str.ofString "list") && (glB sc n && (decide (m = Str.ofString "zip") && (glB sc m && chkEL T N sc es [x, y])))
     | .listRg => decide (n = Str.ofString "list") && (glB sc n && (decide (m = Str.ofString "range") && (glB sc m && chkEL T N sc es [x, y])))
     | _ => biB sc b es n xs && chkEL T N sc es xs
    | _ => biB sc b es n xs && chkEL T N sc es xs
  | _ => false
 | .mt m a es, x => match m with
  | .get => match x with
   | .Call (.Attribute x m apos) [y] [] pos => getB m x y apos pos && (chkE T N sc a x && (elVal es && chkEL T N sc es [y]))
   | .Call (.Attribute x m apos) [y, z] [] pos => getB m x y apos pos && (notStar z && (chkE T N sc a x && (elVal es && chkEL T N sc es [y, z])))
   | _ => false
  | .index => match x with
   | .Call (.Attribute x m apos) [y] [] pos => decide (m = Str.ofString "index") && (notCall0 x && (notStar y && ((apos.endLine == pos.line) && (chkE T N sc a x && chkEL T N sc es [y]))))
   | _ => false
  | .count => match x with
   | .Call (.Attribute x m apos) [y] [] pos => decide (m = Str.ofString "count") && (notCall0 x && (notStar y && ((apos.endLine == pos.line) && (chkE T N sc a x && chkEL T N sc es [y]))))
   | _ => false
  | _ => false
 | .sln e, x => match x with
  | .Call (.Name n _) [.Call (.Name n2 _) [x] [] _] [] _ => decide (n = Str.ofString "len") && (glB sc n && (decide (n2 = Str.ofString "set") && (glB sc n2 && (notStar x && chkE T N sc e x))))
  | _ => false
 | .lgk nm kvs k d, x => match x with
  | .Call (.Attribute (.Name n _) m apos) [y, .Constant (.int i) _ _] [] pos => decide (n = nm) && (glB sc n && (decide (m = Str.ofString "get") && (decide ((nm, kvs) ∈ T.ds) && (decide (i = d) && ((apos.endLine == pos.line) && (notStar y && chkE T N sc k y))))))
  | _ => false
 | .dpop i e, x => match x with
  | .Call (.Attribute x m apos) [y] [] pos => decide (m = Str.ofString "pop") && (nameB N sc i x && ((apos.endLine == pos.line) && (notStar y && chkE T N sc e y)))
  | _ => false
 | .pop i es, x => match x with
  | .Call (.Attribute x m apos) ys [] pos => decide (m = Str.ofString "pop") && (nameB N sc i x && ((apos.endLine == pos.line) && (Nat.ble ys.length 1 && chkEL T N sc es ys)))
  | _ => false
 | .getf i f j, x => match x with
  | .Call (.Attribute (.Subscript x (.Constant (.str f') _ _) _) m apos) [y] [] pos => decide (m = Str.ofString "get") && (decide (f = f') && (nameB N sc i x && (nameB N sc j y && (apos.endLine == pos.line))))
  | _ => false
 | .fgu i f j, x => match x with
  | .Subscript (.Subscript x (.Constant (.str f') _ _) _) y _ => decide (f = f') && (nameB N sc i x && (nameB N sc j y && notSlice y))
  | _ => false
 | .fni i f j, x => match x with
  | .Compare y [o] [.Subscript x (.Constant (.str f') _ _) _] _ => decide (o = cOp .nin) && (decide (f = f') && (nameB N sc i x && nameB N sc j y))
  | _ => false
 | .getn i k, x => match x with
  | .Call (.Attribute x m apos) [y, .List [] _] [] pos => decide (m = Str.ofString "get") && (nameB N sc i x && (notStar y && ((apos.endLine == pos.line) && chkE T N sc k y)))
  | _ => false
 | .comp own tg it ts e, x => match x with
  | .ListComp z [⟨x, y, ifs, asy⟩] scope _ => decide (asy = 0) && (blkB N sc scope own && ((tgVs tg).all (fun j => own.any fun i => decide (i = j)) && (notSet y && (chkIt T N sc x it y && (chkTg N (relS scope sc) locB tg x && (chkTs T N (relS scope sc) ts ifs && chkE T N (relS scope sc) e z))))))
  | _ => false
 | .cm f es fs, x => match x with
  | .Call (.Attribute (.Name n _) m apos) xs [] pos => cmB T N sc f fs n m (elLen es) && ((apos.endLine == pos.line) && (Nat.ble xs.length 20 && chkEL T N sc es xs))
  | _ => false
 | .lgt i k, x => match x with
  | .Call (.Name n _) [.Call (.Attribute x m apos) [y, .Tuple [] _ _] [] cpos] [] _ => decide (n = Str.ofString "list") && (glB sc n && (decide (m = Str.ofString "get") && (nameB N sc i x && (notStar y && ((apos.endLine == cpos.line) && chkE T N sc k y)))))
  | _ => false
 | .hln i j, x => match x with
  | .ListComp (.Call (.Name a _) [.Name n _] [] _) [⟨.Name n2 _, .Call (.Attribute x m apos) [] [] cpos, [], asy⟩] scope _ => decide (asy = 0) && (decide (a = Str.ofString "len") && (decide (n = n2) && (decide (m = Str.ofString "values") && (nameB N sc i x && ((apos.endLine == cpos.line) && (decide (N[j]? = some n) && (blkB N sc scope [j] && (glB (relS scope sc) a && (nmB N (relS scope sc) j n && decide ((relS scope sc).names.lookup n = some .local))))))))))
  | _ => false
 | .hst i k, x => match x with
  | .Call (.Name n _) [.Subscript x y _] [] _ => decide (n = Str.ofString "sorted") && (glB sc n && (nameB N sc i x && (notSlice y && chkE T N sc k y)))
  | _ => false
 | .no, _ => false
def chkEL (T : Tab) (N : List Str) (sc : Scope) : EL → List Expr → Bool
 | .nil, xs => match xs with
  | [] => true
  | _ => false
 | .cons e r, xs => match xs with
  | x :: xs => (notStar x && chkE T N sc e x) && chkEL T N sc r xs
  | [] => false
def chkKv (T : Tab) (N : List Str) (sc : Scope) : EL → List (Option Expr) → List Expr → Bool
 | .nil, ks, vs => ks.isEmpty && vs.isEmpty
 | .cons f0 (.cons e r), ks, vs => match f0, ks, vs with
  | .ks f, some (.Constant (.str f') _ _) :: ks, v :: vs => decide (f = f') && (PyData.strOk f && (nlen f.length && (chkE T N sc e v && chkKv T N sc r ks vs)))
  | .ki f, some (.Constant (.int f') _ _) :: ks, v :: vs => decide (f = f') && (chkE T N sc e v && chkKv T N sc r ks vs)
  | _, _, _ => false
 | .cons _ .nil, _, _ => false
def chkTs (T : Tab) (N : List Str) (sc : Scope) : EL → List Expr → Bool
 | .nil, xs => xs.isEmpty
 | .cons e .nil, xs => match xs with
  | [x] => notIf x && chkE T N sc e x
  | _ => false
 | .cons _ (.cons _ _), _ => false
def chkIt (T : Tab) (N : List Str) (sc : Scope) (tg : Expr) : It → Expr → Bool
 | .of e, x => chkE T N sc e x
 | .lk i, x => nameB N sc i x
 | .vals i, x => match x with
  | .Call (.Attribute x m apos) [] [] pos => decide (m = Str.ofString "values") && (nameB N sc i x && (apos.endLine == pos.line))
  | _ => false
 | .rg es, x => match x with
  | .Call (.Name n _) xs [] _ => decide (n = Str.ofString "range") && (glB sc n && (chkEL T N sc es xs && (Nat.ble 1 xs.length && Nat.ble xs.length 3)))
  | _ => false
 | .en e, x => match x with
  | .Call (.Name n _) [x] [] _ => decide (n = Str.ofString "enumerate") && (glB sc n && (notStar x && (isTupE tg && chkE T N sc e x)))
  | _ => false
 | .zp a b, x => match x with
  | .Call (.Name n _) [x, y] [] _ => decide (n = Str.ofString "zip") && (glB sc n && (notStar x && (notStar y && (isTupE tg && (chkE T N sc a x && chkE T N sc b y)))))
  | _ => false
end
end Mn
end
section
set_option maxHeartbeats 200000
namespace Mn
open PySem L2 PySem.Spec
def tKG (K : PySem.W.Frag) (a : Addr) (i : Int) (ty : TE) : TE := fun σ H Q => ty σ H fun y H1 => ∃ (z : Str) (r : Option Value) (v : V), y = .str z ∧ PySem.W.nsIn K a z = some r ∧ (match r with
 | some u => RelV v u
 | none => v = .int i) ∧ Q v H1
theorem pe_kget {X : Cx} {nx y : Expr} {apos cpos q1 : Pos} {a : Addr} {es : Array DictEntry} {m c : Nat} {j : Int} {ty : TE} (D : KDict X.K X.w a es m) (hn : PE X nx (tC (.ref a))) (he : PE X y ty) (mm : M2 X nx "get" apos y (.Constant (.int j) c q1) cpos) :
  PE X (.Call (.Attribute nx "get" apos) [y, .Constant (.int j) c q1] [] cpos) (tKG X.K a j ty) := by
 refine ⟨fun pins s σ H Q I h => ?_⟩
 refine wpAny_Call_method mm.base mm.few mm.line PySem.F.plainAttrs_dict PySem.F.slot_dict_get PySem.F.type_dict_get (thn (hn.run pins s σ H (fun v H' => v = .ref a ∧ H' = H) I ⟨rfl, rfl⟩) fun u s1 ⟨x, H1, I1, rx, ex, eH⟩ => ?_)
 subst ex eH
 obtain rfl : u = Value.ref a := rx
 refine ⟨kd_type D I1, fun b hb => ?_, ?_⟩
 ·cases hb
  exact ⟨_, I1.kIn a _ D.at_, rfl⟩
 rw [mm.trees]
 refine Calls.callWith_builtin rfl (Calls.evalArgs_plain (Calls.spliced_cons (thn (he.run pins s1 σ _ _ I1 h) fun iv s2 ⟨y, H2, I2, ry, z, r, v, ey, en, hv, q⟩ =>
  Calls.spliced_cons (thn (pe_int.run pins s2 σ H2 (fun v H' => v = .int j ∧ H' = H2) I2 ⟨rfl, rfl⟩) fun fv s3 ⟨w, H3, I3, rw', ew, eH⟩ => Calls.spliced_nil ?_))))
 subst ey ew eH
 obtain ⟨t, rfl⟩ := ry
 refine call_meetsIn PySem.F.slot_dict_get (kd_type D I3) PySem.F.entry_dict_get (PySem.F.args_dict_get_3 _ _ _) (meets_dict_get_default (PySem.strKind X.prog X.w) a (strKind_is X.prog X.w z t) D.low fv) ⟨_, PySem.W.mapOf_K I3.kIn D.at_ D.lit, ?_⟩
 rw [PySem.W.find_K D.at_ en]
 refine ⟨v, _, I3.tok _, ?_, q⟩
 cases r with
 | some u => exact hv
 | none =>
  have hv : v = .int j := hv
  rw [hv]; exact rw'
variable [WW] [FX]
section
variable {T : Tab} {k : Nat} {cx : Cxt} {X : Cx} {x y : Expr} {K : PySem.W.Frag} {Z H : Hp}
theorem seq_set {a : M} {v : V} {Ga : List Addr} {ps : List P} (s : Sub Z H) (ha : Own K Z H a v Ga) (e : seqOf a = some ps) : ∃ c vs, v = .ref c ∧ (SqL K H c vs ∨ SqT K H c vs) ∧ RepL K Z vs ps := by
 have go : listOf a = some ps → ∃ c vs, v = .ref c ∧ (SqL K H c vs ∨ SqT K H c vs) ∧ RepL K Z vs ps := fun h => by
  obtain ⟨c, vs, h1, h2, h3⟩ := lst_any s ha h
  exact ⟨c, vs, h1, .inl (SqL.of h2), h3⟩
 have va := ha.view
 unfold seqOf at e
 split at e
 ·rename_i e1
  cases e
  exact go (by unfold listOf; rw [e1])
 ·rename_i e1
  cases e
  exact go (by unfold listOf; rw [e1])
 ·rename_i e1
  cases e
  rw [e1] at va
  obtain ⟨c, vs, h1, h2, h3⟩ := va.tup
  exact ⟨c, vs, h1, .inr (sqT_sub s h2.sq), h3⟩
 ·cases e
theorem snd_sln {a : E} {p1 p2 p3 p4 : Pos} (g : Good T k cx X) (ha : PE X x (TOp X.K cx (opE a (ev cx a)))) (h1 : glB X.env.scope (Str.ofString "len") = true) (h2 : glB X.env.scope (Str.ofString "set") = true) (hs : notStar x = true) :
  PE X (.Call (.Name (Str.ofString "len") p1) [.Call (.Name (Str.ofString "set") p2) [x] [] p3] [] p4) (TEx X.K cx (ev cx (.sln a))) := PE.mono (ST.pe_lenM g.calm (gl_of h1).1 (g.free _ (by decide +kernel)) (gl_of h2).1 (g.free _ (by decide +kernel)) ha (star_of hs)) fun σ H Q ⟨Z, ρ, F, m, ρ', R, e, q⟩ => by
 simp only [ev] at e
 split at e
 ·rename_i r1 ρ1 e1
  split at e
  ·rename_i m1 e3
   split at e
   ·rename_i m3 e5
    cases e
    refine ⟨Z, ρ, F, r1, _, R, e1, fun Z1 H1 F1 v1 G1 g1 o1 => ?_⟩
    obtain ⟨_, w1⟩ := o1.rd g1.rel e3
    unfold slnM at e5
    split at e5
    ·rename_i ps ep
     split at e5
     ·rename_i xs ex
      split at e5
      ·rename_i hb
       cases e5
       obtain ⟨c, vs, rfl, h3, r⟩ := seq_set g1.rel.sub w1 ep
       obtain ⟨rfl, _⟩ := strsOf_v ex r
       exact ⟨c, xs, rfl, h3, by unfold scanBound; omega, (ask_done g1 q).imm g1.rel.sub (.int _)⟩
      ·cases e5
     ·cases e5
    ·cases e5
   ·cases e
  ·cases e
 ·cases e
theorem snd_lgk {nm : Str} {kvs : List (Str × Int)} {e : E} {d : Int} {c : Nat} {p1 apos q1 pos : Pos} (g : Good T k cx X) (he : PE X y (TEx X.K cx (ev cx e))) (hg : glB X.env.scope nm = true) (hm : (nm, kvs) ∈ T.ds) (hl : (apos.endLine == pos.line) = true) (hs : notStar y = true) :
  PE X (.Call (.Attribute (.Name nm p1) (Str.ofString "get") apos) [y, .Constant (.int d) c q1] [] pos) (TEx X.K cx (ev cx (.lgk nm kvs e d))) := by
 obtain ⟨a, es, n, h1, D, hd⟩ := g.ds nm kvs hm
 rw [← g.at_.w] at D
 refine PE.mono (pe_kget D (pe_glob (v := .ref a) (gl_of hg).1 h1 rfl (plain_of (gl_of hg).2).1) he (m2_of rfl hs rfl hl)) fun σ H Q ⟨Z, ρ, F, m, ρ', R, e0, q⟩ => ?_
 simp only [ev] at e0
 split at e0
 ·rename_i s ρ1 e1
  cases e0
  refine ⟨Z, ρ, F, _, _, R, e1, fun Z1 H1 F1 v1 G1 g1 o1 => ?_⟩
  have hz := hd s
  obtain rfl : v1 = .str s := by
   cases o1.own with
   | v h => cases h; rfl
  unfold lgkV at q
  cases ef : kvs.find? (fun kv => decide (kv.1 = s)) with
  | some kv =>
   rw [ef] at hz q
   obtain ⟨t, ht⟩ := hz
   exact ⟨s, _, .int kv.2, rfl, ht, ⟨t, rfl⟩, (ask_done g1 q).imm g1.rel.sub (.int _)⟩
  | none =>
   rw [ef] at hz q
   exact ⟨s, _, .int d, rfl, hz, rfl, (ask_done g1 q).imm g1.rel.sub (.int _)⟩
 ·cases e0
end
end Mn
end
section
set_option maxHeartbeats 200000
namespace Mn
open PySem L2 PySem.Spec
variable [WW] [FX]
structure PB (X : Cx) (cx : Cxt) (e : E) (x : Expr) : Prop where
 pe : PE X x (TEx X.K cx (ev cx e))
 pt : notIf x = true → PT X x (TTs X.K cx (ev cx e))
 pw : isBool x = true → PW X x (TTs X.K cx (ev cx e))
 op : PE X x (TOp X.K cx (opE e (ev cx e)))
section
variable {T : Tab} {k : Nat} {cx : Cxt} {X : Cx} {x y z : Expr} {st : Stmt} {pos p2 p3 p4 p5 apos tpos : Pos}
theorem PB.of {e : E} (hp : isPl e = false) (ht : plainT x = true) (h : PE X x (TEx X.K cx (ev cx e))) : PB X cx e x :=
 ⟨h, fun _ => pt_of h (plainT_of ht), (fun hb => by cases x <;> first | (cases hb; done) | (cases ht; done)), top_ex hp h⟩
theorem nameB_of {i : Nat} (g : Good T k cx X) (h : nameB X.N X.env.scope i x = true) : PE X x (tVr i) ∧ plainT x = true ∧ notCall0 x = true ∧ notStar x = true := by
 unfold nameB at h
 split at h
 ·exact ⟨nm_pe h, rfl, rfl, rfl⟩
 ·rw [Bool.and_eq_true, decide_eq_true_eq] at h
  exact ⟨fld_pe g h.1 h.2, rfl, rfl, rfl⟩
 ·cases h
theorem nlen_of {n : Nat} (h : nlen n = true) : n ≤ 1000 := Nat.le_of_ble_eq_true h
theorem keyOk_of {f : Str} (h1 : PyData.strOk f = true) (h2 : nlen f.length = true) : KeyOk (.inr f) := ⟨h1, lim_le (Nat.le_trans (nlen_of h2) (by decide))⟩
theorem bool1 {op : BoolOp} {e : E} (h : PB X cx e y) (hn : notIf y = true) : PE X (.BoolOp op [y] pos) (TEx X.K cx (ev cx e)) ∧ PW X (.BoolOp op [y] pos) (TTs X.K cx (ev cx e)) := by
 cases op with
 | And => exact ⟨pe_one h.pe, pw_and1 (h.pt hn)⟩
 | Or => exact ⟨pe_one h.pe, pw_or1 (h.pt hn)⟩
theorem pb_bool {op : BoolOp} {e : E} {xs : List Expr} (hp : isPl e = false) (h : PE X (.BoolOp op xs pos) (TEx X.K cx (ev cx e)) ∧ PW X (.BoolOp op xs pos) (TTs X.K cx (ev cx e))) : PB X cx e (.BoolOp op xs pos) :=
 ⟨h.1, fun _ => h.2.pt, fun _ => h.2, top_ex hp h.1⟩
theorem pb_cmp {e : E} {x0 : Expr} {ops : List CmpOp} {ys : List Expr} (hp : isPl e = false) (h : PE X (.Compare x0 ops ys pos) (TEx X.K cx (ev cx e)) ∧ PT X (.Compare x0 ops ys pos) (TTs X.K cx (ev cx e))) : PB X cx e (.Compare x0 ops ys pos) :=
 ⟨h.1, fun _ => h.2, (fun hb => by cases hb), top_ex hp h.1⟩
theorem tgt_of {lc : List Str → Scope → Nat → Str → Bool} (hN : X.N.Nodup) (hc : X.calm = true) (hl : ∀ i n, lc X.N X.env.scope i n = true → LocG X i n) (pk : PmOk cx) : ∀ (tg : Tg) (x : Expr), chkTg X.N X.env.scope lc tg x = true → PG X x (TGt X.K cx false tg) ∧ ∀ w, isTupE x = true → PG X x (TGt X.K cx w tg) := by
 intro tg
 apply Tg.rec (motive_1 := fun tg => ∀ x, chkTg X.N X.env.scope lc tg x = true → PG X x (TGt X.K cx false tg) ∧ ∀ w, isTupE x = true → PG X x (TGt X.K cx w tg)) (motive_2 := fun ts => ∀ xs, chkTgs X.N X.env.scope lc ts xs = true → PGs X xs (TGts X.K cx ts) ∧ xs.all notStar = true ∧ ts.length = xs.length)
 ·intro i x h
  unfold chkTg at h
  split at h
  ·rename_i h0; cases h0; exact ⟨pg_nm pk hN (hl _ _ h), fun _ z => nomatch z⟩
  ·rename_i h0; cases h0
  ·cases h
 ·intro ts ih x h
  unfold chkTg at h
  split at h
  ·rename_i h0; cases h0
  ·rename_i h0
   cases h0
   obtain ⟨h1, h2, h3⟩ := ih _ h
   exact ⟨pg_tp hc h1 h2 h3, fun w _ => pg_tp hc h1 h2 h3⟩
  ·cases h
 ·intro xs h
  cases xs with
  | nil => exact ⟨pgs_nilM, rfl, rfl⟩
  | cons _ _ => unfold chkTgs at h; cases h
 ·intro t ts ih ih2 xs h
  cases xs with
  | nil => unfold chkTgs at h; cases h
  | cons x xs =>
   unfold chkTgs at h
   simp only [Bool.and_eq_true] at h
   obtain ⟨h1, h2, h3⟩ := ih2 xs h.2.2
   exact ⟨pgs_consM (ih x h.1).1 h1 h.2.1, by rw [List.all_cons, h.2.1, h2]; rfl, by rw [List.length_cons, List.length_cons, h3]⟩
theorem fld_ob {fs : List Nat} {fl : List Str} (g : Good T k cx X) (h : fl.isEmpty = false) (h2 : fldB X.N fs fl = true) : ∃ q, FX.ob = some q := by
 have h3 := of_decide_eq_true h2
 cases fl with
 | nil => cases h
 | cons f fl =>
  cases fs with
  | nil => cases h3
  | cons i fs =>
   rw [List.map_cons, List.map_cons] at h3
   injection h3 with h4 _
   exact g.fo i f h4
theorem tgt_w {w : Bool} {tg : Tg} (h : PG X x (TGt X.K cx false tg) ∧ ∀ w, isTupE x = true → PG X x (TGt X.K cx w tg)) (hw : w = true → isTupE x = true) : PG X x (TGt X.K cx w tg) := by
 cases w with
 | false => exact h.1
 | true => exact h.2 true (hw rfl)
theorem chkIt_w {T : Tab} {N : List Str} {sc : Scope} {tg y : Expr} {it : It} (h : chkIt T N sc tg it y = true) : itW it = true → isTupE tg = true := by
 intro hw
 cases it <;> first | (cases hw; done) | skip
 all_goals
  simp only [chkIt] at h
  split at h
  ·simp only [Bool.and_eq_true] at h
   first | exact h.2.2.2.1 | exact h.2.2.2.2.1
  ·cases h
theorem tup_of {x : Expr} (h : isTupE x = true) : ∃ xs j p, x = .Tuple xs j p := by
 cases x <;> first | exact ⟨_, _, _, rfl⟩ | cases h
end
section
variable {T : Tab} {k : Nat} {cx : Cxt}
theorem own_of {tg : Tg} {own : List Nat} (h : ((tgVs tg).all fun j => own.any fun i => decide (i = j)) = true) : ∀ j ∈ tgVs tg, j ∈ own := fun j hj => by
 obtain ⟨i, hi, e⟩ := List.any_eq_true.mp (List.all_eq_true.mp h j hj)
 have := of_decide_eq_true e
 subst this
 exact hi
theorem callee_of {T : Tab} {sc : Scope} {f : Nat} {n : Str} (h : callee T sc f n = true) : ((∃ F, T.fs[f]? = some F ∧ n = F.name) ∨ (T.fs[f]? = none ∧ T.ms.lookup f = none ∧ ∃ F, T.ex.lookup f = some F ∧ n = F.name)) ∧ glB sc n = true := by
 unfold callee at h
 rw [Bool.and_eq_true] at h
 refine ⟨?_, h.2⟩
 have h1 := h.1
 split at h1
 ·rename_i F hF
  exact .inl ⟨F, hF, (of_decide_eq_true h1).symm⟩
 ·rename_i hF
  rw [Bool.and_eq_true, decide_eq_true_eq, Option.isNone_iff_eq_none] at h1
  obtain ⟨F, h2, h3⟩ := Option.map_eq_some_iff.mp h1.2
  exact .inr ⟨hF, h1.1, F, h2, h3.symm⟩
theorem tyOf_of {b : BI} {t : Ty} (h : tyOf b = some t) : b = tyBI t ∧ tyAsk t = true := by
 cases b <;> first | (cases h; done) | (cases h; exact ⟨rfl, rfl⟩)
theorem elLen0 {es : EL} (h : elLen es = 0) : es = .nil := by
 cases es with
 | nil => rfl
 | cons e r => rw [elLen] at h; omega
theorem bnames_of {X : Cx} {m : Str} (g : Good T k cx X) (h : (bnames.any fun s => decide (s = m)) = true) : X.mg m = none := by
 obtain ⟨s, h1, h2⟩ := List.any_eq_true.mp h
 have := of_decide_eq_true h2
 subst this
 exact g.free _ h1
theorem bi_case {X : Cx} {b : BI} {es : EL} {n : Str} {xs : List Expr} {p2 pos : Pos} (g : Good T k cx X) (h : biB X.env.scope b es n xs = true) (ha : PA X xs (TAr X.K cx (evl cx es))) (hs : xs.all notStar = true) : PE X (.Call (.Name n p2) xs [] pos) (TEx X.K cx (ev cx (.bi b es))) := by
 unfold biB at h
 simp only [Bool.and_eq_true, Bool.not_eq_true', decide_eq_true_eq, decide_eq_false_iff_not] at h
 obtain ⟨h1, h2, h3, h4, h5⟩ := h
 cases xs with
 | nil => cases h5
 | cons x xs =>
  rw [List.all_cons, Bool.and_eq_true] at hs
  exact snd_bi g h1 h2 h3 h4 ha hs.1 hs.2
set_option maxHeartbeats 4000000 in
mutual
theorem sndE : ∀ (e : E) (x : Expr) (X : Cx), Good T k cx X → chkE T X.N X.env.scope e x = true → PB X cx e x
 | .pl i, x, X, g, h => by
  simp only [chkE] at h
  obtain ⟨h1, h2, _, _⟩ := nameB_of g h
  have hv : PE X x (TEx X.K cx (ev cx (.pl i))) := PE.mono h1 fun σ H Q ⟨Z, ρ, F, m, ρ', R, e, q⟩ => by simp only [ev] at e; cases e
  exact ⟨hv, fun _ => pt_of hv (plainT_of h2), (fun hb => by cases x <;> first | (cases hb; done) | (cases h2; done)), top_pl h1⟩
 | .tk i, x, X, g, h => by
  simp only [chkE] at h
  obtain ⟨h1, h2, _, _⟩ := nameB_of g h
  exact .of rfl h2 (snd_tk h1)
 | .mv i, x, X, g, h => by
  simp only [chkE] at h
  obtain ⟨h1, h2, _, _⟩ := nameB_of g h
  exact .of rfl h2 (snd_mv h1)
 | .g c, x, X, g, h => by
  simp only [chkE] at h
  split at h
  ·rw [Bool.and_eq_true, decide_eq_true_eq] at h
   exact .of rfl rfl (snd_g g h.1 h.2)
  ·cases h
 | .ki i, x, X, g, h => by
  simp only [chkE] at h
  split at h
  ·have := of_decide_eq_true h
   subst this
   exact .of rfl rfl snd_ki
  ·cases h
 | .kb b, x, X, g, h => by
  simp only [chkE] at h
  split at h
  ·have := of_decide_eq_true h
   subst this
   exact .of rfl rfl snd_kb
  ·cases h
 | .kn, x, X, g, h => by
  simp only [chkE] at h
  split at h
  ·exact .of rfl rfl snd_kn
  ·cases h
 | .ks s, x, X, g, h => by
  simp only [chkE] at h
  split at h
  ·simp only [Bool.and_eq_true, decide_eq_true_eq] at h
   obtain ⟨rfl, h1, h2⟩ := h
   exact .of rfl rfl (snd_ks h1 (keyOk_of h1 h2).2)
  ·cases h
 | .tup es, x, X, g, h => by
  simp only [chkE] at h
  split at h
  ·rw [Bool.and_eq_true] at h
   obtain ⟨h1, _, _, _⟩ := sndEL es _ X g h.1
   exact .of rfl rfl (snd_tup h1 (nlen_of h.2))
  ·cases h
 | .lst es, x, X, g, h => by
  simp only [chkE] at h
  split at h
  ·rw [Bool.and_eq_true] at h
   obtain ⟨h1, _, _, _⟩ := sndEL es _ X g h.1
   exact .of rfl rfl (snd_lst h1 (nlen_of h.2))
  ·cases h
 | .dnw t, x, X, g, h => by
  simp only [chkE] at h
  split at h
  ·exact .of rfl rfl (snd_dnw g)
  ·cases h
 | .dd t es, x, X, g, h => by
  simp only [chkE] at h
  split at h
  ·rename_i ks vs p
   simp only [Bool.and_eq_true, Bool.not_eq_true'] at h
   obtain ⟨h1, h2, h3⟩ := h
   obtain ⟨trs, h4⟩ := sndKv (pos := p) es ks vs X g h1
   exact .of rfl rfl (snd_dd h4 (fun z => by rw [z] at h2; cases h2) (Nat.le_of_ble_eq_true h3))
  ·cases h
 | .dr a b, x, X, g, h => by
  simp only [chkE] at h
  split at h
  ·simp only [Bool.and_eq_true] at h
   obtain ⟨h1, h2⟩ := h
   exact .of rfl rfl (snd_dr g (sndE a _ X g h1).pe (sndE b _ X g h2).pe)
  ·cases h
 | .bin op a b, x, X, g, h => by
  simp only [chkE] at h
  split at h
  ·simp only [Bool.and_eq_true, decide_eq_true_eq] at h
   obtain ⟨rfl, h1, h2⟩ := h
   exact .of rfl rfl (snd_bin (sndE a _ X g h1).op (sndE b _ X g h2).op)
  ·cases h
 | .neg a, x, X, g, h => by
  simp only [chkE] at h
  split at h
  ·exact .of rfl rfl (snd_neg (sndE a _ X g h).pe)
  ·cases h
 | .cmp op a b, x, X, g, h => by
  simp only [chkE] at h
  split at h
  ·simp only [Bool.and_eq_true, Bool.or_eq_true, Bool.not_eq_true', decide_eq_true_eq, decide_eq_false_iff_not] at h
   obtain ⟨rfl, h1, h2, h3, h4⟩ := h
   refine pb_cmp rfl (snd_cmp g (sndE a _ X g h3).op (sndE b _ X g h4).op (fun hq => ?_) h2)
   rcases h1 with h1 | h1
   ·cases b <;> first | rfl | cases h1
   ·rcases hq with q | q
    ·exact (h1.1 q).elim
    ·exact (h1.2 q).elim
  ·cases h
 | .cmp2 op op2 a b c, x, X, g, h => by
  simp only [chkE] at h
  split at h
  ·simp only [Bool.and_eq_true, Bool.not_eq_true', decide_eq_true_eq] at h
   obtain ⟨rfl, rfl, h1, h2, h3, h4, h5, h6⟩ := h
   exact pb_cmp rfl (snd_cmp2 g (sndE a _ X g h4).pe (sndE b _ X g h5).pe (sndE c _ X g h6).pe h1 h2 h3)
  ·cases h
 | .ban a b, x, X, g, h => by
  simp only [chkE] at h
  split at h
  ·simp only [Bool.and_eq_true] at h
   have ha := sndE a _ X g h.1.2
   have hb := bool1 (op := .And) (pos := ‹Pos›) (sndE b _ X g h.2.2) h.2.1
   exact pb_bool rfl (snd_ban ha.pe (ha.pt h.1.1) hb.1 hb.2)
  ·simp only [Bool.and_eq_true] at h
   have ha := sndE a _ X g h.1.2
   have hb := sndE b _ X g h.2
   exact pb_bool rfl (snd_ban ha.pe (ha.pt h.1.1) hb.pe (hb.pw rfl))
  ·cases h
 | .bor a b, x, X, g, h => by
  simp only [chkE] at h
  split at h
  ·simp only [Bool.and_eq_true] at h
   have ha := sndE a _ X g h.1.2
   have hb := bool1 (op := .Or) (pos := ‹Pos›) (sndE b _ X g h.2.2) h.2.1
   exact pb_bool rfl (snd_bor ha.pe (ha.pt h.1.1) hb.1 hb.2)
  ·simp only [Bool.and_eq_true] at h
   have ha := sndE a _ X g h.1.2
   have hb := sndE b _ X g h.2
   exact pb_bool rfl (snd_bor ha.pe (ha.pt h.1.1) hb.pe (hb.pw rfl))
  ·cases h
 | .nt a, x, X, g, h => by
  simp only [chkE] at h
  split at h
  ·rw [Bool.and_eq_true] at h
   have ha := sndE a _ X g h.2
   have hn := snd_nt (pos := ‹Pos›) ha.pe (ha.pt h.1)
   exact ⟨hn.1, fun _ => hn.2, (fun hb => by cases hb), top_ex rfl hn.1⟩
  ·cases h
 | .ifx c a b, x, X, g, h => by
  simp only [chkE] at h
  split at h
  ·simp only [Bool.and_eq_true] at h
   have hp := snd_ifx (pos := ‹Pos›) ((sndE c _ X g h.1.2).pt h.1.1) (sndE a _ X g h.2.1).pe (sndE b _ X g h.2.2).pe
   exact ⟨hp, (fun z => by cases z), (fun hb => by cases hb), top_ex rfl hp⟩
  ·cases h
 | .sub a k0, x, X, g, h => by
  simp only [chkE] at h
  split at h
  ·simp only [Bool.and_eq_true] at h
   exact .of rfl rfl (snd_sub g (sndE a _ X g h.2.1).op (sndE k0 _ X g h.2.2).pe h.1)
  ·cases h
 | .slc a lo hi, x, X, g, h => by
  simp only [chkE] at h
  split at h
  ·rename_i x1 l u p1 p2
   simp only [Bool.and_eq_true] at h
   obtain ⟨h1, h2, h3⟩ := h
   have hl : PO X l (TPo X.K cx (poG cx lo)) := by
    cases l with
    | none => exact snd_no h2
    | some y =>
     have h2 : (!elNo lo && chkE T X.N X.env.scope lo y) = true := h2
     rw [Bool.and_eq_true, Bool.not_eq_true'] at h2
     exact snd_part h2.1 (sndE lo y X g h2.2).pe
   have hu : PO X u (TPo X.K cx (poG cx hi)) := by
    cases u with
    | none => exact snd_no h3
    | some y =>
     have h3 : (!elNo hi && chkE T X.N X.env.scope hi y) = true := h3
     rw [Bool.and_eq_true, Bool.not_eq_true'] at h3
     exact snd_part h3.1 (sndE hi y X g h3.2).pe
   exact .of rfl rfl (snd_slc (sndE a _ X g h1).op hl hu)
  ·cases h
 | .rev a, x, X, g, h => by
  simp only [chkE] at h
  split at h
  ·exact .of rfl rfl (snd_rev (sndE a _ X g h).op)
  ·cases h
 | .no, x, X, g, h => by
  simp only [chkE] at h
  cases h
 | .call f es, x, X, g, h => by
  simp only [chkE] at h
  split at h
  ·rw [Bool.and_eq_true] at h
   obtain ⟨hc, h3⟩ := callee_of h.1
   obtain ⟨_, h4, h5, _⟩ := sndEL es _ X g h.2
   rw [List.all_cons, Bool.and_eq_true] at h5
   rcases hc with ⟨F, h1, h2⟩ | ⟨h0, h1, F, h6, h2⟩
   ·exact .of rfl rfl (snd_call g h1 h2 h3 h4 h5.1 h5.2)
   ·exact .of rfl rfl (snd_ex g h0 h1 h6 h2 h3 h4 h5.1 h5.2)
  ·cases h
 | .bi b es, x, X, g, h => by
  simp only [chkE] at h
  split at h
  ·rename_i n p2 xs p
   split at h
   ·rename_i hst
    have : b = .isST := by cases b <;> first | rfl | cases hst
    subst this
    split at h
    ·simp only [Bool.and_eq_true, decide_eq_true_eq] at h
     obtain ⟨rfl, h2, rfl, h4, rfl, h5, h6⟩ := h
     cases es with
     | nil => simp only [chkEL] at h6; cases h6
     | cons a r =>
      simp only [chkEL, Bool.and_eq_true] at h6
      cases r with
      | nil => exact .of rfl rfl (snd_isST g (sndE a _ X g h6.1.2).op h2 h4 h5 h6.1.1)
      | cons _ _ => simp only [chkEL] at h6; cases h6.2
    ·cases h
   split at h
   ·rename_i t ht
    split at h
    ·rename_i x1 m p3
     simp only [Bool.and_eq_true, decide_eq_true_eq] at h
     obtain ⟨rfl, h2, rfl, h4, h5, h6⟩ := h
     obtain ⟨hb, hk⟩ := tyOf_of ht
     subst hb
     cases es with
     | nil => simp only [chkEL] at h6; cases h6
     | cons a r =>
      simp only [chkEL, Bool.and_eq_true] at h6
      cases r with
      | nil => exact .of rfl rfl (snd_is g hk (sndE a _ X g h6.1.2).op h2 rfl h4 (bnames_of g h5) h6.1.1)
      | cons _ _ => simp only [chkEL] at h6; cases h6.2
    ·cases h
   ·rename_i ht
    split at h
    ·rename_i m p3 x1 y1 p4
     split at h
     ·simp only [Bool.and_eq_true, decide_eq_true_eq] at h
      obtain ⟨rfl, h2, rfl, h4, h5⟩ := h
      obtain ⟨_, h6, h7, h8⟩ := sndEL es _ X g h5
      simp only [List.all_cons, List.all_nil, Bool.and_true, Bool.and_eq_true] at h7
      exact .of rfl rfl (snd_listZip g h2 h4 h6 h7.1 h7.2 h8)
     ·simp only [Bool.and_eq_true, decide_eq_true_eq] at h
      obtain ⟨rfl, h2, rfl, h4, h5⟩ := h
      obtain ⟨_, h6, h7, h8⟩ := sndEL es _ X g h5
      simp only [List.all_cons, List.all_nil, Bool.and_true, Bool.and_eq_true] at h7
      exact .of rfl rfl (snd_listRg g h2 h4 h6 h7.1 h7.2 h8)
     ·rw [Bool.and_eq_true] at h
      obtain ⟨_, h6, h7, h8⟩ := sndEL es _ X g h.2
      exact .of rfl rfl (bi_case g h.1 h6 h7)
    ·rw [Bool.and_eq_true] at h
     obtain ⟨_, h6, h7, h8⟩ := sndEL es _ X g h.2
     exact .of rfl rfl (bi_case g h.1 h6 h7)
  ·cases h
 | .mt m a es, x, X, g, h => by
  simp only [chkE] at h
  split at h
  ·split at h
   ·rename_i x1 m1 apos y p
    unfold getB at h
    simp only [Bool.and_eq_true, decide_eq_true_eq] at h
    obtain ⟨⟨rfl, h0, h1, h2⟩, h3, h4, h5⟩ := h
    cases es with
    | nil => simp only [chkEL] at h5; cases h5
    | cons b r =>
     simp only [chkEL, Bool.and_eq_true] at h5
     simp only [elVal, Bool.and_eq_true, Bool.not_eq_true'] at h4
     cases r with
     | nil => exact .of rfl rfl (snd_get1 g (sndE a _ X g h3).op (sndE b _ X g h5.1.2).pe h4.1 h0 h1 h2)
     | cons _ _ => simp only [chkEL] at h5; cases h5.2
   ·rename_i x1 m1 apos y z p
    unfold getB at h
    simp only [Bool.and_eq_true, decide_eq_true_eq] at h
    obtain ⟨⟨rfl, h0, h1, h2⟩, hz, h3, h4, h5⟩ := h
    cases es with
    | nil => simp only [chkEL] at h5; cases h5
    | cons b r =>
     simp only [chkEL, Bool.and_eq_true] at h5
     simp only [elVal, Bool.and_eq_true, Bool.not_eq_true'] at h4
     cases r with
     | nil => simp only [chkEL] at h5; cases h5.2
     | cons d r2 =>
      simp only [chkEL, Bool.and_eq_true] at h5
      simp only [elVal, Bool.and_eq_true, Bool.not_eq_true'] at h4
      cases r2 with
      | nil => exact .of rfl rfl (snd_get2 g (sndE a _ X g h3).op (sndE b _ X g h5.1.2).pe (sndE d _ X g h5.2.1.2).pe h4.1 h4.2.1 h0 h1 hz h2)
      | cons _ _ => simp only [chkEL] at h5; cases h5.2.2
   ·cases h
  ·split at h
   ·simp only [Bool.and_eq_true, decide_eq_true_eq] at h
    obtain ⟨rfl, h0, h1, h2, h3, h4⟩ := h
    exact .of rfl rfl (snd_index (sndE a _ X g h3).op (sndEL es _ X g h4).2.1 h1 h0 h2)
   ·cases h
  ·split at h
   ·simp only [Bool.and_eq_true, decide_eq_true_eq] at h
    obtain ⟨rfl, h0, h1, h2, h3, h4⟩ := h
    exact .of rfl rfl (snd_count (sndE a _ X g h3).op (sndEL es _ X g h4).2.1 h1 h0 h2)
   ·cases h
  ·cases h
 | .sln e, x, X, g, h => by
  simp only [chkE] at h
  split at h
  ·simp only [Bool.and_eq_true, decide_eq_true_eq] at h
   obtain ⟨rfl, h2, rfl, h4, h5, h6⟩ := h
   exact .of rfl rfl (snd_sln g (sndE e _ X g h6).op h2 h4 h5)
  ·cases h
 | .lgk nm kvs k d, x, X, g, h => by
  simp only [chkE] at h
  split at h
  ·simp only [Bool.and_eq_true, decide_eq_true_eq] at h
   obtain ⟨rfl, h2, rfl, h4, rfl, h5, h6, h7⟩ := h
   exact .of rfl rfl (snd_lgk g (sndE k _ X g h7).pe h2 h4 h5 h6)
  ·cases h
 | .dpop i e, x, X, g, h => by
  simp only [chkE] at h
  split at h
  ·simp only [Bool.and_eq_true, decide_eq_true_eq] at h
   obtain ⟨rfl, h1, h2, h3, h4⟩ := h
   obtain ⟨n1, n2, n3, _⟩ := nameB_of g h1
   exact .of rfl rfl (snd_dpop n1 (sndE e _ X g h4).pe n3 h3 h2)
  ·cases h
 | .pop i es, x, X, g, h => by
  simp only [chkE] at h
  split at h
  ·rename_i x1 m1 apos ys p
   simp only [Bool.and_eq_true, decide_eq_true_eq] at h
   obtain ⟨rfl, h1, h2, h3, h4⟩ := h
   obtain ⟨n1, n2, n3, _⟩ := nameB_of g h1
   obtain ⟨_, h6, h7, h8⟩ := sndEL es _ X g h4
   match ys, h6, h7, h8, h3 with
   | [], h6, h7, h8, _ =>
    have := elLen0 h8
    subst this
    exact .of rfl rfl (snd_pop0 n1 n3 h2)
   | [y], h6, h7, h8, _ =>
    rw [List.all_cons, Bool.and_eq_true] at h7
    exact .of rfl rfl (snd_pop1 n1 h6 h7.1 n3 h2 h8)
   | _ :: _ :: _, _, _, _, h3 => exact absurd (Nat.le_of_ble_eq_true h3) (by simp)
  ·cases h
 | .getf i f j, x, X, g, h => by
  simp only [chkE] at h
  split at h
  ·simp only [Bool.and_eq_true, decide_eq_true_eq] at h
   obtain ⟨rfl, rfl, h1, h2, h3⟩ := h
   obtain ⟨n1, _, _, _⟩ := nameB_of g h1
   obtain ⟨m1, _, m3, m4⟩ := nameB_of g h2
   exact .of rfl rfl (snd_getf g n1 m1 h3 m4)
  ·cases h
 | .fgu i f j, x, X, g, h => by
  simp only [chkE] at h
  split at h
  ·simp only [Bool.and_eq_true, decide_eq_true_eq] at h
   obtain ⟨rfl, h1, h2, h3⟩ := h
   obtain ⟨n1, _, _, _⟩ := nameB_of g h1
   obtain ⟨m1, _, m3, m4⟩ := nameB_of g h2
   exact .of rfl rfl (snd_fgu g n1 m1 h3)
  ·cases h
 | .fni i f j, x, X, g, h => by
  simp only [chkE] at h
  split at h
  ·simp only [Bool.and_eq_true, decide_eq_true_eq] at h
   obtain ⟨rfl, rfl, h1, h2⟩ := h
   obtain ⟨n1, _, _, _⟩ := nameB_of g h1
   obtain ⟨m1, _, m3, m4⟩ := nameB_of g h2
   exact pb_cmp rfl (snd_fni g n1 m1 rfl)
  ·cases h
 | .getn i k0, x, X, g, h => by
  simp only [chkE] at h
  split at h
  ·simp only [Bool.and_eq_true, decide_eq_true_eq] at h
   obtain ⟨rfl, h1, h2, h3, h4⟩ := h
   obtain ⟨n1, _, n3, _⟩ := nameB_of g h1
   exact .of rfl rfl (snd_getn (jj := 0) g n1 (sndE k0 _ X g h4).pe h3 h2 n3)
  ·cases h
 | .cm f es fs, x, X, g, h => by
  simp only [chkE] at h
  split at h
  ·rename_i n p2 m apos xs p
   simp only [Bool.and_eq_true] at h
   obtain ⟨h1, h2, h3, h4⟩ := h
   unfold cmB at h1
   rw [Bool.and_eq_true] at h1
   obtain ⟨h1, h5⟩ := h1
   split at h5
   ·rename_i F hF hM
    simp only [Bool.and_eq_true, decide_eq_true_eq, Bool.not_eq_true'] at h5
    obtain ⟨k1, k2, k3, k4⟩ := h5
    obtain ⟨_, h6, h7, h8⟩ := sndEL es _ X g h4
    obtain ⟨q, hq⟩ := fld_ob g k3 k4
    exact .of rfl rfl (snd_cm g hF hM hq k1 (nm_pe h1) k2 k4 h6 h7 h2 (Nat.lt_of_le_of_lt (Nat.le_of_ble_eq_true h3) (by decide)) (fun z => by rw [z] at h8; exact elLen0 h8))
   ·cases h5
  ·cases h
 | .lgt i k0, x, X, g, h => by
  simp only [chkE] at h
  split at h
  ·simp only [Bool.and_eq_true, decide_eq_true_eq] at h
   obtain ⟨rfl, h1, rfl, h2, h3, h4, h5⟩ := h
   obtain ⟨n1, _, n3, _⟩ := nameB_of g h2
   exact .of rfl rfl (snd_lgt g n1 (sndE k0 _ X g h5).pe n3 h3 h4 h1)
  ·cases h
 | .hln i j, x, X, g, h => by
  simp only [chkE] at h
  split at h
  ·simp only [Bool.and_eq_true, decide_eq_true_eq] at h
   obtain ⟨rfl, rfl, rfl, rfl, h1, h2, h3, h4, h5, h6, h7⟩ := h
   obtain ⟨n1, _, n3, _⟩ := nameB_of g h1
   have hb := blk_of h4
   have hN : ∀ n, X.N[j]? = some n → ownN X.N [j] = [(n, j)] := fun n h3 => by
    unfold ownN
    rw [List.map_cons, h3]
    rfl
   rw [hN _ h3] at hb
   exact .of rfl rfl (snd_hln g n1 n3 h2 hb h3 h5 h6 h7)
  ·cases h
 | .hst i k0, x, X, g, h => by
  simp only [chkE] at h
  split at h
  ·simp only [Bool.and_eq_true, decide_eq_true_eq] at h
   obtain ⟨rfl, h1, h2, h3, h4⟩ := h
   obtain ⟨n1, _, n3, _⟩ := nameB_of g h2
   exact .of rfl rfl (snd_hst g n1 (sndE k0 _ X g h4).pe h3 h1)
  ·cases h
 | .comp own tg it ts e, x, X, g, h => by
  simp only [chkE] at h
  split at h
  ·simp only [Bool.and_eq_true, decide_eq_true_eq] at h
   obtain ⟨rfl, h1, h2, h3, h4, h5, h6, h7⟩ := h
   exact .of rfl rfl (snd_comp g (sndIt it _ _ X g h4) (blk_of h1) (ownN_snd _ _) (own_of h2) (fun X' g' e1 _ e3 => tgt_w (tgt_of g'.nd g'.calm (fun i n hl => LocG.of hl) g'.pm tg _ (by rw [e1, e3]; exact h5)) (chkIt_w h4))
    (fun X' g' e1 _ e3 => sndTs ts _ X' g' (by rw [e1, e3]; exact h6)) (fun X' g' e1 _ e3 => (sndE e _ X' g' (by rw [e1, e3]; exact h7)).pe) h3)
  ·cases h
theorem sndEL : ∀ (es : EL) (xs : List Expr) (X : Cx), Good T k cx X → chkEL T X.N X.env.scope es xs = true → PA X xs (TPs X.K cx (evp cx es)) ∧ PA X xs (TAr X.K cx (evl cx es)) ∧ xs.all notStar = true ∧ elLen es = xs.length
 | .nil, xs, X, g, h => by
  cases xs with
  | nil => exact ⟨ps_nil, ar_nil, rfl, rfl⟩
  | cons _ _ => simp only [chkEL] at h; cases h
 | .cons e r, xs, X, g, h => by
  cases xs with
  | nil => simp only [chkEL] at h; cases h
  | cons x xs =>
   simp only [chkEL, Bool.and_eq_true] at h
   have ih := sndE e x X g h.1.2
   obtain ⟨h1, h2, h3, h4⟩ := sndEL r xs X g h.2
   exact ⟨ps_cons ih.pe h1 (star_of h.1.1), ar_cons ih.op h2 h.1.1, by rw [List.all_cons, h.1.1, h3]; rfl, by rw [List.length_cons, elLen, h4]⟩
theorem sndKv {pos : Pos} : ∀ (es : EL) (ks : List (Option Expr)) (vs : List Expr) (X : Cx), Good T k cx X → chkKv T X.N X.env.scope es ks vs = true → ∃ trs, KvOk X cx pos es ks vs trs
 | .nil, ks, vs, X, g, h => by
  simp only [chkKv, Bool.and_eq_true, List.isEmpty_iff] at h
  obtain ⟨rfl, rfl⟩ := h
  exact ⟨[], .nil⟩
 | .cons f0 .nil, ks, vs, X, g, h => by
  simp only [chkKv] at h
  cases h
 | .cons f0 (.cons e r), ks, vs, X, g, h => by
  simp only [chkKv] at h
  split at h
  ·simp only [Bool.and_eq_true, decide_eq_true_eq] at h
   obtain ⟨rfl, h1, h2, h3, h4⟩ := h
   obtain ⟨trs, h5⟩ := sndKv (pos := pos) r _ _ X g h4
   exact ⟨_, .cons (keyOk_of h1 h2) (sndE e _ X g h3).pe h5⟩
  ·simp only [Bool.and_eq_true, decide_eq_true_eq] at h
   obtain ⟨rfl, h3, h4⟩ := h
   obtain ⟨trs, h5⟩ := sndKv (pos := pos) r _ _ X g h4
   exact ⟨_, .consI (sndE e _ X g h3).pe h5⟩
  ·cases h
theorem sndTs : ∀ (es : EL) (xs : List Expr) (X : Cx), Good T k cx X → chkTs T X.N X.env.scope es xs = true → PTs X xs (TTt X.K cx (evt cx es))
 | .nil, xs, X, g, h => by
  simp only [chkTs, List.isEmpty_iff] at h
  subst h
  exact ts_nil
 | .cons e .nil, xs, X, g, h => by
  simp only [chkTs] at h
  split at h
  ·rw [Bool.and_eq_true] at h
   exact ts_one ((sndE e _ X g h.2).pt h.1)
  ·cases h
 | .cons _ (.cons _ _), xs, X, g, h => by
  simp only [chkTs] at h
  cases h
theorem sndIt : ∀ (it : It) (tg x : Expr) (X : Cx), Good T k cx X → chkIt T X.N X.env.scope tg it x = true → PI X tg x (TIt X.K cx (itW it) (evit cx it))
 | .of e, tg, x, X, g, h => by
  simp only [chkIt] at h
  exact pi_of (sndE e x X g h).pe
 | .lk i, tg, x, X, g, h => by
  simp only [chkIt] at h
  exact pi_lk (nameB_of g h).1
 | .vals i, tg, x, X, g, h => by
  simp only [chkIt] at h
  split at h
  ·simp only [Bool.and_eq_true, decide_eq_true_eq] at h
   obtain ⟨rfl, h1, h2⟩ := h
   obtain ⟨n1, _, n3, _⟩ := nameB_of g h1
   exact pi_vals n1 n3 h2
  ·cases h
 | .rg es, tg, x, X, g, h => by
  simp only [chkIt] at h
  split at h
  ·rename_i n p2 xs p
   simp only [Bool.and_eq_true, decide_eq_true_eq] at h
   obtain ⟨rfl, h1, h2, h3, h4⟩ := h
   obtain ⟨_, h6, h7, h8⟩ := sndEL es _ X g h2
   match xs, h6, h7, h8, h3, h4 with
   | [], _, _, _, h3, _ => cases h3
   | [x1], h6, h7, h8, _, _ =>
    rw [List.all_cons, Bool.and_eq_true] at h7
    exact pi_rg1 g h1 h6 h7.1 h8
   | [x1, y1], h6, h7, h8, _, _ =>
    simp only [List.all_cons, List.all_nil, Bool.and_true, Bool.and_eq_true] at h7
    exact pi_rg2 g h1 h6 h7.1 h7.2 h8
   | [x1, y1, z1], h6, h7, h8, _, _ =>
    rw [List.all_cons, Bool.and_eq_true] at h7
    exact pi_rg3 g h1 h6 h7.1 h7.2 h8
   | _ :: _ :: _ :: _ :: _, _, _, _, _, h4 => exact absurd (Nat.le_of_ble_eq_true h4) (by simp)
  ·cases h
 | .en e, tg, x, X, g, h => by
  simp only [chkIt] at h
  split at h
  ·simp only [Bool.and_eq_true, decide_eq_true_eq] at h
   obtain ⟨rfl, h1, h2, h3, h4⟩ := h
   obtain ⟨xs, j, p, rfl⟩ := tup_of h3
   exact pi_en g h1 (sndE e _ X g h4).pe h2
  ·cases h
 | .zp a b, tg, x, X, g, h => by
  simp only [chkIt] at h
  split at h
  ·simp only [Bool.and_eq_true, decide_eq_true_eq] at h
   obtain ⟨rfl, h1, h2, h3, h4, h5, h6⟩ := h
   obtain ⟨xs, j, p, rfl⟩ := tup_of h4
   exact pi_zp g h1 (sndE a _ X g h5).pe (sndE b _ X g h6).pe h2 h3
  ·cases h
end
end
end Mn
end
section
set_option maxHeartbeats 200000
namespace Mn
open PySem L2 PySem.Spec
variable [WW] [FX]
def notLocB (sc : Scope) (n : Str) : Bool := !(sc.names.lookup n == some .local)
def setB (N : List Str) (sc : Scope) (i : Nat) (n : Str) (p2 : Pos) (z : Expr) : Bool := locC N sc i n && (notComp z || (match z with
 | .ListComp _ _ scope p3 => notLocB sc n || (!(p2.line == p3.line) || (scope.names.any fun (n', k) => n' == n && (k == .local || k == .cell)))
 | _ => false))
def setLcB (N : List Str) (sc : Scope) (i : Nat) (n : Str) (p2 : Pos) (z : Expr) : Bool := locB N sc i n && (match z with
 | .ListComp _ _ scope p3 => (p2.line == p3.line) && !(scope.names.any fun (n', k) => n' == n && (k == .local || k == .cell))
 | _ => false)
def isCmp : E → Bool
 | .comp _ _ _ _ _ => true
 | _ => false
mutual
def chkS (T : Tab) (N : List Str) (sc : Scope) : S → Stmt → Bool
 | .asg tg e, s => match tg with
  | .nm i => match s with
   | .Assign [.Name n p2] z _ => (setB N sc i n p2 z || (isCmp e && setLcB N sc i n p2 z)) && chkE T N sc e z
   | _ => false
  | .tp ts => match s with
   | .Assign [.Tuple xs k p2] z _ => notComp z && (tupOk sc xs z && (chkTg N sc locC (.tp ts) (.Tuple xs k p2) && chkE T N sc e z))
   | _ => false
 | .par i j a b, s => match s with
  | .Assign [.Tuple [.Name n1 p1, .Name n2 p2] _ _] (.Tuple [x, y] _ _) _ => locB N sc i n1 && (locB N sc j n2 && (!(decide (i = j)) && (parB sc n1 n2 p1 p2 x y && (chkE T N sc a x && chkE T N sc b y))))
  | _ => false
 | .sto i k e, s => match s with
  | .Assign [.Subscript x y _] z _ => nameB N sc i x && (notTupE z && (notSlice y && (chkE T N sc k y && chkE T N sc e z)))
  | _ => false
 | .stn i k e, s => match s with
  | .Assign [.Subscript x y _] z _ => nameB N sc i x && (chkE T N sc k y && chkE T N sc e z)
  | _ => false
 | .stt i ks e, s => match s with
  | .Assign [.Subscript x (.Tuple ys _ _) _] z _ => nameB N sc i x && (nlen (elLen ks) && (chkEL T N sc ks ys && chkE T N sc e z))
  | _ => false
 | .stf i f k e, s => match s with
  | .Assign [.Subscript (.Subscript x (.Constant (.str f') _ _) _) y _] z _ => decide (f = f') && (nameB N sc i x && (chkE T N sc k y && chkE T N sc e z))
  | _ => false
 | .stg i f k e, s => match s with
  | .Assign [.Subscript (.Subscript x (.Constant (.str f') _ _) _) y _] z _ => decide (f = f') && (nameB N sc i x && (chkE T N sc k y && chkE T N sc e z))
  | _ => false
 | .app i e, s => match s with
  | .Expr (.Call (.Attribute x m apos) [y] [] p2) _ => decide (m = Str.ofString "append") && (nameB N sc i x && (notStar y && ((apos.endLine == p2.line) && chkE T N sc e y)))
  | _ => false
 | .ext i e, s => match s with
  | .Expr (.Call (.Attribute x m apos) [y] [] p2) _ => decide (m = Str.ofString "extend") && (nameB N sc i x && (notStar y && ((apos.endLine == p2.line) && chkE T N sc e y)))
  | _ => false
 | .upd i e, s => match s with
  | .Expr (.Call (.Attribute x m apos) [y] [] p2) _ => decide (m = Str.ofString "update") && (nameB N sc i x && (notStar y && ((apos.endLine == p2.line) && chkE T N sc e y)))
  | _ => false
 | .sda i k e, s => match s with
  | .Expr (.Call (.Attribute (.Call (.Attribute x m apos) [y, .List [] _] [] cpos) m2 apos2) [z] [] p2) _ => decide (m = Str.ofString "setdefault") && (decide (m2 = Str.ofString "append") && (nameB N sc i x && (notStar y && (notStar z && ((apos.endLine == cpos.line) && ((apos2.endLine == p2.line) && (chkE T N sc k y && chkE T N sc e z)))))))
  | _ => false
 | .sdu i k e, s => match s with
  | .Expr (.Call (.Attribute x m apos) [y, z] [] p2) _ => decide (m = Str.ofString "setdefault") && (nameB N sc i x && (notStar y && (notStar z && ((apos.endLine == p2.line) && (chkE T N sc k y && chkE T N sc e z)))))
  | _ => false
 | .sdh i k e, s => match s with
  | .Expr (.Call (.Attribute (.Call (.Attribute x m apos) [y, .List [] _] [] cpos) m2 apos2) [z] [] p2) _ => decide (m = Str.ofString "setdefault") && (decide (m2 = Str.ofString "append") && (nameB N sc i x && (notStar y && (notStar z && ((apos.endLine == cpos.line) && ((apos2.endLine == p2.line) && (chkE T N sc k y && chkE T N sc e z)))))))
  | _ => false
 | .sdd i k j e, s => match s with
  | .Assign [.Subscript (.Call (.Attribute x m apos) [y, .Dict [] [] _] [] cpos) y2 _] z _ => decide (m = Str.ofString "setdefault") && (nameB N sc i x && (notStar y && ((apos.endLine == cpos.line) && (chkE T N sc k y && (chkE T N sc j y2 && chkE T N sc e z)))))
  | _ => false
 | .expr e, s => match s with
  | .Expr x _ => notComp x && chkE T N sc e x
  | _ => false
 | .aug i op e, s => match s with
  | .AugAssign (.Name n _) o x _ => locC N sc i n && (decide (o = bOp op) && chkE T N sc e x)
  | _ => false
 | .ifs c a b, s => match s with
  | .If x p q _ => (notIf x && chkE T N sc c x) && (chkSL T N sc a p && chkSL T N sc b q)
  | _ => false
 | .fr tg it b, s => match s with
  | .For x y p [] _ => notSet y && (chkIt T N sc x it y && (chkTg N sc locC tg x && chkSL T N sc b p))
  | _ => false
 | .wh c b, s => match s with
  | .While x p [] _ => (notIf x && chkE T N sc c x) && chkSL T N sc b p
  | _ => false
 | .ret e, s => match s with
  | .Return (some x) _ => chkE T N sc e x
  | _ => false
 | .ret0, s => match s with
  | .Return none _ => true
  | _ => false
 | .cont, s => match s with
  | .Continue _ => true
  | _ => false
 | .brk, s => match s with
  | .Break _ => true
  | _ => false
 | .pass, s => match s with
  | .Pass _ => true
  | _ => false
def chkSL (T : Tab) (N : List Str) (sc : Scope) : SL → List Stmt → Bool
 | .nil, l => l.isEmpty
 | .cons s r, l => match l with
  | x :: xs => chkS T N sc s x && chkSL T N sc r xs
  | [] => false
end
section
variable {T : Tab} {k : Nat} {cx : Cxt}
theorem ops_of {op : BOp} {o : Operator} {x : Expr} {X : Cx} {t : TS} {tg : Expr} {p : Pos} (h : o = bOp op) (hp : PS X (.AugAssign tg (bOp op) x p) t) : PS X (.AugAssign tg o x p) t := by subst h; exact hp
set_option maxHeartbeats 4000000 in
mutual
theorem sndS : ∀ (s : S) (x : Stmt) (X : Cx), Good T k cx X → (∀ n, X.fn n = true) → X.env.scope.kind = .function → chkS T X.N X.env.scope s x = true → PS X x (TSt X.K cx (evs cx s))
 | .asg tg e, x, X, g, fn, hk, h => by
  simp only [chkS] at h
  split at h
  ·rename_i i
   split at h
   ·rename_i n p2 z p
    simp only [Bool.and_eq_true, Bool.or_eq_true] at h
    obtain ⟨h1, h2⟩ := h
    rcases h1 with h1 | h1
    ·unfold setB at h1
     simp only [Bool.and_eq_true, Bool.or_eq_true] at h1
     obtain ⟨h3, h4⟩ := h1
     refine snd_set g (LocG.ofC (fun n _ => fn n) h3) (sndE e z X g h2).pe ?_
     rcases h4 with h4 | h4
     ·exact swaps_of h4
     ·split at h4
      ·rename_i e1 gs scope p3
       unfold swapsWith
       simp only [Bool.or_eq_true, Bool.not_eq_true'] at h4
       unfold notLocB at h4
       have key : (X.env.blockKind == .function && X.env.kindOf n == some .local && p2.line == (Expr.ListComp e1 gs scope p3).pos.line && !(scope.names.any fun (n', k) => n' == n && (k == .local || k == .cell))) = false := by
        rcases h4 with h4 | h4 | h4
        ·have : (X.env.kindOf n == some .local) = false := by
          show (X.env.scope.names.lookup n == some .local) = false
          rw [Bool.not_eq_true'] at h4
          exact h4
         rw [this]; simp
        ·have : (p2.line == (Expr.ListComp e1 gs scope p3).pos.line) = false := h4
         rw [this]; simp
        ·rw [h4]; simp
       show pure _ = _
       exact congrArg pure key
      ·cases h4
    ·obtain ⟨hc, h1⟩ := h1
     unfold setLcB at h1
     simp only [Bool.and_eq_true] at h1
     obtain ⟨h3, h4⟩ := h1
     split at h4
     ·rename_i e1 gs scope p3
      simp only [Bool.and_eq_true, Bool.not_eq_true'] at h4
      cases e <;> first | (cases hc; done) | skip
      rename_i own tg it ts e0
      simp only [chkE] at h2
      split at h2
      ·rename_i z0 x0 y0 ifs asy sc0 p0 hq
       cases hq
       simp only [Bool.and_eq_true, decide_eq_true_eq] at h2
       obtain ⟨rfl, k1, k2, k3, k4, k5, k6, k7⟩ := h2
       exact snd_setLc g h3 (sndIt it _ _ X g k4) (blk_of k1) (ownN_snd _ _) (own_of k2) (fun X' g' e1 _ e3 => tgt_w (tgt_of g'.nd g'.calm (fun i n hl => LocG.of hl) g'.pm tg _ (by rw [e1, e3]; exact k5)) (chkIt_w k4))
        (fun X' g' e1 _ e3 => sndTs ts _ X' g' (by rw [e1, e3]; exact k6)) (fun X' g' e1 _ e3 => (sndE e0 _ X' g' (by rw [e1, e3]; exact k7)).pe) k3 hk h4.1 h4.2
      ·cases h2
     ·cases h4
   ·cases h
  ·rename_i ts
   split at h
   ·rename_i xs j p2 z p
    simp only [Bool.and_eq_true] at h
    obtain ⟨h1, h2, h3, h4⟩ := h
    exact snd_asgT g (sndE e z X g h4).pe (tgt_of g.nd g.calm (fun i n hl => LocG.ofC (fun n _ => fn n) hl) g.pm _ _ h3).1 h1 h2
   ·cases h
 | .par i j a b, x, X, g, fn, hk, h => by
  simp only [chkS] at h
  split at h
  ·simp only [Bool.and_eq_true, Bool.not_eq_true', decide_eq_false_iff_not] at h
   obtain ⟨h1, h2, h3, h4, h5, h6⟩ := h
   exact snd_par g h1 h2 h3 h4 (sndE a _ X g h5).pe (sndE b _ X g h6).pe
  ·cases h
 | .sto i k0 e, x, X, g, fn, hk, h => by
  simp only [chkS] at h
  split at h
  ·simp only [Bool.and_eq_true] at h
   obtain ⟨h1, h3, h4, h5, h6⟩ := h
   exact snd_sto g (nameB_of g h1).1 (sndE k0 _ X g h5).pe (sndE e _ X g h6).pe h3 h4
  ·cases h
 | .stn i k0 e, x, X, g, fn, hk, h => by
  simp only [chkS] at h
  split at h
  ·simp only [Bool.and_eq_true] at h
   obtain ⟨h1, h5, h6⟩ := h
   exact snd_stn g (nameB_of g h1).1 (sndE k0 _ X g h5).pe (sndE e _ X g h6).pe
  ·cases h
 | .stt i ks e, x, X, g, fn, hk, h => by
  simp only [chkS] at h
  split at h
  ·simp only [Bool.and_eq_true] at h
   obtain ⟨h1, h3, h4, h5⟩ := h
   exact snd_stt g (nameB_of g h1).1 (sndEL ks _ X g h4).1 (sndE e _ X g h5).pe (nlen_of h3)
  ·cases h
 | .stf i f k0 e, x, X, g, fn, hk, h => by
  simp only [chkS] at h
  split at h
  ·simp only [Bool.and_eq_true, decide_eq_true_eq] at h
   obtain ⟨rfl, h1, h3, h4⟩ := h
   exact snd_stf g (nameB_of g h1).1 (sndE k0 _ X g h3).pe (sndE e _ X g h4).pe
  ·cases h
 | .stg i f k0 e, x, X, g, fn, hk, h => by
  simp only [chkS] at h
  split at h
  ·simp only [Bool.and_eq_true, decide_eq_true_eq] at h
   obtain ⟨rfl, h1, h3, h4⟩ := h
   exact snd_stg g (nameB_of g h1).1 (sndE k0 _ X g h3).pe (sndE e _ X g h4).pe
  ·cases h
 | .app i e, x, X, g, fn, hk, h => by
  simp only [chkS] at h
  split at h
  ·simp only [Bool.and_eq_true, decide_eq_true_eq] at h
   obtain ⟨rfl, h1, h2, h3, h4⟩ := h
   obtain ⟨n1, _, n3, _⟩ := nameB_of g h1
   exact snd_app n1 (sndE e _ X g h4).pe n3 h2 h3
  ·cases h
 | .ext i e, x, X, g, fn, hk, h => by
  simp only [chkS] at h
  split at h
  ·simp only [Bool.and_eq_true, decide_eq_true_eq] at h
   obtain ⟨rfl, h1, h2, h3, h4⟩ := h
   obtain ⟨n1, _, n3, _⟩ := nameB_of g h1
   exact snd_ext n1 (sndE e _ X g h4).pe n3 h2 h3
  ·cases h
 | .upd i e, x, X, g, fn, hk, h => by
  simp only [chkS] at h
  split at h
  ·simp only [Bool.and_eq_true, decide_eq_true_eq] at h
   obtain ⟨rfl, h1, h2, h3, h4⟩ := h
   obtain ⟨n1, _, n3, _⟩ := nameB_of g h1
   exact snd_upd g n1 (sndE e _ X g h4).pe n3 h2 h3
  ·cases h
 | .sda i k0 e, x, X, g, fn, hk, h => by
  simp only [chkS] at h
  split at h
  ·simp only [Bool.and_eq_true, decide_eq_true_eq] at h
   obtain ⟨rfl, rfl, h1, h2, h3, h4, h5, h6, h7⟩ := h
   obtain ⟨n1, _, n3, _⟩ := nameB_of g h1
   exact snd_sda n1 (sndE k0 _ X g h6).pe (sndE e _ X g h7).pe n3 h2 h3 h4 h5
  ·cases h
 | .sdu i k0 e, x, X, g, fn, hk, h => by
  simp only [chkS] at h
  split at h
  ·simp only [Bool.and_eq_true, decide_eq_true_eq] at h
   obtain ⟨rfl, h1, h2, h3, h4, h6, h7⟩ := h
   obtain ⟨n1, _, n3, _⟩ := nameB_of g h1
   exact snd_sdu g n1 (sndE k0 _ X g h6).pe (sndE e _ X g h7).pe n3 h2 h3 h4
  ·cases h
 | .sdh i k0 e, x, X, g, fn, hk, h => by
  simp only [chkS] at h
  split at h
  ·simp only [Bool.and_eq_true, decide_eq_true_eq] at h
   obtain ⟨rfl, rfl, h1, h2, h3, h4, h5, h6, h7⟩ := h
   obtain ⟨n1, _, n3, _⟩ := nameB_of g h1
   exact snd_sdh g n1 (sndE k0 _ X g h6).pe (sndE e _ X g h7).pe n3 h2 h3 h4 h5
  ·cases h
 | .sdd i k0 j e, x, X, g, fn, hk, h => by
  simp only [chkS] at h
  split at h
  ·simp only [Bool.and_eq_true, decide_eq_true_eq] at h
   obtain ⟨rfl, h1, h2, h3, h4, h5, h6⟩ := h
   obtain ⟨n1, _, n3, _⟩ := nameB_of g h1
   exact snd_sdd g n1 (sndE k0 _ X g h4).pe (sndE j _ X g h5).pe (sndE e _ X g h6).pe n3 h2 h3
  ·cases h
 | .expr e, x, X, g, fn, hk, h => by
  simp only [chkS] at h
  split at h
  ·rw [Bool.and_eq_true] at h
   exact snd_expr (sndE e _ X g h.2).pe h.1
  ·cases h
 | .aug i op e, x, X, g, fn, hk, h => by
  simp only [chkS] at h
  split at h
  ·simp only [Bool.and_eq_true, decide_eq_true_eq] at h
   obtain ⟨h1, h2, h3⟩ := h
   exact ops_of h2 (snd_aug g (LocG.ofC (fun n _ => fn n) h1) (sndE e _ X g h3).pe)
  ·cases h
 | .ifs c a b, x, X, g, fn, hk, h => by
  simp only [chkS] at h
  split at h
  ·simp only [Bool.and_eq_true] at h
   exact snd_if ((sndE c _ X g h.1.2).pt h.1.1) (sndSL a _ X g fn hk h.2.1) (sndSL b _ X g fn hk h.2.2)
  ·cases h
 | .fr tg it b, x, X, g, fn, hk, h => by
  simp only [chkS] at h
  split at h
  ·simp only [Bool.and_eq_true] at h
   obtain ⟨h1, h2, h3, h4⟩ := h
   exact snd_fr g (sndIt it _ _ X g h2) (tgt_w (tgt_of g.nd g.calm (fun i n hl => LocG.ofC (fun n _ => fn n) hl) g.pm _ _ h3) (chkIt_w h2)) (sndSL b _ X g fn hk h4) h1
  ·cases h
 | .wh c b, x, X, g, fn, hk, h => by
  simp only [chkS] at h
  split at h
  ·simp only [Bool.and_eq_true] at h
   exact snd_wh g ((sndE c _ X g h.1.2).pt h.1.1) (sndSL b _ X g fn hk h.2)
  ·cases h
 | .ret e, x, X, g, fn, hk, h => by
  simp only [chkS] at h
  split at h
  ·exact snd_ret (sndE e _ X g h).pe
  ·cases h
 | .ret0, x, X, g, fn, hk, h => by
  simp only [chkS] at h
  split at h
  ·exact snd_ret0
  ·cases h
 | .cont, x, X, g, fn, hk, h => by
  simp only [chkS] at h
  split at h
  ·exact snd_cont
  ·cases h
 | .brk, x, X, g, fn, hk, h => by
  simp only [chkS] at h
  split at h
  ·exact snd_brk
  ·cases h
 | .pass, x, X, g, fn, hk, h => by
  simp only [chkS] at h
  split at h
  ·exact snd_pass
  ·cases h
theorem sndSL : ∀ (s : SL) (xs : List Stmt) (X : Cx), Good T k cx X → (∀ n, X.fn n = true) → X.env.scope.kind = .function → chkSL T X.N X.env.scope s xs = true → PSs X xs (TSt X.K cx (evss cx s))
 | .nil, xs, X, g, fn, hk, h => by
  simp only [chkSL, List.isEmpty_iff] at h
  subst h
  exact ss_nil
 | .cons s r, xs, X, g, fn, hk, h => by
  cases xs with
  | nil => simp only [chkSL] at h; cases h
  | cons x xs =>
   simp only [chkSL, Bool.and_eq_true] at h
   exact ss_cons (sndS s x X g fn hk h.1) (sndSL r xs X g fn hk h.2)
end
end
end Mn
end
section
set_option maxHeartbeats 200000
namespace Mn
open PySem L2 PySem.Spec
variable [WW] [FX]
section
variable {K : PySem.W.Frag} {Z H Z' H' : Hp}
def fpOf (Gs : List (List Addr)) (i : Nat) : List Addr := (Gs[i]?).getD []
theorem inL_fp {Gs : List (List Addr)} {a : Addr} : inL Gs a ↔ U (fpOf Gs) a := by
 constructor
 ·rintro ⟨G, hG, ha⟩
  obtain ⟨i, hi⟩ := List.mem_iff_getElem?.mp hG
  exact ⟨i, by unfold fpOf; rw [hi]; exact ha⟩
 ·rintro ⟨i, ha⟩
  unfold fpOf at ha
  cases h : Gs[i]? with
  | none => rw [h] at ha; cases ha
  | some G => rw [h] at ha; exact ⟨G, List.mem_of_getElem? h, ha⟩
theorem ArgO.lens {ms : List M} {vs : List V} {Gs : List (List Addr)} (a : ArgO K Z H ms vs Gs) : vs.length = ms.length ∧ Gs.length = ms.length := by
 induction a with
 | nil => exact ⟨rfl, rfl⟩
 | cons _ _ _ ih => exact ⟨by rw [List.length_cons, List.length_cons, ih.1], by rw [List.length_cons, List.length_cons, ih.2]⟩
theorem ArgO.get {ms : List M} {vs : List V} {Gs : List (List Addr)} (a : ArgO K Z H ms vs Gs) : ∀ {i : Nat} {m : M}, ms[i]? = some m → ∃ v, vs[i]? = some v ∧ Own K Z H m v (fpOf Gs i) := by
 induction a with
 | nil => intro i m h; simp at h
 | @cons m0 v0 G0 ms vs Gs o _ _ ih =>
  intro i m h
  cases i with
  | zero => simp at h; subst h; exact ⟨v0, rfl, o⟩
  | succ i =>
   obtain ⟨v, h1, h2⟩ := ih (i := i) (m := m) (by simpa using h)
   exact ⟨v, by simpa using h1, by simpa [fpOf] using h2⟩
theorem ArgO.dj {ms : List M} {vs : List V} {Gs : List (List Addr)} (a : ArgO K Z H ms vs Gs) : ∀ {i j : Nat} {x : Addr}, x ∈ fpOf Gs i → x ∈ fpOf Gs j → i = j := by
 induction a with
 | nil => intro i j x h; simp [fpOf] at h
 | @cons m0 v0 G0 ms vs Gs o _ d ih =>
  have key : ∀ {j : Nat} {x : Addr}, x ∈ G0 → x ∈ fpOf (G0 :: Gs) (j + 1) → False := fun {j x} h1 h2 => by
   have h2 : x ∈ fpOf Gs j := by simpa [fpOf] using h2
   obtain ⟨G, hG, hx⟩ := inL_fp.mpr ⟨j, h2⟩
   exact d x h1 G hG hx
  intro i j x h1 h2
  cases i with
  | zero =>
   cases j with
   | zero => rfl
   | succ j => exact (key (by simpa [fpOf] using h1) h2).elim
  | succ i =>
   cases j with
   | zero => exact (key (by simpa [fpOf] using h2) h1).elim
   | succ j => rw [ih (i := i) (j := j) (by simpa [fpOf] using h1) (by simpa [fpOf] using h2)]
def rho0 (ms : List M) (n : Nat) : Env := ms.map some ++ List.replicate (n - ms.length) none
theorem rho0_slot {ms : List M} {n i : Nat} : slot (rho0 ms n) i = ms[i]? := by
 unfold slot rho0
 by_cases h : i < ms.length
 ·rw [List.getElem?_append_left (by simpa using h), List.getElem?_map, List.getElem?_eq_getElem h]; rfl
 ·rw [List.getElem?_append_right (by simpa using h), List.getElem?_replicate, List.getElem?_eq_none (by omega : ms.length ≤ i)]
  split <;> rfl
theorem start_get {N : List Str} {vs : List V} {i : Nat} {v : V} (h : vs[i]? = some v) : (L2.start N vs)[i]? = some (some v) := by
 unfold L2.start
 have hi := (List.getElem?_eq_some_iff.mp h).1
 rw [List.getElem?_append_left (by simpa using hi), List.getElem?_map, h]
 rfl
theorem entry_rel {N : List Str} {ms : List M} {vs : List V} {Gs : List (List Addr)} (s : Sub Z H) (a : ArgO K Z H ms vs Gs) (hl : ms.length ≤ N.length) (hfx : FXok (L2.start N vs) H) : Rel K Z H (L2.start N vs) (rho0 ms N.length) (fpOf Gs) := by
 obtain ⟨l1, l2⟩ := a.lens
 refine ⟨s, ?_, fun i m e => ?_, fun i e => ?_, fun i j x h1 h2 => a.dj h1 h2, hfx⟩
 ·unfold L2.start rho0
  simp [l1]
 ·rw [rho0_slot] at e
  obtain ⟨v, h1, h2⟩ := a.get e
  exact ⟨v, start_get h1, h2⟩
 ·rw [rho0_slot] at e
  unfold fpOf
  have : ms.length ≤ i := by
   rcases Nat.lt_or_ge i ms.length with h | h
   ·rw [List.getElem?_eq_getElem h] at e; cases e
   ·exact h
  rw [List.getElem?_eq_none (by omega)]
  rfl
def outG (F : Nat → List Addr) : List M → Nat → List (List Addr)
 | [], _ => []
 | m :: ms, j => (if isMut m = true then F j else []) :: outG F ms (j + 1)
theorem outG_mem {F : Nat → List Addr} {a : Addr} : ∀ {ms : List M} {j : Nat}, inL (outG F ms j) a → ∃ i, j ≤ i ∧ a ∈ F i
 | [], _, ⟨_, h, _⟩ => by cases h
 | m :: ms, j, ⟨G, h, ha⟩ => by
  unfold outG at h
  rcases List.mem_cons.mp h with e | h
  ·subst e
   split at ha
   ·exact ⟨j, Nat.le_refl _, ha⟩
   ·cases ha
  ·obtain ⟨i, h1, h2⟩ := outG_mem ⟨G, h, ha⟩
   exact ⟨i, by omega, h2⟩
theorem outs_len : ∀ {ms : List M} {ρ : Env}, (outs ms ρ).length = ms.length
 | [], _ => rfl
 | m :: ms, ρ => by unfold outs; rw [List.length_cons, List.length_cons, outs_len]
theorem outs_ok {Zb Hb : Hp} : ∀ {ms : List M} {vs : List V} {Gs : List (List Addr)} {ρ : Env} {F : Nat → List Addr} {j : Nat}, ArgO K Zb Hb ms vs Gs → Sub Zb Z' → (∀ i m, ms[i]? = some m → isMut m = true → ∃ x, slot ρ i = some x ∧ ∃ v, vs[i]? = some v ∧ Own K Z' H' x v (F (j + i))) → (∀ a b x, x ∈ F a → x ∈ F b → a = b) →
  ArgO K Z' H' (outs ms ρ) vs (outG F ms j)
 | [], _, _, ρ, F, j, .nil, _, _, _ => .nil
 | m :: ms, _, _, ρ, F, j, .cons (v := v) (vs := vs) (Gs := Gs) o as d, s, hm, dj => by
  have ht : ArgO K Z' H' (outs ms ρ.tail) vs (outG F ms (j + 1)) := outs_ok as s (fun i m0 e hmut => by
   obtain ⟨x, h1, w, h2, h3⟩ := hm (i + 1) m0 (by simpa using e) hmut
   refine ⟨x, ?_, w, by simpa using h2, ?_⟩
   ·cases ρ with
    | nil => cases h1
    | cons r ρ => simpa [slot] using h1
   ·have : j + 1 + i = j + (i + 1) := by omega
    rw [this]; exact h3) dj
  unfold outs outG
  cases hmut : isMut m with
  | true =>
   obtain ⟨x, h1, w, h2, h3⟩ := hm 0 m rfl hmut
   have hw : w = v := by simpa using h2.symm
   subst hw
   rw [if_pos rfl]
   have : headOr m true ρ = x := by
    clear hm ht
    cases ρ with
    | nil => cases h1
    | cons r ρ =>
     cases r with
     | none => cases h1
     | some r => cases h1; rfl
   rw [this]
   refine .cons h3 ht fun a ha G hG hx => ?_
   obtain ⟨i, h4, h5⟩ := outG_mem ⟨G, hG, hx⟩
   have := dj _ _ _ ha h5
   omega
  | false =>
   have : headOr m false ρ = m := by clear hm ht; cases ρ <;> rfl
   rw [this, if_neg Bool.false_ne_true]
   cases m with
   | v p =>
    have o' : Own K Z' H' (.v p) v [] := by
     cases o with
     | v rp => exact .v (rp.sub s)
    exact .cons o' ht (fun a ha => by cases ha)
   | _ => cases hmut
theorem outs_lk : ∀ {ms : List M} {ρ : Env}, (∀ i m, ms[i]? = some (.k m) → slot ρ i = some (.k m)) → ∀ (i : Nat) (m : M), ms[i]? = some (.k m) → (outs ms ρ)[i]? = some (.k m)
 | [], _, _, i, m, e => by simp at e
 | m0 :: ms, ρ, h, i, m, e => by
  unfold outs
  cases i with
  | zero =>
   simp at e
   subst e
   have h1 := h 0 m rfl
   cases ρ with
   | nil => cases h1
   | cons r ρ =>
    cases r with
    | none => cases h1
    | some r => cases h1; rfl
  | succ i =>
   rw [List.getElem?_cons_succ]
   refine outs_lk (fun i m e => ?_) i m (by simpa using e)
   have h1 := h (i + 1) m (by simpa using e)
   cases ρ with
   | nil => cases h1
   | cons r ρ => simpa [slot] using h1
theorem slot_tail {ρ : Env} {i : Nat} : slot ρ.tail i = slot ρ (i + 1) := by
 cases ρ <;> simp [slot]
end
def isSelf (x : Str) : Bool := decide (x.cps.toList.take 5 = [115, 101, 108, 102, 46])
theorem self_cps : (Str.ofString "self.").cps = #[115, 101, 108, 102, 46] := by decide +kernel
theorem isSelf_dot (f : Str) : isSelf (selfDot f) = true := by
 have : (selfDot f).cps = (Str.ofString "self.").cps ++ f.cps := rfl
 unfold isSelf
 rw [this, self_cps]
 simp
theorem selfDot_inj {f f' : Str} (h : selfDot f = selfDot f') : f = f' := by
 have h1 : (Str.ofString "self.").cps ++ f.cps = (Str.ofString "self.").cps ++ f'.cps := congrArg Str.cps h
 have h2 : f.cps = f'.cps := by
  have := congrArg Array.toList h1
  rw [Array.toList_append, Array.toList_append, List.append_cancel_left_eq] at this
  exact Array.toList_inj.mp this
 cases f; cases f'; cases h2; rfl
def noSelf (N : List Str) : Bool := N.all fun x => !isSelf x
theorem noSelf_at {N : List Str} (h : noSelf N = true) {i : Nat} {f : Str} : N[i]? ≠ some (selfDot f) := fun e => by
 have := List.all_eq_true.mp h _ (List.mem_of_getElem? e)
 rw [isSelf_dot] at this
 cases this
structure DefOk (T : Tab) (F : Fn) (params : Arguments) (body : List Stmt) (scope : Scope) : Prop where
 sc : FnScope F.N (F.N.take F.np) scope
 np : F.np ≤ F.N.length
 ns : noSelf F.N = true
 chk : chkSL T F.N scope F.body body = true
abbrev mN (F : MFn) : List Str := F.N ++ F.fl.map selfDot
def Tab.of (T : Tab) (c : Str) : Tab := { T with ms := T.ms.filter fun x => decide (x.2.cls = c) }
structure MethOk (T : Tab) (F : MFn) (params : Arguments) (body : List Stmt) (scope : Scope) : Prop where
 sc : FnScope (mN F) (F.N.take (F.np + 1)) scope
 np : F.np + 1 ≤ F.N.length
 ns : noSelf F.N = true
 vis : (F.fl.all fun f => (scope.names.lookup (selfDot f)).isNone) = true
 chk : chkSL (T.of F.cls) (mN F) scope F.body body = true
structure TabIn (T : Tab) (CA : Str → Addr) (K : PySem.W.Frag) (mg : Str → Option Value) : Prop where
 free : ∀ x ∈ bnames, mg x = none
 fns : ∀ (f : Nat) (F : Fn), T.fs[f]? = some F → ∃ a fd params body scope, mg F.name = some (.ref a) ∧ FunD K F.name F.name params body scope [] [] a fd ∧ Binds K fd (F.N.take F.np) [] ∧ DefOk T F params body scope
 gs : ∀ (c : Nat) (p : P), (T.gs[c]?).map (·.2) = some p → ∃ x u v, (T.gs[c]?).map (·.1) = some x ∧ mg x = some u ∧ RelV v u ∧ Rep K (fun _ => none) v p
 ms : ∀ (f : Nat) (F : MFn), T.fs[f]? = none → T.ms.lookup f = some F → ∃ a fd qual params body scope, Meth K (CA F.cls) F.name a ∧ FunD K F.name qual params body scope [] [] a fd ∧ Binds K fd (F.N.take (F.np + 1)) [] ∧ MethOk T F params body scope
 cl : ∀ (f : Nat) (F : MFn), T.ms.lookup f = some F → Cls K (CA F.cls) ∧ ∀ g ∈ F.fl, NoAttr K (CA F.cls) g
 nd : (T.ms.map (·.1)).Nodup
 ap : ∀ (f : Nat) (F : EFn), T.ex.lookup f = some F → T.ms.lookup f = none
 ex : ∀ (f : Nat) (F : EFn), T.fs[f]? = none → T.ms.lookup f = none → T.ex.lookup f = some F → ∃ a fd ps, mg F.name = some (.ref a) ∧ PySem.W.keepIn K (.ref a) = true ∧ Binds K fd ps []
 ds : ∀ nm kvs, (nm, kvs) ∈ T.ds → DsOk K WW.w mg nm kvs
structure QOk (T : Tab) (CA : Str → Addr) (q : FO) : Prop where
 C : q.C = CA q.cn
 nm : ∀ (f : Nat) (F : MFn), T.ms.lookup f = some F → F.cls = q.cn → q.fs.lookup F.name = none
section
variable {T : Tab} {Pr : Program} {w : World} {K : PySem.W.Frag} {mg : Str → Option Value} {base : Heap}
theorem run_def {C : FnS} {F : Fn} {k : Nat} {params : Arguments} {body : List Stmt} {scope : Scope} {X : Cx} {vs : List V} {H : Hp} {Q : VK} {Z : Hp} {ds ds' : List M} {d : M} {Gs : List (List Addr)} (D : DefOk T F params body scope) (hN : X.N = F.N) (hsc : X.env.scope = scope) (hfn : ∀ n, X.fn n = true) (hK : X.K = K)
  (g : Good T k (cxt T C ds) X) (hfx : FXok (L2.start F.N vs) H) (e : runF T C F ds = some (d, ds')) (s : Sub Z H) (as : ArgO K Z H ds vs Gs)
  (q : ∀ Z' H' v G Gs', Sub Z' H' → Step Z H Z' H' (inL Gs) (inL (G :: Gs')) → Own K Z' H' d v G → ArgO K Z' H' ds' vs Gs' → (∀ a ∈ G, ¬ inL Gs' a) → LkA ds ds' → Q v H') :
  PSs X body (TSt X.K (cxt T C ds) (evss (cxt T C ds) F.body)) ∧ TSt X.K (cxt T C ds) (evss (cxt T C ds) F.body) { nx := fun _ H' => Q .non H', rt := Q } (L2.start F.N vs) H := by
 subst hK
 refine ⟨sndSL F.body body X g hfn (by rw [hsc]; exact D.sc.kind) (by rw [hN, hsc]; exact D.chk), ?_⟩
 unfold runF at e
 split at e
 ·rename_i hlen
  split at e
  ·rename_i f ρ e1
   split at e
   ·rename_i m em
    cases e
    have R0 := entry_rel (N := F.N) s as (by rw [hlen]; exact D.np) hfx
    refine ⟨Z, rho0 ds F.N.length, fpOf Gs, f, ρ, R0, e1, fun σ' Z' H' F' gs => ?_⟩
    have mut_ok : ∀ i m, ds[i]? = some m → isMut m = true → ∃ x, slot ρ i = some x ∧ ∃ v, vs[i]? = some v ∧ Own X.K Z' H' x v (F' (0 + i)) := fun i m0 e0 hm => by
     have hp : pmAt (cxt T C ds) i = true := by
      unfold pmAt cxt
      rw [List.getElem?_map, e0]
      exact hm
     have hn : slot ρ i ≠ none := gs.lk.pm i hp (by rw [rho0_slot, e0]; exact fun z => by cases z)
     cases hx : slot ρ i with
     | none => exact (hn hx).elim
     | some x =>
      obtain ⟨v, h1, h2⟩ := gs.rel.own i x hx
      rw [gs.pg i hp] at h1
      obtain ⟨w, h3, _⟩ := as.get e0
      rw [start_get h3] at h1
      cases h1
      exact ⟨x, rfl, _, h3, by rw [Nat.zero_add]; exact h2⟩
    have a2 := outs_ok as gs.st.zz mut_ok gs.rel.dj
    have lka : LkA ds (outs ds ρ) := ⟨outs_len, fun j m0 e0 => outs_lk (fun i m1 e1 => gs.lk.lk i m1 (by rw [rho0_slot]; exact e1)) j m0 e0⟩
    have fin : ∀ {v : V} {G : List Addr}, Own X.K Z' H' d v G → (∀ a ∈ G, ¬ U F' a) → (∀ a ∈ G, U (fpOf Gs) a ∨ H a = none) → Q v H' := fun {v G} ow ap nw => by
     refine q Z' H' v G (outG F' ds 0) gs.rel.sub ⟨fun a o h n => gs.st.fr a o h fun z => n (inL_fp.mpr z), gs.st.zz, fun a o h => ?_, fun a h => ?_, gs.st.fz⟩ ow a2 (fun a ha h => ?_) lka
     ·rcases gs.st.zn a o h with h | h | h | h
      ·exact .inl h
      ·exact .inr (.inl (inL_fp.mpr h))
      ·exact .inr (.inr (.inl h))
      ·exact .inr (.inr (.inr h))
     ·obtain ⟨G2, hg, ha⟩ := h
      rcases List.mem_cons.mp hg with z | z
      ·subst z
       rcases nw a ha with z | z
       ·exact .inl (inL_fp.mpr z)
       ·exact .inr z
      ·obtain ⟨i, _, h2⟩ := outG_mem ⟨G2, z, ha⟩
       rcases gs.st.an a ⟨i, h2⟩ with z | z
       ·exact .inl (inL_fp.mpr z)
       ·exact .inr z
     ·obtain ⟨i, _, h2⟩ := outG_mem h
      exact ap a ha ⟨i, h2⟩
    cases f with
    | nx => cases em; exact fin (.v .non) no0 no0
    | rt m0 => cases em; exact fun v G r => fin r.own r.ap r.nw
    | ct => cases em
    | bk => cases em
   ·cases e
  ·cases e
 ·cases e
end
section
variable {K : PySem.W.Frag} {Z H Z' H' : Hp}
def mIx (np L s : Nat) : Option Nat := if s = 0 then none else if s ≤ np then some (s - 1) else if s < L then none else some (np + (s - L))
theorem mIx_inj {np L s t i : Nat} (hL : np + 1 ≤ L) (h1 : mIx np L s = some i) (h2 : mIx np L t = some i) : s = t := by
 unfold mIx at h1 h2
 split at h1
 ·cases h1
 ·split at h1
  ·split at h2
   ·cases h2
   ·split at h2
    ·cases h1; simp only [Option.some.injEq] at h2; omega
    ·split at h2
     ·cases h2
     ·simp only [Option.some.injEq] at h1 h2; omega
  ·split at h1
   ·cases h1
   ·split at h2
    ·cases h2
    ·split at h2
     ·simp only [Option.some.injEq] at h1 h2; omega
     ·split at h2
      ·cases h2
      ·simp only [Option.some.injEq] at h1 h2; omega
theorem lay_get {α : Type} {np L : Nat} {x0 d : α} {ws : List α} (hL : np + 1 ≤ L) (hw : np ≤ ws.length) (s : Nat) : (x0 :: ws.take np ++ List.replicate (L - 1 - np) d ++ ws.drop np)[s]? = if s = 0 then some x0 else if s ≤ np then ws[s - 1]? else if s < L then some d else ws[np + (s - L)]? := by
 have l1 : (ws.take np).length = np := by rw [List.length_take]; omega
 by_cases h0 : s = 0
 ·subst h0; simp
 ·rw [if_neg h0]
  obtain ⟨s, rfl⟩ : ∃ t, s = t + 1 := ⟨s - 1, by omega⟩
  rw [List.cons_append, List.cons_append, List.getElem?_cons_succ]
  by_cases h1 : s + 1 ≤ np
  ·rw [if_pos h1, List.append_assoc, List.getElem?_append_left (by omega), List.getElem?_take_of_lt (by omega), Nat.add_sub_cancel]
  ·rw [if_neg h1]
   by_cases h2 : s + 1 < L
   ·rw [if_pos h2, List.getElem?_append_left (by rw [List.length_append, l1, List.length_replicate]; omega), List.getElem?_append_right (by omega), List.getElem?_replicate, if_pos (by omega)]
   ·rw [if_neg h2, List.getElem?_append_right (by rw [List.length_append, l1, List.length_replicate]; omega), List.getElem?_drop, List.length_append, l1, List.length_replicate]
    congr 1
    omega
theorem rhoM_slot {F : MFn} {ms : List M} (hL : F.np + 1 ≤ F.N.length) (hw : F.np ≤ ms.length) (s : Nat) : slot (rhoM F ms) s = (mIx F.np F.N.length s).bind fun i => ms[i]? := by
 have h := lay_get (x0 := (none : Option M)) (d := none) (ws := ms.map some) hL (by simpa using hw) s
 have e : rhoM F ms = (none : Option M) :: (ms.map some).take F.np ++ List.replicate (F.N.length - 1 - F.np) none ++ (ms.map some).drop F.np := by
  unfold rhoM
  rw [List.map_take, List.map_drop]
 unfold slot
 rw [e, h]
 unfold mIx
 split
 ·rfl
 ·split
  ·rw [List.getElem?_map]
   show Option.join _ = ms[s - 1]?
   cases ms[s - 1]? <;> rfl
  ·split
   ·rfl
   ·rw [List.getElem?_map]
    show Option.join _ = ms[F.np + (s - F.N.length)]?
    cases ms[F.np + (s - F.N.length)]? <;> rfl
def sigM (F : MFn) (p : Addr) (ws : List V) : St := some (.ref p) :: (ws.map some).take F.np ++ List.replicate (F.N.length - 1 - F.np) none ++ (ws.map some).drop F.np
theorem sigM_get {F : MFn} {p : Addr} {ws : List V} (hL : F.np + 1 ≤ F.N.length) (hw : F.np ≤ ws.length) (s : Nat) : (sigM F p ws)[s]? = if s = 0 then some (some (.ref p)) else if s ≤ F.np then (ws[s - 1]?).map some else if s < F.N.length then some none else (ws[F.np + (s - F.N.length)]?).map some := by
 have h := lay_get (x0 := some (V.ref p)) (d := none) (ws := ws.map some) hL (by simpa using hw) s
 unfold sigM
 rw [h]
 simp only [List.getElem?_map]
theorem sigM_ix {F : MFn} {p : Addr} {ws : List V} {s i : Nat} {v : V} (hL : F.np + 1 ≤ F.N.length) (hw : F.np ≤ ws.length) (h : mIx F.np F.N.length s = some i) (hv : ws[i]? = some v) : (sigM F p ws)[s]? = some (some v) := by
 rw [sigM_get hL hw]
 unfold mIx at h
 split at h
 ·cases h
 ·rename_i h0
  rw [if_neg h0]
  split at h
  ·rename_i h1
   cases h
   rw [if_pos h1, hv]; rfl
  ·rename_i h1
   rw [if_neg h1]
   split at h
   ·cases h
   ·rename_i h2
    cases h
    rw [if_neg h2, hv]; rfl
def fpM (F : MFn) (Gs : List (List Addr)) (s : Nat) : List Addr := match mIx F.np F.N.length s with
 | some i => fpOf Gs i
 | none => []
theorem fpM_mem {F : MFn} {Gs : List (List Addr)} {s : Nat} {a : Addr} (h : a ∈ fpM F Gs s) : ∃ i, mIx F.np F.N.length s = some i ∧ a ∈ fpOf Gs i := by
 unfold fpM at h
 split at h
 ·rename_i i e; exact ⟨i, e, h⟩
 ·cases h
theorem mIx_at {np L i : Nat} (hL : np + 1 ≤ L) : ∃ s, mIx np L s = some i := by
 by_cases h : i < np
 ·exact ⟨i + 1, by unfold mIx; rw [if_neg (by omega), if_pos (by omega)]; rfl⟩
 ·refine ⟨L + (i - np), ?_⟩
  unfold mIx
  rw [if_neg (by omega), if_neg (by omega), if_neg (by omega)]
  congr 1; omega
theorem inL_fpM {F : MFn} {Gs : List (List Addr)} {a : Addr} (hL : F.np + 1 ≤ F.N.length) : inL Gs a ↔ U (fpM F Gs) a := by
 rw [inL_fp]
 constructor
 ·rintro ⟨i, h⟩
  obtain ⟨s, hs⟩ := mIx_at (i := i) hL
  exact ⟨s, by unfold fpM; rw [hs]; exact h⟩
 ·rintro ⟨s, h⟩
  obtain ⟨i, _, h2⟩ := fpM_mem h
  exact ⟨i, h2⟩
theorem entry_relM {F : MFn} {p : Addr} {ms : List M} {ws : List V} {Gs : List (List Addr)} (s : Sub Z H) (a : ArgO K Z H ms ws Gs) (hL : F.np + 1 ≤ F.N.length) (hl : ms.length = F.np + F.fl.length) (hfx : FXok (sigM F p ws) H) : Rel K Z H (sigM F p ws) (rhoM F ms) (fpM F Gs) := by
 obtain ⟨l1, l2⟩ := a.lens
 refine ⟨s, ?_, fun i m e => ?_, fun i e => ?_, fun i j x h1 h2 => ?_, hfx⟩
 ·unfold sigM rhoM
  simp [l1]
 ·rw [rhoM_slot hL (by omega)] at e
  obtain ⟨j, h1, h2⟩ := Option.bind_eq_some_iff.mp e
  obtain ⟨v, h3, h4⟩ := a.get h2
  refine ⟨v, sigM_ix hL (by omega) h1 h3, ?_⟩
  unfold fpM
  rw [h1]; exact h4
 ·rw [rhoM_slot hL (by omega)] at e
  unfold fpM
  split
  ·rename_i j hj
   rw [hj] at e
   have e : ms[j]? = none := e
   unfold fpOf
   have : ms.length ≤ j := by simpa using e
   rw [List.getElem?_eq_none (by omega)]; rfl
  ·rfl
 ·obtain ⟨i', k1, k2⟩ := fpM_mem h1
  obtain ⟨j', k3, k4⟩ := fpM_mem h2
  have := a.dj k2 k4
  subst this
  exact mIx_inj hL k1 k3
theorem ArgO.app {K : PySem.W.Frag} {Z H : Hp} {ms' : List M} {vs' : List V} {Gs' : List (List Addr)} (b : ArgO K Z H ms' vs' Gs') : ∀ {ms : List M} {vs : List V} {Gs : List (List Addr)}, ArgO K Z H ms vs Gs → (∀ a, inL Gs a → ¬ inL Gs' a) → ArgO K Z H (ms ++ ms') (vs ++ vs') (Gs ++ Gs')
 | _, _, _, .nil, _ => b
 | _, _, _, .cons (G := G) h t d, n => .cons h (ArgO.app b t fun a ⟨G2, h1, h2⟩ => n a ⟨G2, List.mem_cons_of_mem _ h1, h2⟩) fun a ha G2 hg hx => by
  rcases List.mem_append.mp hg with e | e
  ·exact d a ha G2 e hx
  ·exact n a ⟨G, List.mem_cons_self, ha⟩ ⟨G2, e, hx⟩
theorem ArgO.split {K : PySem.W.Frag} {Z H : Hp} : ∀ {n : Nat} {ms : List M} {vs : List V} {Gs : List (List Addr)}, ArgO K Z H ms vs Gs → ArgO K Z H (ms.take n) (vs.take n) (Gs.take n) ∧ ArgO K Z H (ms.drop n) (vs.drop n) (Gs.drop n)
 | 0, _, _, _, a => ⟨.nil, a⟩
 | n + 1, _, _, _, .nil => ⟨.nil, .nil⟩
 | n + 1, _, _, _, .cons h t d => ⟨.cons h (ArgO.split (n := n) t).1 fun a ha G2 hg => d a ha G2 (List.mem_of_mem_take hg), (ArgO.split (n := n) t).2⟩
theorem outG_mem2 {F : Nat → List Addr} {a : Addr} : ∀ {ms : List M} {j : Nat}, inL (outG F ms j) a → ∃ i, j ≤ i ∧ i < j + ms.length ∧ a ∈ F i
 | [], _, ⟨_, h, _⟩ => by cases h
 | m :: ms, j, ⟨G, h, ha⟩ => by
  unfold outG at h
  rcases List.mem_cons.mp h with e | h
  ·subst e
   split at ha
   ·exact ⟨j, Nat.le_refl _, by rw [List.length_cons]; omega, ha⟩
   ·cases ha
  ·obtain ⟨i, h1, h2, h3⟩ := outG_mem2 ⟨G, h, ha⟩
   exact ⟨i, by omega, by rw [List.length_cons]; omega, h3⟩
theorem slot_drop {ρ : Env} {i n : Nat} : slot (ρ.drop n) i = slot ρ (n + i) := by
 unfold slot; rw [List.getElem?_drop]
theorem take_some {α : Type} {l : List α} {n i : Nat} {x : α} (h : (l.take n)[i]? = some x) : i < n ∧ l[i]? = some x := by
 have h1 := (List.getElem?_eq_some_iff.mp h).1
 rw [List.length_take] at h1
 have : i < n := by omega
 rw [List.getElem?_take_of_lt this] at h
 exact ⟨this, h⟩
theorem run_meth {T : Tab} {C : FnS} {F : MFn} {k : Nat} {params : Arguments} {body : List Stmt} {scope : Scope} {X : Cx} {p : Addr} {ws : List V} {Q : VK} {ds ds' : List M} {d : M} {Gs : List (List Addr)} (D : MethOk T F params body scope) (hN : X.N = mN F) (hsc : X.env.scope = scope) (hfn : ∀ n, X.fn n = true) (hK : X.K = K)
  (g : Good (T.of F.cls) k (cxtM T C F ds) X) (hfx : FXok (sigM F p ws) H) (e : runM T C F ds = some (d, ds')) (s : Sub Z H) (as : ArgO K Z H ds ws Gs)
  (q : ∀ Z' H' v G Gs', Sub Z' H' → Step Z H Z' H' (inL Gs) (inL (G :: Gs')) → Own K Z' H' d v G → ArgO K Z' H' ds' ws Gs' → (∀ a ∈ G, ¬ inL Gs' a) → LkA ds ds' → Q v H') :
  PSs X body (TSt X.K (cxtM T C F ds) (evss (cxtM T C F ds) F.body)) ∧ TSt X.K (cxtM T C F ds) (evss (cxtM T C F ds) F.body) { nx := fun _ H' => Q .non H', rt := Q } (sigM F p ws) H := by
 subst hK
 refine ⟨sndSL F.body body X g hfn (by rw [hsc]; exact D.sc.kind) (by rw [hN, hsc]; exact D.chk), ?_⟩
 unfold runM at e
 split at e
 ·rename_i hlen
  split at e
  ·rename_i f ρ e1
   split at e
   ·rename_i m em
    cases e
    have hL := D.np
    have hd : F.np ≤ ds.length := by omega
    obtain ⟨l1, l2⟩ := as.lens
    have hw : F.np ≤ ws.length := by omega
    have R0 := entry_relM s as hL hlen hfx
    refine ⟨Z, rhoM F ds, fpM F Gs, f, ρ, R0, e1, fun σ' Z' H' F' gs => ?_⟩
    have pmi : ∀ t, pmAt (cxtM T C F ds) t = if t = 0 then true else if t ≤ F.np then ((ds[t - 1]?).map isMut).getD false else if t < F.N.length then false else ((ds[F.np + (t - F.N.length)]?).map fun _ => true).getD false := fun t => by
     unfold pmAt cxtM
     have h := lay_get (x0 := true) (d := false) (ws := (ds.take F.np).map isMut ++ (ds.drop F.np).map fun _ => true) hL (by rw [List.length_append, List.length_map, List.length_map, ← List.length_append, List.take_append_drop]; exact hd) t
     have tl : ((ds.take F.np).map isMut).length = F.np := by rw [List.length_map, List.length_take]; omega
     have t1 : ((ds.take F.np).map isMut ++ (ds.drop F.np).map fun _ => true).take F.np = (ds.take F.np).map isMut := by rw [List.take_append_of_le_length (by omega), List.take_of_length_le (by omega)]
     have t2 : ((ds.take F.np).map isMut ++ (ds.drop F.np).map fun _ => true).drop F.np = (ds.drop F.np).map fun _ => true := by rw [List.drop_append_of_le_length (by omega), List.drop_of_length_le (by omega), List.nil_append]
     rw [t1, t2] at h
     dsimp only
     rw [h]
     split
     ·rfl
     ·split
      ·rename_i h0 h1
       rw [List.getElem?_append_left (by omega), List.getElem?_map, List.getElem?_take_of_lt (by omega)]
      ·split
       ·rfl
       ·rw [List.getElem?_append_right (by omega), tl, List.getElem?_map, List.getElem?_drop, Nat.add_sub_cancel_left]
    have mut_ok : ∀ t i m, mIx F.np F.N.length t = some i → ds[i]? = some m → isMut m = true → ∃ x, slot ρ t = some x ∧ ∃ v, ws[i]? = some v ∧ Own X.K Z' H' x v (F' t) := fun t i m0 ht e0 hm => by
     have hp : pmAt (cxtM T C F ds) t = true := by
      rw [pmi]
      unfold mIx at ht
      split at ht
      ·cases ht
      ·rename_i h0
       rw [if_neg h0]
       split at ht
       ·rename_i h1
        cases ht
        rw [if_pos h1, e0]; exact hm
       ·rename_i h1
        rw [if_neg h1]
        split at ht
        ·cases ht
        ·rename_i h2
         cases ht
         rw [if_neg h2, e0]; rfl
     have hn : slot ρ t ≠ none := gs.lk.pm t hp (by rw [rhoM_slot hL hd, ht]; show ds[i]? ≠ none; rw [e0]; exact fun z => by cases z)
     cases hx : slot ρ t with
     | none => exact (hn hx).elim
     | some x =>
      obtain ⟨v, h1, h2⟩ := gs.rel.own t x hx
      rw [gs.pg t hp] at h1
      obtain ⟨w, h3, _⟩ := as.get e0
      rw [sigM_ix hL hw ht h3] at h1
      cases h1
      exact ⟨x, rfl, _, h3, h2⟩
    obtain ⟨as1, as2⟩ := as.split (n := F.np)
    have a1 := outs_ok (ρ := ρ.tail) (F := F') (j := 1) as1 gs.st.zz (fun i m0 e0 hm => by
     obtain ⟨hi, e0⟩ := take_some e0
     obtain ⟨x, h1, v, h2, h3⟩ := mut_ok (i + 1) i m0 (by unfold mIx; rw [if_neg (by omega), if_pos (by omega)]; rfl) e0 hm
     exact ⟨x, by rw [slot_tail]; exact h1, v, by rw [List.getElem?_take_of_lt hi]; exact h2, by rw [Nat.add_comm]; exact h3⟩) gs.rel.dj
    have a2 := outs_ok (ρ := ρ.drop F.N.length) (F := F') (j := F.N.length) as2 gs.st.zz (fun i m0 e0 hm => by
     rw [List.getElem?_drop] at e0
     obtain ⟨x, h1, v, h2, h3⟩ := mut_ok (F.N.length + i) (F.np + i) m0 (by unfold mIx; rw [if_neg (by omega), if_neg (by omega), if_neg (by omega)]; congr 1; omega) e0 hm
     exact ⟨x, by rw [slot_drop]; exact h1, v, by rw [List.getElem?_drop]; exact h2, h3⟩) gs.rel.dj
    have a3 := a2.app a1 fun a h h' => by
     obtain ⟨i, _, h1, h2⟩ := outG_mem2 h
     obtain ⟨j, h3, _, h4⟩ := outG_mem2 h'
     have := gs.rel.dj _ _ _ h2 h4
     rw [List.length_take] at h1
     omega
    rw [List.take_append_drop] at a3
    generalize hGs : outG F' (ds.take F.np) 1 ++ outG F' (ds.drop F.np) F.N.length = Gs3 at a3
    have in3 : ∀ a, inL Gs3 a → U F' a := fun a ⟨G, h1, h2⟩ => by
     rw [← hGs] at h1
     rcases List.mem_append.mp h1 with h1 | h1
     ·obtain ⟨i, _, _, h⟩ := outG_mem2 ⟨G, h1, h2⟩
      exact ⟨i, h⟩
     ·obtain ⟨i, _, _, h⟩ := outG_mem2 ⟨G, h1, h2⟩
      exact ⟨i, h⟩
    have lka : LkA ds (outsM F ds ρ) := by
     unfold outsM
     refine ⟨by rw [List.length_append, outs_len, outs_len, ← List.length_append, List.take_append_drop], fun j m0 e0 => ?_⟩
     by_cases hj : j < F.np
     ·rw [List.getElem?_append_left (by rw [outs_len, List.length_take]; omega)]
      refine outs_lk (fun i m1 e1 => ?_) j m0 (by rw [List.getElem?_take_of_lt hj]; exact e0)
      obtain ⟨hi, e1⟩ := take_some e1
      rw [slot_tail]
      refine gs.lk.lk (i + 1) m1 ?_
      rw [rhoM_slot hL hd, show mIx F.np F.N.length (i + 1) = some i by unfold mIx; rw [if_neg (by omega), if_pos (by omega)]; rfl]
      exact e1
     ·have hl : (outs (ds.take F.np) ρ.tail).length = F.np := by rw [outs_len, List.length_take]; omega
      rw [List.getElem?_append_right (by omega), hl]
      refine outs_lk (fun i m1 e1 => ?_) (j - F.np) m0 (by rw [List.getElem?_drop, show F.np + (j - F.np) = j by omega]; exact e0)
      rw [List.getElem?_drop] at e1
      rw [slot_drop]
      refine gs.lk.lk _ m1 ?_
      rw [rhoM_slot hL hd, show mIx F.np F.N.length (F.N.length + i) = some (F.np + i) by unfold mIx; rw [if_neg (by omega), if_neg (by omega), if_neg (by omega)]; congr 1; omega]
      exact e1
    have fin : ∀ {v : V} {G : List Addr}, Own X.K Z' H' d v G → (∀ a ∈ G, ¬ U F' a) → (∀ a ∈ G, U (fpM F Gs) a ∨ H a = none) → Q v H' := fun {v G} ow ap nw => by
     refine q Z' H' v G Gs3 gs.rel.sub ⟨fun a o h n => gs.st.fr a o h fun z => n ((inL_fpM hL).mpr z), gs.st.zz, fun a o h => ?_, fun a h => ?_, gs.st.fz⟩ ow a3 (fun a ha h => ap a ha (in3 a h)) lka
     ·rcases gs.st.zn a o h with h | h | h | h
      ·exact .inl h
      ·exact .inr (.inl ((inL_fpM hL).mpr h))
      ·exact .inr (.inr (.inl h))
      ·exact .inr (.inr (.inr h))
     ·obtain ⟨G2, hg, ha⟩ := h
      rcases List.mem_cons.mp hg with z | z
      ·subst z
       rcases nw a ha with z | z
       ·exact .inl ((inL_fpM hL).mpr z)
       ·exact .inr z
      ·rcases gs.st.an a (in3 a ⟨G2, z, ha⟩) with z | z
       ·exact .inl ((inL_fpM hL).mpr z)
       ·exact .inr z
    cases f with
    | nx => cases em; exact fin (.v .non) no0 no0
    | rt m0 => cases em; exact fun v G r => fin r.own r.ap r.nw
    | ct => cases em
    | bk => cases em
   ·cases e
  ·cases e
 ·cases e
end
end Mn
namespace Mn
open PySem L2 PySem.Spec
section
variable [WW]
variable {T : Tab} {CA : Str → Addr} {Pr : Program} {w : World} {K : PySem.W.Frag} {mg : Str → Option Value} {base : Heap}
structure All (T : Tab) (CA : Str → Addr) (Pr : Program) (w : World) (K : PySem.W.Frag) (mg : Str → Option Value) (base : Heap) (k : Nat) : Prop where
 fn : ∀ (f : Nat) (F : Fn), T.fs[f]? = some F → ∃ a fd, mg F.name = some (.ref a) ∧ PySem.W.keepIn K (.ref a) = true ∧ Binds K fd (F.N.take F.np) [] ∧ FnOk Pr w K mg base CX0 k a fd (F.N.take F.np) (spF K (callF T k) f)
 ms : ∀ (f : Nat) (F : MFn) (q : FO), T.fs[f]? = none → T.ms.lookup f = some F → F.cls = q.cn → QOk T CA q → ∃ a fd, Meth K q.C F.name a ∧ q.fs.lookup F.name = none ∧ Binds K fd (F.N.take (F.np + 1)) [] ∧ FnOk Pr w K mg base CX0 k a fd (F.N.take (F.np + 1)) (spM K (callF T k) f F q)
 ex : ∀ (f : Nat) (F : EFn), T.fs[f]? = none → T.ms.lookup f = none → T.ex.lookup f = some F → ∃ a fd ps, mg F.name = some (.ref a) ∧ PySem.W.keepIn K (.ref a) = true ∧ Binds K fd ps [] ∧ FnOk Pr w K mg base CX0 k a fd ps (spF K (callF T k) f)
def ExUp (T : Tab) (CA : Str → Addr) (Pr : Program) (w : World) (K : PySem.W.Frag) (mg : Str → Option Value) (base : Heap) : Prop := ∀ k, (∀ j, j ≤ k → All T CA Pr w K mg base j) → ∀ (f : Nat) (F : EFn), T.fs[f]? = none → T.ms.lookup f = none → T.ex.lookup f = some F → ∃ a fd ps, mg F.name = some (.ref a) ∧ PySem.W.keepIn K (.ref a) = true ∧ Binds K fd ps [] ∧ FnOk Pr w K mg base CX0 (k + 1) a fd ps (spF K (callF T (k + 1)) f)
theorem lookup_filter {α : Type} {P : Nat × α → Bool} : ∀ {l : List (Nat × α)} {f : Nat} {x : α}, (l.map (·.1)).Nodup → (l.filter P).lookup f = some x → l.lookup f = some x ∧ P (f, x) = true
 | [], _, _, _, h => by cases h
 | (g, y) :: l, f, x, nd, h => by
  rw [List.map_cons, List.nodup_cons] at nd
  rw [List.filter_cons] at h
  have none_of : l.lookup f = some x → f ≠ g := fun e z => by
   subst z
   exact nd.1 (List.mem_map.mpr ⟨(f, x), by
    clear h nd
    induction l with
    | nil => cases e
    | cons p l ih =>
     obtain ⟨a, b⟩ := p
     rw [List.lookup_cons] at e
     split at e
     ·rename_i hb
      have := eq_of_beq hb
      subst this
      cases e
      exact List.mem_cons_self
     ·exact List.mem_cons_of_mem _ (ih e), rfl⟩)
  split at h
  ·rename_i hp
   rw [List.lookup_cons] at h
   split at h
   ·rename_i hb
    have := eq_of_beq hb
    subst this
    cases h
    exact ⟨by rw [List.lookup_cons, beq_self_eq_true], hp⟩
   ·obtain ⟨h1, h2⟩ := lookup_filter nd.2 h
    refine ⟨?_, h2⟩
    rw [List.lookup_cons]
    rename_i hb
    rw [hb]; exact h1
  ·obtain ⟨h1, h2⟩ := lookup_filter nd.2 h
   refine ⟨?_, h2⟩
   rw [List.lookup_cons]
   have : (f == g) = false := by
    have := none_of h1
    simpa using this
   rw [this]; exact h1
theorem all_zero (tab : TabIn T CA K mg) (hfn : ∀ (f : Nat) (F : Fn), T.fs[f]? = some F → True) : All T CA Pr w K mg base 0 := by
 have bad : ∀ {f : Nat} {ms : List M} {r : M × List M}, callF T 0 f ms = some r → False := fun h => by
  simp only [callF] at h; cases h
 refine ⟨fun f F hF => ?_, fun f F q h1 h2 hc hq => ?_, fun f F h1 h2 h3 => ?_⟩
 ·obtain ⟨a, fd, params, body, scope, h1, h2, h3, h4⟩ := tab.fns f F hF
  exact ⟨a, fd, h1, h2.kp, h3, ⟨fun vs H Q E ⟨Z, ds, d, ds', Gs, e, _⟩ => (bad e).elim, fun A outer s H args us vs Q E _ _ _ _ ⟨Z, ds, d, ds', Gs, e, _⟩ => (bad e).elim⟩⟩
 ·obtain ⟨a, fd, qual, params, body, scope, k1, k2, k3, k4⟩ := tab.ms f F h1 h2
  exact ⟨a, fd, by rw [hq.C, ← hc]; exact k1, hq.nm f F h2 hc, k3, ⟨fun vs H Q E ⟨Z, ds, d, ds', Gs, ws, e, _⟩ => (bad e).elim, fun A outer s H args us vs Q E _ _ _ _ ⟨Z, ds, d, ds', Gs, ws, e, _⟩ => (bad e).elim⟩⟩
 ·obtain ⟨a, fd, ps, k1, k2, k3⟩ := tab.ex f F h1 h2 h3
  exact ⟨a, fd, ps, k1, k2, k3, ⟨fun vs H Q E ⟨Z, ds, d, ds', Gs, e, _⟩ => (bad e).elim, fun A outer s H args us vs Q E _ _ _ _ ⟨Z, ds, d, ds', Gs, e, _⟩ => (bad e).elim⟩⟩
theorem good_fn (hP : Pr = WW.P) (hw : w = WW.w) (tab : TabIn T CA K mg) {k : Nat} (al : All T CA Pr w K mg base k) {F : Fn} {params : Arguments} {body : List Stmt} {scope : Scope} (h4 : DefOk T F params body scope) {C : FnS} (hC : C = callF T k) {ds : List M} {a : Addr} {cdv : Value} {A : Around} {outer : List PySem.Env} {s : Shared} {H : Hp} {E : XK} {qual : Str}
  (hr : Room k (A.deeper (PyProof.Rows.envOfC qual scope s.heap.objs.size a cdv))) : @Good _ ⟨none⟩ T k (cxt T C ds) (cxOf CX0 Pr w K mg base F.N qual scope a cdv A outer s H E).nox := by
 subst hC
 letI : FX := ⟨none⟩
 exact ⟨rfl, h4.sc.nd, hr, al.fn, tab.free, tab.gs, rfl, ⟨hP, hw⟩, (fun i ⟨q, h, _⟩ => nomatch h), (fun i f h => (noSelf_at h4.ns h).elim), (fun q h => nomatch h), (fun f F q _ _ h => nomatch h), al.ex, tab.ds⟩
theorem fn_step (hP : Pr = WW.P) (hw : w = WW.w) (tab : TabIn T CA K mg) {k : Nat} (al : All T CA Pr w K mg base k) {f : Nat} {F : Fn} (hF : T.fs[f]? = some F) {a : Addr} {fd : FuncData} {params : Arguments} {body : List Stmt} {scope : Scope} {qual : Str} (h2 : FunD K F.name qual params body scope [] [] a fd) (h4 : DefOk T F params body scope) :
  FnOk Pr w K mg base CX0 (k + 1) a fd (F.N.take F.np) (spF K (callF T (k + 1)) f) := by
 letI : FX := ⟨none⟩
 refine h2.ok h4.sc (fun vs H Q E h => ?_) fun cdv A outer s H vs Q E hr h => ?_
 ·obtain ⟨Z, ds, d, ds', Gs, e, _, as, _⟩ := h
  have : ds.length = F.np := by
   simp only [callF, hF] at e
   unfold runF at e
   split at e
   ·assumption
   ·cases e
  rw [as.lens.1, this, List.length_take, Nat.min_eq_left h4.np]
 ·obtain ⟨Z, ds, d, ds', Gs, e, sb, as, q⟩ := h
  have e : runF T (callF T k) F ds = some (d, ds') := by simpa only [callF, hF] using e
  have good := good_fn (E := E) (H := H) (outer := outer) (ds := ds) hP hw tab al h4 rfl hr
  obtain ⟨r1, r2⟩ := run_def (X := (cxOf CX0 Pr w K mg base F.N qual scope a cdv A outer s H E).nox) h4 rfl rfl (fun _ => rfl) rfl good (fun q h => nomatch h) e sb as q
  exact ⟨_, PSs.nox r1, r2⟩
theorem ms_step (hP : Pr = WW.P) (hw : w = WW.w) (tab : TabIn T CA K mg) {k : Nat} (al : All T CA Pr w K mg base k) {f : Nat} {F : MFn} {q0 : FO} (h0 : T.fs[f]? = none) (hF : T.ms.lookup f = some F) (hc : F.cls = q0.cn) (hq : QOk T CA q0) {a : Addr} {fd : FuncData} {params : Arguments} {body : List Stmt} {scope : Scope} {qual : Str} (h2 : FunD K F.name qual params body scope [] [] a fd) (h4 : MethOk T F params body scope) :
  FnOk Pr w K mg base CX0 (k + 1) a fd (F.N.take (F.np + 1)) (spM K (callF T (k + 1)) f F q0) := by
 have hnp := h4.np
 have dlen : ∀ {ds : List M} {r : M × List M}, callF T (k + 1) f ds = some r → ds.length = F.np + F.fl.length := fun {ds r} e => by
  simp only [callF, h0, hF] at e
  unfold runM at e
  split at e
  ·assumption
  ·cases e
 refine h2.ok h4.sc (fun vs H Q E h => ?_) fun cdv A outer s H vs Q E hr h => ?_
 ·obtain ⟨Z, ds, d, ds', Gs, ws, e, _, as, ev, _⟩ := h
  subst ev
  have hde := dlen e
  letI : FX := ⟨none⟩
  rw [List.length_cons, List.length_take, as.lens.1, hde, List.length_take]
  omega
 ·obtain ⟨Z, ds, d, ds', Gs, ws, e, sb, as, ev, hp, hfl, q⟩ := h
  subst ev
  have hl := dlen e
  have hlw : ws.length = F.np + F.fl.length := (@ArgO.lens _ ⟨none⟩ _ _ _ _ _ _ as).1.trans hl
  have e : runM T (callF T k) F ds = some (d, ds') := by simpa only [callF, h0, hF] using e
  generalize hq1 : ({ q0 with N := mN F } : FO) = q1
  letI : FX := ⟨some q1⟩
  let X := (cxOf CX0 Pr w K mg base (mN F) qual scope a cdv A outer s H E).nox
  have at_dot : ∀ (i : Nat) (g : Str), (mN F)[i]? = some (selfDot g) → F.N.length ≤ i ∧ F.fl[i - F.N.length]? = some g := fun i g hi => by
   by_cases hlt : i < F.N.length
   ·rw [List.getElem?_append_left hlt] at hi
    exact (noSelf_at h4.ns hi).elim
   ·rw [List.getElem?_append_right (by omega), List.getElem?_map] at hi
    obtain ⟨g', h5, h6⟩ := Option.map_eq_some_iff.mp hi
    have := selfDot_inj h6
    subst this
    exact ⟨by omega, h5⟩
  have hfx : FXok (sigM F q0.p ws) H := fun q2 e2 => by
   cases e2
   subst hq1
   refine ⟨hp, by rw [sigM_get hnp (by omega)]; rfl, fun i g hi => ?_⟩
   obtain ⟨k1, k2⟩ := at_dot i g hi
   obtain ⟨v, k3, k4⟩ := hfl _ _ k2
   refine ⟨v, k3, ?_⟩
   rw [sigM_get hnp (by omega), if_neg (by omega), if_neg (by omega), if_neg (by omega), k4]; rfl
  have hcls := tab.cl f F hF
  have good : Good (T.of F.cls) k (cxtM T (callF T k) F ds) X := by
   refine ⟨rfl, h4.sc.nd, hr, al.fn, tab.free, tab.gs, rfl, ⟨hP, hw⟩, ?_, (fun i g h => ⟨_, rfl⟩), ?_, ?_, ?_, tab.ds⟩
   ·rintro i ⟨q2, e2, hi⟩
    cases e2
    subst hq1
    have h := lay_get (x0 := true) (d := false) (ws := (ds.take F.np).map isMut ++ (ds.drop F.np).map fun _ => true) hnp (by rw [List.length_append, List.length_map, List.length_map, ← List.length_append, List.take_append_drop]; omega) i
    have tl : ((ds.take F.np).map isMut).length = F.np := by rw [List.length_map, List.length_take]; omega
    have t1 : ((ds.take F.np).map isMut ++ (ds.drop F.np).map fun _ => true).take F.np = (ds.take F.np).map isMut := by rw [List.take_append_of_le_length (by omega), List.take_of_length_le (by omega)]
    have t2 : ((ds.take F.np).map isMut ++ (ds.drop F.np).map fun _ => true).drop F.np = (ds.drop F.np).map fun _ => true := by rw [List.drop_append_of_le_length (by omega), List.drop_of_length_le (by omega), List.nil_append]
    rw [t1, t2] at h
    unfold pmAt cxtM
    dsimp only
    rw [h]
    rcases hi with hi | ⟨g, hi⟩
    ·subst hi; rfl
    ·obtain ⟨k1, k2⟩ := at_dot i g hi
     have k3 := (List.getElem?_eq_some_iff.mp k2).1
     rw [if_neg (by omega), if_neg (by omega), if_neg (by omega), List.getElem?_append_right (by omega), tl, List.getElem?_map, List.getElem?_drop, List.getElem?_eq_getElem (by omega)]
     rfl
   ·intro q2 e2
    cases e2
    subst hq1
    refine ⟨rfl, by show Cls K q0.C; rw [hq.C, ← hc]; exact hcls.1, fun i g hi => ?_⟩
    obtain ⟨_, k2⟩ := at_dot i g hi
    show NoAttr K q0.C g
    rw [hq.C, ← hc]
    exact hcls.2 g (List.mem_of_getElem? k2)
   ·intro f' F' q2 e1 e2 e3
    cases e3
    subst hq1
    obtain ⟨k1, k2⟩ := lookup_filter tab.nd e2
    have k2 : F'.cls = F.cls := of_decide_eq_true k2
    exact al.ms f' F' _ e1 k1 (k2.trans hc) ⟨hq.C, hq.nm⟩
   ·intro f' F' e1 e2 e3
    exact al.ex f' F' e1 (tab.ap f' F' e3) e3
  obtain ⟨r1, r2⟩ := run_meth (X := X) h4 rfl rfl (fun _ => rfl) rfl good hfx e sb as q
  refine ⟨fun D σ H => σ = L2.start (mN F) (V.ref q0.p :: ws.take F.np) ∧ TSt X.K (cxtM T (callF T k) F ds) (evss (cxtM T (callF T k) F ds) F.body) D (sigM F q0.p ws) H, PSs.nox ⟨fun pins s1 σ H1 D I ⟨es, h⟩ => ?_⟩, rfl, r2⟩
  subst es
  refine r1.run pins s1 _ H1 D ⟨I.ok, I.os, I.bare, I.base, ?_, I.cell, I.free, I.freeC, I.pin, I.hok, ?_⟩ h
  ·obtain ⟨m, h5, h6⟩ := I.loc
   refine ⟨m, h5, fun i x v hx hv vis => h6 i x v hx ?_ vis⟩
   rw [sigM_get hnp (by omega)] at hv
   unfold L2.start
   split at hv
   ·rename_i h0
    subst h0
    exact hv
   ·rename_i h0
    split at hv
    ·rename_i h7
     obtain ⟨i, rfl⟩ : ∃ t, i = t + 1 := ⟨i - 1, by omega⟩
     rw [List.getElem?_append_left (by rw [List.length_map, List.length_cons, List.length_take]; omega), List.map_cons, List.getElem?_cons_succ, List.getElem?_map, List.getElem?_take_of_lt (by omega)]
     exact hv
    ·split at hv
     ·cases hv
     ·have hx : (mN F)[i]? = some x := hx
      rw [List.getElem?_append_right (by omega), List.getElem?_map] at hx
      obtain ⟨g, h8, h9⟩ := Option.map_eq_some_iff.mp hx
      subst h9
      have h10 := List.all_eq_true.mp h4.vis g (List.mem_of_getElem? h8)
      rw [Option.isNone_iff_eq_none] at h10
      have vis : Vis scope (selfDot g) := vis
      unfold Vis at vis
      rw [h10] at vis
      rcases vis with z | z | z <;> cases z
  ·have h11 := I.len
   show (sigM F q0.p ws).length = (mN F).length
   unfold sigM mN
   simp [List.length_take, hlw]
   omega
theorem alls_ok (hP : Pr = WW.P) (hw : w = WW.w) (tab : TabIn T CA K mg) (up : ExUp T CA Pr w K mg base) : ∀ k, All T CA Pr w K mg base k := by
 have key : ∀ k j, j ≤ k → All T CA Pr w K mg base j := fun k => by
  induction k with
  | zero =>
   intro j hj
   obtain rfl : j = 0 := by omega
   exact all_zero tab fun _ _ _ => trivial
  | succ k ih =>
   intro j hj
   by_cases hjk : j ≤ k
   ·exact ih j hjk
   obtain rfl : j = k + 1 := by omega
   have al := ih k (Nat.le_refl k)
   refine ⟨fun f F hF => ?_, fun f F q h1 h2 hc hq => ?_, up k ih⟩
   ·obtain ⟨a, fd, params, body, scope, h1, h2, h3, h4⟩ := tab.fns f F hF
    exact ⟨a, fd, h1, h2.kp, h3, fn_step hP hw tab al hF h2 h4⟩
   ·obtain ⟨a, fd, qual, params, body, scope, k1, k2, k3, k4⟩ := tab.ms f F h1 h2
    exact ⟨a, fd, by rw [hq.C, ← hc]; exact k1, hq.nm f F h2 hc, k3, ms_step hP hw tab al h1 h2 hc hq k2 k4⟩
 exact fun k => key k k (Nat.le_refl k)
theorem noEx (h : T.ex = []) : ExUp T CA Pr w K mg base := fun _ _ f F _ _ h3 => by rw [h] at h3; cases h3
def spLaw (K : PySem.W.Frag) : Sp := fun vs H Q _ => ∃ (a : Addr) (ns : List Int), vs = [.ref a] ∧ SqL K H a (ns.map V.int) ∧ ns.length ≤ 63 ∧ ∀ H', Q (.bl true) H'
theorem law_okX (hP : Pr = WW.P) (hw : w = WW.w) (tab : TabIn T CA K mg) (up : ExUp T CA Pr w K mg base) {k f : Nat} {F : Fn} (hF : T.fs[f]? = some F) {a : Addr} {fd : FuncData} {params : Arguments} {body : List Stmt} {scope : Scope} {qual : Str} (h2 : FunD K F.name qual params body scope [] [] a fd) (h4 : DefOk T F params body scope)
  (h : ∀ ns : List Int, ns.length ≤ 63 → ∃ ds, callF T (k + 1) f [.s ns] = some (.v (.bool true), ds)) : FnOk Pr w K mg base CX0 (k + 1) a fd (F.N.take F.np) (spLaw K) := by
 refine (fn_step (Pr := Pr) (w := w) (base := base) hP hw tab (alls_ok hP hw tab up k) hF h2 h4).imp fun vs H Q E ⟨b, ns, ev, hs, hl, q⟩ => ?_
 subst ev
 obtain ⟨ds, e⟩ := h ns hl
 have hz : ∃ Z : Hp, Sub Z H ∧ SqL K Z b (ns.map V.int) := by
  rcases hs with (hs | ⟨o, hs⟩) | hs
  ·refine ⟨fun c => if c = b then H c else none, fun c o e => ?_, .inl (.inl (by show (if b = b then H b else none) = _; rw [if_pos rfl]; exact hs))⟩
   have e : (if c = b then H c else none) = some o := e
   by_cases hc : c = b
   ·rw [if_pos hc] at e; exact e
   ·rw [if_neg hc] at e; cases e
  ·refine ⟨fun c => if c = b then H c else none, fun c o e => ?_, .inl (.inr ⟨o, by show (if b = b then H b else none) = _; rw [if_pos rfl]; exact hs⟩)⟩
   have e : (if c = b then H c else none) = some o := e
   by_cases hc : c = b
   ·rw [if_pos hc] at e; exact e
   ·rw [if_neg hc] at e; cases e
  ·exact ⟨fun _ => none, fun _ _ e => (by cases e), .inr hs⟩
 obtain ⟨Z, sz, sq⟩ := hz
 refine ⟨Z, [.s ns], _, ds, [[]], e, sz, .cons (.s sq (Nat.le_trans hl (lim_le (by decide)))) .nil (fun a ha => by cases ha), fun Z' H' v G Gs' _ _ ow _ _ _ => ?_⟩
 have := (Own.view ow).bl
 subst this
 exact q H'
theorem TabIn.plain (free : ∀ x ∈ bnames, mg x = none) (fns : ∀ (f : Nat) (F : Fn), T.fs[f]? = some F → ∃ a fd params body scope, mg F.name = some (.ref a) ∧ FunD K F.name F.name params body scope [] [] a fd ∧ Binds K fd (F.N.take F.np) [] ∧ DefOk T F params body scope)
  (gs : ∀ (c : Nat) (p : P), (T.gs[c]?).map (·.2) = some p → ∃ x u v, (T.gs[c]?).map (·.1) = some x ∧ mg x = some u ∧ RelV v u ∧ Rep K (fun _ => none) v p) (h1 : T.ms = []) (h2 : T.ex = []) (h3 : ∀ nm kvs, (nm, kvs) ∈ T.ds → DsOk K WW.w mg nm kvs := by exact fun _ _ h => nomatch h) : TabIn T CA K mg :=
 ⟨free, fns, gs, (fun f F _ h => by rw [h1] at h; cases h), (fun f F h => by rw [h1] at h; cases h), by rw [h1]; exact .nil, (fun f F h => by rw [h2] at h; cases h), (fun f F _ _ h => by rw [h2] at h; cases h), h3⟩
end
end Mn
end
section
set_option maxHeartbeats 200000
namespace Mn
open PySem L2 PySem.Spec
mutual
def conB (K : PySem.W.Frag) : Value → P → Bool
 | .none, .none => true
 | .bool b, .bool c => b == c
 | .int i _, .int j => decide (i = j)
 | .str x _, .str y => decide (x = y) && (PyData.strOk y && Nat.ble y.length sizeLine)
 | .ref a, .tuple ps => (match K.lookup a with
  | some ⟨.type c, none, .seq its _, _⟩ => decide (c = "tuple") && (decide (its.size ≤ sizeLine) && conBL K its.toList ps)
  | _ => false)
 | _, _ => false
def conBL (K : PySem.W.Frag) : List Value → List P → Bool
 | [], [] => true
 | u :: us, p :: ps => conB K u p && conBL K us ps
 | _, _ => false
end
mutual
theorem conB_ok [WW] {K : PySem.W.Frag} {Z : Hp} : ∀ {u : Value} {p : P}, conB K u p = true → ∃ v, RelV v u ∧ Rep K Z v p
 | u, .none, h => by
  cases u with
  | none => exact ⟨.non, rfl, .non⟩
  | _ => simp [conB] at h
 | u, .bool c, h => by
  cases u with
  | bool b =>
   have h : (b == c) = true := by simpa [conB] using h
   have e : b = c := eq_of_beq h
   subst e
   exact ⟨.bl b, rfl, .bl b⟩
  | _ => simp [conB] at h
 | u, .int j, h => by
  cases u with
  | int i t =>
   have e : i = j := by simpa [conB] using h
   subst e
   exact ⟨.int i, ⟨t, rfl⟩, .int i⟩
  | _ => simp [conB] at h
 | u, .str y, h => by
  cases u with
  | str x t =>
   have h : (decide (x = y) && (PyData.strOk y && Nat.ble y.length sizeLine)) = true := by simpa only [conB] using h
   obtain ⟨h1, h2⟩ := He.ba h
   obtain ⟨h3, h4⟩ := He.ba h2
   have e : x = y := of_decide_eq_true h1
   subst e
   exact ⟨.str x, ⟨t, rfl⟩, .str x h3 (Nat.le_of_ble_eq_true h4)⟩
  | _ => simp [conB] at h
 | u, .tuple ps, h => by
  cases u with
  | ref a =>
   unfold conB at h
   cases q : K.lookup a with
   | none =>
    rw [q] at h
    cases h
   | some o =>
    obtain ⟨oc, od, dt, osl⟩ := o
    rw [q] at h
    cases oc with
    | type c =>
     cases od with
     | none =>
      cases dt with
      | seq its n =>
       have h : (decide (c = "tuple") && (decide (its.size ≤ sizeLine) && conBL K its.toList ps)) = true := h
       obtain ⟨h1, h2⟩ := He.ba h
       obtain ⟨h3, h4⟩ := He.ba h2
       obtain ⟨vs, e1, e2⟩ := conBL_ok (Z := Z) h4
       exact ⟨.ref a, rfl, .tup (.inr ⟨_, its, n, q, congrArg Value.type (of_decide_eq_true h1), rfl, rfl, of_decide_eq_true h3, e1⟩) e2⟩
      | _ => cases h
     | some _ => cases dt <;> cases h
    | _ => cases od <;> cases dt <;> cases h
  | _ => simp [conB] at h
 | u, .list _, h => by cases u <;> simp [conB] at h
 | u, .dict _, h => by cases u <;> simp [conB] at h
theorem conBL_ok [WW] {K : PySem.W.Frag} {Z : Hp} : ∀ {us : List Value} {ps : List P}, conBL K us ps = true → ∃ vs, Vals vs us ∧ RepL K Z vs ps
 | [], [], _ => ⟨[], .nil, .nil⟩
 | [], _ :: _, h => by simp [conBL] at h
 | _ :: _, [], h => by simp [conBL] at h
 | u :: us, p :: ps, h => by
  have h : (conB K u p && conBL K us ps) = true := by simpa only [conBL] using h
  obtain ⟨h1, h2⟩ := He.ba h
  obtain ⟨v, a1, a2⟩ := conB_ok (Z := Z) h1
  obtain ⟨vs, b1, b2⟩ := conBL_ok (Z := Z) h2
  exact ⟨v :: vs, .cons a1 b1, .cons a2 b2⟩
end
def gloB (K : PySem.W.Frag) (t : Str × P) : Bool := match PySem.W.nsIn K mainGlobals t.1 with
 | some (some u) => conB K u t.2
 | _ => false
theorem gloB_ok [WW] {K : PySem.W.Frag} {h : Heap} {mg : Str → Option Value} {t : Str × P} (X : K.In h) (G : h.Ns mainGlobals mg) (c : gloB K t = true) : ∃ u v, mg t.1 = some u ∧ RelV v u ∧ Rep K (fun _ => none) v t.2 := by
 unfold gloB at c
 cases e : PySem.W.nsIn K mainGlobals t.1 with
 | none =>
  rw [e] at c
  cases c
 | some o =>
  rw [e] at c
  cases o with
  | none => cases c
  | some u =>
   obtain ⟨v, h1, h2⟩ := conB_ok (Z := fun _ => none) c
   exact ⟨u, v, PySem.W.mg_of X G e, h1, h2⟩
abbrev AlP : Type := He.AlD × Bool
def obsP (fa : List He.Fa) (fn : List He.DefD) (tb : List (Str × P)) (K : PySem.W.Frag) : AlP := (He.obsD fa fn K, tb.all fun t => gloB K t)
def rfX (g : Addr → Option Obj) (as : List Addr) : List Addr := as.flatMap fun a => match g a with
 | some o => He.refsD o
 | none => []
def asX (g : Addr → Option Obj) : List Addr := let a1 := mainGlobals :: rfX g [mainGlobals]; let cl := a1.filter fun a => match g a with
 | some ⟨_, _, .cls _, _⟩ => true
 | _ => false
 let m := rfX g (rfX g cl); a1 ++ (rfX g a1 ++ (m ++ rfX g m))
structure SaysP (fa : List He.Fa) (fn : List He.DefD) (tb : List (Str × P)) (K : PySem.W.Frag) : Prop where
 eq : obsP fa fn tb K = (He.valD fn, true)
section
variable {fa : List He.Fa} {fn : List He.DefD} {tb : List (Str × P)} {K : PySem.W.Frag}
theorem SaysP.d (c : SaysP fa fn tb K) : He.SaysD fa fn K := congrArg (fun z : AlP => z.1) c.eq
theorem SaysP.fact (c : SaysP fa fn tb K) (i : Nat) {f : He.Fa} (h : fa[i]? = some f := by rfl) : f.ok K = true := c.d.fact i h
theorem SaysP.def_ (c : SaysP fa fn tb K) (i : Nat) {d : He.DefD} (h : fn[i]? = some d := by rfl) : ∃ fd, L2.FunD K d.name d.qual d.params d.body d.scope (d.dvs K) (d.kws K) (He.fAd K d.at_) fd := c.d.def_ i h
theorem SaysP.gs [WW] {h : Heap} {mg : Str → Option Value} {T : Tab} (ht : T.gs = tb) (X : K.In h) (G : h.Ns mainGlobals mg) (c : SaysP fa fn tb K) : ∀ (i : Nat) (p : P), (T.gs[i]?).map (·.2) = some p → ∃ x u v, (T.gs[i]?).map (·.1) = some x ∧ mg x = some u ∧ RelV v u ∧ Rep K (fun _ => none) v p := by
 subst ht
 intro i p hp
 have c2 : (T.gs.all fun t => gloB K t) = true := congrArg (fun z : AlP => z.2) c.eq
 cases e : T.gs[i]? with
 | none => rw [e] at hp; cases hp
 | some t =>
  rw [e] at hp
  have hp : t.2 = p := Option.some.inj hp
  subst hp
  obtain ⟨u, v, h1, h2, h3⟩ := gloB_ok X G (List.all_eq_true.mp c2 t (List.mem_of_getElem? e))
  exact ⟨t.1, u, v, rfl, h1, h2, h3⟩
end
end Mn
end
section
set_option maxHeartbeats 200000
namespace Mn
open PySem L2 PySem.Spec
def entW (e : DictEntry) : Option (Str × Int × Int) := match e.key, e.val with
 | .str x _, .int i _ => some (x, e.hash, i)
 | _, _ => none
def dsW (K : PySem.W.Frag) (nm : Str) : Option (List (Option (Str × Int × Int))) := match PySem.W.nsIn K mainGlobals nm with
 | some (some (.ref a)) => (match K.lookup a with
  | some ⟨.type c, none, .dict es _, sl⟩ => if decide (c = "dict") && (sl.isEmpty && !(a == sysModules)) then some (es.toList.map entW) else none
  | _ => none)
 | _ => none
def wantW (P : Params) (kvs : List (Str × Int)) : Option (List (Option (Str × Int × Int))) := some (kvs.map fun kv => some (kv.1, PyData.keyHash P kv.1, kv.2))
theorem ent_lit {P : Params} : ∀ {l : List DictEntry} {kvs : List (Str × Int)}, l.map entW = kvs.map (fun kv => some (kv.1, PyData.keyHash P kv.1, kv.2)) → PySem.W.KeysLit P l
 | [], _, _ => trivial
 | e :: r, [], h => by cases h
 | e :: r, kv :: kvs, h => by
  rw [List.map_cons, List.map_cons] at h
  injection h with h1 h2
  refine ⟨?_, ent_lit h2⟩
  unfold entW at h1
  split at h1
  ·rename_i x t i u e1 e2
   have h3 := Option.some.inj h1
   injection h3 with a1 a2
   injection a2 with a2 a3
   exact ⟨x, t, e1, by rw [a2, a1]⟩
  ·cases h1
theorem ent_find {P : Params} (z : Str) : ∀ {l : List DictEntry} {kvs : List (Str × Int)}, l.map entW = kvs.map (fun kv => some (kv.1, PyData.keyHash P kv.1, kv.2)) → (l.any fun e => e.refKey) = false ∧ (match kvs.find? fun kv => decide (kv.1 = z) with
  | some kv => ∃ e t, l.find? (fun e => e.key.isStr z) = some e ∧ e.val = .int kv.2 t
  | none => l.find? (fun e => e.key.isStr z) = none)
 | [], [], _ => ⟨rfl, rfl⟩
 | [], _ :: _, h => by cases h
 | e :: r, [], h => by cases h
 | e :: r, kv :: kvs, h => by
  rw [List.map_cons, List.map_cons] at h
  injection h with h1 h2
  obtain ⟨i1, i2⟩ := ent_find z h2
  unfold entW at h1
  split at h1
  ·rename_i x t i u e1 e2
   have h3 := Option.some.inj h1
   injection h3 with a1 a2
   injection a2 with a2 a3
   refine ⟨?_, ?_⟩
   ·rw [List.any_cons, i1, Bool.or_false]
    unfold DictEntry.refKey
    rw [e1]
   ·have hk : e.key.isStr z = decide (kv.1 = z) := by
     rw [e1, ← a1]
     show (x == z) = decide (x = z)
     rw [Bool.eq_iff_iff]; simp
    rw [List.find?_cons, List.find?_cons, hk]
    by_cases c : kv.1 = z
    ·rw [decide_eq_true c]
     exact ⟨e, u, rfl, by rw [e2, a3]⟩
    ·rw [decide_eq_false c]
     exact i2
  ·cases h1
theorem dsW_ok {K : PySem.W.Frag} {w : World} {h : Heap} {mg : Str → Option Value} {nm : Str} {kvs : List (Str × Int)} (X : K.In h) (G : h.Ns mainGlobals mg) (c : dsW K nm = wantW w.params kvs) : DsOk K w mg nm kvs := by
 unfold dsW wantW at c
 split at c
 ·rename_i a e
  split at c
  ·rename_i cl es n sl hl
   split at c
   ·rename_i hb
    rw [Bool.and_eq_true, Bool.and_eq_true, decide_eq_true_eq] at hb
    obtain ⟨rfl, hs, hm⟩ := hb
    have c := Option.some.inj c
    have hsl : sl = #[] := by
     have := Array.isEmpty_iff.mp hs
     exact this
    subst hsl
    refine ⟨a, es, n, PySem.W.mg_of X G e, ⟨hl, ent_lit c, by simpa using hm⟩, fun z => ?_⟩
    obtain ⟨r1, r2⟩ := ent_find z c
    have hn : PySem.W.nsIn K a z = match es.toList.find? (·.key.isStr z) with
      | some e => some (some e.val)
      | none => if es.toList.any (·.refKey) then none else some none := by
     unfold PySem.W.nsIn
     rw [hl]
     rfl
    cases ef : kvs.find? (fun kv => decide (kv.1 = z)) with
    | some kv =>
     rw [ef] at r2
     obtain ⟨e, t, h1, h2⟩ := r2
     exact ⟨t, by rw [hn, h1, ← h2]⟩
    | none =>
     rw [ef] at r2
     show PySem.W.nsIn K a z = some none
     have r2 : es.toList.find? (fun e => e.key.isStr z) = none := r2
     rw [hn, r2, if_neg (by rw [r1]; exact Bool.false_ne_true)]
   ·cases c
  ·cases c
 ·cases c
abbrev AlQ : Type := AlP × List (Option (List (Option (Str × Int × Int))))
def obsQ (fa : List He.Fa) (fn : List He.DefD) (tb : List (Str × P)) (dd : List (Str × List (Str × Int))) (K : PySem.W.Frag) : AlQ := (obsP fa fn tb K, dd.map fun d => dsW K d.1)
def obsQG (n : Nat) (fa : List He.Fa) (fn : List He.DefD) (tb : List (Str × P)) (dd : List (Str × List (Str × Int))) (g : Addr → Option Obj) : AlQ := obsQ fa fn tb dd (He.frG g (asX g))
structure SaysQ (fa : List He.Fa) (fn : List He.DefD) (tb : List (Str × P)) (dd : List (Str × List (Str × Int))) (w : World) (K : PySem.W.Frag) : Prop where
 eq : obsQ fa fn tb dd K = ((He.valD fn, true), dd.map fun d => wantW w.params d.2)
def valQ (fn : List He.DefD) (dd : List (Str × List (Str × Int))) (w : World) : AlQ := ((He.valD fn, true), dd.map fun d => wantW w.params d.2)
def hookQ (n : Nat) (fa : List He.Fa) (fn : List He.DefD) (tb : List (Str × P)) (dd : List (Str × List (Str × Int))) : PySem.W.Hook where
 α := AlQ
 obs := fun s => obsQG n fa fn tb dd s.heap.get?
 val := fun w => valQ fn dd w
 says := fun w h => ∃ K : PySem.W.Frag, K.In h ∧ SaysQ fa fn tb dd w K
 of := fun w s e => ⟨He.frG s.heap.get? (asX s.heap.get?), He.frG_in, ⟨e⟩⟩
 keeps := fun _ _ _ ⟨K, hK, c⟩ k => ⟨K, PySem.W.Frag.In.keeps hK k, c⟩
theorem obsQG_eq {n : Nat} {fa : List He.Fa} {fn : List He.DefD} {tb : List (Str × P)} {dd : List (Str × List (Str × Int))} {g : Addr → Option Obj} {s : Shared} (h : ∀ a, g a = s.heap.get? a) : obsQG n fa fn tb dd g = (hookQ n fa fn tb dd).obs s := by
 have e : g = s.heap.get? := funext h
 rw [e] <;> rfl
section
variable {fa : List He.Fa} {fn : List He.DefD} {tb : List (Str × P)} {dd : List (Str × List (Str × Int))} {w : World} {K : PySem.W.Frag}
theorem SaysQ.p (c : SaysQ fa fn tb dd w K) : SaysP fa fn tb K := ⟨congrArg (fun z : AlQ => z.1) c.eq⟩
theorem map_at {α β : Type} {f g : α → β} : ∀ {l : List α}, l.map f = l.map g → ∀ x ∈ l, f x = g x
 | [], _, x, h => by cases h
 | a :: l, e, x, h => by
  rw [List.map_cons, List.map_cons] at e
  injection e with e1 e2
  rcases List.mem_cons.mp h with h | h
  ·rw [h]; exact e1
  ·exact map_at e2 x h
theorem SaysQ.ds {h : Heap} {mg : Str → Option Value} {T : Tab} (ht : T.ds = dd) (X : K.In h) (G : h.Ns mainGlobals mg) (c : SaysQ fa fn tb dd w K) : ∀ nm kvs, (nm, kvs) ∈ T.ds → DsOk K w mg nm kvs := by
 subst ht
 intro nm kvs hm
 have c2 : (T.ds.map fun d => dsW K d.1) = T.ds.map fun d => wantW w.params d.2 := congrArg (fun z : AlQ => z.2) c.eq
 exact dsW_ok X G (map_at c2 (nm, kvs) hm)
end
end Mn
end
section
set_option maxHeartbeats 0
namespace Mn
open PySem L2 PySem.Spec
open PySem.W (OpenLaw view)
namespace Lw
def F_kind_row : Fn := ⟨(Str.ofString "kind_row"), 2, [(Str.ofString "program"), (Str.ofString "name"), (Str.ofString "row")], (.cons (.fr (.nm 2) (.of (.sub (.pl 0) (.ki 0))) (.cons (.ifs (.cmp .eq (.sub (.pl 2) (.ki 0)) (.pl 1)) (.cons (.ret (.mv 2)) .nil) .nil) .nil)) (.cons (.ret .kn) .nil))⟩
def F_line_up : Fn := ⟨(Str.ofString "line_up"), 2, [(Str.ofString "program"), (Str.ofString "kind"), (Str.ofString "found")], (.cons (.asg (.nm 2) (.lst .nil)) (.cons (.wh (.cmp .notN (.pl 1) .kn) (.cons (.app 2 (.tk 1)) (.cons (.asg (.nm 1) (.sub (.call 0 (.cons (.pl 0) (.cons (.pl 1) .nil))) (.ki 1))) .nil))) (.cons (.ret (.mv 2)) .nil)))⟩
def F_deed_row : Fn := ⟨(Str.ofString "deed_row"), 3, [(Str.ofString "program"), (Str.ofString "kind"), (Str.ofString "deed"), (Str.ofString "row")], (.cons (.fr (.nm 3) (.of (.sub (.call 0 (.cons (.pl 0) (.cons (.pl 1) .nil))) (.ki 2))) (.cons (.ifs (.cmp .eq (.sub (.pl 3) (.ki 0)) (.pl 2)) (.cons (.ret (.mv 3)) .nil) .nil) .nil)) (.cons (.ret .kn) .nil))⟩
def F_answer : Fn := ⟨(Str.ofString "answer"), 3, [(Str.ofString "program"), (Str.ofString "kind"), (Str.ofString "deed"), (Str.ofString "name")], (.cons (.fr (.nm 3) (.of (.call 1 (.cons (.pl 0) (.cons (.pl 1) .nil)))) (.cons (.ifs (.cmp .notN (.call 2 (.cons (.pl 0) (.cons (.pl 3) (.cons (.pl 2) .nil)))) .kn) (.cons (.ret (.mv 3)) .nil) .nil) .nil)) (.cons (.ret .kn) .nil))⟩
def F_kind_names : Fn := ⟨(Str.ofString "kind_names"), 1, [(Str.ofString "program"), (Str.ofString "row")], (.cons (.ret (.comp [1] (.nm 1) (.of (.sub (.pl 0) (.ki 0))) .nil (.sub (.pl 1) (.ki 0)))) .nil)⟩
def F_is_word : Fn := ⟨(Str.ofString "is_word"), 1, [(Str.ofString "thing"), (Str.ofString "letter")], (.cons (.ifs (.bor (.nt (.bi .isStr (.cons (.pl 0) .nil))) (.nt (.cmp2 .le .le (.ki 1) (.bi .len (.cons (.pl 0) .nil)) (.g 1)))) (.cons (.ret (.kb false)) .nil) .nil) (.cons (.ret (.bi .all (.cons (.comp [1] (.nm 1) (.lk 0) .nil (.cmp .inn (.pl 1) (.g 0))) .nil))) .nil))⟩
def F_are_unlike : Fn := ⟨(Str.ofString "are_unlike"), 1, [(Str.ofString "things")], (.cons (.ret (.cmp .eq (.sln (.pl 0)) (.bi .len (.cons (.pl 0) .nil)))) .nil)⟩
def F_inner_rows : Fn := ⟨(Str.ofString "inner_rows"), 1, [(Str.ofString "row")], (.cons (.ifs (.cmp .eq (.sub (.pl 0) (.ki 0)) (.ks (Str.ofString "either"))) (.cons (.ret (.lst (.cons (.sub (.pl 0) (.ki 1)) (.cons (.sub (.pl 0) (.ki 2)) .nil)))) .nil) .nil) (.cons (.ifs (.cmp .eq (.sub (.pl 0) (.ki 0)) (.ks (Str.ofString "again"))) (.cons (.ret (.lst (.cons (.sub (.pl 0) (.ki 1)) .nil))) .nil) .nil) (.cons (.ret (.lst .nil)) .nil)))⟩
def F_rows_flat : Fn := ⟨(Str.ofString "rows_flat"), 1, [(Str.ofString "rows"), (Str.ofString "found"), (Str.ofString "row"), (Str.ofString "lot")], (.cons (.asg (.nm 1) (.lst .nil)) (.cons (.fr (.nm 2) (.lk 0) (.cons (.app 1 (.tk 2)) (.cons (.fr (.nm 3) (.of (.call 7 (.cons (.pl 2) .nil))) (.cons (.ext 1 (.call 8 (.cons (.pl 3) .nil))) .nil)) .nil))) (.cons (.ret (.mv 1)) .nil)))⟩
def F_is_deed : Fn := ⟨(Str.ofString "is_deed"), 1, [(Str.ofString "thing"), (Str.ofString "x")], (.cons (.ifs (.bor (.nt (.bi .isTup (.cons (.pl 0) .nil))) (.bor (.cmp .ne (.bi .len (.cons (.pl 0) .nil)) (.ki 4)) (.bor (.nt (.call 5 (.cons (.sub (.pl 0) (.ki 0)) .nil))) (.nt (.bi .isTup (.cons (.sub (.pl 0) (.ki 1)) .nil)))))) (.cons (.ret (.kb false)) .nil) .nil) (.cons (.ifs (.bor (.cmp .gt (.bi .len (.cons (.sub (.pl 0) (.ki 1)) .nil)) (.g 4)) (.nt (.bi .all (.cons (.comp [1] (.nm 1) (.of (.sub (.pl 0) (.ki 1))) .nil (.ban (.call 5 (.cons (.pl 1) .nil)) (.cmp .ne (.pl 1) (.g 10)))) .nil)))) (.cons (.ret (.kb false)) .nil) .nil) (.cons (.ret (.ban (.call 6 (.cons (.sub (.pl 0) (.ki 1)) .nil)) (.bor (.cmp .isN (.sub (.pl 0) (.ki 3)) .kn) (.call 5 (.cons (.sub (.pl 0) (.ki 3)) .nil))))) .nil)))⟩
def F_is_kind : Fn := ⟨(Str.ofString "is_kind"), 1, [(Str.ofString "thing"), (Str.ofString "deed")], (.cons (.ifs (.bor (.nt (.bi .isTup (.cons (.pl 0) .nil))) (.bor (.cmp .ne (.bi .len (.cons (.pl 0) .nil)) (.ki 3)) (.nt (.call 5 (.cons (.sub (.pl 0) (.ki 0)) .nil))))) (.cons (.ret (.kb false)) .nil) .nil) (.cons (.ifs (.bor (.ban (.cmp .notN (.sub (.pl 0) (.ki 1)) .kn) (.nt (.call 5 (.cons (.sub (.pl 0) (.ki 1)) .nil)))) (.nt (.bi .isTup (.cons (.sub (.pl 0) (.ki 2)) .nil)))) (.cons (.ret (.kb false)) .nil) .nil) (.cons (.ifs (.bor (.cmp .gt (.bi .len (.cons (.sub (.pl 0) (.ki 2)) .nil)) (.g 3)) (.nt (.bi .all (.cons (.comp [1] (.nm 1) (.of (.sub (.pl 0) (.ki 2))) .nil (.call 9 (.cons (.pl 1) .nil))) .nil)))) (.cons (.ret (.kb false)) .nil) .nil) (.cons (.ret (.call 6 (.cons (.comp [1] (.nm 1) (.of (.sub (.pl 0) (.ki 2))) .nil (.sub (.pl 1) (.ki 0))) .nil))) .nil))))⟩
def F_are_kinds : Fn := ⟨(Str.ofString "are_kinds"), 1, [(Str.ofString "thing"), (Str.ofString "names"), (Str.ofString "name"), (Str.ofString "elder"), (Str.ofString "deeds"), (Str.ofString "one")], (.cons (.ifs (.bor (.nt (.bi .isTup (.cons (.pl 0) .nil))) (.bor (.nt (.cmp2 .le .le (.ki 1) (.bi .len (.cons (.pl 0) .nil)) (.g 2))) (.nt (.bi .all (.cons (.comp [5] (.nm 5) (.lk 0) .nil (.call 10 (.cons (.pl 5) .nil))) .nil))))) (.cons (.ret (.kb false)) .nil) .nil) (.cons (.asg (.nm 1) (.lst .nil)) (.cons (.fr (.tp [(.nm 2), (.nm 3), (.nm 4)]) (.lk 0) (.cons (.ifs (.bor (.cmp .inn (.pl 2) (.pl 1)) (.ban (.cmp .notN (.pl 3) .kn) (.cmp .nin (.pl 3) (.pl 1)))) (.cons (.ret (.kb false)) .nil) .nil) (.cons (.app 1 (.tk 2)) .nil))) (.cons (.ret (.kb true)) .nil))))⟩
def F_are_late : Fn := ⟨(Str.ofString "are_late"), 2, [(Str.ofString "thing"), (Str.ofString "kinds"), (Str.ofString "row"), (Str.ofString "name"), (Str.ofString "one"), (Str.ofString "other")], (.cons (.ifs (.bor (.nt (.bi .isTup (.cons (.pl 0) .nil))) (.bor (.cmp .gt (.bi .len (.cons (.pl 0) .nil)) (.g 5)) (.nt (.bi .all (.cons (.comp [3] (.nm 3) (.lk 0) .nil (.call 5 (.cons (.pl 3) .nil))) .nil))))) (.cons (.ret (.kb false)) .nil) .nil) (.cons (.ifs (.nt (.bi .all (.cons (.comp [4, 5] (.tp [(.nm 4), (.nm 5)]) (.zp (.tk 0) (.slc (.pl 0) (.ki 1) .no)) .nil (.cmp .lt (.pl 4) (.pl 5))) .nil))) (.cons (.ret (.kb false)) .nil) .nil) (.cons (.ifs (.nt (.bi .all (.cons (.comp [3] (.nm 3) (.lk 0) .nil (.cmp .inn (.pl 3) (.comp [2] (.nm 2) (.lk 1) .nil (.sub (.pl 2) (.ki 0))))) .nil))) (.cons (.ret (.kb false)) .nil) .nil) (.cons (.ret (.bi .all (.cons (.comp [2] (.nm 2) (.lk 1) (.cons (.cmp .inn (.sub (.pl 2) (.ki 1)) (.pl 0)) .nil) (.cmp .inn (.sub (.pl 2) (.ki 0)) (.pl 0))) .nil))) .nil))))⟩
def F_keep_params : Fn := ⟨(Str.ofString "keep_params"), 1, [(Str.ofString "program"), (Str.ofString "name"), (Str.ofString "elder"), (Str.ofString "deeds"), (Str.ofString "deed"), (Str.ofString "params"), (Str.ofString "rows"), (Str.ofString "gives")], (.cons (.fr (.tp [(.nm 1), (.nm 2), (.nm 3)]) (.of (.sub (.pl 0) (.ki 0))) (.cons (.fr (.tp [(.nm 4), (.nm 5), (.nm 6), (.nm 7)]) (.lk 3) (.cons (.ifs (.ban (.cmp .notN (.pl 2) .kn) (.cmp .notN (.call 3 (.cons (.pl 0) (.cons (.pl 2) (.cons (.pl 4) .nil)))) .kn)) (.cons (.ifs (.cmp .ne (.bi .len (.cons (.sub (.call 2 (.cons (.pl 0) (.cons (.call 3 (.cons (.pl 0) (.cons (.pl 2) (.cons (.pl 4) .nil)))) (.cons (.pl 4) .nil)))) (.ki 1)) .nil)) (.bi .len (.cons (.pl 5) .nil))) (.cons (.ret (.kb false)) .nil) .nil) .nil) .nil) .nil)) .nil)) (.cons (.ret (.kb true)) .nil))⟩
def F_is_read : Fn := ⟨(Str.ofString "is_read"), 2, [(Str.ofString "thing"), (Str.ofString "in_main")], (.cons (.ret (.ban (.call 5 (.cons (.pl 0) .nil)) (.nt (.ban (.tk 1) (.cmp .eq (.pl 0) (.g 10)))))) .nil)⟩
def F_is_given : Fn := ⟨(Str.ofString "is_given"), 1, [(Str.ofString "thing")], (.cons (.ret (.ban (.call 5 (.cons (.pl 0) .nil)) (.cmp .ne (.pl 0) (.g 10)))) .nil)⟩
def F_is_call : Fn := ⟨(Str.ofString "is_call"), 3, [(Str.ofString "program"), (Str.ofString "row"), (Str.ofString "in_main"), (Str.ofString "word"), (Str.ofString "x"), (Str.ofString "y"), (Str.ofString "kind"), (Str.ofString "deed"), (Str.ofString "args"), (Str.ofString "one")], (.cons (.asg (.tp [(.nm 3), (.nm 4), (.nm 5), (.nm 6), (.nm 7), (.nm 8)]) (.tk 1)) (.cons (.ifs (.bor (.nt (.call 15 (.cons (.pl 4) .nil))) (.bor (.nt (.call 14 (.cons (.pl 5) (.cons (.pl 2) .nil)))) (.bor (.nt (.call 5 (.cons (.pl 6) .nil))) (.nt (.call 5 (.cons (.pl 7) .nil)))))) (.cons (.ret (.kb false)) .nil) .nil) (.cons (.ifs (.bor (.nt (.bi .isTup (.cons (.pl 8) .nil))) (.nt (.bi .all (.cons (.comp [9] (.nm 9) (.lk 8) .nil (.call 14 (.cons (.pl 9) (.cons (.pl 2) .nil)))) .nil)))) (.cons (.ret (.kb false)) .nil) .nil) (.cons (.ifs (.bor (.cmp .isN (.call 0 (.cons (.pl 0) (.cons (.pl 6) .nil))) .kn) (.cmp .isN (.call 3 (.cons (.pl 0) (.cons (.pl 6) (.cons (.pl 7) .nil)))) .kn)) (.cons (.ret (.kb false)) .nil) .nil) (.cons (.ret (.cmp .eq (.bi .len (.cons (.sub (.call 2 (.cons (.pl 0) (.cons (.call 3 (.cons (.pl 0) (.cons (.pl 6) (.cons (.pl 7) .nil)))) (.cons (.pl 7) .nil)))) (.ki 1)) .nil)) (.bi .len (.cons (.pl 8) .nil)))) .nil)))))⟩
def F_is_row : Fn := ⟨(Str.ofString "is_row"), 4, [(Str.ofString "program"), (Str.ofString "thing"), (Str.ofString "in_main"), (Str.ofString "deep"), (Str.ofString "word"), (Str.ofString "lot")], (.cons (.ifs (.bor (.nt (.bi .isTup (.cons (.pl 1) .nil))) (.bor (.cmp .lt (.bi .len (.cons (.pl 1) .nil)) (.ki 2)) (.nt (.bi .isStr (.cons (.sub (.pl 1) (.ki 0)) .nil))))) (.cons (.ret (.kb false)) .nil) .nil) (.cons (.asg (.nm 4) (.sub (.pl 1) (.ki 0))) (.cons (.ifs (.cmp .ne (.bi .len (.cons (.pl 1) .nil)) (.lgk (Str.ofString "LONG") [((Str.ofString "make"), 3), ((Str.ofString "copy"), 3), ((Str.ofString "put"), 4), ((Str.ofString "take"), 4), ((Str.ofString "say"), 2), ((Str.ofString "call"), 6), ((Str.ofString "either"), 3), ((Str.ofString "again"), 2), ((Str.ofString "bring"), 2)] (.tk 4) 0)) (.cons (.ret (.kb false)) .nil) .nil) (.cons (.ifs (.cmp .eq (.pl 4) (.ks (Str.ofString "make"))) (.cons (.ret (.ban (.call 15 (.cons (.sub (.pl 1) (.ki 1)) .nil)) (.ban (.call 5 (.cons (.sub (.pl 1) (.ki 2)) .nil)) (.cmp .inn (.sub (.pl 1) (.ki 2)) (.call 4 (.cons (.pl 0) .nil)))))) .nil) .nil) (.cons (.ifs (.cmp .eq (.pl 4) (.ks (Str.ofString "copy"))) (.cons (.ret (.ban (.call 15 (.cons (.sub (.pl 1) (.ki 1)) .nil)) (.call 14 (.cons (.sub (.pl 1) (.ki 2)) (.cons (.pl 2) .nil))))) .nil) .nil) (.cons (.ifs (.cmp .eq (.pl 4) (.ks (Str.ofString "put"))) (.cons (.ret (.ban (.call 14 (.cons (.sub (.pl 1) (.ki 1)) (.cons (.pl 2) .nil))) (.ban (.call 5 (.cons (.sub (.pl 1) (.ki 2)) .nil)) (.call 14 (.cons (.sub (.pl 1) (.ki 3)) (.cons (.pl 2) .nil)))))) .nil) .nil) (.cons (.ifs (.cmp .eq (.pl 4) (.ks (Str.ofString "take"))) (.cons (.ret (.ban (.call 15 (.cons (.sub (.pl 1) (.ki 1)) .nil)) (.ban (.call 14 (.cons (.sub (.pl 1) (.ki 2)) (.cons (.pl 2) .nil))) (.call 5 (.cons (.sub (.pl 1) (.ki 3)) .nil))))) .nil) .nil) (.cons (.ifs (.cmp .eq (.pl 4) (.ks (Str.ofString "say"))) (.cons (.ret (.call 5 (.cons (.sub (.pl 1) (.ki 1)) .nil))) .nil) .nil) (.cons (.ifs (.cmp .eq (.pl 4) (.ks (Str.ofString "call"))) (.cons (.ret (.call 16 (.cons (.pl 0) (.cons (.pl 1) (.cons (.pl 2) .nil))))) .nil) .nil) (.cons (.ifs (.cmp .eq (.pl 4) (.ks (Str.ofString "bring"))) (.cons (.ret (.ban (.call 5 (.cons (.sub (.pl 1) (.ki 1)) .nil)) (.cmp .inn (.sub (.pl 1) (.ki 1)) (.sub (.pl 0) (.ki 1))))) .nil) .nil) (.cons (.ret (.ban (.cmp .gt (.pl 3) (.ki 0)) (.bi .all (.cons (.comp [5] (.nm 5) (.of (.call 7 (.cons (.pl 1) .nil))) .nil (.call 18 (.cons (.pl 0) (.cons (.pl 5) (.cons (.pl 2) (.cons (.bin .sub (.pl 3) (.ki 1)) .nil)))))) .nil)))) .nil)))))))))))⟩
def F_are_rows : Fn := ⟨(Str.ofString "are_rows"), 4, [(Str.ofString "program"), (Str.ofString "thing"), (Str.ofString "in_main"), (Str.ofString "deep"), (Str.ofString "one")], (.cons (.ifs (.bor (.nt (.bi .isTup (.cons (.pl 1) .nil))) (.cmp .gt (.bi .len (.cons (.pl 1) .nil)) (.g 6))) (.cons (.ret (.kb false)) .nil) .nil) (.cons (.ret (.bi .all (.cons (.comp [4] (.nm 4) (.lk 1) .nil (.call 17 (.cons (.pl 0) (.cons (.pl 4) (.cons (.pl 2) (.cons (.pl 3) .nil)))))) .nil))) .nil))⟩
def F_bodies : Fn := ⟨(Str.ofString "bodies"), 1, [(Str.ofString "program"), (Str.ofString "found"), (Str.ofString "name"), (Str.ofString "elder"), (Str.ofString "deeds"), (Str.ofString "deed")], (.cons (.asg (.nm 1) (.lst (.cons (.g 9) .nil))) (.cons (.fr (.tp [(.nm 2), (.nm 3), (.nm 4)]) (.of (.sub (.pl 0) (.ki 0))) (.cons (.ext 1 (.comp [5] (.nm 5) (.lk 4) .nil (.tup (.cons (.tk 2) (.cons (.sub (.pl 5) (.ki 0)) .nil))))) .nil)) (.cons (.ret (.mv 1)) .nil)))⟩
def F_body_row : Fn := ⟨(Str.ofString "body_row"), 2, [(Str.ofString "program"), (Str.ofString "body")], (.cons (.ifs (.cmp .eq (.pl 1) (.g 9)) (.cons (.ret (.tup (.cons (.ks (Str.ofString "")) (.cons (.tup .nil) (.cons (.sub (.pl 0) (.ki 2)) (.cons .kn .nil)))))) .nil) .nil) (.cons (.ret (.call 2 (.cons (.pl 0) (.cons (.sub (.pl 1) (.ki 0)) (.cons (.sub (.pl 1) (.ki 1)) .nil))))) .nil))⟩
def F_all_rows : Fn := ⟨(Str.ofString "all_rows"), 1, [(Str.ofString "program"), (Str.ofString "found"), (Str.ofString "body"), (Str.ofString "number"), (Str.ofString "row")], (.cons (.asg (.nm 1) (.lst .nil)) (.cons (.fr (.nm 2) (.of (.call 19 (.cons (.pl 0) .nil))) (.cons (.ext 1 (.comp [4] (.nm 4) (.of (.call 8 (.cons (.sub (.call 20 (.cons (.pl 0) (.cons (.pl 2) .nil))) (.ki 2)) .nil))) .nil (.tup (.cons (.tk 2) (.cons (.tk 4) .nil))))) .nil)) (.cons (.ret (.comp [3, 2, 4] (.tp [(.nm 3), (.tp [(.nm 2), (.nm 4)])]) (.en (.tk 1)) .nil (.tup (.cons (.tk 3) (.cons (.tk 2) (.cons (.tk 4) .nil)))))) .nil)))⟩
def F_is_program : Fn := ⟨(Str.ofString "is_program"), 1, [(Str.ofString "thing"), (Str.ofString "body")], (.cons (.ifs (.bor (.nt (.bi .isTup (.cons (.pl 0) .nil))) (.bor (.cmp .ne (.bi .len (.cons (.pl 0) .nil)) (.ki 3)) (.bor (.nt (.call 11 (.cons (.sub (.pl 0) (.ki 0)) .nil))) (.nt (.call 12 (.cons (.sub (.pl 0) (.ki 1)) (.cons (.sub (.pl 0) (.ki 0)) .nil))))))) (.cons (.ret (.kb false)) .nil) .nil) (.cons (.ifs (.nt (.call 13 (.cons (.pl 0) .nil))) (.cons (.ret (.kb false)) .nil) .nil) (.cons (.fr (.nm 1) (.of (.call 19 (.cons (.pl 0) .nil))) (.cons (.ifs (.nt (.call 18 (.cons (.pl 0) (.cons (.sub (.call 20 (.cons (.pl 0) (.cons (.pl 1) .nil))) (.ki 2)) (.cons (.cmp .eq (.pl 1) (.g 9)) (.cons (.g 7) .nil)))))) (.cons (.ret (.kb false)) .nil) .nil) .nil)) (.cons (.ret (.cmp .le (.bi .len (.cons (.call 21 (.cons (.pl 0) .nil)) .nil)) (.g 8))) .nil))))⟩
def F_law_hand : Fn := ⟨(Str.ofString "_law_hand"), 2, [(Str.ofString "_law_script"), (Str.ofString "_law_k"), (Str.ofString "_law_cell")], (.cons (.asg (.nm 2) (.ki 0)) (.cons (.ifs (.cmp .lt (.pl 1) (.bi .len (.cons (.pl 0) .nil))) (.cons (.asg (.nm 2) (.bi .abs (.cons (.sub (.pl 0) (.tk 1)) .nil))) .nil) .nil) (.cons (.ret (.lst (.cons (.bin .mul (.pl 2) (.bi .int (.cons (.cmp .ge (.pl 2) (.bin .pow (.ki 10) (.ki 18))) .nil))) (.cons (.bin .add (.bin .add (.bin .mod (.pl 2) (.ki 2305843009213693951)) (.bin .mul (.ki 7919) (.pl 1))) (.ki 11)) (.cons (.ki 0) (.cons (.ki 0) .nil)))))) .nil)))⟩
def F_law_take : Fn := ⟨(Str.ofString "_law_take"), 2, [(Str.ofString "_law_hand_here"), (Str.ofString "_law_many"), (Str.ofString "_law_turn"), (Str.ofString "_law_mixed"), (Str.ofString "_law_digit")], (.cons (.ifs (.cmp .gt (.sub (.pl 0) (.ki 0)) (.ki 0)) (.cons (.asg (.nm 4) (.bin .mod (.sub (.pl 0) (.ki 0)) (.pl 1))) (.cons (.sto 0 (.ki 0) (.bin .div (.sub (.pl 0) (.ki 0)) (.pl 1))) (.cons (.ret (.mv 4)) .nil))) .nil) (.cons (.sto 0 (.ki 2) (.bin .add (.sub (.pl 0) (.ki 2)) (.ki 1))) (.cons (.asg (.nm 2) (.sub (.pl 0) (.ki 2))) (.cons (.asg (.nm 3) (.bin .mod (.bin .mul (.bin .add (.sub (.pl 0) (.ki 1)) (.bin .mul (.ki 39373) (.pl 2))) (.bin .add (.ki 48271) (.bin .mul (.pl 2) (.pl 2)))) (.ki 2305843009213693921))) (.cons (.sto 0 (.ki 1) (.bin .mod (.bin .mul (.pl 3) (.bin .add (.bin .mod (.pl 3) (.ki 1000003)) (.ki 17))) (.ki 2305843009213693907))) (.cons (.ret (.bin .mod (.bin .div (.sub (.pl 0) (.ki 1)) (.ki 131071)) (.pl 1))) .nil))))))⟩
def F_law_word : Fn := ⟨(Str.ofString "_law_word"), 2, [(Str.ofString "_law_number"), (Str.ofString "_law_long")], (.cons (.ret (.bin .add (.bin .add (.sub (.ks (Str.ofString "abcdefghij")) (.bin .mod (.bin .div (.pl 0) (.ki 10)) (.ki 10))) (.sub (.ks (Str.ofString "klmnopqrst")) (.bin .mod (.pl 0) (.ki 10)))) (.bin .mul (.ks (Str.ofString "z")) (.bin .sub (.pl 1) (.ki 2))))) .nil)⟩
def F_law_built : Fn := ⟨(Str.ofString "_law_built"), 7, [(Str.ofString "_law_many"), (Str.ofString "_law_deeds"), (Str.ofString "_law_params"), (Str.ofString "_law_late"), (Str.ofString "_law_rows"), (Str.ofString "_law_deep"), (Str.ofString "_law_long"), (Str.ofString "_law_names"), (Str.ofString "_law_has"), (Str.ofString "_law_kinds"), (Str.ofString "_law_inner"), (Str.ofString "_law_k"), (Str.ofString "_law_main"), (Str.ofString "_law_name"), (Str.ofString "_law_j")], (.cons (.asg (.nm 7) (.comp [11] (.nm 11) (.rg (.cons (.tk 0) .nil)) .nil (.call 25 (.cons (.pl 11) (.cons (.pl 6) .nil))))) (.cons (.asg (.nm 8) (.bi .tup (.cons (.comp [11] (.nm 11) (.rg (.cons (.tk 1) .nil)) .nil (.tup (.cons (.call 25 (.cons (.pl 11) (.cons (.ki 2) .nil))) (.cons (.bi .tup (.cons (.comp [14] (.nm 14) (.rg (.cons (.tk 2) .nil)) .nil (.call 25 (.cons (.pl 14) (.cons (.ki 3) .nil)))) .nil)) (.cons (.tup .nil) (.cons .kn .nil)))))) .nil))) (.cons (.asg (.nm 9) (.bin .add (.comp [13] (.nm 13) (.of (.slc (.pl 7) .no (.neg (.ki 1)))) .nil (.tup (.cons (.tk 13) (.cons .kn (.cons (.tup .nil) .nil))))) (.lst (.cons (.tup (.cons (.sub (.pl 7) (.neg (.ki 1))) (.cons .kn (.cons (.tk 8) .nil)))) .nil)))) (.cons (.asg (.nm 10) (.tup .nil)) (.cons (.fr (.nm 11) (.rg (.cons (.tk 5) .nil)) (.cons (.asg (.nm 10) (.tup (.cons (.tup (.cons (.ks (Str.ofString "again")) (.cons (.tk 10) .nil))) .nil))) .nil)) (.cons (.asg (.nm 12) (.bin .add (.bi .tup (.cons (.bin .mul (.lst (.cons (.tup (.cons (.ks (Str.ofString "say")) (.cons (.ks (Str.ofString "zz")) .nil))) .nil)) (.bin .sub (.pl 4) (.bi .len (.cons (.pl 10) .nil)))) .nil)) (.pl 10))) (.cons (.ret (.tup (.cons (.bi .tup (.cons (.pl 9) .nil)) (.cons (.bi .tup (.cons (.bi .sorted (.cons (.slc (.pl 7) .no (.tk 3)) .nil)) .nil)) (.cons (.tk 12) .nil))))) .nil)))))))⟩
def F_law_full : Fn := ⟨(Str.ofString "_law_full"), 1, [(Str.ofString "_law_rows"), (Str.ofString "_law_lots"), (Str.ofString "_law_deeds"), (Str.ofString "_law_k"), (Str.ofString "_law_many")], (.cons (.asg (.nm 1) (.bin .add (.bin .mul (.lst (.cons (.ki 20) .nil)) (.bin .div (.pl 0) (.ki 20))) (.lst (.cons (.bin .mod (.pl 0) (.ki 20)) .nil)))) (.cons (.asg (.nm 2) (.bi .tup (.cons (.comp [3, 4] (.tp [(.nm 3), (.nm 4)]) (.en (.tk 1)) .nil (.tup (.cons (.call 25 (.cons (.pl 3) (.cons (.ki 2) .nil))) (.cons (.tup .nil) (.cons (.bi .tup (.cons (.bin .mul (.lst (.cons (.tup (.cons (.ks (Str.ofString "say")) (.cons (.ks (Str.ofString "zz")) .nil))) .nil)) (.pl 4)) .nil)) (.cons .kn .nil)))))) .nil))) (.cons (.ret (.tup (.cons (.tup (.cons (.tup (.cons (.ks (Str.ofString "kind")) (.cons .kn (.cons (.tk 2) .nil)))) .nil)) (.cons (.tup .nil) (.cons (.tup .nil) .nil))))) .nil)))⟩
def F_law : Fn := ⟨(Str.ofString "law"), 1, [(Str.ofString "_law_script"), (Str.ofString "_law_k"), (Str.ofString "_law_hand_here"), (Str.ofString "_law_usual"), (Str.ofString "_law_greatest"), (Str.ofString "_law_turn"), (Str.ofString "_law_rows"), (Str.ofString "_law_found"), (Str.ofString "_law_thing"), (Str.ofString "_law_at"), (Str.ofString "_law_sizes"), (Str.ofString "_law_due"), (Str.ofString "_law_many"), (Str.ofString "_law_deeds"), (Str.ofString "_law_params"), (Str.ofString "_law_late"), (Str.ofString "_law_deep"), (Str.ofString "_law_long"), (Str.ofString "_law_one"), (Str.ofString "_law_most")], (.cons (.fr (.nm 1) (.rg (.cons (.bi .max2 (.cons (.ki 1) (.cons (.bi .min2 (.cons (.bi .len (.cons (.pl 0) .nil)) (.cons (.ki 9) .nil))) .nil))) .nil)) (.cons (.asg (.nm 2) (.call 23 (.cons (.pl 0) (.cons (.pl 1) .nil)))) (.cons (.asg (.nm 3) (.lst (.cons (.ki 3) (.cons (.ki 2) (.cons (.ki 2) (.cons (.ki 1) (.cons (.ki 4) (.cons (.ki 1) (.cons (.ki 4) .nil))))))))) (.cons (.asg (.nm 4) (.lst (.cons (.ki 12) (.cons (.ki 6) (.cons (.ki 4) (.cons (.ki 6) (.cons (.ki 20) (.cons (.ki 4) (.cons (.ki 8) .nil))))))))) (.cons (.fr (.nm 5) (.rg (.cons (.ki 12) .nil)) (.cons (.asg (.nm 9) (.call 24 (.cons (.pl 2) (.cons (.ki 7) .nil)))) (.cons (.asg (.nm 10) (.bi .list (.cons (.pl 3) .nil))) (.cons (.sto 10 (.tk 9) (.bin .add (.bin .sub (.sub (.pl 4) (.tk 9)) (.ki 2)) (.call 24 (.cons (.pl 2) (.cons (.ki 5) .nil))))) (.cons (.ifs (.bor (.cmp .eq (.pl 9) (.ki 3)) (.cmp .eq (.pl 9) (.ki 0))) (.cons (.sto 10 (.ki 0) (.bi .max2 (.cons (.sub (.pl 10) (.ki 0)) (.cons (.sub (.pl 10) (.ki 3)) .nil)))) .nil) .nil) (.cons (.asg (.tp [(.nm 12), (.nm 13), (.nm 14), (.nm 15), (.nm 6), (.nm 16), (.nm 17)]) (.tk 10)) (.cons (.asg (.nm 7) (.call 22 (.cons (.call 26 (.cons (.pl 12) (.cons (.pl 13) (.cons (.pl 14) (.cons (.pl 15) (.cons (.pl 6) (.cons (.pl 16) (.cons (.pl 17) .nil)))))))) .nil))) (.cons (.asg (.nm 11) (.bi .all (.cons (.comp [18, 19] (.tp [(.nm 18), (.nm 19)]) (.zp (.tk 10) (.tk 4)) .nil (.cmp .le (.pl 18) (.pl 19))) .nil))) (.cons (.ifs (.bor (.nt (.bi .isBool (.cons (.pl 7) .nil))) (.cmp .ne (.pl 7) (.pl 11))) (.cons (.ret (.kb false)) .nil) .nil) .nil))))))))) (.cons (.asg (.nm 6) (.bin .add (.ki 78) (.call 24 (.cons (.pl 2) (.cons (.ki 5) .nil))))) (.cons (.asg (.nm 7) (.call 22 (.cons (.call 27 (.cons (.pl 6) .nil)) .nil))) (.cons (.ifs (.bor (.nt (.bi .isBool (.cons (.pl 7) .nil))) (.cmp .ne (.pl 7) (.cmp .le (.pl 6) (.ki 80)))) (.cons (.ret (.kb false)) .nil) .nil) (.cons (.fr (.nm 8) (.of (.lst (.cons .kn (.cons (.ki 0) (.cons (.kb true) (.cons (.ks (Str.ofString "")) (.cons (.ks (Str.ofString "kind")) (.cons (.tup .nil) (.cons (.tup (.cons (.tup .nil) (.cons (.tup .nil) (.cons (.tup .nil) .nil)))) (.cons (.lst .nil) (.cons (.dnw 0) (.cons (.tup (.cons (.tup (.cons (.tup (.cons (.ks (Str.ofString "kind")) (.cons .kn (.cons (.tup .nil) .nil)))) .nil)) (.cons (.tup .nil) .nil))) (.cons (.tup (.cons .kn (.cons (.tup .nil) (.cons (.tup .nil) .nil)))) .nil))))))))))))) (.cons (.ifs (.cmp .notB (.call 22 (.cons (.pl 8) .nil)) (.kb false)) (.cons (.ret (.kb false)) .nil) .nil) .nil)) .nil))))))))) (.cons (.ret (.cmp .isB (.call 22 (.cons (.tup (.cons (.tup (.cons (.tup (.cons (.ks (Str.ofString "kind")) (.cons .kn (.cons (.tup .nil) .nil)))) .nil)) (.cons (.tup .nil) (.cons (.tup .nil) .nil)))) .nil)) (.kb true))) .nil))⟩
def T : Tab := ⟨[F_kind_row, F_line_up, F_deed_row, F_answer, F_kind_names, F_is_word, F_are_unlike, F_inner_rows, F_rows_flat, F_is_deed, F_is_kind, F_are_kinds, F_are_late, F_keep_params, F_is_read, F_is_given, F_is_call, F_is_row, F_are_rows, F_bodies, F_body_row, F_all_rows, F_is_program, F_law_hand, F_law_take, F_law_word, F_law_built, F_law_full, F_law], [((Str.ofString "LETTERS"), (.str (Str.ofString "abcdefghijklmnopqrstuvwxyz"))), ((Str.ofString "MOST_LETTERS"), (.int 8)), ((Str.ofString "MOST_KINDS"), (.int 12)), ((Str.ofString "MOST_DEEDS"), (.int 6)), ((Str.ofString "MOST_PARAMS"), (.int 4)), ((Str.ofString "MOST_LATE"), (.int 6)), ((Str.ofString "MOST_IN_ROWS"), (.int 20)), ((Str.ofString "MOST_DEEP"), (.int 4)), ((Str.ofString "MOST_ROWS"), (.int 80)), ((Str.ofString "MAIN"), (.tuple [(.str (Str.ofString "")), (.str (Str.ofString ""))])), ((Str.ofString "OWN"), (.str (Str.ofString "own")))], [], [], [((Str.ofString "LONG"), [((Str.ofString "make"), 3), ((Str.ofString "copy"), 3), ((Str.ofString "put"), 4), ((Str.ofString "take"), 4), ((Str.ofString "say"), 2), ((Str.ofString "call"), 6), ((Str.ofString "either"), 3), ((Str.ofString "again"), 2), ((Str.ofString "bring"), 2)])]⟩
def top (i : Nat) : Stmt := PySem.Challenge.pw_surecall_k04_programs_at_their_bounds.main.body.getD i (.Pass ⟨0, 0, 0, 0⟩)
def dOf (x : String) (i : Nat) : He.DefD := ⟨(Str.ofString x, none), Str.ofString x, Str.ofString x, defArgs (top i), defBody (top i), defScope (top i), [], []⟩
def fn : List He.DefD := [dOf "kind_row" 1, dOf "line_up" 2, dOf "deed_row" 3, dOf "answer" 4, dOf "kind_names" 5, dOf "is_word" 19, dOf "are_unlike" 20, dOf "inner_rows" 21, dOf "rows_flat" 22, dOf "is_deed" 23, dOf "is_kind" 24, dOf "are_kinds" 25, dOf "are_late" 26, dOf "keep_params" 27, dOf "is_read" 28, dOf "is_given" 29, dOf "is_call" 30, dOf "is_row" 31, dOf "are_rows" 32, dOf "bodies" 33, dOf "body_row" 34, dOf "all_rows" 35, dOf "is_program" 36, dOf "_law_hand" 38, dOf "_law_take" 39, dOf "_law_word" 40, dOf "_law_built" 41, dOf "_law_full" 42, dOf "law" 43]
def fa : List He.Fa := [.glo (Str.ofString "kind_row"), .glo (Str.ofString "line_up"), .glo (Str.ofString "deed_row"), .glo (Str.ofString "answer"), .glo (Str.ofString "kind_names"), .glo (Str.ofString "is_word"), .glo (Str.ofString "are_unlike"), .glo (Str.ofString "inner_rows"), .glo (Str.ofString "rows_flat"), .glo (Str.ofString "is_deed"), .glo (Str.ofString "is_kind"), .glo (Str.ofString "are_kinds"), .glo (Str.ofString "are_late"), .glo (Str.ofString "keep_params"), .glo (Str.ofString "is_read"), .glo (Str.ofString "is_given"), .glo (Str.ofString "is_call"), .glo (Str.ofString "is_row"), .glo (Str.ofString "are_rows"), .glo (Str.ofString "bodies"), .glo (Str.ofString "body_row"), .glo (Str.ofString "all_rows"), .glo (Str.ofString "is_program"), .glo (Str.ofString "_law_hand"), .glo (Str.ofString "_law_take"), .glo (Str.ofString "_law_word"), .glo (Str.ofString "_law_built"), .glo (Str.ofString "_law_full"), .glo (Str.ofString "law"), .free (Str.ofString "len"), .free (Str.ofString "tuple"), .free (Str.ofString "list"), .free (Str.ofString "dict"), .free (Str.ofString "int"), .free (Str.ofString "sorted"), .free (Str.ofString "all"), .free (Str.ofString "any"), .free (Str.ofString "sum"), .free (Str.ofString "abs"), .free (Str.ofString "max"), .free (Str.ofString "min"), .free (Str.ofString "isinstance"), .free (Str.ofString "range"), .free (Str.ofString "enumerate"), .free (Str.ofString "zip"), .free (Str.ofString "set"), .free (Str.ofString "str"), .free (Str.ofString "bool")]
abbrev Rw : PySem.W.OpenRow := PySem.W.OpenLaw.row PySem.Challenge.rw_surecall_k04_programs_at_their_bounds
def tb : List (Str × P) := T.gs
def dd : List (Str × List (Str × Int)) := T.ds
abbrev hk : PySem.W.Hook := hookQ 4 fa fn tb dd
def ob (s : PySem.W.SharedT) : AlQ := obsQG 4 fa fn tb dd (HandSHeadRun.getT s)
theorem ob_eq (s : PySem.W.SharedT) : ob s = hk.obs s.abs := obsQG_eq (HandSHeadRun.getT_eq s)
theorem hdF (w : World) : (fun w : World => HandSHeadRun.RunEq Rw (PySem.W.view Rw.prog [43]) hk ob 4000 [(Str.ofString "kind_row"), (Str.ofString "line_up"), (Str.ofString "deed_row"), (Str.ofString "answer"), (Str.ofString "kind_names"), (Str.ofString "is_word"), (Str.ofString "are_unlike"), (Str.ofString "inner_rows"), (Str.ofString "rows_flat"), (Str.ofString "is_deed"), (Str.ofString "is_kind"), (Str.ofString "are_kinds"), (Str.ofString "are_late"), (Str.ofString "keep_params"), (Str.ofString "is_read"), (Str.ofString "is_given"), (Str.ofString "is_call"), (Str.ofString "is_row"), (Str.ofString "are_rows"), (Str.ofString "bodies"), (Str.ofString "body_row"), (Str.ofString "all_rows"), (Str.ofString "is_program"), (Str.ofString "_law_hand"), (Str.ofString "_law_take"), (Str.ofString "_law_word"), (Str.ofString "_law_built"), (Str.ofString "_law_full"), (Str.ofString "LETTERS"), (Str.ofString "MOST_LETTERS"), (Str.ofString "MOST_KINDS"), (Str.ofString "MOST_DEEDS"), (Str.ofString "MOST_PARAMS"), (Str.ofString "MOST_LATE"), (Str.ofString "MOST_IN_ROWS"), (Str.ofString "MOST_DEEP"), (Str.ofString "MOST_ROWS"), (Str.ofString "MAIN"), (Str.ofString "OWN"), (Str.ofString "LONG")] w) (w.withFollow "special-get-raises" false) := by
  intro os
  kernel_rfl
theorem hdT (w : World) : (fun w : World => HandSHeadRun.RunEq Rw (PySem.W.view Rw.prog [43]) hk ob 4000 [(Str.ofString "kind_row"), (Str.ofString "line_up"), (Str.ofString "deed_row"), (Str.ofString "answer"), (Str.ofString "kind_names"), (Str.ofString "is_word"), (Str.ofString "are_unlike"), (Str.ofString "inner_rows"), (Str.ofString "rows_flat"), (Str.ofString "is_deed"), (Str.ofString "is_kind"), (Str.ofString "are_kinds"), (Str.ofString "are_late"), (Str.ofString "keep_params"), (Str.ofString "is_read"), (Str.ofString "is_given"), (Str.ofString "is_call"), (Str.ofString "is_row"), (Str.ofString "are_rows"), (Str.ofString "bodies"), (Str.ofString "body_row"), (Str.ofString "all_rows"), (Str.ofString "is_program"), (Str.ofString "_law_hand"), (Str.ofString "_law_take"), (Str.ofString "_law_word"), (Str.ofString "_law_built"), (Str.ofString "_law_full"), (Str.ofString "LETTERS"), (Str.ofString "MOST_LETTERS"), (Str.ofString "MOST_KINDS"), (Str.ofString "MOST_DEEDS"), (Str.ofString "MOST_PARAMS"), (Str.ofString "MOST_LATE"), (Str.ofString "MOST_IN_ROWS"), (Str.ofString "MOST_DEEP"), (Str.ofString "MOST_ROWS"), (Str.ofString "MAIN"), (Str.ofString "OWN"), (Str.ofString "LONG")] w) (w.withFollow "special-get-raises" true) := by
  intro os
  kernel_rfl
theorem run (w : World) : HandSHeadRun.RunEq Rw (PySem.W.view Rw.prog [43]) hk ob 4000 [(Str.ofString "kind_row"), (Str.ofString "line_up"), (Str.ofString "deed_row"), (Str.ofString "answer"), (Str.ofString "kind_names"), (Str.ofString "is_word"), (Str.ofString "are_unlike"), (Str.ofString "inner_rows"), (Str.ofString "rows_flat"), (Str.ofString "is_deed"), (Str.ofString "is_kind"), (Str.ofString "are_kinds"), (Str.ofString "are_late"), (Str.ofString "keep_params"), (Str.ofString "is_read"), (Str.ofString "is_given"), (Str.ofString "is_call"), (Str.ofString "is_row"), (Str.ofString "are_rows"), (Str.ofString "bodies"), (Str.ofString "body_row"), (Str.ofString "all_rows"), (Str.ofString "is_program"), (Str.ofString "_law_hand"), (Str.ofString "_law_take"), (Str.ofString "_law_word"), (Str.ofString "_law_built"), (Str.ofString "_law_full"), (Str.ofString "LETTERS"), (Str.ofString "MOST_LETTERS"), (Str.ofString "MOST_KINDS"), (Str.ofString "MOST_DEEDS"), (Str.ofString "MOST_PARAMS"), (Str.ofString "MOST_LATE"), (Str.ofString "MOST_IN_ROWS"), (Str.ofString "MOST_DEEP"), (Str.ofString "MOST_ROWS"), (Str.ofString "MAIN"), (Str.ofString "OWN"), (Str.ofString "LONG")] w := PySem.W.byRow2 "special-get-raises" (P := fun w : World => HandSHeadRun.RunEq Rw (PySem.W.view Rw.prog [43]) hk ob 4000 [(Str.ofString "kind_row"), (Str.ofString "line_up"), (Str.ofString "deed_row"), (Str.ofString "answer"), (Str.ofString "kind_names"), (Str.ofString "is_word"), (Str.ofString "are_unlike"), (Str.ofString "inner_rows"), (Str.ofString "rows_flat"), (Str.ofString "is_deed"), (Str.ofString "is_kind"), (Str.ofString "are_kinds"), (Str.ofString "are_late"), (Str.ofString "keep_params"), (Str.ofString "is_read"), (Str.ofString "is_given"), (Str.ofString "is_call"), (Str.ofString "is_row"), (Str.ofString "are_rows"), (Str.ofString "bodies"), (Str.ofString "body_row"), (Str.ofString "all_rows"), (Str.ofString "is_program"), (Str.ofString "_law_hand"), (Str.ofString "_law_take"), (Str.ofString "_law_word"), (Str.ofString "_law_built"), (Str.ofString "_law_full"), (Str.ofString "LETTERS"), (Str.ofString "MOST_LETTERS"), (Str.ofString "MOST_KINDS"), (Str.ofString "MOST_DEEDS"), (Str.ofString "MOST_PARAMS"), (Str.ofString "MOST_LATE"), (Str.ofString "MOST_IN_ROWS"), (Str.ofString "MOST_DEEP"), (Str.ofString "MOST_ROWS"), (Str.ofString "MAIN"), (Str.ofString "OWN"), (Str.ofString "LONG")] w) hdF hdT w
theorem ck0 : (decide (chkSL T F_kind_row.N (defScope (top 1)) F_kind_row.body (defBody (top 1)) = true)) = true := by decide +kernel
theorem sc0 : FnScope F_kind_row.N (F_kind_row.N.take F_kind_row.np) (defScope (top 1)) := ⟨by decide +kernel, by decide +kernel, by decide +kernel, by decide +kernel, by decide +kernel, by decide +kernel, by decide +kernel⟩
theorem df0 {K : PySem.W.Frag} {h : Heap} {mg : Str → Option Value} (X : K.In h) (G : h.Ns mainGlobals mg) (c : SaysP fa fn tb K) : ∃ a fd params body scope, mg F_kind_row.name = some (.ref a) ∧ FunD K F_kind_row.name F_kind_row.name params body scope [] [] a fd ∧ Binds K fd (F_kind_row.N.take F_kind_row.np) [] ∧ DefOk T F_kind_row params body scope := by
 obtain ⟨fd, FF⟩ := c.def_ 0 (d := dOf "kind_row" 1) rfl
 exact ⟨_, fd, _, _, _, He.glo_ok X G (c.fact 0 (f := .glo (Str.ofString "kind_row")) rfl), FF, FF.bindsN (fun _ _ _ _ _ _ us hl => match us, hl with | [_, _], _ => rfl), ⟨sc0, by decide, by decide +kernel, of_decide_eq_true ck0⟩⟩
theorem ck1 : (decide (chkSL T F_line_up.N (defScope (top 2)) F_line_up.body (defBody (top 2)) = true)) = true := by decide +kernel
theorem sc1 : FnScope F_line_up.N (F_line_up.N.take F_line_up.np) (defScope (top 2)) := ⟨by decide +kernel, by decide +kernel, by decide +kernel, by decide +kernel, by decide +kernel, by decide +kernel, by decide +kernel⟩
theorem df1 {K : PySem.W.Frag} {h : Heap} {mg : Str → Option Value} (X : K.In h) (G : h.Ns mainGlobals mg) (c : SaysP fa fn tb K) : ∃ a fd params body scope, mg F_line_up.name = some (.ref a) ∧ FunD K F_line_up.name F_line_up.name params body scope [] [] a fd ∧ Binds K fd (F_line_up.N.take F_line_up.np) [] ∧ DefOk T F_line_up params body scope := by
 obtain ⟨fd, FF⟩ := c.def_ 1 (d := dOf "line_up" 2) rfl
 exact ⟨_, fd, _, _, _, He.glo_ok X G (c.fact 1 (f := .glo (Str.ofString "line_up")) rfl), FF, FF.bindsN (fun _ _ _ _ _ _ us hl => match us, hl with | [_, _], _ => rfl), ⟨sc1, by decide, by decide +kernel, of_decide_eq_true ck1⟩⟩
theorem ck2 : (decide (chkSL T F_deed_row.N (defScope (top 3)) F_deed_row.body (defBody (top 3)) = true)) = true := by decide +kernel
theorem sc2 : FnScope F_deed_row.N (F_deed_row.N.take F_deed_row.np) (defScope (top 3)) := ⟨by decide +kernel, by decide +kernel, by decide +kernel, by decide +kernel, by decide +kernel, by decide +kernel, by decide +kernel⟩
theorem df2 {K : PySem.W.Frag} {h : Heap} {mg : Str → Option Value} (X : K.In h) (G : h.Ns mainGlobals mg) (c : SaysP fa fn tb K) : ∃ a fd params body scope, mg F_deed_row.name = some (.ref a) ∧ FunD K F_deed_row.name F_deed_row.name params body scope [] [] a fd ∧ Binds K fd (F_deed_row.N.take F_deed_row.np) [] ∧ DefOk T F_deed_row params body scope := by
 obtain ⟨fd, FF⟩ := c.def_ 2 (d := dOf "deed_row" 3) rfl
 exact ⟨_, fd, _, _, _, He.glo_ok X G (c.fact 2 (f := .glo (Str.ofString "deed_row")) rfl), FF, FF.bindsN (fun _ _ _ _ _ _ us hl => match us, hl with | [_, _, _], _ => rfl), ⟨sc2, by decide, by decide +kernel, of_decide_eq_true ck2⟩⟩
theorem ck3 : (decide (chkSL T F_answer.N (defScope (top 4)) F_answer.body (defBody (top 4)) = true)) = true := by decide +kernel
theorem sc3 : FnScope F_answer.N (F_answer.N.take F_answer.np) (defScope (top 4)) := ⟨by decide +kernel, by decide +kernel, by decide +kernel, by decide +kernel, by decide +kernel, by decide +kernel, by decide +kernel⟩
theorem df3 {K : PySem.W.Frag} {h : Heap} {mg : Str → Option Value} (X : K.In h) (G : h.Ns mainGlobals mg) (c : SaysP fa fn tb K) : ∃ a fd params body scope, mg F_answer.name = some (.ref a) ∧ FunD K F_answer.name F_answer.name params body scope [] [] a fd ∧ Binds K fd (F_answer.N.take F_answer.np) [] ∧ DefOk T F_answer params body scope := by
 obtain ⟨fd, FF⟩ := c.def_ 3 (d := dOf "answer" 4) rfl
 exact ⟨_, fd, _, _, _, He.glo_ok X G (c.fact 3 (f := .glo (Str.ofString "answer")) rfl), FF, FF.bindsN (fun _ _ _ _ _ _ us hl => match us, hl with | [_, _, _], _ => rfl), ⟨sc3, by decide, by decide +kernel, of_decide_eq_true ck3⟩⟩
theorem ck4 : (decide (chkSL T F_kind_names.N (defScope (top 5)) F_kind_names.body (defBody (top 5)) = true)) = true := by decide +kernel
theorem sc4 : FnScope F_kind_names.N (F_kind_names.N.take F_kind_names.np) (defScope (top 5)) := ⟨by decide +kernel, by decide +kernel, by decide +kernel, by decide +kernel, by decide +kernel, by decide +kernel, by decide +kernel⟩
theorem df4 {K : PySem.W.Frag} {h : Heap} {mg : Str → Option Value} (X : K.In h) (G : h.Ns mainGlobals mg) (c : SaysP fa fn tb K) : ∃ a fd params body scope, mg F_kind_names.name = some (.ref a) ∧ FunD K F_kind_names.name F_kind_names.name params body scope [] [] a fd ∧ Binds K fd (F_kind_names.N.take F_kind_names.np) [] ∧ DefOk T F_kind_names params body scope := by
 obtain ⟨fd, FF⟩ := c.def_ 4 (d := dOf "kind_names" 5) rfl
 exact ⟨_, fd, _, _, _, He.glo_ok X G (c.fact 4 (f := .glo (Str.ofString "kind_names")) rfl), FF, FF.bindsN (fun _ _ _ _ _ _ us hl => match us, hl with | [_], _ => rfl), ⟨sc4, by decide, by decide +kernel, of_decide_eq_true ck4⟩⟩
theorem ck5 : (decide (chkSL T F_is_word.N (defScope (top 19)) F_is_word.body (defBody (top 19)) = true)) = true := by decide +kernel
theorem sc5 : FnScope F_is_word.N (F_is_word.N.take F_is_word.np) (defScope (top 19)) := ⟨by decide +kernel, by decide +kernel, by decide +kernel, by decide +kernel, by decide +kernel, by decide +kernel, by decide +kernel⟩
theorem df5 {K : PySem.W.Frag} {h : Heap} {mg : Str → Option Value} (X : K.In h) (G : h.Ns mainGlobals mg) (c : SaysP fa fn tb K) : ∃ a fd params body scope, mg F_is_word.name = some (.ref a) ∧ FunD K F_is_word.name F_is_word.name params body scope [] [] a fd ∧ Binds K fd (F_is_word.N.take F_is_word.np) [] ∧ DefOk T F_is_word params body scope := by
 obtain ⟨fd, FF⟩ := c.def_ 5 (d := dOf "is_word" 19) rfl
 exact ⟨_, fd, _, _, _, He.glo_ok X G (c.fact 5 (f := .glo (Str.ofString "is_word")) rfl), FF, FF.bindsN (fun _ _ _ _ _ _ us hl => match us, hl with | [_], _ => rfl), ⟨sc5, by decide, by decide +kernel, of_decide_eq_true ck5⟩⟩
theorem ck6 : (decide (chkSL T F_are_unlike.N (defScope (top 20)) F_are_unlike.body (defBody (top 20)) = true)) = true := by decide +kernel
theorem sc6 : FnScope F_are_unlike.N (F_are_unlike.N.take F_are_unlike.np) (defScope (top 20)) := ⟨by decide +kernel, by decide +kernel, by decide +kernel, by decide +kernel, by decide +kernel, by decide +kernel, by decide +kernel⟩
theorem df6 {K : PySem.W.Frag} {h : Heap} {mg : Str → Option Value} (X : K.In h) (G : h.Ns mainGlobals mg) (c : SaysP fa fn tb K) : ∃ a fd params body scope, mg F_are_unlike.name = some (.ref a) ∧ FunD K F_are_unlike.name F_are_unlike.name params body scope [] [] a fd ∧ Binds K fd (F_are_unlike.N.take F_are_unlike.np) [] ∧ DefOk T F_are_unlike params body scope := by
 obtain ⟨fd, FF⟩ := c.def_ 6 (d := dOf "are_unlike" 20) rfl
 exact ⟨_, fd, _, _, _, He.glo_ok X G (c.fact 6 (f := .glo (Str.ofString "are_unlike")) rfl), FF, FF.bindsN (fun _ _ _ _ _ _ us hl => match us, hl with | [_], _ => rfl), ⟨sc6, by decide, by decide +kernel, of_decide_eq_true ck6⟩⟩
theorem ck7 : (decide (chkSL T F_inner_rows.N (defScope (top 21)) F_inner_rows.body (defBody (top 21)) = true)) = true := by decide +kernel
theorem sc7 : FnScope F_inner_rows.N (F_inner_rows.N.take F_inner_rows.np) (defScope (top 21)) := ⟨by decide +kernel, by decide +kernel, by decide +kernel, by decide +kernel, by decide +kernel, by decide +kernel, by decide +kernel⟩
theorem df7 {K : PySem.W.Frag} {h : Heap} {mg : Str → Option Value} (X : K.In h) (G : h.Ns mainGlobals mg) (c : SaysP fa fn tb K) : ∃ a fd params body scope, mg F_inner_rows.name = some (.ref a) ∧ FunD K F_inner_rows.name F_inner_rows.name params body scope [] [] a fd ∧ Binds K fd (F_inner_rows.N.take F_inner_rows.np) [] ∧ DefOk T F_inner_rows params body scope := by
 obtain ⟨fd, FF⟩ := c.def_ 7 (d := dOf "inner_rows" 21) rfl
 exact ⟨_, fd, _, _, _, He.glo_ok X G (c.fact 7 (f := .glo (Str.ofString "inner_rows")) rfl), FF, FF.bindsN (fun _ _ _ _ _ _ us hl => match us, hl with | [_], _ => rfl), ⟨sc7, by decide, by decide +kernel, of_decide_eq_true ck7⟩⟩
theorem ck8 : (decide (chkSL T F_rows_flat.N (defScope (top 22)) F_rows_flat.body (defBody (top 22)) = true)) = true := by decide +kernel
theorem sc8 : FnScope F_rows_flat.N (F_rows_flat.N.take F_rows_flat.np) (defScope (top 22)) := ⟨by decide +kernel, by decide +kernel, by decide +kernel, by decide +kernel, by decide +kernel, by decide +kernel, by decide +kernel⟩
theorem df8 {K : PySem.W.Frag} {h : Heap} {mg : Str → Option Value} (X : K.In h) (G : h.Ns mainGlobals mg) (c : SaysP fa fn tb K) : ∃ a fd params body scope, mg F_rows_flat.name = some (.ref a) ∧ FunD K F_rows_flat.name F_rows_flat.name params body scope [] [] a fd ∧ Binds K fd (F_rows_flat.N.take F_rows_flat.np) [] ∧ DefOk T F_rows_flat params body scope := by
 obtain ⟨fd, FF⟩ := c.def_ 8 (d := dOf "rows_flat" 22) rfl
 exact ⟨_, fd, _, _, _, He.glo_ok X G (c.fact 8 (f := .glo (Str.ofString "rows_flat")) rfl), FF, FF.bindsN (fun _ _ _ _ _ _ us hl => match us, hl with | [_], _ => rfl), ⟨sc8, by decide, by decide +kernel, of_decide_eq_true ck8⟩⟩
theorem ck9 : (decide (chkSL T F_is_deed.N (defScope (top 23)) F_is_deed.body (defBody (top 23)) = true)) = true := by decide +kernel
theorem sc9 : FnScope F_is_deed.N (F_is_deed.N.take F_is_deed.np) (defScope (top 23)) := ⟨by decide +kernel, by decide +kernel, by decide +kernel, by decide +kernel, by decide +kernel, by decide +kernel, by decide +kernel⟩
theorem df9 {K : PySem.W.Frag} {h : Heap} {mg : Str → Option Value} (X : K.In h) (G : h.Ns mainGlobals mg) (c : SaysP fa fn tb K) : ∃ a fd params body scope, mg F_is_deed.name = some (.ref a) ∧ FunD K F_is_deed.name F_is_deed.name params body scope [] [] a fd ∧ Binds K fd (F_is_deed.N.take F_is_deed.np) [] ∧ DefOk T F_is_deed params body scope := by
 obtain ⟨fd, FF⟩ := c.def_ 9 (d := dOf "is_deed" 23) rfl
 exact ⟨_, fd, _, _, _, He.glo_ok X G (c.fact 9 (f := .glo (Str.ofString "is_deed")) rfl), FF, FF.bindsN (fun _ _ _ _ _ _ us hl => match us, hl with | [_], _ => rfl), ⟨sc9, by decide, by decide +kernel, of_decide_eq_true ck9⟩⟩
theorem ck10 : (decide (chkSL T F_is_kind.N (defScope (top 24)) F_is_kind.body (defBody (top 24)) = true)) = true := by decide +kernel
theorem sc10 : FnScope F_is_kind.N (F_is_kind.N.take F_is_kind.np) (defScope (top 24)) := ⟨by decide +kernel, by decide +kernel, by decide +kernel, by decide +kernel, by decide +kernel, by decide +kernel, by decide +kernel⟩
theorem df10 {K : PySem.W.Frag} {h : Heap} {mg : Str → Option Value} (X : K.In h) (G : h.Ns mainGlobals mg) (c : SaysP fa fn tb K) : ∃ a fd params body scope, mg F_is_kind.name = some (.ref a) ∧ FunD K F_is_kind.name F_is_kind.name params body scope [] [] a fd ∧ Binds K fd (F_is_kind.N.take F_is_kind.np) [] ∧ DefOk T F_is_kind params body scope := by
 obtain ⟨fd, FF⟩ := c.def_ 10 (d := dOf "is_kind" 24) rfl
 exact ⟨_, fd, _, _, _, He.glo_ok X G (c.fact 10 (f := .glo (Str.ofString "is_kind")) rfl), FF, FF.bindsN (fun _ _ _ _ _ _ us hl => match us, hl with | [_], _ => rfl), ⟨sc10, by decide, by decide +kernel, of_decide_eq_true ck10⟩⟩
theorem ck11 : (decide (chkSL T F_are_kinds.N (defScope (top 25)) F_are_kinds.body (defBody (top 25)) = true)) = true := by decide +kernel
theorem sc11 : FnScope F_are_kinds.N (F_are_kinds.N.take F_are_kinds.np) (defScope (top 25)) := ⟨by decide +kernel, by decide +kernel, by decide +kernel, by decide +kernel, by decide +kernel, by decide +kernel, by decide +kernel⟩
theorem df11 {K : PySem.W.Frag} {h : Heap} {mg : Str → Option Value} (X : K.In h) (G : h.Ns mainGlobals mg) (c : SaysP fa fn tb K) : ∃ a fd params body scope, mg F_are_kinds.name = some (.ref a) ∧ FunD K F_are_kinds.name F_are_kinds.name params body scope [] [] a fd ∧ Binds K fd (F_are_kinds.N.take F_are_kinds.np) [] ∧ DefOk T F_are_kinds params body scope := by
 obtain ⟨fd, FF⟩ := c.def_ 11 (d := dOf "are_kinds" 25) rfl
 exact ⟨_, fd, _, _, _, He.glo_ok X G (c.fact 11 (f := .glo (Str.ofString "are_kinds")) rfl), FF, FF.bindsN (fun _ _ _ _ _ _ us hl => match us, hl with | [_], _ => rfl), ⟨sc11, by decide, by decide +kernel, of_decide_eq_true ck11⟩⟩
theorem ck12 : (decide (chkSL T F_are_late.N (defScope (top 26)) F_are_late.body (defBody (top 26)) = true)) = true := by decide +kernel
theorem sc12 : FnScope F_are_late.N (F_are_late.N.take F_are_late.np) (defScope (top 26)) := ⟨by decide +kernel, by decide +kernel, by decide +kernel, by decide +kernel, by decide +kernel, by decide +kernel, by decide +kernel⟩
theorem df12 {K : PySem.W.Frag} {h : Heap} {mg : Str → Option Value} (X : K.In h) (G : h.Ns mainGlobals mg) (c : SaysP fa fn tb K) : ∃ a fd params body scope, mg F_are_late.name = some (.ref a) ∧ FunD K F_are_late.name F_are_late.name params body scope [] [] a fd ∧ Binds K fd (F_are_late.N.take F_are_late.np) [] ∧ DefOk T F_are_late params body scope := by
 obtain ⟨fd, FF⟩ := c.def_ 12 (d := dOf "are_late" 26) rfl
 exact ⟨_, fd, _, _, _, He.glo_ok X G (c.fact 12 (f := .glo (Str.ofString "are_late")) rfl), FF, FF.bindsN (fun _ _ _ _ _ _ us hl => match us, hl with | [_, _], _ => rfl), ⟨sc12, by decide, by decide +kernel, of_decide_eq_true ck12⟩⟩
theorem ck13 : (decide (chkSL T F_keep_params.N (defScope (top 27)) F_keep_params.body (defBody (top 27)) = true)) = true := by decide +kernel
theorem sc13 : FnScope F_keep_params.N (F_keep_params.N.take F_keep_params.np) (defScope (top 27)) := ⟨by decide +kernel, by decide +kernel, by decide +kernel, by decide +kernel, by decide +kernel, by decide +kernel, by decide +kernel⟩
theorem df13 {K : PySem.W.Frag} {h : Heap} {mg : Str → Option Value} (X : K.In h) (G : h.Ns mainGlobals mg) (c : SaysP fa fn tb K) : ∃ a fd params body scope, mg F_keep_params.name = some (.ref a) ∧ FunD K F_keep_params.name F_keep_params.name params body scope [] [] a fd ∧ Binds K fd (F_keep_params.N.take F_keep_params.np) [] ∧ DefOk T F_keep_params params body scope := by
 obtain ⟨fd, FF⟩ := c.def_ 13 (d := dOf "keep_params" 27) rfl
 exact ⟨_, fd, _, _, _, He.glo_ok X G (c.fact 13 (f := .glo (Str.ofString "keep_params")) rfl), FF, FF.bindsN (fun _ _ _ _ _ _ us hl => match us, hl with | [_], _ => rfl), ⟨sc13, by decide, by decide +kernel, of_decide_eq_true ck13⟩⟩
theorem ck14 : (decide (chkSL T F_is_read.N (defScope (top 28)) F_is_read.body (defBody (top 28)) = true)) = true := by decide +kernel
theorem sc14 : FnScope F_is_read.N (F_is_read.N.take F_is_read.np) (defScope (top 28)) := ⟨by decide +kernel, by decide +kernel, by decide +kernel, by decide +kernel, by decide +kernel, by decide +kernel, by decide +kernel⟩
theorem df14 {K : PySem.W.Frag} {h : Heap} {mg : Str → Option Value} (X : K.In h) (G : h.Ns mainGlobals mg) (c : SaysP fa fn tb K) : ∃ a fd params body scope, mg F_is_read.name = some (.ref a) ∧ FunD K F_is_read.name F_is_read.name params body scope [] [] a fd ∧ Binds K fd (F_is_read.N.take F_is_read.np) [] ∧ DefOk T F_is_read params body scope := by
 obtain ⟨fd, FF⟩ := c.def_ 14 (d := dOf "is_read" 28) rfl
 exact ⟨_, fd, _, _, _, He.glo_ok X G (c.fact 14 (f := .glo (Str.ofString "is_read")) rfl), FF, FF.bindsN (fun _ _ _ _ _ _ us hl => match us, hl with | [_, _], _ => rfl), ⟨sc14, by decide, by decide +kernel, of_decide_eq_true ck14⟩⟩
theorem ck15 : (decide (chkSL T F_is_given.N (defScope (top 29)) F_is_given.body (defBody (top 29)) = true)) = true := by decide +kernel
theorem sc15 : FnScope F_is_given.N (F_is_given.N.take F_is_given.np) (defScope (top 29)) := ⟨by decide +kernel, by decide +kernel, by decide +kernel, by decide +kernel, by decide +kernel, by decide +kernel, by decide +kernel⟩
theorem df15 {K : PySem.W.Frag} {h : Heap} {mg : Str → Option Value} (X : K.In h) (G : h.Ns mainGlobals mg) (c : SaysP fa fn tb K) : ∃ a fd params body scope, mg F_is_given.name = some (.ref a) ∧ FunD K F_is_given.name F_is_given.name params body scope [] [] a fd ∧ Binds K fd (F_is_given.N.take F_is_given.np) [] ∧ DefOk T F_is_given params body scope := by
 obtain ⟨fd, FF⟩ := c.def_ 15 (d := dOf "is_given" 29) rfl
 exact ⟨_, fd, _, _, _, He.glo_ok X G (c.fact 15 (f := .glo (Str.ofString "is_given")) rfl), FF, FF.bindsN (fun _ _ _ _ _ _ us hl => match us, hl with | [_], _ => rfl), ⟨sc15, by decide, by decide +kernel, of_decide_eq_true ck15⟩⟩
theorem ck16 : (decide (chkSL T F_is_call.N (defScope (top 30)) F_is_call.body (defBody (top 30)) = true)) = true := by decide +kernel
theorem sc16 : FnScope F_is_call.N (F_is_call.N.take F_is_call.np) (defScope (top 30)) := ⟨by decide +kernel, by decide +kernel, by decide +kernel, by decide +kernel, by decide +kernel, by decide +kernel, by decide +kernel⟩
theorem df16 {K : PySem.W.Frag} {h : Heap} {mg : Str → Option Value} (X : K.In h) (G : h.Ns mainGlobals mg) (c : SaysP fa fn tb K) : ∃ a fd params body scope, mg F_is_call.name = some (.ref a) ∧ FunD K F_is_call.name F_is_call.name params body scope [] [] a fd ∧ Binds K fd (F_is_call.N.take F_is_call.np) [] ∧ DefOk T F_is_call params body scope := by
 obtain ⟨fd, FF⟩ := c.def_ 16 (d := dOf "is_call" 30) rfl
 exact ⟨_, fd, _, _, _, He.glo_ok X G (c.fact 16 (f := .glo (Str.ofString "is_call")) rfl), FF, FF.bindsN (fun _ _ _ _ _ _ us hl => match us, hl with | [_, _, _], _ => rfl), ⟨sc16, by decide, by decide +kernel, of_decide_eq_true ck16⟩⟩
theorem ck17 : (decide (chkSL T F_is_row.N (defScope (top 31)) F_is_row.body (defBody (top 31)) = true)) = true := by decide +kernel
theorem sc17 : FnScope F_is_row.N (F_is_row.N.take F_is_row.np) (defScope (top 31)) := ⟨by decide +kernel, by decide +kernel, by decide +kernel, by decide +kernel, by decide +kernel, by decide +kernel, by decide +kernel⟩
theorem df17 {K : PySem.W.Frag} {h : Heap} {mg : Str → Option Value} (X : K.In h) (G : h.Ns mainGlobals mg) (c : SaysP fa fn tb K) : ∃ a fd params body scope, mg F_is_row.name = some (.ref a) ∧ FunD K F_is_row.name F_is_row.name params body scope [] [] a fd ∧ Binds K fd (F_is_row.N.take F_is_row.np) [] ∧ DefOk T F_is_row params body scope := by
 obtain ⟨fd, FF⟩ := c.def_ 17 (d := dOf "is_row" 31) rfl
 exact ⟨_, fd, _, _, _, He.glo_ok X G (c.fact 17 (f := .glo (Str.ofString "is_row")) rfl), FF, FF.bindsN (fun _ _ _ _ _ _ us hl => match us, hl with | [_, _, _, _], _ => rfl), ⟨sc17, by decide, by decide +kernel, of_decide_eq_true ck17⟩⟩
theorem ck18 : (decide (chkSL T F_are_rows.N (defScope (top 32)) F_are_rows.body (defBody (top 32)) = true)) = true := by decide +kernel
theorem sc18 : FnScope F_are_rows.N (F_are_rows.N.take F_are_rows.np) (defScope (top 32)) := ⟨by decide +kernel, by decide +kernel, by decide +kernel, by decide +kernel, by decide +kernel, by decide +kernel, by decide +kernel⟩
theorem df18 {K : PySem.W.Frag} {h : Heap} {mg : Str → Option Value} (X : K.In h) (G : h.Ns mainGlobals mg) (c : SaysP fa fn tb K) : ∃ a fd params body scope, mg F_are_rows.name = some (.ref a) ∧ FunD K F_are_rows.name F_are_rows.name params body scope [] [] a fd ∧ Binds K fd (F_are_rows.N.take F_are_rows.np) [] ∧ DefOk T F_are_rows params body scope := by
 obtain ⟨fd, FF⟩ := c.def_ 18 (d := dOf "are_rows" 32) rfl
 exact ⟨_, fd, _, _, _, He.glo_ok X G (c.fact 18 (f := .glo (Str.ofString "are_rows")) rfl), FF, FF.bindsN (fun _ _ _ _ _ _ us hl => match us, hl with | [_, _, _, _], _ => rfl), ⟨sc18, by decide, by decide +kernel, of_decide_eq_true ck18⟩⟩
theorem ck19 : (decide (chkSL T F_bodies.N (defScope (top 33)) F_bodies.body (defBody (top 33)) = true)) = true := by decide +kernel
theorem sc19 : FnScope F_bodies.N (F_bodies.N.take F_bodies.np) (defScope (top 33)) := ⟨by decide +kernel, by decide +kernel, by decide +kernel, by decide +kernel, by decide +kernel, by decide +kernel, by decide +kernel⟩
theorem df19 {K : PySem.W.Frag} {h : Heap} {mg : Str → Option Value} (X : K.In h) (G : h.Ns mainGlobals mg) (c : SaysP fa fn tb K) : ∃ a fd params body scope, mg F_bodies.name = some (.ref a) ∧ FunD K F_bodies.name F_bodies.name params body scope [] [] a fd ∧ Binds K fd (F_bodies.N.take F_bodies.np) [] ∧ DefOk T F_bodies params body scope := by
 obtain ⟨fd, FF⟩ := c.def_ 19 (d := dOf "bodies" 33) rfl
 exact ⟨_, fd, _, _, _, He.glo_ok X G (c.fact 19 (f := .glo (Str.ofString "bodies")) rfl), FF, FF.bindsN (fun _ _ _ _ _ _ us hl => match us, hl with | [_], _ => rfl), ⟨sc19, by decide, by decide +kernel, of_decide_eq_true ck19⟩⟩
theorem ck20 : (decide (chkSL T F_body_row.N (defScope (top 34)) F_body_row.body (defBody (top 34)) = true)) = true := by decide +kernel
theorem sc20 : FnScope F_body_row.N (F_body_row.N.take F_body_row.np) (defScope (top 34)) := ⟨by decide +kernel, by decide +kernel, by decide +kernel, by decide +kernel, by decide +kernel, by decide +kernel, by decide +kernel⟩
theorem df20 {K : PySem.W.Frag} {h : Heap} {mg : Str → Option Value} (X : K.In h) (G : h.Ns mainGlobals mg) (c : SaysP fa fn tb K) : ∃ a fd params body scope, mg F_body_row.name = some (.ref a) ∧ FunD K F_body_row.name F_body_row.name params body scope [] [] a fd ∧ Binds K fd (F_body_row.N.take F_body_row.np) [] ∧ DefOk T F_body_row params body scope := by
 obtain ⟨fd, FF⟩ := c.def_ 20 (d := dOf "body_row" 34) rfl
 exact ⟨_, fd, _, _, _, He.glo_ok X G (c.fact 20 (f := .glo (Str.ofString "body_row")) rfl), FF, FF.bindsN (fun _ _ _ _ _ _ us hl => match us, hl with | [_, _], _ => rfl), ⟨sc20, by decide, by decide +kernel, of_decide_eq_true ck20⟩⟩
theorem ck21 : (decide (chkSL T F_all_rows.N (defScope (top 35)) F_all_rows.body (defBody (top 35)) = true)) = true := by decide +kernel
theorem sc21 : FnScope F_all_rows.N (F_all_rows.N.take F_all_rows.np) (defScope (top 35)) := ⟨by decide +kernel, by decide +kernel, by decide +kernel, by decide +kernel, by decide +kernel, by decide +kernel, by decide +kernel⟩
theorem df21 {K : PySem.W.Frag} {h : Heap} {mg : Str → Option Value} (X : K.In h) (G : h.Ns mainGlobals mg) (c : SaysP fa fn tb K) : ∃ a fd params body scope, mg F_all_rows.name = some (.ref a) ∧ FunD K F_all_rows.name F_all_rows.name params body scope [] [] a fd ∧ Binds K fd (F_all_rows.N.take F_all_rows.np) [] ∧ DefOk T F_all_rows params body scope := by
 obtain ⟨fd, FF⟩ := c.def_ 21 (d := dOf "all_rows" 35) rfl
 exact ⟨_, fd, _, _, _, He.glo_ok X G (c.fact 21 (f := .glo (Str.ofString "all_rows")) rfl), FF, FF.bindsN (fun _ _ _ _ _ _ us hl => match us, hl with | [_], _ => rfl), ⟨sc21, by decide, by decide +kernel, of_decide_eq_true ck21⟩⟩
theorem ck22 : (decide (chkSL T F_is_program.N (defScope (top 36)) F_is_program.body (defBody (top 36)) = true)) = true := by decide +kernel
theorem sc22 : FnScope F_is_program.N (F_is_program.N.take F_is_program.np) (defScope (top 36)) := ⟨by decide +kernel, by decide +kernel, by decide +kernel, by decide +kernel, by decide +kernel, by decide +kernel, by decide +kernel⟩
theorem df22 {K : PySem.W.Frag} {h : Heap} {mg : Str → Option Value} (X : K.In h) (G : h.Ns mainGlobals mg) (c : SaysP fa fn tb K) : ∃ a fd params body scope, mg F_is_program.name = some (.ref a) ∧ FunD K F_is_program.name F_is_program.name params body scope [] [] a fd ∧ Binds K fd (F_is_program.N.take F_is_program.np) [] ∧ DefOk T F_is_program params body scope := by
 obtain ⟨fd, FF⟩ := c.def_ 22 (d := dOf "is_program" 36) rfl
 exact ⟨_, fd, _, _, _, He.glo_ok X G (c.fact 22 (f := .glo (Str.ofString "is_program")) rfl), FF, FF.bindsN (fun _ _ _ _ _ _ us hl => match us, hl with | [_], _ => rfl), ⟨sc22, by decide, by decide +kernel, of_decide_eq_true ck22⟩⟩
theorem ck23 : (decide (chkSL T F_law_hand.N (defScope (top 38)) F_law_hand.body (defBody (top 38)) = true)) = true := by decide +kernel
theorem sc23 : FnScope F_law_hand.N (F_law_hand.N.take F_law_hand.np) (defScope (top 38)) := ⟨by decide +kernel, by decide +kernel, by decide +kernel, by decide +kernel, by decide +kernel, by decide +kernel, by decide +kernel⟩
theorem df23 {K : PySem.W.Frag} {h : Heap} {mg : Str → Option Value} (X : K.In h) (G : h.Ns mainGlobals mg) (c : SaysP fa fn tb K) : ∃ a fd params body scope, mg F_law_hand.name = some (.ref a) ∧ FunD K F_law_hand.name F_law_hand.name params body scope [] [] a fd ∧ Binds K fd (F_law_hand.N.take F_law_hand.np) [] ∧ DefOk T F_law_hand params body scope := by
 obtain ⟨fd, FF⟩ := c.def_ 23 (d := dOf "_law_hand" 38) rfl
 exact ⟨_, fd, _, _, _, He.glo_ok X G (c.fact 23 (f := .glo (Str.ofString "_law_hand")) rfl), FF, FF.bindsN (fun _ _ _ _ _ _ us hl => match us, hl with | [_, _], _ => rfl), ⟨sc23, by decide, by decide +kernel, of_decide_eq_true ck23⟩⟩
theorem ck24 : (decide (chkSL T F_law_take.N (defScope (top 39)) F_law_take.body (defBody (top 39)) = true)) = true := by decide +kernel
theorem sc24 : FnScope F_law_take.N (F_law_take.N.take F_law_take.np) (defScope (top 39)) := ⟨by decide +kernel, by decide +kernel, by decide +kernel, by decide +kernel, by decide +kernel, by decide +kernel, by decide +kernel⟩
theorem df24 {K : PySem.W.Frag} {h : Heap} {mg : Str → Option Value} (X : K.In h) (G : h.Ns mainGlobals mg) (c : SaysP fa fn tb K) : ∃ a fd params body scope, mg F_law_take.name = some (.ref a) ∧ FunD K F_law_take.name F_law_take.name params body scope [] [] a fd ∧ Binds K fd (F_law_take.N.take F_law_take.np) [] ∧ DefOk T F_law_take params body scope := by
 obtain ⟨fd, FF⟩ := c.def_ 24 (d := dOf "_law_take" 39) rfl
 exact ⟨_, fd, _, _, _, He.glo_ok X G (c.fact 24 (f := .glo (Str.ofString "_law_take")) rfl), FF, FF.bindsN (fun _ _ _ _ _ _ us hl => match us, hl with | [_, _], _ => rfl), ⟨sc24, by decide, by decide +kernel, of_decide_eq_true ck24⟩⟩
theorem ck25 : (decide (chkSL T F_law_word.N (defScope (top 40)) F_law_word.body (defBody (top 40)) = true)) = true := by decide +kernel
theorem sc25 : FnScope F_law_word.N (F_law_word.N.take F_law_word.np) (defScope (top 40)) := ⟨by decide +kernel, by decide +kernel, by decide +kernel, by decide +kernel, by decide +kernel, by decide +kernel, by decide +kernel⟩
theorem df25 {K : PySem.W.Frag} {h : Heap} {mg : Str → Option Value} (X : K.In h) (G : h.Ns mainGlobals mg) (c : SaysP fa fn tb K) : ∃ a fd params body scope, mg F_law_word.name = some (.ref a) ∧ FunD K F_law_word.name F_law_word.name params body scope [] [] a fd ∧ Binds K fd (F_law_word.N.take F_law_word.np) [] ∧ DefOk T F_law_word params body scope := by
 obtain ⟨fd, FF⟩ := c.def_ 25 (d := dOf "_law_word" 40) rfl
 exact ⟨_, fd, _, _, _, He.glo_ok X G (c.fact 25 (f := .glo (Str.ofString "_law_word")) rfl), FF, FF.bindsN (fun _ _ _ _ _ _ us hl => match us, hl with | [_, _], _ => rfl), ⟨sc25, by decide, by decide +kernel, of_decide_eq_true ck25⟩⟩
theorem ck26 : (decide (chkSL T F_law_built.N (defScope (top 41)) F_law_built.body (defBody (top 41)) = true)) = true := by decide +kernel
theorem sc26 : FnScope F_law_built.N (F_law_built.N.take F_law_built.np) (defScope (top 41)) := ⟨by decide +kernel, by decide +kernel, by decide +kernel, by decide +kernel, by decide +kernel, by decide +kernel, by decide +kernel⟩
theorem df26 {K : PySem.W.Frag} {h : Heap} {mg : Str → Option Value} (X : K.In h) (G : h.Ns mainGlobals mg) (c : SaysP fa fn tb K) : ∃ a fd params body scope, mg F_law_built.name = some (.ref a) ∧ FunD K F_law_built.name F_law_built.name params body scope [] [] a fd ∧ Binds K fd (F_law_built.N.take F_law_built.np) [] ∧ DefOk T F_law_built params body scope := by
 obtain ⟨fd, FF⟩ := c.def_ 26 (d := dOf "_law_built" 41) rfl
 exact ⟨_, fd, _, _, _, He.glo_ok X G (c.fact 26 (f := .glo (Str.ofString "_law_built")) rfl), FF, FF.bindsN (fun _ _ _ _ _ _ us hl => match us, hl with | [_, _, _, _, _, _, _], _ => rfl), ⟨sc26, by decide, by decide +kernel, of_decide_eq_true ck26⟩⟩
theorem ck27 : (decide (chkSL T F_law_full.N (defScope (top 42)) F_law_full.body (defBody (top 42)) = true)) = true := by decide +kernel
theorem sc27 : FnScope F_law_full.N (F_law_full.N.take F_law_full.np) (defScope (top 42)) := ⟨by decide +kernel, by decide +kernel, by decide +kernel, by decide +kernel, by decide +kernel, by decide +kernel, by decide +kernel⟩
theorem df27 {K : PySem.W.Frag} {h : Heap} {mg : Str → Option Value} (X : K.In h) (G : h.Ns mainGlobals mg) (c : SaysP fa fn tb K) : ∃ a fd params body scope, mg F_law_full.name = some (.ref a) ∧ FunD K F_law_full.name F_law_full.name params body scope [] [] a fd ∧ Binds K fd (F_law_full.N.take F_law_full.np) [] ∧ DefOk T F_law_full params body scope := by
 obtain ⟨fd, FF⟩ := c.def_ 27 (d := dOf "_law_full" 42) rfl
 exact ⟨_, fd, _, _, _, He.glo_ok X G (c.fact 27 (f := .glo (Str.ofString "_law_full")) rfl), FF, FF.bindsN (fun _ _ _ _ _ _ us hl => match us, hl with | [_], _ => rfl), ⟨sc27, by decide, by decide +kernel, of_decide_eq_true ck27⟩⟩
theorem ck28 : (decide (chkSL T F_law.N (defScope (top 43)) F_law.body (defBody (top 43)) = true)) = true := by decide +kernel
theorem sc28 : FnScope F_law.N (F_law.N.take F_law.np) (defScope (top 43)) := ⟨by decide +kernel, by decide +kernel, by decide +kernel, by decide +kernel, by decide +kernel, by decide +kernel, by decide +kernel⟩
theorem df28 {K : PySem.W.Frag} {h : Heap} {mg : Str → Option Value} (X : K.In h) (G : h.Ns mainGlobals mg) (c : SaysP fa fn tb K) : ∃ a fd params body scope, mg F_law.name = some (.ref a) ∧ FunD K F_law.name F_law.name params body scope [] [] a fd ∧ Binds K fd (F_law.N.take F_law.np) [] ∧ DefOk T F_law params body scope := by
 obtain ⟨fd, FF⟩ := c.def_ 28 (d := dOf "law" 43) rfl
 exact ⟨_, fd, _, _, _, He.glo_ok X G (c.fact 28 (f := .glo (Str.ofString "law")) rfl), FF, FF.bindsN (fun _ _ _ _ _ _ us hl => match us, hl with | [_], _ => rfl), ⟨sc28, by decide, by decide +kernel, of_decide_eq_true ck28⟩⟩
theorem tab [WW] {K : PySem.W.Frag} {h : Heap} {mg : Str → Option Value} (X : K.In h) (G : h.Ns mainGlobals mg) (c : SaysP fa fn tb K) (hd : ∀ nm kvs, (nm, kvs) ∈ T.ds → DsOk K WW.w mg nm kvs) : TabIn T (fun _ => 0) K mg := by
 refine TabIn.plain (fun x hx => ?_) (fun f F hF => ?_) (c.gs rfl X G) rfl rfl hd
 ·have hm : (fa.drop 29).map (fun f => match f with | .free y => y | _ => Str.ofString "") = bnames := by decide +kernel
  rw [← hm] at hx
  obtain ⟨y, hy, rfl⟩ := List.mem_map.mp hx
  obtain ⟨i, hi⟩ := List.mem_iff_getElem?.mp hy
  rw [List.getElem?_drop] at hi
  have hl : ∃ z, y = .free z := by
   have : (fa.drop 29).all (fun f => match f with | .free _ => true | _ => false) = true := by decide +kernel
   have := List.all_eq_true.mp this y hy
   cases y <;> first | exact ⟨_, rfl⟩ | cases this
  obtain ⟨z, rfl⟩ := hl
  exact He.free_ok X G (c.fact (29 + i) (f := .free z) hi)
 ·match f, hF with
  | 0, hF => cases hF; exact df0 X G c
  | 1, hF => cases hF; exact df1 X G c
  | 2, hF => cases hF; exact df2 X G c
  | 3, hF => cases hF; exact df3 X G c
  | 4, hF => cases hF; exact df4 X G c
  | 5, hF => cases hF; exact df5 X G c
  | 6, hF => cases hF; exact df6 X G c
  | 7, hF => cases hF; exact df7 X G c
  | 8, hF => cases hF; exact df8 X G c
  | 9, hF => cases hF; exact df9 X G c
  | 10, hF => cases hF; exact df10 X G c
  | 11, hF => cases hF; exact df11 X G c
  | 12, hF => cases hF; exact df12 X G c
  | 13, hF => cases hF; exact df13 X G c
  | 14, hF => cases hF; exact df14 X G c
  | 15, hF => cases hF; exact df15 X G c
  | 16, hF => cases hF; exact df16 X G c
  | 17, hF => cases hF; exact df17 X G c
  | 18, hF => cases hF; exact df18 X G c
  | 19, hF => cases hF; exact df19 X G c
  | 20, hF => cases hF; exact df20 X G c
  | 21, hF => cases hF; exact df21 X G c
  | 22, hF => cases hF; exact df22 X G c
  | 23, hF => cases hF; exact df23 X G c
  | 24, hF => cases hF; exact df24 X G c
  | 25, hF => cases hF; exact df25 X G c
  | 26, hF => cases hF; exact df26 X G c
  | 27, hF => cases hF; exact df27 X G c
  | 28, hF => cases hF; exact df28 X G c
  | n + 29, hF => cases hF
theorem facts {Pr : Program} {w : World} {K : PySem.W.Frag} {h : Heap} {mg : Str → Option Value} {f : Addr} (pure_law : ∀ ns : List Int, ns.length ≤ 63 → ∃ ds, callF T 60 28 [.s ns] = some (.v (.bool true), ds)) (X : K.In h) (G : h.Ns mainGlobals mg) (hfa : mg ("law" : Str) = some (.ref f)) (c0 : SaysQ fa fn tb dd w K) :
  ∃ fd : FuncData, (∀ (s : Shared) (v : Value), BindsTo s fd ⟨[v], []⟩ [(Str.ofString "_law_script", v)]) ∧ ∀ base : Heap, K.In base → base.Ns mainGlobals mg → FnOk Pr w K mg base CX0 60 f fd [Str.ofString "_law_script"] (spLaw K) := by
 have c := c0.p
 obtain ⟨fd, F⟩ := c.def_ 28 (d := dOf "law" 43) rfl
 have e := hfa.symm.trans (He.glo_ok X G (c.fact 28 (f := .glo (Str.ofString "law")) rfl))
 cases e
 have b := FunD.bindsA (ps := [Str.ofString "_law_script"]) F fun _ _ _ _ _ _ us hl => match us, hl with | [_], _ => rfl
 refine ⟨fd, fun s v => b s [v] rfl, fun base _ _ => ?_⟩
 letI : WW := ⟨Pr, w⟩
 exact law_okX (Pr := Pr) (w := w) (base := base) rfl rfl (tab X G c (c0.ds rfl X G)) (noEx rfl) (k := 59) (f := 28) (F := F_law) rfl F ⟨sc28, by decide, by decide +kernel, of_decide_eq_true ck28⟩ pure_law
theorem holds (pure_law : ∀ ns : List Int, ns.length ≤ 63 → ∃ ds, callF T 60 28 [.s ns] = some (.v (.bool true), ds)) : PySem.Challenge.rw_surecall_k04_programs_at_their_bounds.Holds := by
 w_on; o_law
 refine HandSHeadRun.head_any (r := OpenLaw.row PySem.Challenge.rw_surecall_k04_programs_at_their_bounds) (q := view (OpenLaw.row PySem.Challenge.rw_surecall_k04_programs_at_their_bounds).prog [43]) (H := hk) (ob := ob) (M := 4000) (loose := [(Str.ofString "kind_row"), (Str.ofString "line_up"), (Str.ofString "deed_row"), (Str.ofString "answer"), (Str.ofString "kind_names"), (Str.ofString "is_word"), (Str.ofString "are_unlike"), (Str.ofString "inner_rows"), (Str.ofString "rows_flat"), (Str.ofString "is_deed"), (Str.ofString "is_kind"), (Str.ofString "are_kinds"), (Str.ofString "are_late"), (Str.ofString "keep_params"), (Str.ofString "is_read"), (Str.ofString "is_given"), (Str.ofString "is_call"), (Str.ofString "is_row"), (Str.ofString "are_rows"), (Str.ofString "bodies"), (Str.ofString "body_row"), (Str.ofString "all_rows"), (Str.ofString "is_program"), (Str.ofString "_law_hand"), (Str.ofString "_law_take"), (Str.ofString "_law_word"), (Str.ofString "_law_built"), (Str.ofString "_law_full"), (Str.ofString "LETTERS"), (Str.ofString "MOST_LETTERS"), (Str.ofString "MOST_KINDS"), (Str.ofString "MOST_DEEDS"), (Str.ofString "MOST_PARAMS"), (Str.ofString "MOST_LATE"), (Str.ofString "MOST_IN_ROWS"), (Str.ofString "MOST_DEEP"), (Str.ofString "MOST_ROWS"), (Str.ofString "MAIN"), (Str.ofString "OWN"), (Str.ofString "LONG")]) (d := HandSHeadRun.topDef (OpenLaw.row PySem.Challenge.rw_surecall_k04_programs_at_their_bounds).prog 43) (kwd := []) ob_eq
  (by kernel_rfl) (fun s => by kernel_rfl) run (by kernel_rfl) (by kernel_rfl) (by kernel_rfl) (by rfl) (by first | assumption | decide +kernel) (by decide +kernel) ⟨rfl, rfl, rfl, rfl, rfl, by decide +kernel⟩ ?hw ?hc
 case hw => w_witness2
 case hc =>
  refine L2.walk_ofE (l := PySem.Challenge.rw_surecall_k04_programs_at_their_bounds) (n := 63) (k := 60) (x := "_law_script") (CX := L2.CX0) rfl (by decide) (by kernel_rfl) ⟨rfl, by decide, by decide⟩ ?F (fun _ _ _ _ z => z)
  intro w mg fa h Y G hmg0
  obtain ⟨K, KX, c⟩ := Y
  have hmg : mg ("law" : PySem.Str) = some (.ref fa) := by
   have e : (HandSHeadRun.topDef (OpenLaw.row PySem.Challenge.rw_surecall_k04_programs_at_their_bounds).prog 43).name = ("law" : PySem.Str) := by kernel_rfl
   rw [← e]
   exact hmg0
  obtain ⟨fd, hb, hF⟩ := facts (Pr := (PySem.Challenge.rw_surecall_k04_programs_at_their_bounds).prog) (w := w) pure_law KX G hmg c
  exact ⟨K, fd, spLaw K, KX, hb, fun H a ns hl _ hS => ⟨a, ns, rfl, hS, hl, fun _ => rfl⟩, hF⟩
end Lw
end Mn
end
section
set_option maxHeartbeats 200000
namespace Mn
open PySem
def plE : E → Bool
 | .pl _ => true
 | _ => false
def unl (lk : Option (Nat × M)) (ρ : Env) : Env := match lk with
 | none => ρ
 | some (i, m) => ρ.set i (some m)
def WE (X : Cxt) (e : E) (ρ : Env) (Q : M → Env → Prop) : Prop := ∃ m ρ', ev X e ρ = some (m, ρ') ∧ Q m ρ'
def WO (X : Cxt) (e : E) (ρ : Env) (Q : R → Env → Prop) : Prop := ∃ r ρ', opE e (ev X e) ρ = some (r, ρ') ∧ Q r ρ'
def WP (X : Cxt) (es : EL) (ρ : Env) (Q : List P → Env → Prop) : Prop := ∃ ps ρ', evp X es ρ = some (ps, ρ') ∧ Q ps ρ'
def WL (X : Cxt) (es : EL) (ρ : Env) (Q : List R → Env → Prop) : Prop := ∃ rs ρ', evl X es ρ = some (rs, ρ') ∧ Q rs ρ'
def WB (X : Cxt) (e : E) (ρ : Env) (Q : Bool → Env → Prop) : Prop := WE X e ρ fun m ρ1 => ∃ b, m = .v (.bool b) ∧ Q b ρ1
def WI (X : Cxt) (it : It) (ρ : Env) (Q : List P → Env → Prop) : Prop := ∃ ps ρ', evit X it ρ = some (ps, ρ') ∧ Q ps ρ'
def WS (X : Cxt) (s : S) (ρ : Env) (N : Env → Prop) (Q : Fl → Env → Prop) : Prop := ∃ f ρ', evs X s ρ = some (f, ρ') ∧ match f with
 | .nx => N ρ'
 | f => Q f ρ'
def WSS (X : Cxt) (s : SL) (ρ : Env) (N : Env → Prop) (Q : Fl → Env → Prop) : Prop := ∃ f ρ', evss X s ρ = some (f, ρ') ∧ match f with
 | .nx => N ρ'
 | f => Q f ρ'
section
variable {X : Cxt} {ρ : Env} {Q : M → Env → Prop} {QR : R → Env → Prop} {QP : List P → Env → Prop} {QL : List R → Env → Prop} {QB : Bool → Env → Prop} {N : Env → Prop} {QF : Fl → Env → Prop}
theorem we_ki {i : Int} (h : Q (.v (.int i)) ρ) : WE X (.ki i) ρ Q := ⟨_, _, by simp only [ev], h⟩
theorem we_kb {i : Bool} (h : Q (.v (.bool i)) ρ) : WE X (.kb i) ρ Q := ⟨_, _, by simp only [ev], h⟩
theorem we_kn (h : Q (.v .none) ρ) : WE X .kn ρ Q := ⟨_, _, by simp only [ev], h⟩
theorem we_ks {s : Str} (h : Q (.v (.str s)) ρ) : WE X (.ks s) ρ Q := ⟨_, _, by simp only [ev], h⟩
theorem we_tk {i : Nat} {m : M} {ρ1 : Env} (e : take ρ i = some (m, ρ1)) (h : Q m ρ1) : WE X (.tk i) ρ Q := ⟨m, ρ1, by simp only [ev, e], h⟩
theorem we_mv {i : Nat} {m : M} (e1 : (pmAt X i || isLk (slot ρ i)) = false) (e : slot ρ i = some m) (h : Q m (ρ.set i none)) : WE X (.mv i) ρ Q := ⟨m, _, by
 simp only [ev]
 rw [Bool.or_eq_false_iff] at e1
 rw [if_neg (by rw [e1.2]; simp), e, if_neg (by rw [e1.1]; simp)], h⟩
theorem wo_pl {i : Nat} {m : M} (e : slot ρ i = some m) (h : QR (.pl i) ρ) : WO X (.pl i) ρ QR := ⟨_, _, by simp only [opE, e], h⟩
theorem opE_no {e : E} (he : plE e = false) (g : Env → Option (M × Env)) : opE e g ρ = match g ρ with
  | some (m, ρ) => some (.vl m, ρ)
  | none => none := by
 cases e <;> first | rfl | cases he
theorem wo_vl {e : E} (h : WE X e ρ fun m ρ1 => QR (.vl m) ρ1) (he : plE e = false := by rfl) : WO X e ρ QR := by
 obtain ⟨m, ρ1, e1, h⟩ := h
 exact ⟨_, _, by rw [opE_no he, e1], h⟩
theorem we_tup {es : EL} (h : WP X es ρ fun ps ρ1 => Q (.v (.tuple ps)) ρ1) : WE X (.tup es) ρ Q := by
 obtain ⟨ps, ρ1, e, h⟩ := h
 exact ⟨_, _, by simp only [ev, e], h⟩
theorem we_lst {es : EL} (h : WP X es ρ fun ps ρ1 => Q (.l ps) ρ1) : WE X (.lst es) ρ Q := by
 obtain ⟨ps, ρ1, e, h⟩ := h
 exact ⟨_, _, by simp only [ev, e], h⟩
theorem wp_nil (h : QP [] ρ) : WP X .nil ρ QP := ⟨_, _, by simp only [evp], h⟩
theorem wp_cons {e : E} {r : EL} (h : WE X e ρ fun m ρ1 => ∃ p, toP m = some p ∧ WP X r ρ1 fun ps ρ2 => QP (p :: ps) ρ2) : WP X (.cons e r) ρ QP := by
 obtain ⟨m, ρ1, e1, p, e2, ps, ρ2, e3, h⟩ := h
 exact ⟨_, _, by simp only [evp, e1, e2, e3], h⟩
theorem wl_nil (h : QL [] ρ) : WL X .nil ρ QL := ⟨_, _, by simp only [evl], h⟩
theorem wl_cons {e : E} {r : EL} (h : WO X e ρ fun m ρ1 => WL X r ρ1 fun ps ρ2 => QL (m :: ps) ρ2) : WL X (.cons e r) ρ QL := by
 obtain ⟨m, ρ1, e1, ps, ρ2, e3, h⟩ := h
 exact ⟨_, _, by simp only [evl, e1, e3], h⟩
theorem we_dnw0 (h : Q (.d []) ρ) : WE X (.dnw 0) ρ Q := ⟨_, _, by simp only [ev], h⟩
theorem we_dnw1 (h : Q (.t []) ρ) : WE X (.dnw 1) ρ Q := ⟨_, _, by simp only [ev], h⟩
theorem we_dnw2 (h : Q (.n []) ρ) : WE X (.dnw 2) ρ Q := ⟨_, _, by simp only [ev], h⟩
theorem we_bin {op : BOp} {a b : E} (h : WO X a ρ fun r1 ρ1 => WO X b ρ1 fun r2 ρ2 => ∃ m1 m2 m, rd ρ2 r1 = some m1 ∧ rd ρ2 r2 = some m2 ∧ binM op m1 m2 = some m ∧ Q m ρ2) : WE X (.bin op a b) ρ Q := by
 obtain ⟨r1, ρ1, e1, r2, ρ2, e2, m1, m2, m, e3, e4, e5, h⟩ := h
 exact ⟨_, _, by simp only [ev, e1, e2, e3, e4, e5], h⟩
theorem we_neg {a : E} (h : WE X a ρ fun m ρ1 => ∃ i, m = .v (.int i) ∧ Q (.v (.int (-i))) ρ1) : WE X (.neg a) ρ Q := by
 obtain ⟨m, ρ1, e1, i, rfl, h⟩ := h
 exact ⟨_, _, by simp only [ev, e1], h⟩
theorem we_cmp {op : COp} {a b : E} (h : WO X a ρ fun r1 ρ1 => WO X b ρ1 fun r2 ρ2 => ∃ m1 m2 m, rd ρ2 r1 = some m1 ∧ rd ρ2 r2 = some m2 ∧ cmpM op m1 m2 = some m ∧ Q m ρ2) : WE X (.cmp op a b) ρ Q := by
 obtain ⟨r1, ρ1, e1, r2, ρ2, e2, m1, m2, m, e3, e4, e5, h⟩ := h
 exact ⟨_, _, by simp only [ev, e1, e2, e3, e4, e5], h⟩
theorem we_ban {a b : E} (h : WB X a ρ fun c ρ1 => (c = true → WE X b ρ1 Q) ∧ (c = false → Q (.v (.bool false)) ρ1)) : WE X (.ban a b) ρ Q := by
 obtain ⟨m, ρ1, e1, c, rfl, h1, h2⟩ := h
 cases c with
 | true =>
  obtain ⟨m, ρ2, e2, h⟩ := h1 rfl
  exact ⟨_, _, by simp only [ev, e1, if_true, e2], h⟩
 | false => exact ⟨_, _, by simp only [ev, e1, Bool.false_eq_true, if_false], h2 rfl⟩
theorem we_bor {a b : E} (h : WB X a ρ fun c ρ1 => (c = true → Q (.v (.bool true)) ρ1) ∧ (c = false → WE X b ρ1 Q)) : WE X (.bor a b) ρ Q := by
 obtain ⟨m, ρ1, e1, c, rfl, h1, h2⟩ := h
 cases c with
 | false =>
  obtain ⟨m, ρ2, e2, h⟩ := h2 rfl
  exact ⟨_, _, by simp only [ev, e1, Bool.false_eq_true, if_false, e2], h⟩
 | true => exact ⟨_, _, by simp only [ev, e1, if_true], h1 rfl⟩
theorem we_nt {a : E} (h : WB X a ρ fun c ρ1 => Q (.v (.bool (!c))) ρ1) : WE X (.nt a) ρ Q := by
 obtain ⟨m, ρ1, e1, c, rfl, h⟩ := h
 exact ⟨_, _, by simp only [ev, e1], h⟩
theorem we_ifx {c a b : E} (h : WB X c ρ fun t ρ1 => (t = true → WE X a ρ1 Q) ∧ (t = false → WE X b ρ1 Q)) : WE X (.ifx c a b) ρ Q := by
 obtain ⟨m, ρ1, e1, c, rfl, h1, h2⟩ := h
 cases c with
 | false =>
  obtain ⟨m, ρ2, e2, h⟩ := h2 rfl
  exact ⟨_, _, by simp only [ev, e1, Bool.false_eq_true, if_false, e2], h⟩
 | true =>
  obtain ⟨m, ρ2, e2, h⟩ := h1 rfl
  exact ⟨_, _, by simp only [ev, e1, if_true, e2], h⟩
theorem we_sub {a k : E} (h : WO X a ρ fun r1 ρ1 => WE X k ρ1 fun m2 ρ2 => ∃ m1 m, rd ρ2 r1 = some m1 ∧ subM m1 m2 = some m ∧ Q m ρ2) : WE X (.sub a k) ρ Q := by
 obtain ⟨r1, ρ1, e1, m2, ρ2, e2, m1, m, e3, e4, h⟩ := h
 exact ⟨_, _, by simp only [ev, e1, e2, e3, e4], h⟩
def WPo (X : Cxt) (e : E) (ρ : Env) (Q : Option Int → Env → Prop) : Prop := if elNo e = true then Q none ρ else WE X e ρ fun m ρ1 => ∃ i, m = .v (.int i) ∧ Q (some i) ρ1
theorem we_slc {a lo hi : E} (h : WO X a ρ fun r1 ρ1 => WPo X lo ρ1 fun x ρ2 => WPo X hi ρ2 fun y ρ3 => ∃ m1 m, rd ρ3 r1 = some m1 ∧ slcM m1 x y = some m ∧ Q m ρ3) : WE X (.slc a lo hi) ρ Q := by
 obtain ⟨r1, ρ1, e1, h⟩ := h
 unfold WPo at h
 by_cases h1 : elNo lo = true
 ·rw [if_pos h1] at h
  by_cases h2 : elNo hi = true
  ·rw [if_pos h2] at h
   obtain ⟨m1, m, e3, e4, h⟩ := h
   exact ⟨_, _, by simp only [ev, e1, h1, h2, if_true, e3, e4], h⟩
  ·rw [if_neg h2] at h
   obtain ⟨mm, ρ3, e2, i, rfl, m1, m, e3, e4, h⟩ := h
   exact ⟨_, _, by simp only [ev, e1, h1, h2, if_true, Bool.false_eq_true, if_false, e2, e3, e4], h⟩
 ·rw [if_neg h1] at h
  obtain ⟨mm, ρ2, e2, i, rfl, h⟩ := h
  by_cases h2 : elNo hi = true
  ·rw [if_pos h2] at h
   obtain ⟨m1, m, e3, e4, h⟩ := h
   exact ⟨_, _, by simp only [ev, e1, h1, h2, if_true, Bool.false_eq_true, if_false, e2, e3, e4], h⟩
  ·rw [if_neg h2] at h
   obtain ⟨mm, ρ3, e5, j, rfl, m1, m, e3, e4, h⟩ := h
   exact ⟨_, _, by simp only [ev, e1, h1, h2, if_true, Bool.false_eq_true, if_false, e2, e5, e3, e4], h⟩
theorem wpo_no {Q : Option Int → Env → Prop} (h : Q none ρ) : WPo X .no ρ Q := by have h0 : elNo .no = true := rfl; unfold WPo; simp only [h0, if_true]; exact h
theorem wpo_e {e : E} {Q : Option Int → Env → Prop} (h : WE X e ρ fun m ρ1 => ∃ i, m = .v (.int i) ∧ Q (some i) ρ1) (he : elNo e = false := by rfl) : WPo X e ρ Q := by unfold WPo; rw [if_neg (by rw [he]; exact Bool.false_ne_true)]; exact h
theorem we_rev {a : E} (h : WO X a ρ fun r1 ρ1 => ∃ m1 m, rd ρ1 r1 = some m1 ∧ revM m1 = some m ∧ Q m ρ1) : WE X (.rev a) ρ Q := by
 obtain ⟨r1, ρ1, e1, m1, m, e3, e4, h⟩ := h
 exact ⟨_, _, by simp only [ev, e1, e3, e4], h⟩
theorem we_call {f : Nat} {es : EL} (h : WL X es ρ fun rs ρ1 => ∃ ms ρ2, pull rs ρ1 = some (ms, ρ2) ∧ ∃ m ms1, X.C f ms = some (m, ms1) ∧ Q m (putBack rs ms1 ρ2)) : WE X (.call f es) ρ Q := by
 obtain ⟨rs, ρ1, e1, ms, ρ2, e2, m, ms1, e3, h⟩ := h
 exact ⟨_, _, by simp only [ev, e1, e2, e3], h⟩
theorem we_bi {b : BI} {es : EL} (h : WL X es ρ fun rs ρ1 => ∃ ms m, rds ρ1 rs = some ms ∧ biM b ms = some m ∧ Q m ρ1) : WE X (.bi b es) ρ Q := by
 obtain ⟨rs, ρ1, e1, ms, m, e2, e3, h⟩ := h
 exact ⟨_, _, by simp only [ev, e1, e2, e3], h⟩
theorem we_mt {m : MT} {a : E} {es : EL} (h : WO X a ρ fun r1 ρ1 => mtBase m (rd ρ1 r1) = true ∧ WL X es ρ1 fun rs ρ2 => ∃ m1 ms x, rd ρ2 r1 = some m1 ∧ rds ρ2 rs = some ms ∧ mtM m m1 ms = some x ∧ Q x ρ2) : WE X (.mt m a es) ρ Q := by
 obtain ⟨r1, ρ1, e1, hb, rs, ρ2, e2, m1, ms, x, e3, e4, e5, h⟩ := h
 exact ⟨_, _, by simp only [ev, e1, hb, if_true, e2, e3, e4, e5], h⟩
theorem wss_nil (h : N ρ) : WSS X .nil ρ N QF := ⟨.nx, ρ, by simp only [evss], h⟩
theorem wss_cons {s : S} {r : SL} (h : WS X s ρ (fun ρ1 => WSS X r ρ1 N QF) QF) : WSS X (.cons s r) ρ N QF := by
 obtain ⟨f, ρ1, e, h⟩ := h
 cases f with
 | nx =>
  obtain ⟨f, ρ2, e2, h⟩ := h
  exact ⟨f, ρ2, by simp only [evss, e, e2], h⟩
 | ct => exact ⟨.ct, ρ1, by simp only [evss, e], h⟩
 | bk => exact ⟨.bk, ρ1, by simp only [evss, e], h⟩
 | rt m => exact ⟨.rt m, ρ1, by simp only [evss, e], h⟩
theorem ws_asg {i : Nat} {e : E} (h : WE X e ρ fun m ρ1 => ∃ ρ2, sto X i m ρ1 = some ρ2 ∧ N ρ2) : WS X (.asg (.nm i) e) ρ N QF := by
 obtain ⟨m, ρ1, e1, ρ2, e2, h⟩ := h
 exact ⟨.nx, ρ2, by simp only [evs, e1, e2, Option.map], h⟩
theorem ws_asgT {ts : List Tg} {e : E} (h : WE X e ρ fun m ρ1 => ∃ p ρ2, m = .v p ∧ bindT X (.tp ts) p ρ1 = some ρ2 ∧ N ρ2) : WS X (.asg (.tp ts) e) ρ N QF := by
 obtain ⟨m, ρ1, e1, p, ρ2, rfl, e2, h⟩ := h
 exact ⟨.nx, ρ2, by simp only [evs, e1, e2, Option.map], h⟩
theorem ws_par {i j : Nat} {a b : E} (h : WE X a ρ fun m1 ρ1 => WE X b ρ1 fun m2 ρ2 => ∃ ρ3 ρ4, sto X i m1 ρ2 = some ρ3 ∧ sto X j m2 ρ3 = some ρ4 ∧ N ρ4) : WS X (.par i j a b) ρ N QF := by
 obtain ⟨m1, ρ1, e1, m2, ρ2, e2, ρ3, ρ4, e3, e4, h⟩ := h
 exact ⟨.nx, ρ4, by simp only [evs, e1, e2, e3, e4], h⟩
theorem ws_sto {i : Nat} {k e : E} (h0 : (slot ρ i).isSome = true) (h : WE X e ρ fun m ρ1 => ∃ x, toP m = some x ∧ WE X k ρ1 fun m2 ρ2 => ∃ p c c2, m2 = .v p ∧ slot ρ2 i = some c ∧ putM c p x = some c2 ∧ N (ρ2.set i (some c2))) : WS X (.sto i k e) ρ N QF := by
 obtain ⟨m, ρ1, e1, x, e2, m2, ρ2, e3, p, c, c2, rfl, e4, e5, h⟩ := h
 exact ⟨.nx, _, by simp only [evs, h0, Bool.true_eq_false, if_false, e1, e2, e3, e4, e5], h⟩
theorem ws_stt {i : Nat} {ks : EL} {e : E} (h0 : (slot ρ i).isSome = true) (h : WE X e ρ fun m ρ1 => ∃ x, toP m = some x ∧ WP X ks ρ1 fun ps ρ2 => ∃ kvs k, slot ρ2 i = some (.t kvs) ∧ keysAll ps = some k ∧ kvs.length < LIM ∧ N (ρ2.set i (some (.t (putA kvs k x))))) : WS X (.stt i ks e) ρ N QF := by
 obtain ⟨m, ρ1, e1, x, e2, ps, ρ2, e3, kvs, k, e4, e5, e6, h⟩ := h
 exact ⟨.nx, _, by simp only [evs, h0, Bool.true_eq_false, if_false, e1, e2, e3, e4, e5, e6, if_true], h⟩
theorem ws_app {i : Nat} {e : E} (h0 : isL (slot ρ i) = true) (h : WE X e ρ fun m ρ1 => ∃ p ps, toP m = some p ∧ slot ρ1 i = some (.l ps) ∧ ps.length < LIM ∧ N (ρ1.set i (some (.l (ps ++ [p]))))) : WS X (.app i e) ρ N QF := by
 obtain ⟨m, ρ1, e1, p, ps, e2, e3, e4, h⟩ := h
 exact ⟨.nx, _, by simp only [evs, h0, Bool.true_eq_false, if_false, e1, e2, e3, e4, if_true], h⟩
theorem ws_ext {i : Nat} {e : E} (h0 : isL (slot ρ i) = true) (h : WE X e ρ fun m ρ1 => ∃ qs ps, toP m = some (.list qs) ∧ slot ρ1 i = some (.l ps) ∧ ps.length + qs.length ≤ LIM ∧ N (ρ1.set i (some (.l (ps ++ qs))))) : WS X (.ext i e) ρ N QF := by
 obtain ⟨m, ρ1, e1, qs, ps, e2, e3, e4, h⟩ := h
 exact ⟨.nx, _, by simp only [evs, h0, Bool.true_eq_false, if_false, e1, e2, e3, e4, if_true], h⟩
theorem ws_expr {e : E} (h : WE X e ρ fun _ ρ1 => N ρ1) : WS X (.expr e) ρ N QF := by
 obtain ⟨m, ρ1, e1, h⟩ := h
 exact ⟨.nx, _, by simp only [evs, e1], h⟩
theorem ws_ifs {c : E} {a b : SL} (h : WB X c ρ fun t ρ1 => (t = true → WSS X a ρ1 N QF) ∧ (t = false → WSS X b ρ1 N QF)) : WS X (.ifs c a b) ρ N QF := by
 obtain ⟨m, ρ1, e1, t, rfl, h1, h2⟩ := h
 cases t with
 | true =>
  obtain ⟨f, ρ2, e2, h⟩ := h1 rfl
  exact ⟨f, ρ2, by simp only [evs, e1, ofB, if_true, e2], h⟩
 | false =>
  obtain ⟨f, ρ2, e2, h⟩ := h2 rfl
  exact ⟨f, ρ2, by simp only [evs, e1, ofB, Bool.false_eq_true, if_false, e2], h⟩
theorem ws_ret {e : E} (h : WE X e ρ fun m ρ1 => QF (.rt m) ρ1) : WS X (.ret e) ρ N QF := by
 obtain ⟨m, ρ1, e1, h⟩ := h
 exact ⟨.rt m, ρ1, by simp only [evs, e1], h⟩
theorem ws_ret0 (h : QF (.rt (.v .none)) ρ) : WS X .ret0 ρ N QF := ⟨.rt (.v .none), ρ, by simp only [evs], h⟩
theorem ws_cont (h : QF .ct ρ) : WS X .cont ρ N QF := ⟨.ct, ρ, by simp only [evs], h⟩
theorem ws_brk (h : QF .bk ρ) : WS X .brk ρ N QF := ⟨.bk, ρ, by simp only [evs], h⟩
theorem ws_pass (h : N ρ) : WS X .pass ρ N QF := ⟨.nx, ρ, by simp only [evs], h⟩
theorem forL_inv {bd : P → Env → Option Env} {body : Env → Option (Fl × Env)} (I : Nat → Env → Prop) : ∀ (ps : List P) (i : Nat) (ρ : Env), I i ρ →
  (∀ (j : Nat) p ρ, ps[j]? = some p → I (i + j) ρ → ∃ ρ1, bd p ρ = some ρ1 ∧ ∃ f ρ2, body ρ1 = some (f, ρ2) ∧ match f with
   | .nx => I (i + j + 1) ρ2
   | .ct => I (i + j + 1) ρ2
   | .bk => N ρ2
   | .rt m => QF (.rt m) ρ2) → (∀ ρ, I (i + ps.length) ρ → N ρ) →
  ∃ f ρ', forL bd body ps ρ = some (f, ρ') ∧ match f with
   | .nx => N ρ'
   | f => QF f ρ'
 | [], i, ρ, h, _, hn => ⟨.nx, ρ, rfl, hn ρ (by simpa using h)⟩
 | p :: ps, i, ρ, h, hs, hn => by
  obtain ⟨ρ1, e1, f, ρ2, e2, h2⟩ := hs 0 p ρ rfl h
  have next : I (i + 1) ρ2 → ∃ f ρ', forL bd body ps ρ2 = some (f, ρ') ∧ match f with
   | .nx => N ρ'
   | f => QF f ρ' := fun h3 => forL_inv I ps (i + 1) ρ2 h3 (fun j p ρ e hI => by
    have e3 : i + 1 + j = i + (j + 1) := by omega
    rw [e3] at hI
    obtain ⟨ρ3, k1, f3, ρ4, k2, k3⟩ := hs (j + 1) p ρ (by simpa using e) hI
    rw [e3]
    exact ⟨ρ3, k1, f3, ρ4, k2, k3⟩) (fun ρ hI => hn ρ (by
     have e3 : i + 1 + ps.length = i + (ps.length + 1) := by omega
     rw [e3] at hI
     exact hI))
  cases f with
  | nx =>
   obtain ⟨f, ρ', e3, h3⟩ := next h2
   exact ⟨f, ρ', by simp only [forL, e1, e2, e3], h3⟩
  | ct =>
   obtain ⟨f, ρ', e3, h3⟩ := next h2
   exact ⟨f, ρ', by simp only [forL, e1, e2, e3], h3⟩
  | bk => exact ⟨.nx, ρ2, by simp only [forL, e1, e2], h2⟩
  | rt m => exact ⟨.rt m, ρ2, by simp only [forL, e1, e2], h2⟩
theorem ws_fr {tg : Tg} {it : It} {b : SL} {lk : Option (Nat × M)} {ρ0 : Env} (I : Nat → Env → Prop) (hl : lockE it ρ = some (lk, ρ0)) (h : WI X it ρ0 fun ps ρ1 => I 0 ρ1 ∧
  (∀ (j : Nat) p ρ2, ps[j]? = some p → I j ρ2 → ∃ ρ3, bindT X tg p ρ2 = some ρ3 ∧ WSS X b ρ3 (I (j + 1)) fun f ρ4 => match f with
   | .nx => False
   | .ct => I (j + 1) ρ4
   | .bk => N (unl lk ρ4)
   | .rt m => QF (.rt m) (unl lk ρ4)) ∧
  (∀ ρ2, I ps.length ρ2 → N (unl lk ρ2))) : WS X (.fr tg it b) ρ N QF := by
 obtain ⟨ps, ρ1, e1, h0, hs, hn⟩ := h
 obtain ⟨f, ρ2, e2, h2⟩ := forL_inv (bd := bindT X tg) (body := evss X b) (N := fun ρ => N (unl lk ρ)) (QF := fun f ρ => QF f (unl lk ρ)) I ps 0 ρ1 h0 (fun j p ρ e hI => by
  rw [Nat.zero_add] at hI ⊢
  obtain ⟨ρ3, k1, f3, ρ4, k2, k3⟩ := hs j p ρ e hI
  refine ⟨ρ3, k1, f3, ρ4, k2, ?_⟩
  cases f3 with
  | nx => exact k3
  | ct => exact k3
  | bk => exact k3
  | rt m => exact k3) (fun ρ hI => hn ρ (by rw [Nat.zero_add] at hI; exact hI))
 cases lk with
 | none => exact ⟨f, ρ2, by simp only [evs, hl, e1, e2], h2⟩
 | some im =>
  obtain ⟨i, m⟩ := im
  exact ⟨f, _, by simp only [evs, hl, e1, e2]; rfl, h2⟩
theorem wi_of {e : E} {QP : List P → Env → Prop} (h : WE X e ρ fun m ρ1 => ∃ ps, itemsM m = some ps ∧ QP ps ρ1) : WI X (.of e) ρ QP := by
 obtain ⟨m, ρ1, e1, ps, e2, h⟩ := h
 exact ⟨_, _, by simp only [evit, e1, e2], h⟩
theorem wi_rg {es : EL} {QP : List P → Env → Prop} (h : WL X es ρ fun rs ρ1 => ∃ ms ps, rds ρ1 rs = some ms ∧ rgItems ms = some ps ∧ QP ps ρ1) : WI X (.rg es) ρ QP := by
 obtain ⟨rs, ρ1, e1, ms, ps, e2, e3, h⟩ := h
 exact ⟨_, _, by simp only [evit, e1, e2, e3], h⟩
theorem wi_zp {a b : E} {QP : List P → Env → Prop} (h : WE X a ρ fun m1 ρ1 => WE X b ρ1 fun m2 ρ2 => ∃ ps, zipM m1 m2 = some ps ∧ QP ps ρ2) : WI X (.zp a b) ρ QP := by
 obtain ⟨m1, ρ1, e1, m2, ρ2, e2, ps, e3, h⟩ := h
 exact ⟨_, _, by simp only [evit, e1, e2, e3], h⟩
def WT (X : Cxt) (ts : EL) (ρ : Env) (Q : Bool → Env → Prop) : Prop := ∃ b ρ', evt X ts ρ = some (b, ρ') ∧ Q b ρ'
theorem wt_nil {Q : Bool → Env → Prop} (h : Q true ρ) : WT X .nil ρ Q := ⟨_, _, by simp only [evt], h⟩
theorem wt_one {e : E} {Q : Bool → Env → Prop} (h : WB X e ρ Q) : WT X (.cons e .nil) ρ Q := by
 obtain ⟨m, ρ1, e1, b, rfl, h⟩ := h
 exact ⟨_, _, by simp only [evt, e1], h⟩
theorem compL_inv {bd : P → Env → Option Env} {tst : Env → Option (Bool × Env)} {elt : Env → Option (P × Env)} {own : List Nat} (I : Nat → Env → List P → Prop) : ∀ (ps : List P) (i : Nat) (ρ : Env) (acc : List P), I i ρ acc →
  (∀ (j : Nat) p ρ acc, ps[j]? = some p → I (i + j) ρ acc → ∃ ρ1, bd p (wipeE ρ own) = some ρ1 ∧ ∃ t ρ2, tst ρ1 = some (t, ρ2) ∧ (t = false → I (i + j + 1) ρ2 acc) ∧ (t = true → ∃ q ρ3, elt ρ2 = some (q, ρ3) ∧ acc.length < LIM ∧ I (i + j + 1) ρ3 (acc ++ [q]))) →
  ∃ qs ρ', compL bd tst elt own ps ρ acc = some (qs, ρ') ∧ I (i + ps.length) ρ' qs
 | [], i, ρ, acc, h, _ => ⟨acc, ρ, rfl, by simpa using h⟩
 | p :: ps, i, ρ, acc, h, hs => by
  obtain ⟨ρ1, e1, t, ρ2, e2, h1, h2⟩ := hs 0 p ρ acc rfl h
  have hs' : ∀ (j : Nat) p ρ acc, ps[j]? = some p → I (i + 1 + j) ρ acc → ∃ ρ1, bd p (wipeE ρ own) = some ρ1 ∧ ∃ t ρ2, tst ρ1 = some (t, ρ2) ∧ (t = false → I (i + 1 + j + 1) ρ2 acc) ∧ (t = true → ∃ q ρ3, elt ρ2 = some (q, ρ3) ∧ acc.length < LIM ∧ I (i + 1 + j + 1) ρ3 (acc ++ [q])) := fun j p ρ acc e hI => by
   have e3 : i + 1 + j = i + (j + 1) := by omega
   rw [e3] at hI ⊢
   exact hs (j + 1) p ρ acc (by simpa using e) hI
  have e3 : i + 1 + ps.length = i + (p :: ps).length := by rw [List.length_cons]; omega
  cases t with
  | false =>
   obtain ⟨qs, ρ', e4, h4⟩ := compL_inv I ps (i + 1) ρ2 acc (h1 rfl) hs'
   rw [e3] at h4
   exact ⟨qs, ρ', by simp only [compL, e1, e2, e4], h4⟩
  | true =>
   obtain ⟨q, ρ3, e5, hl, h5⟩ := h2 rfl
   obtain ⟨qs, ρ', e4, h4⟩ := compL_inv I ps (i + 1) ρ3 (acc ++ [q]) h5 hs'
   rw [e3] at h4
   exact ⟨qs, ρ', by simp only [compL, e1, e2, e5, hl, if_true, e4], h4⟩
theorem we_comp {own : List Nat} {tg : Tg} {it : It} {ts : EL} {e : E} {lk : Option (Nat × M)} {ρ0 : Env} (I : Nat → Env → List P → Prop) (hl : lockE it ρ = some (lk, ρ0)) (h : WI X it ρ0 fun ps ρ1 => ownOk X ρ1 own = true ∧ I 0 ρ1 [] ∧
  (∀ (j : Nat) p ρ2 acc, ps[j]? = some p → I j ρ2 acc → ∃ ρ3, bindT X tg p (wipeE ρ2 own) = some ρ3 ∧ WT X ts ρ3 fun t ρ4 => (t = false → I (j + 1) ρ4 acc) ∧ (t = true → WE X e ρ4 fun m ρ5 => ∃ q, toP m = some q ∧ acc.length < LIM ∧ I (j + 1) ρ5 (acc ++ [q]))) ∧
  ∀ ρ2 qs, I ps.length ρ2 qs → Q (.l qs) (unl lk (backE ρ1 ρ2 own))) : WE X (.comp own tg it ts e) ρ Q := by
 obtain ⟨ps, ρ1, e1, ok, h0, hs, hn⟩ := h
 obtain ⟨qs, ρ2, e2, h2⟩ := compL_inv (bd := bindT X tg) (tst := evt X ts) (elt := toPg (ev X e)) (own := own) I ps 0 ρ1 [] h0 (fun j p ρ acc e hI => by
  rw [Nat.zero_add] at hI ⊢
  obtain ⟨ρ3, k1, t, ρ4, k2, k3, k4⟩ := hs j p ρ acc e hI
  refine ⟨ρ3, k1, t, ρ4, k2, k3, fun ht => ?_⟩
  obtain ⟨m, ρ5, k5, q, k6, k7, k8⟩ := k4 ht
  exact ⟨q, ρ5, by simp only [toPg, k5, k6], k7, k8⟩)
 rw [Nat.zero_add] at h2
 have h3 := hn ρ2 qs h2
 cases lk with
 | none => exact ⟨.l qs, _, by simp only [ev, hl, e1, ok, Bool.true_eq_false, if_false, e2]; rfl, h3⟩
 | some im =>
  obtain ⟨i, m⟩ := im
  exact ⟨.l qs, _, by simp only [ev, hl, e1, ok, Bool.true_eq_false, if_false, e2]; rfl, h3⟩
end
theorem run_of {T : Tab} {C : Nat → List M → Option (M × List M)} {F : Fn} {ms : List M} {Pq : M → List M → Prop} (hl : ms.length = F.np) (h : WSS (cxt T C ms) F.body (ms.map some ++ List.replicate (F.N.length - ms.length) none) (fun ρ => Pq (.v .none) (outs ms ρ)) fun f ρ => match f with
  | .rt m => Pq m (outs ms ρ)
  | _ => False) : ∃ m ms1, runF T C F ms = some (m, ms1) ∧ Pq m ms1 := by
 obtain ⟨f, ρ, e, h⟩ := h
 cases f with
 | nx => exact ⟨_, _, by unfold runF; rw [if_pos hl, e]; rfl, h⟩
 | rt m => exact ⟨_, _, by unfold runF; rw [if_pos hl, e]; rfl, h⟩
 | ct => exact h.elim
 | bk => exact h.elim
end Mn
end
section
set_option maxHeartbeats 200000
open PySem
namespace Mn
section
variable {r1 r2 : R} {ρ : Env} {m1 m2 m : M} {Q : M → Prop}
theorem wb_of {X : Cxt} {e : E} {QB : Bool → Env → Prop} (h : WE X e ρ fun m ρ1 => ∃ b, m = .v (.bool b) ∧ QB b ρ1) : WB X e ρ QB := h
theorem lf_bin {op : BOp} (e1 : rd ρ r1 = some m1) (e2 : rd ρ r2 = some m2) (e3 : binM op m1 m2 = some m) (h : Q m) : ∃ m1 m2 m, rd ρ r1 = some m1 ∧ rd ρ r2 = some m2 ∧ binM op m1 m2 = some m ∧ Q m := ⟨m1, m2, m, e1, e2, e3, h⟩
theorem lf_cmp {op : COp} (e1 : rd ρ r1 = some m1) (e2 : rd ρ r2 = some m2) (e3 : cmpM op m1 m2 = some m) (h : Q m) : ∃ m1 m2 m, rd ρ r1 = some m1 ∧ rd ρ r2 = some m2 ∧ cmpM op m1 m2 = some m ∧ Q m := ⟨m1, m2, m, e1, e2, e3, h⟩
theorem lf_sub (e1 : rd ρ r1 = some m1) (e3 : subM m1 m2 = some m) (h : Q m) : ∃ m1 m, rd ρ r1 = some m1 ∧ subM m1 m2 = some m ∧ Q m := ⟨m1, m, e1, e3, h⟩
theorem lf_slc {x y : Option Int} (e1 : rd ρ r1 = some m1) (e3 : slcM m1 x y = some m) (h : Q m) : ∃ m1 m, rd ρ r1 = some m1 ∧ slcM m1 x y = some m ∧ Q m := ⟨m1, m, e1, e3, h⟩
theorem lf_ex1 {α β : Type} {f g : α → β} {N : α → Prop} {a : α} (e : f a = g a) (h : N a) : ∃ a, f a = g a ∧ N a := ⟨a, e, h⟩
theorem lf_sto {i : Nat} {p x : P} {c c2 : M} (e1 : m2 = .v p) (e2 : slot ρ i = some c) (e3 : putM c p x = some c2) (h : Q c2) : ∃ p c c2, m2 = .v p ∧ slot ρ i = some c ∧ putM c p x = some c2 ∧ Q c2 := ⟨p, c, c2, e1, e2, e3, h⟩
theorem lf_pull {rs : List R} {ms : List M} {ρ2 : Env} {N : List M → Env → Prop} (e : pull rs ρ = some (ms, ρ2)) (h : N ms ρ2) : ∃ ms ρ2, pull rs ρ = some (ms, ρ2) ∧ N ms ρ2 := ⟨ms, ρ2, e, h⟩
theorem lf_bi {rs : List R} {b : BI} {ms : List M} (e1 : rds ρ rs = some ms) (e3 : biM b ms = some m) (h : Q m) : ∃ ms m, rds ρ rs = some ms ∧ biM b ms = some m ∧ Q m := ⟨ms, m, e1, e3, h⟩
theorem wo_g {X : Cxt} {e : E} {QR : R → Env → Prop} (h : WO X e ρ QR) : WO X e ρ QR := h
theorem wpo_g {X : Cxt} {e : E} {Q : Option Int → Env → Prop} (h : WPo X e ρ Q) : WPo X e ρ Q := h
theorem ws_g {X : Cxt} {e : S} {N : Env → Prop} {Q : Fl → Env → Prop} (h : WS X e ρ N Q) : WS X e ρ N Q := h
theorem we_g1 {X : Cxt} {e : E} {Q : M → Env → Prop} (h : WE X e ρ Q) : WE X e ρ Q := h
theorem lf_bin_g {op : BOp} (h : ∃ m1 m2 m, rd ρ r1 = some m1 ∧ rd ρ r2 = some m2 ∧ binM op m1 m2 = some m ∧ Q m) : ∃ m1 m2 m, rd ρ r1 = some m1 ∧ rd ρ r2 = some m2 ∧ binM op m1 m2 = some m ∧ Q m := h
theorem lf_cmp_g {op : COp} (h : ∃ m1 m2 m, rd ρ r1 = some m1 ∧ rd ρ r2 = some m2 ∧ cmpM op m1 m2 = some m ∧ Q m) : ∃ m1 m2 m, rd ρ r1 = some m1 ∧ rd ρ r2 = some m2 ∧ cmpM op m1 m2 = some m ∧ Q m := h
theorem lf_sub_g (h : ∃ m1 m, rd ρ r1 = some m1 ∧ subM m1 m2 = some m ∧ Q m) : ∃ m1 m, rd ρ r1 = some m1 ∧ subM m1 m2 = some m ∧ Q m := h
theorem lf_slc_g {x y : Option Int} (h : ∃ m1 m, rd ρ r1 = some m1 ∧ slcM m1 x y = some m ∧ Q m) : ∃ m1 m, rd ρ r1 = some m1 ∧ slcM m1 x y = some m ∧ Q m := h
theorem lf_ex1_g {α β : Type} {f g : α → β} {N : α → Prop} (h : ∃ a, f a = g a ∧ N a) : ∃ a, f a = g a ∧ N a := h
theorem lf_sto_g {i : Nat} {x : P} {Q : P → M → M → Prop} (h : ∃ p c c2, m2 = .v p ∧ slot ρ i = some c ∧ putM c p x = some c2 ∧ Q p c c2) : ∃ p c c2, m2 = .v p ∧ slot ρ i = some c ∧ putM c p x = some c2 ∧ Q p c c2 := h
theorem lf_pull_g {rs : List R} {N : List M → Env → Prop} (h : ∃ ms ρ2, pull rs ρ = some (ms, ρ2) ∧ N ms ρ2) : ∃ ms ρ2, pull rs ρ = some (ms, ρ2) ∧ N ms ρ2 := h
theorem lf_bi_g {rs : List R} {b : BI} (h : ∃ ms m, rds ρ rs = some ms ∧ biM b ms = some m ∧ Q m) : ∃ ms m, rds ρ rs = some ms ∧ biM b ms = some m ∧ Q m := h
theorem wo_vl1 {X : Cxt} {e : E} {QR : R → Env → Prop} (he : plE e = false) (h : WE X e ρ fun m ρ1 => QR (.vl m) ρ1) : WO X e ρ QR := wo_vl h he
theorem wpo_e1 {X : Cxt} {e : E} {Q : Option Int → Env → Prop} (he : elNo e = false) (h : WE X e ρ fun m ρ1 => ∃ i, m = .v (.int i) ∧ Q (some i) ρ1) : WPo X e ρ Q := wpo_e h he
end
theorem lf_ff {A N : Prop} (h : N) : (false = true → A) ∧ (false = false → N) := ⟨fun h => by (cases h), fun _ => h⟩
theorem lf_tt {A N : Prop} (h : N) : (true = true → N) ∧ (true = false → A) := ⟨fun _ => h, fun h => by (cases h)⟩
theorem lf_ff2 {A N : Prop} (h : N) : (false = false → N) ∧ (false = true → A) := ⟨fun _ => h, fun h => by (cases h)⟩
theorem lf_tt2 {A N : Prop} (h : N) : (true = false → A) ∧ (true = true → N) := ⟨fun h => by (cases h), fun _ => h⟩
theorem slot_z (a : Option M) (l : Env) : slot (a :: l) 0 = a := rfl
theorem slot_s (a : Option M) (l : Env) (n : Nat) : slot (a :: l) (n + 1) = slot l n := rfl
theorem lf_mtb_g {m : MT} {a : Option M} {A : Prop} (h : mtBase m a = true ∧ A) : mtBase m a = true ∧ A := h
theorem lf_mtb {m : MT} {a : Option M} {A : Prop} (e : mtBase m a = true) (h : A) : mtBase m a = true ∧ A := ⟨e, h⟩
theorem sto_go {X : Cxt} {i : Nat} {m : M} {ρ : Env} (h1 : isLk (slot ρ i) = false) (h2 : pmAt X i = false) (h3 : i < ρ.length) : sto X i m ρ = some (ρ.set i (some m)) := if_neg (by rw [h1, h2]; simp; omega)
section
variable {X : Cxt} {ρ : Env} {Q : M → Env → Prop} {N : Env → Prop} {QF : Fl → Env → Prop}
def WKV (X : Cxt) (es : EL) (ρ : Env) (Q : List (Key × M) → Env → Prop) : Prop := ∃ xs ρ', evkv X es ρ = some (xs, ρ') ∧ Q xs ρ'
theorem wkv_nil {Q : List (Key × M) → Env → Prop} (h : Q [] ρ) : WKV X .nil ρ Q := ⟨_, _, by simp only [evkv], h⟩
theorem wkv_cons {k : Str} {e : E} {r : EL} {Q : List (Key × M) → Env → Prop} (h : WE X e ρ fun m ρ1 => WKV X r ρ1 fun xs ρ2 => (getA xs (.inr k)).isSome = false ∧ Q ((.inr k, frzL m) :: xs) ρ2) : WKV X (.cons (.ks k) (.cons e r)) ρ Q := by
 obtain ⟨m, ρ1, e1, xs, ρ2, e2, e3, h⟩ := h
 exact ⟨_, _, by simp only [evkv, e1, e2, e3, Bool.false_eq_true, if_false], h⟩
theorem wkv_consI {k : Int} {e : E} {r : EL} {Q : List (Key × M) → Env → Prop} (h : WE X e ρ fun m ρ1 => WKV X r ρ1 fun xs ρ2 => (getA xs (.inl k)).isSome = false ∧ Q ((.inl k, frzL m) :: xs) ρ2) : WKV X (.cons (.ki k) (.cons e r)) ρ Q := by
 obtain ⟨m, ρ1, e1, xs, ρ2, e2, e3, h⟩ := h
 exact ⟨_, _, by simp only [evkv, e1, e2, e3, Bool.false_eq_true, if_false], h⟩
theorem we_dd {kvs : EL} (h : WKV X kvs ρ fun xs ρ1 => Q (.n xs) ρ1) : WE X (.dd 2 kvs) ρ Q := by
 obtain ⟨xs, ρ1, e1, h⟩ := h
 exact ⟨.n xs, ρ1, by simp only [ev, e1]; rfl, h⟩
theorem we_dd5 {kvs : EL} (h : WKV X kvs ρ fun xs ρ1 => ∃ ps, allVs xs = some ps ∧ Q (.d ps) ρ1) : WE X (.dd 5 kvs) ρ Q := by
 obtain ⟨xs, ρ1, e1, ps, e2, h⟩ := h
 exact ⟨.d ps, ρ1, by simp only [ev, e1, ddM, e2, if_true], h⟩
end
section
end
theorem modM {i j : Int} (h : 0 < j) : binM .mod (.v (.int i)) (.v (.int j)) = some (.v (.int (i % j))) := if_pos h
theorem divM {i j : Int} (h : 0 < j ∧ j < 1073741824) : binM .div (.v (.int i)) (.v (.int j)) = some (.v (.int (i / j))) := if_pos h
theorem mulM {i j : Int} (h : mulOk i j = true) : binM .mul (.v (.int i)) (.v (.int j)) = some (.v (.int (i * j))) := if_pos h
theorem mulOk1 {i j : Int} (h : -(2 ^ 64) < i ∧ i < 2 ^ 64) : mulOk i j = true := by
 unfold mulOk
 rw [decide_eq_true h.1, decide_eq_true h.2]; rfl
theorem mulOk2 {i j : Int} (h : -(2 ^ 64) < j ∧ j < 2 ^ 64) : mulOk i j = true := by
 unfold mulOk
 rw [decide_eq_true h.1, decide_eq_true h.2]; simp
end Mn
end
section
set_option maxHeartbeats 8000000
open PySem Mn
local macro_rules | `(tactic| walk_at "mn") => `(tactic| (dsimp only [List.set, putBack, unl, wipeE]))
local macro_rules | `(tactic| walk_at "mo") => `(tactic| (dsimp only [unl, backE, wipeE, List.set, slot_z, slot_s]))
local macro_rules | `(tactic| walk_at "mB") => `(tactic| (with_reducible refine lf_bi_g ?_; refine lf_bi rfl rfl ?_))
local macro_rules | `(tactic| walk_at "mB") => `(tactic| walk_at "mA")
local macro_rules | `(tactic| walk_at "mN") => `(tactic| with_reducible refine ws_ifs ?_)
local macro_rules | `(tactic| walk_at "mN") => `(tactic| walk_at "mB")
local macro_rules | `(tactic| walk_at "mS") => `(tactic| (with_reducible refine lf_slc_g ?_; refine lf_slc rfl rfl ?_))
local macro_rules | `(tactic| walk_at "mS") => `(tactic| (with_reducible refine lf_bin_g ?_; refine lf_bin rfl rfl rfl ?_))
local macro_rules | `(tactic| walk_at "mS") => `(tactic| walk_at "mN")
local macro_rules | `(tactic| walk_at "mC") => `(tactic| (with_reducible refine lf_slc_g ?_; refine lf_slc rfl rfl ?_))
local macro_rules | `(tactic| walk_at "mC") => `(tactic| (with_reducible refine lf_bin_g ?_; refine lf_bin rfl rfl rfl ?_))
local macro_rules | `(tactic| walk_at "mC") => `(tactic| walk_at "mB")
local macro_rules | `(tactic| walk_at "n") => `(tactic| ((try walk_at "mn"); repeat walk_at "mN"))
local macro_rules | `(tactic| walk_at "s") => `(tactic| ((try walk_at "mn"); repeat walk_at "mS"))
local macro_rules | `(tactic| walk_at "mA") => `(tactic| (with_reducible refine lf_ex1_g ?_; refine lf_ex1 (sto_go (by assumption) rfl (Nat.le_of_ble_eq_true rfl)) ?_; (try dsimp only [List.set, putBack, unl, wipeE])))
local macro_rules | `(tactic| walk_at "mA") => `(tactic| (with_reducible refine lf_mtb_g ?_; refine lf_mtb rfl ?_))
local macro_rules | `(tactic| walk_at "mA") => `(tactic| (with_reducible refine lf_ex1_g ?_; refine lf_ex1 rfl ?_; (try dsimp only [List.set, putBack, unl, wipeE])))
local macro_rules | `(tactic| walk_at "mA") => `(tactic| (with_reducible refine lf_pull_g ?_; refine lf_pull rfl ?_; (try dsimp only [List.set, putBack, unl, wipeE])))
local macro_rules | `(tactic| walk_at "mA") => `(tactic| (with_reducible refine lf_sto_g ?_; refine lf_sto rfl rfl rfl ?_; (try dsimp only [List.set, putBack, unl, wipeE])))
local macro_rules | `(tactic| walk_at "mA") => `(tactic| (with_reducible refine lf_cmp_g ?_; refine lf_cmp rfl rfl rfl ?_))
local macro_rules | `(tactic| walk_at "mA") => `(tactic| (with_reducible refine lf_sub_g ?_; refine lf_sub rfl rfl ?_))
local macro_rules | `(tactic| walk_at "mA") => `(tactic| (with_reducible refine we_g1 ?_; refine we_mv rfl rfl ?_; (try dsimp only [List.set, putBack, unl, wipeE])))
local macro_rules | `(tactic| walk_at "mA") => `(tactic| (with_reducible refine we_g1 ?_; refine we_tk rfl ?_; (try dsimp only [List.set, putBack, unl, wipeE])))
local macro_rules | `(tactic| walk_at "mA") => `(tactic| (with_reducible refine ws_g ?_; refine ws_ext rfl ?_))
local macro_rules | `(tactic| walk_at "mA") => `(tactic| (with_reducible refine ws_g ?_; refine ws_sto rfl ?_))
local macro_rules | `(tactic| walk_at "mA") => `(tactic| (with_reducible refine ws_g ?_; refine ws_stt rfl ?_))
local macro_rules | `(tactic| walk_at "mA") => `(tactic| (with_reducible refine ws_g ?_; refine ws_app rfl ?_))
local macro_rules | `(tactic| walk_at "mA") => `(tactic| (with_reducible refine wpo_g ?_; refine wpo_e1 rfl ?_))
local macro_rules | `(tactic| walk_at "mA") => `(tactic| (with_reducible refine wo_g ?_; refine wo_pl rfl ?_))
local macro_rules | `(tactic| walk_at "mA") => `(tactic| (with_reducible refine wo_g ?_; refine wo_vl1 rfl ?_))
local macro_rules | `(tactic| walk_at "mA") => `(tactic| with_reducible refine lf_tt2 ?_)
local macro_rules | `(tactic| walk_at "mA") => `(tactic| with_reducible refine lf_ff2 ?_)
local macro_rules | `(tactic| walk_at "mA") => `(tactic| with_reducible refine lf_tt ?_)
local macro_rules | `(tactic| walk_at "mA") => `(tactic| with_reducible refine lf_ff ?_)
local macro_rules | `(tactic| walk_at "mA") => `(tactic| with_reducible refine wkv_nil ?_)
local macro_rules | `(tactic| walk_at "mA") => `(tactic| with_reducible refine wkv_consI ?_)
local macro_rules | `(tactic| walk_at "mA") => `(tactic| with_reducible refine wkv_cons ?_)
local macro_rules | `(tactic| walk_at "mA") => `(tactic| with_reducible refine we_dd5 ?_)
local macro_rules | `(tactic| walk_at "mA") => `(tactic| with_reducible refine we_dd ?_)
local macro_rules | `(tactic| walk_at "mA") => `(tactic| with_reducible refine wt_one ?_)
local macro_rules | `(tactic| walk_at "mA") => `(tactic| with_reducible refine wt_nil ?_)
local macro_rules | `(tactic| walk_at "mA") => `(tactic| with_reducible refine wpo_no ?_)
local macro_rules | `(tactic| walk_at "mA") => `(tactic| with_reducible refine wl_cons ?_)
local macro_rules | `(tactic| walk_at "mA") => `(tactic| with_reducible refine wl_nil ?_)
local macro_rules | `(tactic| walk_at "mA") => `(tactic| with_reducible refine wp_cons ?_)
local macro_rules | `(tactic| walk_at "mA") => `(tactic| with_reducible refine wp_nil ?_)
local macro_rules | `(tactic| walk_at "mA") => `(tactic| with_reducible refine wb_of ?_)
local macro_rules | `(tactic| walk_at "mA") => `(tactic| with_reducible refine we_mt ?_)
local macro_rules | `(tactic| walk_at "mA") => `(tactic| with_reducible refine we_bi ?_)
local macro_rules | `(tactic| walk_at "mA") => `(tactic| with_reducible refine we_call ?_)
local macro_rules | `(tactic| walk_at "mA") => `(tactic| with_reducible refine we_rev ?_)
local macro_rules | `(tactic| walk_at "mA") => `(tactic| with_reducible refine we_slc ?_)
local macro_rules | `(tactic| walk_at "mA") => `(tactic| with_reducible refine we_dnw2 ?_)
local macro_rules | `(tactic| walk_at "mA") => `(tactic| with_reducible refine we_dnw1 ?_)
local macro_rules | `(tactic| walk_at "mA") => `(tactic| with_reducible refine we_dnw0 ?_)
local macro_rules | `(tactic| walk_at "mA") => `(tactic| with_reducible refine we_lst ?_)
local macro_rules | `(tactic| walk_at "mA") => `(tactic| with_reducible refine we_tup ?_)
local macro_rules | `(tactic| walk_at "mA") => `(tactic| with_reducible refine we_neg ?_)
local macro_rules | `(tactic| walk_at "mA") => `(tactic| with_reducible refine we_ifx ?_)
local macro_rules | `(tactic| walk_at "mA") => `(tactic| with_reducible refine we_nt ?_)
local macro_rules | `(tactic| walk_at "mA") => `(tactic| with_reducible refine we_bor ?_)
local macro_rules | `(tactic| walk_at "mA") => `(tactic| with_reducible refine we_ban ?_)
local macro_rules | `(tactic| walk_at "mA") => `(tactic| with_reducible refine we_sub ?_)
local macro_rules | `(tactic| walk_at "mA") => `(tactic| with_reducible refine we_cmp ?_)
local macro_rules | `(tactic| walk_at "mA") => `(tactic| with_reducible refine we_bin ?_)
local macro_rules | `(tactic| walk_at "mA") => `(tactic| with_reducible refine we_ks ?_)
local macro_rules | `(tactic| walk_at "mA") => `(tactic| with_reducible refine we_kn ?_)
local macro_rules | `(tactic| walk_at "mA") => `(tactic| with_reducible refine we_kb ?_)
local macro_rules | `(tactic| walk_at "mA") => `(tactic| with_reducible refine we_ki ?_)
local macro_rules | `(tactic| walk_at "mA") => `(tactic| with_reducible refine we_cm ?_)
local macro_rules | `(tactic| walk_at "mA") => `(tactic| with_reducible refine ws_pass ?_)
local macro_rules | `(tactic| walk_at "mA") => `(tactic| with_reducible refine ws_brk ?_)
local macro_rules | `(tactic| walk_at "mA") => `(tactic| with_reducible refine ws_cont ?_)
local macro_rules | `(tactic| walk_at "mA") => `(tactic| with_reducible refine ws_ret0 ?_)
local macro_rules | `(tactic| walk_at "mA") => `(tactic| with_reducible refine ws_par ?_)
local macro_rules | `(tactic| walk_at "mA") => `(tactic| with_reducible refine ws_asgT ?_)
local macro_rules | `(tactic| walk_at "mA") => `(tactic| with_reducible refine ws_expr ?_)
local macro_rules | `(tactic| walk_at "mA") => `(tactic| with_reducible refine ws_ret ?_)
local macro_rules | `(tactic| walk_at "mA") => `(tactic| with_reducible refine ws_asg ?_)
local macro_rules | `(tactic| walk_at "mA") => `(tactic| with_reducible refine wss_nil ?_)
local macro_rules | `(tactic| walk_at "mA") => `(tactic| with_reducible refine wss_cons ?_)
open PySem
namespace Mn
structure Ix where
 l_hand : Nat
 l_take : Nat
 l_of : Nat
 l_words : Nat
 l_tree : Nat
 l_world : Nat
 l_line : Nat
 l_has : Nat
 l_variable : Nat
 l_target : Nat
 l_make : Nat
 l_args : Nat
 l_call : Nat
 l_field : Nat
 l_row : Nat
 l_rows : Nat
 l_deed : Nat
 l_program : Nat
 nm_up : Str
 nm_by : Str
def F_law_hand (ix : Ix) : Fn := ⟨(Str.ofString "_law_hand"), 2, [(Str.ofString "_law_script"), (Str.ofString "_law_k"), (Str.ofString "_law_cell")], (.cons (.asg (.nm 2) (.ki 0)) (.cons (.ifs (.cmp .lt (.pl 1) (.bi .len (.cons (.pl 0) .nil))) (.cons (.asg (.nm 2) (.bi .abs (.cons (.sub (.pl 0) (.tk 1)) .nil))) .nil) .nil) (.cons (.ret (.lst (.cons (.bin .mul (.pl 2) (.bi .int (.cons (.cmp .ge (.pl 2) (.bin .pow (.ki 10) (.ki 18))) .nil))) (.cons (.bin .add (.bin .add (.bin .mod (.pl 2) (.ki 2305843009213693951)) (.bin .mul (.ki 7919) (.pl 1))) (.ki 11)) (.cons (.ki 0) (.cons (.ki 0) .nil)))))) .nil)))⟩
def F_law_take (ix : Ix) : Fn := ⟨(Str.ofString "_law_take"), 2, [(Str.ofString "_law_hand_here"), (Str.ofString "_law_many"), (Str.ofString "_law_turn"), (Str.ofString "_law_mixed"), (Str.ofString "_law_digit")], (.cons (.ifs (.cmp .gt (.sub (.pl 0) (.ki 0)) (.ki 0)) (.cons (.asg (.nm 4) (.bin .mod (.sub (.pl 0) (.ki 0)) (.pl 1))) (.cons (.sto 0 (.ki 0) (.bin .div (.sub (.pl 0) (.ki 0)) (.pl 1))) (.cons (.ret (.mv 4)) .nil))) .nil) (.cons (.sto 0 (.ki 2) (.bin .add (.sub (.pl 0) (.ki 2)) (.ki 1))) (.cons (.asg (.nm 2) (.sub (.pl 0) (.ki 2))) (.cons (.asg (.nm 3) (.bin .mod (.bin .mul (.bin .add (.sub (.pl 0) (.ki 1)) (.bin .mul (.ki 39373) (.pl 2))) (.bin .add (.ki 48271) (.bin .mul (.pl 2) (.pl 2)))) (.ki 2305843009213693921))) (.cons (.sto 0 (.ki 1) (.bin .mod (.bin .mul (.pl 3) (.bin .add (.bin .mod (.pl 3) (.ki 1000003)) (.ki 17))) (.ki 2305843009213693907))) (.cons (.ret (.bin .mod (.bin .div (.sub (.pl 0) (.ki 1)) (.ki 131071)) (.pl 1))) .nil))))))⟩
abbrev FnC := Nat → List M → Option (M × List M)
def Hd (t d : Int) (h : M) : Prop := ∃ a b c, h = .l [.int a, .int b, .int c, .int d] ∧ (0 ≤ b ∧ b < 2 ^ 62) ∧ 0 ≤ c ∧ c ≤ t
theorem Hd.mono {t t' d : Int} {h : M} (x : Hd t d h) (l : t ≤ t') : Hd t' d h := by
 obtain ⟨a, b, c, h1, h2, h3, h4⟩ := x
 exact ⟨a, b, c, h1, h2, h3, by omega⟩
def LT : Int := 500000
def SpHand (C : FnC) (i : Nat) : Prop := ∀ (ns : List Int) (k : Nat), ns.length ≤ 63 → k < 100 → ∃ h, C i [.s ns, .v (.int k)] = some (h, [.s ns, .v (.int k)]) ∧ Hd 0 0 h
def SpTake (C : FnC) (i : Nat) : Prop := ∀ (t d : Int) (h : M) (m : Int), Hd t d h → t ≤ LT → 0 < m ∧ m < 1073741824 → ∃ r h', C i [h, .v (.int m)] = some (.v (.int r), [h', .v (.int m)]) ∧ 0 ≤ r ∧ r < m ∧ Hd (t + 1) d h'
theorem hand_ok (ix : Ix) (T : Tab) (C : FnC) : ∀ (ns : List Int) (k : Nat), ns.length ≤ 63 → k < 100 → ∃ h, runF T C (F_law_hand ix) [.s ns, .v (.int k)] = some (h, [.s ns, .v (.int k)]) ∧ Hd 0 0 h := by
 intro ns k hl hk
 have fin : ∀ (cell : Int), (0 ≤ cell % 2305843009213693951 + 7919 * (k : Int) + 11 ∧ cell % 2305843009213693951 + 7919 * (k : Int) + 11 < 2 ^ 62) := fun cell => by omega
 have key : ∃ r ms, runF T C (F_law_hand ix) [.s ns, .v (.int k)] = some (r, ms) ∧ ∃ a b, r = .l [.int a, .int b, .int 0, .int 0] ∧ ms = [.s ns, .v (.int k)] ∧ (0 ≤ b ∧ b < 2 ^ 62) := by
  apply run_of rfl
  unfold F_law_hand
  dsimp only
  walk_at "s"
  refine ⟨fun h => ?_, fun h => ?_⟩
  ·have hlt : k < ns.length := by simpa using h
   walk_at "s"
   refine lf_sub (m1 := .s ns) rfl (m := .v (.int ns[k])) (by
    show (L2.atI ns (k : Int)).map (fun n => M.v (.int n)) = _
    unfold L2.atI L2.ixN
    rw [if_pos (by omega), if_pos (by omega)]
    simp [hlt]) ?_
   walk_at "s"
   refine lf_bin rfl rfl (mulM (mulOk2 (by split <;> omega))) ?_
   walk_at "s"
   exact ⟨_, _, rfl, rfl, fin _⟩
  ·walk_at "s"
   exact ⟨_, _, rfl, rfl, fin _⟩
 obtain ⟨r, ms, e, a, b, rfl, rfl, h1⟩ := key
 exact ⟨_, e, a, b, 0, rfl, h1, by omega, by omega⟩
theorem take_ok (ix : Ix) (T : Tab) (C : FnC) : ∀ (t d : Int) (h : M) (m : Int), Hd t d h → t ≤ LT → 0 < m ∧ m < 1073741824 → ∃ r h', runF T C (F_law_take ix) [h, .v (.int m)] = some (.v (.int r), [h', .v (.int m)]) ∧ 0 ≤ r ∧ r < m ∧ Hd (t + 1) d h' := by
 intro t d h m ⟨a, b, c, e, hb, hc, ht⟩ hT hm
 subst e
 have hL : LT = 500000 := rfl
 have key : ∃ r ms, runF T C (F_law_take ix) [.l [.int a, .int b, .int c, .int d], .v (.int m)] = some (r, ms) ∧ ∃ i a' b' c', r = .v (.int i) ∧ ms = [.l [.int a', .int b', .int c', .int d], .v (.int m)] ∧ 0 ≤ i ∧ i < m ∧ (0 ≤ b' ∧ b' < 2 ^ 62) ∧ c ≤ c' ∧ c' ≤ c + 1 := by
  apply run_of rfl
  unfold F_law_take
  dsimp only
  walk_at "s"
  refine ⟨fun h => ?_, fun h => ?_⟩
  ·walk_at "s"
   refine lf_bin rfl rfl (modM hm.1) ?_
   walk_at "s"
   refine lf_bin rfl rfl (divM hm) ?_
   walk_at "s"
   exact ⟨_, _, _, _, rfl, rfl, Int.emod_nonneg _ (by omega), Int.emod_lt_of_pos _ hm.1, hb, by omega, by omega⟩
  ·walk_at "s"
   refine lf_bin rfl rfl (mulM (mulOk1 (by omega))) ?_
   walk_at "s"
   refine lf_bin rfl rfl (mulM (mulOk1 (by omega))) ?_
   walk_at "s"
   refine lf_bin rfl rfl (mulM (mulOk1 (by omega))) ?_
   walk_at "s"
   refine lf_bin rfl rfl (modM hm.1) ?_
   walk_at "s"
   exact ⟨_, _, _, _, rfl, rfl, Int.emod_nonneg _ (by omega), Int.emod_lt_of_pos _ hm.1, by omega, by omega, by omega⟩
 obtain ⟨r, ms, e, i, a', b', c', rfl, rfl, h1, h2, h3, h4, h5⟩ := key
 exact ⟨i, _, e, h1, h2, a', b', c', rfl, h3, by omega, by omega⟩
end Mn
namespace Mn
open PySem
def appSL : SL → SL → SL
 | .nil, r => r
 | .cons s a, r => .cons s (appSL a r)
theorem evss_app {X : Cxt} {ρ1 : Env} (b : SL) : ∀ (a : SL) (ρ : Env), evss X a ρ = some (.nx, ρ1) → evss X (appSL a b) ρ = evss X b ρ1
 | .nil, ρ, e => by
  simp only [evss, Option.some.injEq, Prod.mk.injEq, true_and] at e
  rw [e]; rfl
 | .cons s a, ρ, e => by
  simp only [appSL, evss] at e ⊢
  cases h : evs X s ρ with
  | none => rw [h] at e; cases e
  | some x =>
   obtain ⟨f, ρ2⟩ := x
   rw [h] at e
   cases f with
   | nx => exact evss_app b a ρ2 e
   | ct => cases e
   | bk => cases e
   | rt m => cases e
theorem wss_app {X : Cxt} {ρ ρ1 : Env} {a b : SL} {N : Env → Prop} {Q : Fl → Env → Prop} (e : evss X a ρ = some (.nx, ρ1)) (h : WSS X b ρ1 N Q) : WSS X (appSL a b) ρ N Q := by
 obtain ⟨f, ρ2, e2, h⟩ := h
 exact ⟨f, ρ2, (evss_app b a ρ e).trans e2, h⟩
def takeSL : Nat → SL → SL
 | n + 1, .cons s r => .cons s (takeSL n r)
 | _, _ => .nil
def dropSL : Nat → SL → SL
 | n + 1, .cons _ r => dropSL n r
 | _, x => x
theorem wss_split {X : Cxt} {N : Env → Prop} {QF : Fl → Env → Prop} (I : Env → Prop) : ∀ (n : Nat) (b : SL) (ρ : Env), WSS X (takeSL n b) ρ I QF → (∀ ρ1, I ρ1 → WSS X (dropSL n b) ρ1 N QF) → WSS X b ρ N QF
 | 0, b, ρ, h, k => by
  obtain ⟨f, ρ1, e, h⟩ := h
  simp only [takeSL, evss, Option.some.injEq, Prod.mk.injEq] at e
  obtain ⟨rfl, rfl⟩ := e
  have := k ρ h
  cases b <;> exact this
 | n + 1, .nil, ρ, h, k => by
  obtain ⟨f, ρ1, e, h⟩ := h
  simp only [takeSL, evss, Option.some.injEq, Prod.mk.injEq] at e
  obtain ⟨rfl, rfl⟩ := e
  exact k ρ h
 | n + 1, .cons s r, ρ, h, k => by
  obtain ⟨f, ρ1, e, h⟩ := h
  simp only [takeSL, evss] at e
  cases e1 : evs X s ρ with
  | none => rw [e1] at e; cases e
  | some x =>
   obtain ⟨f2, ρ2⟩ := x
   rw [e1] at e
   cases f2 with
   | nx =>
    obtain ⟨f3, ρ3, e3, h3⟩ := wss_split I n r ρ2 ⟨f, ρ1, e, h⟩ k
    exact ⟨f3, ρ3, by simp only [evss, e1, e3], h3⟩
   | ct =>
    simp only [Option.some.injEq, Prod.mk.injEq] at e
    obtain ⟨rfl, rfl⟩ := e
    exact ⟨.ct, ρ2, by simp only [evss, e1], h⟩
   | bk =>
    simp only [Option.some.injEq, Prod.mk.injEq] at e
    obtain ⟨rfl, rfl⟩ := e
    exact ⟨.bk, ρ2, by simp only [evss, e1], h⟩
   | rt m =>
    simp only [Option.some.injEq, Prod.mk.injEq] at e
    obtain ⟨rfl, rfl⟩ := e
    exact ⟨.rt m, ρ2, by simp only [evss, e1], h⟩
theorem srt_id {ps : List P} {xs : List Str} (h1 : tupsOf ps = none) (h2 : ps.length < 64) (h3 : strsOf ps = some xs) (h4 : xs.Pairwise fun a b => decide (a.cps.toList ≤ b.cps.toList) = true) (h5 : xs.map .str = ps) : biM .sorted [.l ps] = some (.l ps) := by
 show (match tupsOf ps with
    | some xs => some (M.l ((TT.sortT xs).map strT))
    | none => if ps.length < 64 then match strsOf ps with
      | some xs => some (.l ((sortS xs).map .str))
      | none => match intsOf ps with
       | some ns => some (.l ((sortI ns).map .int))
       | none => if alk ps = true then some (.l (sortD ps)) else none
     else if alk ps = true then some (.l (sortD ps)) else none) = _
 rw [h1]
 show (if ps.length < 64 then _ else _) = _
 rw [if_pos h2, h3]
 show some (M.l ((sortS xs).map .str)) = _
 unfold sortS
 rw [List.mergeSort_of_pairwise h4, h5]
namespace Lw
def hd6 : SL → SL
 | .cons a (.cons b (.cons c (.cons d (.cons e (.cons f _))))) => .cons a (.cons b (.cons c (.cons d (.cons e (.cons f .nil)))))
 | x => x
def tl6 : SL → SL
 | .cons _ (.cons _ (.cons _ (.cons _ (.cons _ (.cons _ x))))) => x
 | x => x
def isz (l : List Int) : List M := l.map fun i => .v (.int i)
abbrev rho (l : List Int) : Env := (isz l).map some ++ [none, none, none, none, none, none, none, none]
theorem bld {m d p t r e g : Int} {o8 o10 o11 o13 o14 : Option M} {nm kd : List P} {mn : P} (E : evss (cxt T (callF T 58) (isz [m, d, p, t, r, e, g])) (hd6 F_law_built.body) (rho [m, d, p, t, r, e, g]) = some (.nx, [some (.v (.int m)), some (.v (.int d)), some (.v (.int p)), some (.v (.int t)), some (.v (.int r)), some (.v (.int e)), some (.v (.int g)), some (.l nm), o8, some (.l kd), o10, o11, some (.v mn), o13, o14]))
  (S : biM .sorted [.l (cut nm none (some t))] = some (.l (cut nm none (some t)))) : callF T 59 26 (isz [m, d, p, t, r, e, g]) = some (.v (.tuple [.tuple kd, .tuple (cut nm none (some t)), mn]), isz [m, d, p, t, r, e, g]) := by
 show runF T (callF T 58) F_law_built _ = _
 have key : ∃ r' ms, runF T (callF T 58) F_law_built (isz [m, d, p, t, r, e, g]) = some (r', ms) ∧ r' = .v (.tuple [.tuple kd, .tuple (cut nm none (some t)), mn]) ∧ ms = isz [m, d, p, t, r, e, g] := by
  apply run_of rfl
  show WSS _ (appSL (hd6 F_law_built.body) (tl6 F_law_built.body)) _ _ _
  refine wss_app E ?_
  unfold F_law_built tl6
  dsimp only
  walk_at "s"
  refine ⟨_, _, rfl, S, ?_⟩
  walk_at "s"
  exact ⟨rfl, rfl⟩
 obtain ⟨r', ms, e1, rfl, rfl⟩ := key
 exact e1
end Lw
end Mn
section
set_option maxHeartbeats 0
namespace Mn
namespace Lw
open PySem
def envF (l : List Int) : Env := match evss (cxt T (callF T 58) (isz l)) (hd6 F_law_built.body) (rho l) with
 | some (_, ρ) => ρ
 | none => []
def nmF (l : List Int) : List P := match slot (envF l) 7 with
 | some (.l ps) => ps
 | _ => []
def kdF (l : List Int) : List P := match slot (envF l) 9 with
 | some (.l ps) => ps
 | _ => []
def mnF (l : List Int) : P := match slot (envF l) 12 with
 | some (.v p) => p
 | _ => .none
def ctF (l : List Int) : List P := cut (nmF l) none (some (l.getD 3 0))
def btF (l : List Int) : P := .tuple [.tuple (kdF l), .tuple (ctF l), mnF l]
def due (l : List Int) : Bool := (l.zip [12, 6, 4, 6, 20, 4, 8]).all fun x => decide (x.1 ≤ x.2)
def fullF (n : Int) : P := match callF T 59 27 [.v (.int n)] with
 | some (.v p, _) => p
 | _ => .none
theorem e00 : evss (cxt T (callF T 58) (isz [10, 2, 2, 1, 4, 1, 4])) (hd6 F_law_built.body) (rho [10, 2, 2, 1, 4, 1, 4]) = some (.nx, [some (.v (.int 10)), some (.v (.int 2)), some (.v (.int 2)), some (.v (.int 1)), some (.v (.int 4)), some (.v (.int 1)), some (.v (.int 4)), some (.l (nmF [10, 2, 2, 1, 4, 1, 4])), (envF [10, 2, 2, 1, 4, 1, 4]).getD 8 none, some (.l (kdF [10, 2, 2, 1, 4, 1, 4])), (envF [10, 2, 2, 1, 4, 1, 4]).getD 10 none, (envF [10, 2, 2, 1, 4, 1, 4]).getD 11 none, some (.v (mnF [10, 2, 2, 1, 4, 1, 4])), (envF [10, 2, 2, 1, 4, 1, 4]).getD 13 none, (envF [10, 2, 2, 1, 4, 1, 4]).getD 14 none]) := by kernel_rfl
theorem s00 : biM .sorted [.l (ctF [10, 2, 2, 1, 4, 1, 4])] = some (.l (ctF [10, 2, 2, 1, 4, 1, 4])) := srt_id (xs := (strsOf (ctF [10, 2, 2, 1, 4, 1, 4])).getD []) (by kernel_rfl) (by decide +kernel) (by kernel_rfl) (by decide +kernel) (by kernel_rfl)
theorem p00 : callF T 59 22 [.v (btF [10, 2, 2, 1, 4, 1, 4])] = some (.v (.bool true), [.v (btF [10, 2, 2, 1, 4, 1, 4])]) := by kernel_rfl
theorem b00 : callF T 59 26 (isz [10, 2, 2, 1, 4, 1, 4]) = some (.v (btF [10, 2, 2, 1, 4, 1, 4]), isz [10, 2, 2, 1, 4, 1, 4]) := bld e00 s00
theorem e01 : evss (cxt T (callF T 58) (isz [11, 2, 2, 1, 4, 1, 4])) (hd6 F_law_built.body) (rho [11, 2, 2, 1, 4, 1, 4]) = some (.nx, [some (.v (.int 11)), some (.v (.int 2)), some (.v (.int 2)), some (.v (.int 1)), some (.v (.int 4)), some (.v (.int 1)), some (.v (.int 4)), some (.l (nmF [11, 2, 2, 1, 4, 1, 4])), (envF [11, 2, 2, 1, 4, 1, 4]).getD 8 none, some (.l (kdF [11, 2, 2, 1, 4, 1, 4])), (envF [11, 2, 2, 1, 4, 1, 4]).getD 10 none, (envF [11, 2, 2, 1, 4, 1, 4]).getD 11 none, some (.v (mnF [11, 2, 2, 1, 4, 1, 4])), (envF [11, 2, 2, 1, 4, 1, 4]).getD 13 none, (envF [11, 2, 2, 1, 4, 1, 4]).getD 14 none]) := by kernel_rfl
theorem s01 : biM .sorted [.l (ctF [11, 2, 2, 1, 4, 1, 4])] = some (.l (ctF [11, 2, 2, 1, 4, 1, 4])) := srt_id (xs := (strsOf (ctF [11, 2, 2, 1, 4, 1, 4])).getD []) (by kernel_rfl) (by decide +kernel) (by kernel_rfl) (by decide +kernel) (by kernel_rfl)
theorem p01 : callF T 59 22 [.v (btF [11, 2, 2, 1, 4, 1, 4])] = some (.v (.bool true), [.v (btF [11, 2, 2, 1, 4, 1, 4])]) := by kernel_rfl
theorem b01 : callF T 59 26 (isz [11, 2, 2, 1, 4, 1, 4]) = some (.v (btF [11, 2, 2, 1, 4, 1, 4]), isz [11, 2, 2, 1, 4, 1, 4]) := bld e01 s01
theorem e02 : evss (cxt T (callF T 58) (isz [12, 2, 2, 1, 4, 1, 4])) (hd6 F_law_built.body) (rho [12, 2, 2, 1, 4, 1, 4]) = some (.nx, [some (.v (.int 12)), some (.v (.int 2)), some (.v (.int 2)), some (.v (.int 1)), some (.v (.int 4)), some (.v (.int 1)), some (.v (.int 4)), some (.l (nmF [12, 2, 2, 1, 4, 1, 4])), (envF [12, 2, 2, 1, 4, 1, 4]).getD 8 none, some (.l (kdF [12, 2, 2, 1, 4, 1, 4])), (envF [12, 2, 2, 1, 4, 1, 4]).getD 10 none, (envF [12, 2, 2, 1, 4, 1, 4]).getD 11 none, some (.v (mnF [12, 2, 2, 1, 4, 1, 4])), (envF [12, 2, 2, 1, 4, 1, 4]).getD 13 none, (envF [12, 2, 2, 1, 4, 1, 4]).getD 14 none]) := by kernel_rfl
theorem s02 : biM .sorted [.l (ctF [12, 2, 2, 1, 4, 1, 4])] = some (.l (ctF [12, 2, 2, 1, 4, 1, 4])) := srt_id (xs := (strsOf (ctF [12, 2, 2, 1, 4, 1, 4])).getD []) (by kernel_rfl) (by decide +kernel) (by kernel_rfl) (by decide +kernel) (by kernel_rfl)
theorem p02 : callF T 59 22 [.v (btF [12, 2, 2, 1, 4, 1, 4])] = some (.v (.bool true), [.v (btF [12, 2, 2, 1, 4, 1, 4])]) := by kernel_rfl
theorem b02 : callF T 59 26 (isz [12, 2, 2, 1, 4, 1, 4]) = some (.v (btF [12, 2, 2, 1, 4, 1, 4]), isz [12, 2, 2, 1, 4, 1, 4]) := bld e02 s02
theorem e03 : evss (cxt T (callF T 58) (isz [13, 2, 2, 1, 4, 1, 4])) (hd6 F_law_built.body) (rho [13, 2, 2, 1, 4, 1, 4]) = some (.nx, [some (.v (.int 13)), some (.v (.int 2)), some (.v (.int 2)), some (.v (.int 1)), some (.v (.int 4)), some (.v (.int 1)), some (.v (.int 4)), some (.l (nmF [13, 2, 2, 1, 4, 1, 4])), (envF [13, 2, 2, 1, 4, 1, 4]).getD 8 none, some (.l (kdF [13, 2, 2, 1, 4, 1, 4])), (envF [13, 2, 2, 1, 4, 1, 4]).getD 10 none, (envF [13, 2, 2, 1, 4, 1, 4]).getD 11 none, some (.v (mnF [13, 2, 2, 1, 4, 1, 4])), (envF [13, 2, 2, 1, 4, 1, 4]).getD 13 none, (envF [13, 2, 2, 1, 4, 1, 4]).getD 14 none]) := by kernel_rfl
theorem s03 : biM .sorted [.l (ctF [13, 2, 2, 1, 4, 1, 4])] = some (.l (ctF [13, 2, 2, 1, 4, 1, 4])) := srt_id (xs := (strsOf (ctF [13, 2, 2, 1, 4, 1, 4])).getD []) (by kernel_rfl) (by decide +kernel) (by kernel_rfl) (by decide +kernel) (by kernel_rfl)
theorem p03 : callF T 59 22 [.v (btF [13, 2, 2, 1, 4, 1, 4])] = some (.v (.bool false), [.v (btF [13, 2, 2, 1, 4, 1, 4])]) := by kernel_rfl
theorem b03 : callF T 59 26 (isz [13, 2, 2, 1, 4, 1, 4]) = some (.v (btF [13, 2, 2, 1, 4, 1, 4]), isz [13, 2, 2, 1, 4, 1, 4]) := bld e03 s03
theorem e04 : evss (cxt T (callF T 58) (isz [14, 2, 2, 1, 4, 1, 4])) (hd6 F_law_built.body) (rho [14, 2, 2, 1, 4, 1, 4]) = some (.nx, [some (.v (.int 14)), some (.v (.int 2)), some (.v (.int 2)), some (.v (.int 1)), some (.v (.int 4)), some (.v (.int 1)), some (.v (.int 4)), some (.l (nmF [14, 2, 2, 1, 4, 1, 4])), (envF [14, 2, 2, 1, 4, 1, 4]).getD 8 none, some (.l (kdF [14, 2, 2, 1, 4, 1, 4])), (envF [14, 2, 2, 1, 4, 1, 4]).getD 10 none, (envF [14, 2, 2, 1, 4, 1, 4]).getD 11 none, some (.v (mnF [14, 2, 2, 1, 4, 1, 4])), (envF [14, 2, 2, 1, 4, 1, 4]).getD 13 none, (envF [14, 2, 2, 1, 4, 1, 4]).getD 14 none]) := by kernel_rfl
theorem s04 : biM .sorted [.l (ctF [14, 2, 2, 1, 4, 1, 4])] = some (.l (ctF [14, 2, 2, 1, 4, 1, 4])) := srt_id (xs := (strsOf (ctF [14, 2, 2, 1, 4, 1, 4])).getD []) (by kernel_rfl) (by decide +kernel) (by kernel_rfl) (by decide +kernel) (by kernel_rfl)
theorem p04 : callF T 59 22 [.v (btF [14, 2, 2, 1, 4, 1, 4])] = some (.v (.bool false), [.v (btF [14, 2, 2, 1, 4, 1, 4])]) := by kernel_rfl
theorem b04 : callF T 59 26 (isz [14, 2, 2, 1, 4, 1, 4]) = some (.v (btF [14, 2, 2, 1, 4, 1, 4]), isz [14, 2, 2, 1, 4, 1, 4]) := bld e04 s04
theorem e10 : evss (cxt T (callF T 58) (isz [3, 4, 2, 1, 4, 1, 4])) (hd6 F_law_built.body) (rho [3, 4, 2, 1, 4, 1, 4]) = some (.nx, [some (.v (.int 3)), some (.v (.int 4)), some (.v (.int 2)), some (.v (.int 1)), some (.v (.int 4)), some (.v (.int 1)), some (.v (.int 4)), some (.l (nmF [3, 4, 2, 1, 4, 1, 4])), (envF [3, 4, 2, 1, 4, 1, 4]).getD 8 none, some (.l (kdF [3, 4, 2, 1, 4, 1, 4])), (envF [3, 4, 2, 1, 4, 1, 4]).getD 10 none, (envF [3, 4, 2, 1, 4, 1, 4]).getD 11 none, some (.v (mnF [3, 4, 2, 1, 4, 1, 4])), (envF [3, 4, 2, 1, 4, 1, 4]).getD 13 none, (envF [3, 4, 2, 1, 4, 1, 4]).getD 14 none]) := by kernel_rfl
theorem s10 : biM .sorted [.l (ctF [3, 4, 2, 1, 4, 1, 4])] = some (.l (ctF [3, 4, 2, 1, 4, 1, 4])) := srt_id (xs := (strsOf (ctF [3, 4, 2, 1, 4, 1, 4])).getD []) (by kernel_rfl) (by decide +kernel) (by kernel_rfl) (by decide +kernel) (by kernel_rfl)
theorem p10 : callF T 59 22 [.v (btF [3, 4, 2, 1, 4, 1, 4])] = some (.v (.bool true), [.v (btF [3, 4, 2, 1, 4, 1, 4])]) := by kernel_rfl
theorem b10 : callF T 59 26 (isz [3, 4, 2, 1, 4, 1, 4]) = some (.v (btF [3, 4, 2, 1, 4, 1, 4]), isz [3, 4, 2, 1, 4, 1, 4]) := bld e10 s10
theorem e11 : evss (cxt T (callF T 58) (isz [3, 5, 2, 1, 4, 1, 4])) (hd6 F_law_built.body) (rho [3, 5, 2, 1, 4, 1, 4]) = some (.nx, [some (.v (.int 3)), some (.v (.int 5)), some (.v (.int 2)), some (.v (.int 1)), some (.v (.int 4)), some (.v (.int 1)), some (.v (.int 4)), some (.l (nmF [3, 5, 2, 1, 4, 1, 4])), (envF [3, 5, 2, 1, 4, 1, 4]).getD 8 none, some (.l (kdF [3, 5, 2, 1, 4, 1, 4])), (envF [3, 5, 2, 1, 4, 1, 4]).getD 10 none, (envF [3, 5, 2, 1, 4, 1, 4]).getD 11 none, some (.v (mnF [3, 5, 2, 1, 4, 1, 4])), (envF [3, 5, 2, 1, 4, 1, 4]).getD 13 none, (envF [3, 5, 2, 1, 4, 1, 4]).getD 14 none]) := by kernel_rfl
theorem s11 : biM .sorted [.l (ctF [3, 5, 2, 1, 4, 1, 4])] = some (.l (ctF [3, 5, 2, 1, 4, 1, 4])) := srt_id (xs := (strsOf (ctF [3, 5, 2, 1, 4, 1, 4])).getD []) (by kernel_rfl) (by decide +kernel) (by kernel_rfl) (by decide +kernel) (by kernel_rfl)
theorem p11 : callF T 59 22 [.v (btF [3, 5, 2, 1, 4, 1, 4])] = some (.v (.bool true), [.v (btF [3, 5, 2, 1, 4, 1, 4])]) := by kernel_rfl
theorem b11 : callF T 59 26 (isz [3, 5, 2, 1, 4, 1, 4]) = some (.v (btF [3, 5, 2, 1, 4, 1, 4]), isz [3, 5, 2, 1, 4, 1, 4]) := bld e11 s11
theorem e12 : evss (cxt T (callF T 58) (isz [3, 6, 2, 1, 4, 1, 4])) (hd6 F_law_built.body) (rho [3, 6, 2, 1, 4, 1, 4]) = some (.nx, [some (.v (.int 3)), some (.v (.int 6)), some (.v (.int 2)), some (.v (.int 1)), some (.v (.int 4)), some (.v (.int 1)), some (.v (.int 4)), some (.l (nmF [3, 6, 2, 1, 4, 1, 4])), (envF [3, 6, 2, 1, 4, 1, 4]).getD 8 none, some (.l (kdF [3, 6, 2, 1, 4, 1, 4])), (envF [3, 6, 2, 1, 4, 1, 4]).getD 10 none, (envF [3, 6, 2, 1, 4, 1, 4]).getD 11 none, some (.v (mnF [3, 6, 2, 1, 4, 1, 4])), (envF [3, 6, 2, 1, 4, 1, 4]).getD 13 none, (envF [3, 6, 2, 1, 4, 1, 4]).getD 14 none]) := by kernel_rfl
theorem s12 : biM .sorted [.l (ctF [3, 6, 2, 1, 4, 1, 4])] = some (.l (ctF [3, 6, 2, 1, 4, 1, 4])) := srt_id (xs := (strsOf (ctF [3, 6, 2, 1, 4, 1, 4])).getD []) (by kernel_rfl) (by decide +kernel) (by kernel_rfl) (by decide +kernel) (by kernel_rfl)
theorem p12 : callF T 59 22 [.v (btF [3, 6, 2, 1, 4, 1, 4])] = some (.v (.bool true), [.v (btF [3, 6, 2, 1, 4, 1, 4])]) := by kernel_rfl
theorem b12 : callF T 59 26 (isz [3, 6, 2, 1, 4, 1, 4]) = some (.v (btF [3, 6, 2, 1, 4, 1, 4]), isz [3, 6, 2, 1, 4, 1, 4]) := bld e12 s12
theorem e13 : evss (cxt T (callF T 58) (isz [3, 7, 2, 1, 4, 1, 4])) (hd6 F_law_built.body) (rho [3, 7, 2, 1, 4, 1, 4]) = some (.nx, [some (.v (.int 3)), some (.v (.int 7)), some (.v (.int 2)), some (.v (.int 1)), some (.v (.int 4)), some (.v (.int 1)), some (.v (.int 4)), some (.l (nmF [3, 7, 2, 1, 4, 1, 4])), (envF [3, 7, 2, 1, 4, 1, 4]).getD 8 none, some (.l (kdF [3, 7, 2, 1, 4, 1, 4])), (envF [3, 7, 2, 1, 4, 1, 4]).getD 10 none, (envF [3, 7, 2, 1, 4, 1, 4]).getD 11 none, some (.v (mnF [3, 7, 2, 1, 4, 1, 4])), (envF [3, 7, 2, 1, 4, 1, 4]).getD 13 none, (envF [3, 7, 2, 1, 4, 1, 4]).getD 14 none]) := by kernel_rfl
theorem s13 : biM .sorted [.l (ctF [3, 7, 2, 1, 4, 1, 4])] = some (.l (ctF [3, 7, 2, 1, 4, 1, 4])) := srt_id (xs := (strsOf (ctF [3, 7, 2, 1, 4, 1, 4])).getD []) (by kernel_rfl) (by decide +kernel) (by kernel_rfl) (by decide +kernel) (by kernel_rfl)
theorem p13 : callF T 59 22 [.v (btF [3, 7, 2, 1, 4, 1, 4])] = some (.v (.bool false), [.v (btF [3, 7, 2, 1, 4, 1, 4])]) := by kernel_rfl
theorem b13 : callF T 59 26 (isz [3, 7, 2, 1, 4, 1, 4]) = some (.v (btF [3, 7, 2, 1, 4, 1, 4]), isz [3, 7, 2, 1, 4, 1, 4]) := bld e13 s13
theorem e14 : evss (cxt T (callF T 58) (isz [3, 8, 2, 1, 4, 1, 4])) (hd6 F_law_built.body) (rho [3, 8, 2, 1, 4, 1, 4]) = some (.nx, [some (.v (.int 3)), some (.v (.int 8)), some (.v (.int 2)), some (.v (.int 1)), some (.v (.int 4)), some (.v (.int 1)), some (.v (.int 4)), some (.l (nmF [3, 8, 2, 1, 4, 1, 4])), (envF [3, 8, 2, 1, 4, 1, 4]).getD 8 none, some (.l (kdF [3, 8, 2, 1, 4, 1, 4])), (envF [3, 8, 2, 1, 4, 1, 4]).getD 10 none, (envF [3, 8, 2, 1, 4, 1, 4]).getD 11 none, some (.v (mnF [3, 8, 2, 1, 4, 1, 4])), (envF [3, 8, 2, 1, 4, 1, 4]).getD 13 none, (envF [3, 8, 2, 1, 4, 1, 4]).getD 14 none]) := by kernel_rfl
theorem s14 : biM .sorted [.l (ctF [3, 8, 2, 1, 4, 1, 4])] = some (.l (ctF [3, 8, 2, 1, 4, 1, 4])) := srt_id (xs := (strsOf (ctF [3, 8, 2, 1, 4, 1, 4])).getD []) (by kernel_rfl) (by decide +kernel) (by kernel_rfl) (by decide +kernel) (by kernel_rfl)
theorem p14 : callF T 59 22 [.v (btF [3, 8, 2, 1, 4, 1, 4])] = some (.v (.bool false), [.v (btF [3, 8, 2, 1, 4, 1, 4])]) := by kernel_rfl
theorem b14 : callF T 59 26 (isz [3, 8, 2, 1, 4, 1, 4]) = some (.v (btF [3, 8, 2, 1, 4, 1, 4]), isz [3, 8, 2, 1, 4, 1, 4]) := bld e14 s14
theorem e20 : evss (cxt T (callF T 58) (isz [3, 2, 2, 1, 4, 1, 4])) (hd6 F_law_built.body) (rho [3, 2, 2, 1, 4, 1, 4]) = some (.nx, [some (.v (.int 3)), some (.v (.int 2)), some (.v (.int 2)), some (.v (.int 1)), some (.v (.int 4)), some (.v (.int 1)), some (.v (.int 4)), some (.l (nmF [3, 2, 2, 1, 4, 1, 4])), (envF [3, 2, 2, 1, 4, 1, 4]).getD 8 none, some (.l (kdF [3, 2, 2, 1, 4, 1, 4])), (envF [3, 2, 2, 1, 4, 1, 4]).getD 10 none, (envF [3, 2, 2, 1, 4, 1, 4]).getD 11 none, some (.v (mnF [3, 2, 2, 1, 4, 1, 4])), (envF [3, 2, 2, 1, 4, 1, 4]).getD 13 none, (envF [3, 2, 2, 1, 4, 1, 4]).getD 14 none]) := by kernel_rfl
theorem s20 : biM .sorted [.l (ctF [3, 2, 2, 1, 4, 1, 4])] = some (.l (ctF [3, 2, 2, 1, 4, 1, 4])) := srt_id (xs := (strsOf (ctF [3, 2, 2, 1, 4, 1, 4])).getD []) (by kernel_rfl) (by decide +kernel) (by kernel_rfl) (by decide +kernel) (by kernel_rfl)
theorem p20 : callF T 59 22 [.v (btF [3, 2, 2, 1, 4, 1, 4])] = some (.v (.bool true), [.v (btF [3, 2, 2, 1, 4, 1, 4])]) := by kernel_rfl
theorem b20 : callF T 59 26 (isz [3, 2, 2, 1, 4, 1, 4]) = some (.v (btF [3, 2, 2, 1, 4, 1, 4]), isz [3, 2, 2, 1, 4, 1, 4]) := bld e20 s20
theorem e21 : evss (cxt T (callF T 58) (isz [3, 2, 3, 1, 4, 1, 4])) (hd6 F_law_built.body) (rho [3, 2, 3, 1, 4, 1, 4]) = some (.nx, [some (.v (.int 3)), some (.v (.int 2)), some (.v (.int 3)), some (.v (.int 1)), some (.v (.int 4)), some (.v (.int 1)), some (.v (.int 4)), some (.l (nmF [3, 2, 3, 1, 4, 1, 4])), (envF [3, 2, 3, 1, 4, 1, 4]).getD 8 none, some (.l (kdF [3, 2, 3, 1, 4, 1, 4])), (envF [3, 2, 3, 1, 4, 1, 4]).getD 10 none, (envF [3, 2, 3, 1, 4, 1, 4]).getD 11 none, some (.v (mnF [3, 2, 3, 1, 4, 1, 4])), (envF [3, 2, 3, 1, 4, 1, 4]).getD 13 none, (envF [3, 2, 3, 1, 4, 1, 4]).getD 14 none]) := by kernel_rfl
theorem s21 : biM .sorted [.l (ctF [3, 2, 3, 1, 4, 1, 4])] = some (.l (ctF [3, 2, 3, 1, 4, 1, 4])) := srt_id (xs := (strsOf (ctF [3, 2, 3, 1, 4, 1, 4])).getD []) (by kernel_rfl) (by decide +kernel) (by kernel_rfl) (by decide +kernel) (by kernel_rfl)
theorem p21 : callF T 59 22 [.v (btF [3, 2, 3, 1, 4, 1, 4])] = some (.v (.bool true), [.v (btF [3, 2, 3, 1, 4, 1, 4])]) := by kernel_rfl
theorem b21 : callF T 59 26 (isz [3, 2, 3, 1, 4, 1, 4]) = some (.v (btF [3, 2, 3, 1, 4, 1, 4]), isz [3, 2, 3, 1, 4, 1, 4]) := bld e21 s21
theorem e22 : evss (cxt T (callF T 58) (isz [3, 2, 4, 1, 4, 1, 4])) (hd6 F_law_built.body) (rho [3, 2, 4, 1, 4, 1, 4]) = some (.nx, [some (.v (.int 3)), some (.v (.int 2)), some (.v (.int 4)), some (.v (.int 1)), some (.v (.int 4)), some (.v (.int 1)), some (.v (.int 4)), some (.l (nmF [3, 2, 4, 1, 4, 1, 4])), (envF [3, 2, 4, 1, 4, 1, 4]).getD 8 none, some (.l (kdF [3, 2, 4, 1, 4, 1, 4])), (envF [3, 2, 4, 1, 4, 1, 4]).getD 10 none, (envF [3, 2, 4, 1, 4, 1, 4]).getD 11 none, some (.v (mnF [3, 2, 4, 1, 4, 1, 4])), (envF [3, 2, 4, 1, 4, 1, 4]).getD 13 none, (envF [3, 2, 4, 1, 4, 1, 4]).getD 14 none]) := by kernel_rfl
theorem s22 : biM .sorted [.l (ctF [3, 2, 4, 1, 4, 1, 4])] = some (.l (ctF [3, 2, 4, 1, 4, 1, 4])) := srt_id (xs := (strsOf (ctF [3, 2, 4, 1, 4, 1, 4])).getD []) (by kernel_rfl) (by decide +kernel) (by kernel_rfl) (by decide +kernel) (by kernel_rfl)
theorem p22 : callF T 59 22 [.v (btF [3, 2, 4, 1, 4, 1, 4])] = some (.v (.bool true), [.v (btF [3, 2, 4, 1, 4, 1, 4])]) := by kernel_rfl
theorem b22 : callF T 59 26 (isz [3, 2, 4, 1, 4, 1, 4]) = some (.v (btF [3, 2, 4, 1, 4, 1, 4]), isz [3, 2, 4, 1, 4, 1, 4]) := bld e22 s22
theorem e23 : evss (cxt T (callF T 58) (isz [3, 2, 5, 1, 4, 1, 4])) (hd6 F_law_built.body) (rho [3, 2, 5, 1, 4, 1, 4]) = some (.nx, [some (.v (.int 3)), some (.v (.int 2)), some (.v (.int 5)), some (.v (.int 1)), some (.v (.int 4)), some (.v (.int 1)), some (.v (.int 4)), some (.l (nmF [3, 2, 5, 1, 4, 1, 4])), (envF [3, 2, 5, 1, 4, 1, 4]).getD 8 none, some (.l (kdF [3, 2, 5, 1, 4, 1, 4])), (envF [3, 2, 5, 1, 4, 1, 4]).getD 10 none, (envF [3, 2, 5, 1, 4, 1, 4]).getD 11 none, some (.v (mnF [3, 2, 5, 1, 4, 1, 4])), (envF [3, 2, 5, 1, 4, 1, 4]).getD 13 none, (envF [3, 2, 5, 1, 4, 1, 4]).getD 14 none]) := by kernel_rfl
theorem s23 : biM .sorted [.l (ctF [3, 2, 5, 1, 4, 1, 4])] = some (.l (ctF [3, 2, 5, 1, 4, 1, 4])) := srt_id (xs := (strsOf (ctF [3, 2, 5, 1, 4, 1, 4])).getD []) (by kernel_rfl) (by decide +kernel) (by kernel_rfl) (by decide +kernel) (by kernel_rfl)
theorem p23 : callF T 59 22 [.v (btF [3, 2, 5, 1, 4, 1, 4])] = some (.v (.bool false), [.v (btF [3, 2, 5, 1, 4, 1, 4])]) := by kernel_rfl
theorem b23 : callF T 59 26 (isz [3, 2, 5, 1, 4, 1, 4]) = some (.v (btF [3, 2, 5, 1, 4, 1, 4]), isz [3, 2, 5, 1, 4, 1, 4]) := bld e23 s23
theorem e24 : evss (cxt T (callF T 58) (isz [3, 2, 6, 1, 4, 1, 4])) (hd6 F_law_built.body) (rho [3, 2, 6, 1, 4, 1, 4]) = some (.nx, [some (.v (.int 3)), some (.v (.int 2)), some (.v (.int 6)), some (.v (.int 1)), some (.v (.int 4)), some (.v (.int 1)), some (.v (.int 4)), some (.l (nmF [3, 2, 6, 1, 4, 1, 4])), (envF [3, 2, 6, 1, 4, 1, 4]).getD 8 none, some (.l (kdF [3, 2, 6, 1, 4, 1, 4])), (envF [3, 2, 6, 1, 4, 1, 4]).getD 10 none, (envF [3, 2, 6, 1, 4, 1, 4]).getD 11 none, some (.v (mnF [3, 2, 6, 1, 4, 1, 4])), (envF [3, 2, 6, 1, 4, 1, 4]).getD 13 none, (envF [3, 2, 6, 1, 4, 1, 4]).getD 14 none]) := by kernel_rfl
theorem s24 : biM .sorted [.l (ctF [3, 2, 6, 1, 4, 1, 4])] = some (.l (ctF [3, 2, 6, 1, 4, 1, 4])) := srt_id (xs := (strsOf (ctF [3, 2, 6, 1, 4, 1, 4])).getD []) (by kernel_rfl) (by decide +kernel) (by kernel_rfl) (by decide +kernel) (by kernel_rfl)
theorem p24 : callF T 59 22 [.v (btF [3, 2, 6, 1, 4, 1, 4])] = some (.v (.bool false), [.v (btF [3, 2, 6, 1, 4, 1, 4])]) := by kernel_rfl
theorem b24 : callF T 59 26 (isz [3, 2, 6, 1, 4, 1, 4]) = some (.v (btF [3, 2, 6, 1, 4, 1, 4]), isz [3, 2, 6, 1, 4, 1, 4]) := bld e24 s24
theorem e30 : evss (cxt T (callF T 58) (isz [4, 2, 2, 4, 4, 1, 4])) (hd6 F_law_built.body) (rho [4, 2, 2, 4, 4, 1, 4]) = some (.nx, [some (.v (.int 4)), some (.v (.int 2)), some (.v (.int 2)), some (.v (.int 4)), some (.v (.int 4)), some (.v (.int 1)), some (.v (.int 4)), some (.l (nmF [4, 2, 2, 4, 4, 1, 4])), (envF [4, 2, 2, 4, 4, 1, 4]).getD 8 none, some (.l (kdF [4, 2, 2, 4, 4, 1, 4])), (envF [4, 2, 2, 4, 4, 1, 4]).getD 10 none, (envF [4, 2, 2, 4, 4, 1, 4]).getD 11 none, some (.v (mnF [4, 2, 2, 4, 4, 1, 4])), (envF [4, 2, 2, 4, 4, 1, 4]).getD 13 none, (envF [4, 2, 2, 4, 4, 1, 4]).getD 14 none]) := by kernel_rfl
theorem s30 : biM .sorted [.l (ctF [4, 2, 2, 4, 4, 1, 4])] = some (.l (ctF [4, 2, 2, 4, 4, 1, 4])) := srt_id (xs := (strsOf (ctF [4, 2, 2, 4, 4, 1, 4])).getD []) (by kernel_rfl) (by decide +kernel) (by kernel_rfl) (by decide +kernel) (by kernel_rfl)
theorem p30 : callF T 59 22 [.v (btF [4, 2, 2, 4, 4, 1, 4])] = some (.v (.bool true), [.v (btF [4, 2, 2, 4, 4, 1, 4])]) := by kernel_rfl
theorem b30 : callF T 59 26 (isz [4, 2, 2, 4, 4, 1, 4]) = some (.v (btF [4, 2, 2, 4, 4, 1, 4]), isz [4, 2, 2, 4, 4, 1, 4]) := bld e30 s30
theorem e31 : evss (cxt T (callF T 58) (isz [5, 2, 2, 5, 4, 1, 4])) (hd6 F_law_built.body) (rho [5, 2, 2, 5, 4, 1, 4]) = some (.nx, [some (.v (.int 5)), some (.v (.int 2)), some (.v (.int 2)), some (.v (.int 5)), some (.v (.int 4)), some (.v (.int 1)), some (.v (.int 4)), some (.l (nmF [5, 2, 2, 5, 4, 1, 4])), (envF [5, 2, 2, 5, 4, 1, 4]).getD 8 none, some (.l (kdF [5, 2, 2, 5, 4, 1, 4])), (envF [5, 2, 2, 5, 4, 1, 4]).getD 10 none, (envF [5, 2, 2, 5, 4, 1, 4]).getD 11 none, some (.v (mnF [5, 2, 2, 5, 4, 1, 4])), (envF [5, 2, 2, 5, 4, 1, 4]).getD 13 none, (envF [5, 2, 2, 5, 4, 1, 4]).getD 14 none]) := by kernel_rfl
theorem s31 : biM .sorted [.l (ctF [5, 2, 2, 5, 4, 1, 4])] = some (.l (ctF [5, 2, 2, 5, 4, 1, 4])) := srt_id (xs := (strsOf (ctF [5, 2, 2, 5, 4, 1, 4])).getD []) (by kernel_rfl) (by decide +kernel) (by kernel_rfl) (by decide +kernel) (by kernel_rfl)
theorem p31 : callF T 59 22 [.v (btF [5, 2, 2, 5, 4, 1, 4])] = some (.v (.bool true), [.v (btF [5, 2, 2, 5, 4, 1, 4])]) := by kernel_rfl
theorem b31 : callF T 59 26 (isz [5, 2, 2, 5, 4, 1, 4]) = some (.v (btF [5, 2, 2, 5, 4, 1, 4]), isz [5, 2, 2, 5, 4, 1, 4]) := bld e31 s31
theorem e32 : evss (cxt T (callF T 58) (isz [6, 2, 2, 6, 4, 1, 4])) (hd6 F_law_built.body) (rho [6, 2, 2, 6, 4, 1, 4]) = some (.nx, [some (.v (.int 6)), some (.v (.int 2)), some (.v (.int 2)), some (.v (.int 6)), some (.v (.int 4)), some (.v (.int 1)), some (.v (.int 4)), some (.l (nmF [6, 2, 2, 6, 4, 1, 4])), (envF [6, 2, 2, 6, 4, 1, 4]).getD 8 none, some (.l (kdF [6, 2, 2, 6, 4, 1, 4])), (envF [6, 2, 2, 6, 4, 1, 4]).getD 10 none, (envF [6, 2, 2, 6, 4, 1, 4]).getD 11 none, some (.v (mnF [6, 2, 2, 6, 4, 1, 4])), (envF [6, 2, 2, 6, 4, 1, 4]).getD 13 none, (envF [6, 2, 2, 6, 4, 1, 4]).getD 14 none]) := by kernel_rfl
theorem s32 : biM .sorted [.l (ctF [6, 2, 2, 6, 4, 1, 4])] = some (.l (ctF [6, 2, 2, 6, 4, 1, 4])) := srt_id (xs := (strsOf (ctF [6, 2, 2, 6, 4, 1, 4])).getD []) (by kernel_rfl) (by decide +kernel) (by kernel_rfl) (by decide +kernel) (by kernel_rfl)
theorem p32 : callF T 59 22 [.v (btF [6, 2, 2, 6, 4, 1, 4])] = some (.v (.bool true), [.v (btF [6, 2, 2, 6, 4, 1, 4])]) := by kernel_rfl
theorem b32 : callF T 59 26 (isz [6, 2, 2, 6, 4, 1, 4]) = some (.v (btF [6, 2, 2, 6, 4, 1, 4]), isz [6, 2, 2, 6, 4, 1, 4]) := bld e32 s32
theorem e33 : evss (cxt T (callF T 58) (isz [7, 2, 2, 7, 4, 1, 4])) (hd6 F_law_built.body) (rho [7, 2, 2, 7, 4, 1, 4]) = some (.nx, [some (.v (.int 7)), some (.v (.int 2)), some (.v (.int 2)), some (.v (.int 7)), some (.v (.int 4)), some (.v (.int 1)), some (.v (.int 4)), some (.l (nmF [7, 2, 2, 7, 4, 1, 4])), (envF [7, 2, 2, 7, 4, 1, 4]).getD 8 none, some (.l (kdF [7, 2, 2, 7, 4, 1, 4])), (envF [7, 2, 2, 7, 4, 1, 4]).getD 10 none, (envF [7, 2, 2, 7, 4, 1, 4]).getD 11 none, some (.v (mnF [7, 2, 2, 7, 4, 1, 4])), (envF [7, 2, 2, 7, 4, 1, 4]).getD 13 none, (envF [7, 2, 2, 7, 4, 1, 4]).getD 14 none]) := by kernel_rfl
theorem s33 : biM .sorted [.l (ctF [7, 2, 2, 7, 4, 1, 4])] = some (.l (ctF [7, 2, 2, 7, 4, 1, 4])) := srt_id (xs := (strsOf (ctF [7, 2, 2, 7, 4, 1, 4])).getD []) (by kernel_rfl) (by decide +kernel) (by kernel_rfl) (by decide +kernel) (by kernel_rfl)
theorem p33 : callF T 59 22 [.v (btF [7, 2, 2, 7, 4, 1, 4])] = some (.v (.bool false), [.v (btF [7, 2, 2, 7, 4, 1, 4])]) := by kernel_rfl
theorem b33 : callF T 59 26 (isz [7, 2, 2, 7, 4, 1, 4]) = some (.v (btF [7, 2, 2, 7, 4, 1, 4]), isz [7, 2, 2, 7, 4, 1, 4]) := bld e33 s33
theorem e34 : evss (cxt T (callF T 58) (isz [8, 2, 2, 8, 4, 1, 4])) (hd6 F_law_built.body) (rho [8, 2, 2, 8, 4, 1, 4]) = some (.nx, [some (.v (.int 8)), some (.v (.int 2)), some (.v (.int 2)), some (.v (.int 8)), some (.v (.int 4)), some (.v (.int 1)), some (.v (.int 4)), some (.l (nmF [8, 2, 2, 8, 4, 1, 4])), (envF [8, 2, 2, 8, 4, 1, 4]).getD 8 none, some (.l (kdF [8, 2, 2, 8, 4, 1, 4])), (envF [8, 2, 2, 8, 4, 1, 4]).getD 10 none, (envF [8, 2, 2, 8, 4, 1, 4]).getD 11 none, some (.v (mnF [8, 2, 2, 8, 4, 1, 4])), (envF [8, 2, 2, 8, 4, 1, 4]).getD 13 none, (envF [8, 2, 2, 8, 4, 1, 4]).getD 14 none]) := by kernel_rfl
theorem s34 : biM .sorted [.l (ctF [8, 2, 2, 8, 4, 1, 4])] = some (.l (ctF [8, 2, 2, 8, 4, 1, 4])) := srt_id (xs := (strsOf (ctF [8, 2, 2, 8, 4, 1, 4])).getD []) (by kernel_rfl) (by decide +kernel) (by kernel_rfl) (by decide +kernel) (by kernel_rfl)
theorem p34 : callF T 59 22 [.v (btF [8, 2, 2, 8, 4, 1, 4])] = some (.v (.bool false), [.v (btF [8, 2, 2, 8, 4, 1, 4])]) := by kernel_rfl
theorem b34 : callF T 59 26 (isz [8, 2, 2, 8, 4, 1, 4]) = some (.v (btF [8, 2, 2, 8, 4, 1, 4]), isz [8, 2, 2, 8, 4, 1, 4]) := bld e34 s34
theorem e40 : evss (cxt T (callF T 58) (isz [3, 2, 2, 1, 18, 1, 4])) (hd6 F_law_built.body) (rho [3, 2, 2, 1, 18, 1, 4]) = some (.nx, [some (.v (.int 3)), some (.v (.int 2)), some (.v (.int 2)), some (.v (.int 1)), some (.v (.int 18)), some (.v (.int 1)), some (.v (.int 4)), some (.l (nmF [3, 2, 2, 1, 18, 1, 4])), (envF [3, 2, 2, 1, 18, 1, 4]).getD 8 none, some (.l (kdF [3, 2, 2, 1, 18, 1, 4])), (envF [3, 2, 2, 1, 18, 1, 4]).getD 10 none, (envF [3, 2, 2, 1, 18, 1, 4]).getD 11 none, some (.v (mnF [3, 2, 2, 1, 18, 1, 4])), (envF [3, 2, 2, 1, 18, 1, 4]).getD 13 none, (envF [3, 2, 2, 1, 18, 1, 4]).getD 14 none]) := by kernel_rfl
theorem s40 : biM .sorted [.l (ctF [3, 2, 2, 1, 18, 1, 4])] = some (.l (ctF [3, 2, 2, 1, 18, 1, 4])) := srt_id (xs := (strsOf (ctF [3, 2, 2, 1, 18, 1, 4])).getD []) (by kernel_rfl) (by decide +kernel) (by kernel_rfl) (by decide +kernel) (by kernel_rfl)
theorem p40 : callF T 59 22 [.v (btF [3, 2, 2, 1, 18, 1, 4])] = some (.v (.bool true), [.v (btF [3, 2, 2, 1, 18, 1, 4])]) := by kernel_rfl
theorem b40 : callF T 59 26 (isz [3, 2, 2, 1, 18, 1, 4]) = some (.v (btF [3, 2, 2, 1, 18, 1, 4]), isz [3, 2, 2, 1, 18, 1, 4]) := bld e40 s40
theorem e41 : evss (cxt T (callF T 58) (isz [3, 2, 2, 1, 19, 1, 4])) (hd6 F_law_built.body) (rho [3, 2, 2, 1, 19, 1, 4]) = some (.nx, [some (.v (.int 3)), some (.v (.int 2)), some (.v (.int 2)), some (.v (.int 1)), some (.v (.int 19)), some (.v (.int 1)), some (.v (.int 4)), some (.l (nmF [3, 2, 2, 1, 19, 1, 4])), (envF [3, 2, 2, 1, 19, 1, 4]).getD 8 none, some (.l (kdF [3, 2, 2, 1, 19, 1, 4])), (envF [3, 2, 2, 1, 19, 1, 4]).getD 10 none, (envF [3, 2, 2, 1, 19, 1, 4]).getD 11 none, some (.v (mnF [3, 2, 2, 1, 19, 1, 4])), (envF [3, 2, 2, 1, 19, 1, 4]).getD 13 none, (envF [3, 2, 2, 1, 19, 1, 4]).getD 14 none]) := by kernel_rfl
theorem s41 : biM .sorted [.l (ctF [3, 2, 2, 1, 19, 1, 4])] = some (.l (ctF [3, 2, 2, 1, 19, 1, 4])) := srt_id (xs := (strsOf (ctF [3, 2, 2, 1, 19, 1, 4])).getD []) (by kernel_rfl) (by decide +kernel) (by kernel_rfl) (by decide +kernel) (by kernel_rfl)
theorem p41 : callF T 59 22 [.v (btF [3, 2, 2, 1, 19, 1, 4])] = some (.v (.bool true), [.v (btF [3, 2, 2, 1, 19, 1, 4])]) := by kernel_rfl
theorem b41 : callF T 59 26 (isz [3, 2, 2, 1, 19, 1, 4]) = some (.v (btF [3, 2, 2, 1, 19, 1, 4]), isz [3, 2, 2, 1, 19, 1, 4]) := bld e41 s41
theorem e42 : evss (cxt T (callF T 58) (isz [3, 2, 2, 1, 20, 1, 4])) (hd6 F_law_built.body) (rho [3, 2, 2, 1, 20, 1, 4]) = some (.nx, [some (.v (.int 3)), some (.v (.int 2)), some (.v (.int 2)), some (.v (.int 1)), some (.v (.int 20)), some (.v (.int 1)), some (.v (.int 4)), some (.l (nmF [3, 2, 2, 1, 20, 1, 4])), (envF [3, 2, 2, 1, 20, 1, 4]).getD 8 none, some (.l (kdF [3, 2, 2, 1, 20, 1, 4])), (envF [3, 2, 2, 1, 20, 1, 4]).getD 10 none, (envF [3, 2, 2, 1, 20, 1, 4]).getD 11 none, some (.v (mnF [3, 2, 2, 1, 20, 1, 4])), (envF [3, 2, 2, 1, 20, 1, 4]).getD 13 none, (envF [3, 2, 2, 1, 20, 1, 4]).getD 14 none]) := by kernel_rfl
theorem s42 : biM .sorted [.l (ctF [3, 2, 2, 1, 20, 1, 4])] = some (.l (ctF [3, 2, 2, 1, 20, 1, 4])) := srt_id (xs := (strsOf (ctF [3, 2, 2, 1, 20, 1, 4])).getD []) (by kernel_rfl) (by decide +kernel) (by kernel_rfl) (by decide +kernel) (by kernel_rfl)
theorem p42 : callF T 59 22 [.v (btF [3, 2, 2, 1, 20, 1, 4])] = some (.v (.bool true), [.v (btF [3, 2, 2, 1, 20, 1, 4])]) := by kernel_rfl
theorem b42 : callF T 59 26 (isz [3, 2, 2, 1, 20, 1, 4]) = some (.v (btF [3, 2, 2, 1, 20, 1, 4]), isz [3, 2, 2, 1, 20, 1, 4]) := bld e42 s42
theorem e43 : evss (cxt T (callF T 58) (isz [3, 2, 2, 1, 21, 1, 4])) (hd6 F_law_built.body) (rho [3, 2, 2, 1, 21, 1, 4]) = some (.nx, [some (.v (.int 3)), some (.v (.int 2)), some (.v (.int 2)), some (.v (.int 1)), some (.v (.int 21)), some (.v (.int 1)), some (.v (.int 4)), some (.l (nmF [3, 2, 2, 1, 21, 1, 4])), (envF [3, 2, 2, 1, 21, 1, 4]).getD 8 none, some (.l (kdF [3, 2, 2, 1, 21, 1, 4])), (envF [3, 2, 2, 1, 21, 1, 4]).getD 10 none, (envF [3, 2, 2, 1, 21, 1, 4]).getD 11 none, some (.v (mnF [3, 2, 2, 1, 21, 1, 4])), (envF [3, 2, 2, 1, 21, 1, 4]).getD 13 none, (envF [3, 2, 2, 1, 21, 1, 4]).getD 14 none]) := by kernel_rfl
theorem s43 : biM .sorted [.l (ctF [3, 2, 2, 1, 21, 1, 4])] = some (.l (ctF [3, 2, 2, 1, 21, 1, 4])) := srt_id (xs := (strsOf (ctF [3, 2, 2, 1, 21, 1, 4])).getD []) (by kernel_rfl) (by decide +kernel) (by kernel_rfl) (by decide +kernel) (by kernel_rfl)
theorem p43 : callF T 59 22 [.v (btF [3, 2, 2, 1, 21, 1, 4])] = some (.v (.bool false), [.v (btF [3, 2, 2, 1, 21, 1, 4])]) := by kernel_rfl
theorem b43 : callF T 59 26 (isz [3, 2, 2, 1, 21, 1, 4]) = some (.v (btF [3, 2, 2, 1, 21, 1, 4]), isz [3, 2, 2, 1, 21, 1, 4]) := bld e43 s43
theorem e44 : evss (cxt T (callF T 58) (isz [3, 2, 2, 1, 22, 1, 4])) (hd6 F_law_built.body) (rho [3, 2, 2, 1, 22, 1, 4]) = some (.nx, [some (.v (.int 3)), some (.v (.int 2)), some (.v (.int 2)), some (.v (.int 1)), some (.v (.int 22)), some (.v (.int 1)), some (.v (.int 4)), some (.l (nmF [3, 2, 2, 1, 22, 1, 4])), (envF [3, 2, 2, 1, 22, 1, 4]).getD 8 none, some (.l (kdF [3, 2, 2, 1, 22, 1, 4])), (envF [3, 2, 2, 1, 22, 1, 4]).getD 10 none, (envF [3, 2, 2, 1, 22, 1, 4]).getD 11 none, some (.v (mnF [3, 2, 2, 1, 22, 1, 4])), (envF [3, 2, 2, 1, 22, 1, 4]).getD 13 none, (envF [3, 2, 2, 1, 22, 1, 4]).getD 14 none]) := by kernel_rfl
theorem s44 : biM .sorted [.l (ctF [3, 2, 2, 1, 22, 1, 4])] = some (.l (ctF [3, 2, 2, 1, 22, 1, 4])) := srt_id (xs := (strsOf (ctF [3, 2, 2, 1, 22, 1, 4])).getD []) (by kernel_rfl) (by decide +kernel) (by kernel_rfl) (by decide +kernel) (by kernel_rfl)
theorem p44 : callF T 59 22 [.v (btF [3, 2, 2, 1, 22, 1, 4])] = some (.v (.bool false), [.v (btF [3, 2, 2, 1, 22, 1, 4])]) := by kernel_rfl
theorem b44 : callF T 59 26 (isz [3, 2, 2, 1, 22, 1, 4]) = some (.v (btF [3, 2, 2, 1, 22, 1, 4]), isz [3, 2, 2, 1, 22, 1, 4]) := bld e44 s44
theorem e50 : evss (cxt T (callF T 58) (isz [3, 2, 2, 1, 4, 2, 4])) (hd6 F_law_built.body) (rho [3, 2, 2, 1, 4, 2, 4]) = some (.nx, [some (.v (.int 3)), some (.v (.int 2)), some (.v (.int 2)), some (.v (.int 1)), some (.v (.int 4)), some (.v (.int 2)), some (.v (.int 4)), some (.l (nmF [3, 2, 2, 1, 4, 2, 4])), (envF [3, 2, 2, 1, 4, 2, 4]).getD 8 none, some (.l (kdF [3, 2, 2, 1, 4, 2, 4])), (envF [3, 2, 2, 1, 4, 2, 4]).getD 10 none, (envF [3, 2, 2, 1, 4, 2, 4]).getD 11 none, some (.v (mnF [3, 2, 2, 1, 4, 2, 4])), (envF [3, 2, 2, 1, 4, 2, 4]).getD 13 none, (envF [3, 2, 2, 1, 4, 2, 4]).getD 14 none]) := by kernel_rfl
theorem s50 : biM .sorted [.l (ctF [3, 2, 2, 1, 4, 2, 4])] = some (.l (ctF [3, 2, 2, 1, 4, 2, 4])) := srt_id (xs := (strsOf (ctF [3, 2, 2, 1, 4, 2, 4])).getD []) (by kernel_rfl) (by decide +kernel) (by kernel_rfl) (by decide +kernel) (by kernel_rfl)
theorem p50 : callF T 59 22 [.v (btF [3, 2, 2, 1, 4, 2, 4])] = some (.v (.bool true), [.v (btF [3, 2, 2, 1, 4, 2, 4])]) := by kernel_rfl
theorem b50 : callF T 59 26 (isz [3, 2, 2, 1, 4, 2, 4]) = some (.v (btF [3, 2, 2, 1, 4, 2, 4]), isz [3, 2, 2, 1, 4, 2, 4]) := bld e50 s50
theorem e51 : evss (cxt T (callF T 58) (isz [3, 2, 2, 1, 4, 3, 4])) (hd6 F_law_built.body) (rho [3, 2, 2, 1, 4, 3, 4]) = some (.nx, [some (.v (.int 3)), some (.v (.int 2)), some (.v (.int 2)), some (.v (.int 1)), some (.v (.int 4)), some (.v (.int 3)), some (.v (.int 4)), some (.l (nmF [3, 2, 2, 1, 4, 3, 4])), (envF [3, 2, 2, 1, 4, 3, 4]).getD 8 none, some (.l (kdF [3, 2, 2, 1, 4, 3, 4])), (envF [3, 2, 2, 1, 4, 3, 4]).getD 10 none, (envF [3, 2, 2, 1, 4, 3, 4]).getD 11 none, some (.v (mnF [3, 2, 2, 1, 4, 3, 4])), (envF [3, 2, 2, 1, 4, 3, 4]).getD 13 none, (envF [3, 2, 2, 1, 4, 3, 4]).getD 14 none]) := by kernel_rfl
theorem s51 : biM .sorted [.l (ctF [3, 2, 2, 1, 4, 3, 4])] = some (.l (ctF [3, 2, 2, 1, 4, 3, 4])) := srt_id (xs := (strsOf (ctF [3, 2, 2, 1, 4, 3, 4])).getD []) (by kernel_rfl) (by decide +kernel) (by kernel_rfl) (by decide +kernel) (by kernel_rfl)
theorem p51 : callF T 59 22 [.v (btF [3, 2, 2, 1, 4, 3, 4])] = some (.v (.bool true), [.v (btF [3, 2, 2, 1, 4, 3, 4])]) := by kernel_rfl
theorem b51 : callF T 59 26 (isz [3, 2, 2, 1, 4, 3, 4]) = some (.v (btF [3, 2, 2, 1, 4, 3, 4]), isz [3, 2, 2, 1, 4, 3, 4]) := bld e51 s51
theorem e52 : evss (cxt T (callF T 58) (isz [3, 2, 2, 1, 4, 4, 4])) (hd6 F_law_built.body) (rho [3, 2, 2, 1, 4, 4, 4]) = some (.nx, [some (.v (.int 3)), some (.v (.int 2)), some (.v (.int 2)), some (.v (.int 1)), some (.v (.int 4)), some (.v (.int 4)), some (.v (.int 4)), some (.l (nmF [3, 2, 2, 1, 4, 4, 4])), (envF [3, 2, 2, 1, 4, 4, 4]).getD 8 none, some (.l (kdF [3, 2, 2, 1, 4, 4, 4])), (envF [3, 2, 2, 1, 4, 4, 4]).getD 10 none, (envF [3, 2, 2, 1, 4, 4, 4]).getD 11 none, some (.v (mnF [3, 2, 2, 1, 4, 4, 4])), (envF [3, 2, 2, 1, 4, 4, 4]).getD 13 none, (envF [3, 2, 2, 1, 4, 4, 4]).getD 14 none]) := by kernel_rfl
theorem s52 : biM .sorted [.l (ctF [3, 2, 2, 1, 4, 4, 4])] = some (.l (ctF [3, 2, 2, 1, 4, 4, 4])) := srt_id (xs := (strsOf (ctF [3, 2, 2, 1, 4, 4, 4])).getD []) (by kernel_rfl) (by decide +kernel) (by kernel_rfl) (by decide +kernel) (by kernel_rfl)
theorem p52 : callF T 59 22 [.v (btF [3, 2, 2, 1, 4, 4, 4])] = some (.v (.bool true), [.v (btF [3, 2, 2, 1, 4, 4, 4])]) := by kernel_rfl
theorem b52 : callF T 59 26 (isz [3, 2, 2, 1, 4, 4, 4]) = some (.v (btF [3, 2, 2, 1, 4, 4, 4]), isz [3, 2, 2, 1, 4, 4, 4]) := bld e52 s52
theorem e53 : evss (cxt T (callF T 58) (isz [3, 2, 2, 1, 4, 5, 4])) (hd6 F_law_built.body) (rho [3, 2, 2, 1, 4, 5, 4]) = some (.nx, [some (.v (.int 3)), some (.v (.int 2)), some (.v (.int 2)), some (.v (.int 1)), some (.v (.int 4)), some (.v (.int 5)), some (.v (.int 4)), some (.l (nmF [3, 2, 2, 1, 4, 5, 4])), (envF [3, 2, 2, 1, 4, 5, 4]).getD 8 none, some (.l (kdF [3, 2, 2, 1, 4, 5, 4])), (envF [3, 2, 2, 1, 4, 5, 4]).getD 10 none, (envF [3, 2, 2, 1, 4, 5, 4]).getD 11 none, some (.v (mnF [3, 2, 2, 1, 4, 5, 4])), (envF [3, 2, 2, 1, 4, 5, 4]).getD 13 none, (envF [3, 2, 2, 1, 4, 5, 4]).getD 14 none]) := by kernel_rfl
theorem s53 : biM .sorted [.l (ctF [3, 2, 2, 1, 4, 5, 4])] = some (.l (ctF [3, 2, 2, 1, 4, 5, 4])) := srt_id (xs := (strsOf (ctF [3, 2, 2, 1, 4, 5, 4])).getD []) (by kernel_rfl) (by decide +kernel) (by kernel_rfl) (by decide +kernel) (by kernel_rfl)
theorem p53 : callF T 59 22 [.v (btF [3, 2, 2, 1, 4, 5, 4])] = some (.v (.bool false), [.v (btF [3, 2, 2, 1, 4, 5, 4])]) := by kernel_rfl
theorem b53 : callF T 59 26 (isz [3, 2, 2, 1, 4, 5, 4]) = some (.v (btF [3, 2, 2, 1, 4, 5, 4]), isz [3, 2, 2, 1, 4, 5, 4]) := bld e53 s53
theorem e54 : evss (cxt T (callF T 58) (isz [3, 2, 2, 1, 4, 6, 4])) (hd6 F_law_built.body) (rho [3, 2, 2, 1, 4, 6, 4]) = some (.nx, [some (.v (.int 3)), some (.v (.int 2)), some (.v (.int 2)), some (.v (.int 1)), some (.v (.int 4)), some (.v (.int 6)), some (.v (.int 4)), some (.l (nmF [3, 2, 2, 1, 4, 6, 4])), (envF [3, 2, 2, 1, 4, 6, 4]).getD 8 none, some (.l (kdF [3, 2, 2, 1, 4, 6, 4])), (envF [3, 2, 2, 1, 4, 6, 4]).getD 10 none, (envF [3, 2, 2, 1, 4, 6, 4]).getD 11 none, some (.v (mnF [3, 2, 2, 1, 4, 6, 4])), (envF [3, 2, 2, 1, 4, 6, 4]).getD 13 none, (envF [3, 2, 2, 1, 4, 6, 4]).getD 14 none]) := by kernel_rfl
theorem s54 : biM .sorted [.l (ctF [3, 2, 2, 1, 4, 6, 4])] = some (.l (ctF [3, 2, 2, 1, 4, 6, 4])) := srt_id (xs := (strsOf (ctF [3, 2, 2, 1, 4, 6, 4])).getD []) (by kernel_rfl) (by decide +kernel) (by kernel_rfl) (by decide +kernel) (by kernel_rfl)
theorem p54 : callF T 59 22 [.v (btF [3, 2, 2, 1, 4, 6, 4])] = some (.v (.bool false), [.v (btF [3, 2, 2, 1, 4, 6, 4])]) := by kernel_rfl
theorem b54 : callF T 59 26 (isz [3, 2, 2, 1, 4, 6, 4]) = some (.v (btF [3, 2, 2, 1, 4, 6, 4]), isz [3, 2, 2, 1, 4, 6, 4]) := bld e54 s54
theorem e60 : evss (cxt T (callF T 58) (isz [3, 2, 2, 1, 4, 1, 6])) (hd6 F_law_built.body) (rho [3, 2, 2, 1, 4, 1, 6]) = some (.nx, [some (.v (.int 3)), some (.v (.int 2)), some (.v (.int 2)), some (.v (.int 1)), some (.v (.int 4)), some (.v (.int 1)), some (.v (.int 6)), some (.l (nmF [3, 2, 2, 1, 4, 1, 6])), (envF [3, 2, 2, 1, 4, 1, 6]).getD 8 none, some (.l (kdF [3, 2, 2, 1, 4, 1, 6])), (envF [3, 2, 2, 1, 4, 1, 6]).getD 10 none, (envF [3, 2, 2, 1, 4, 1, 6]).getD 11 none, some (.v (mnF [3, 2, 2, 1, 4, 1, 6])), (envF [3, 2, 2, 1, 4, 1, 6]).getD 13 none, (envF [3, 2, 2, 1, 4, 1, 6]).getD 14 none]) := by kernel_rfl
theorem s60 : biM .sorted [.l (ctF [3, 2, 2, 1, 4, 1, 6])] = some (.l (ctF [3, 2, 2, 1, 4, 1, 6])) := srt_id (xs := (strsOf (ctF [3, 2, 2, 1, 4, 1, 6])).getD []) (by kernel_rfl) (by decide +kernel) (by kernel_rfl) (by decide +kernel) (by kernel_rfl)
theorem p60 : callF T 59 22 [.v (btF [3, 2, 2, 1, 4, 1, 6])] = some (.v (.bool true), [.v (btF [3, 2, 2, 1, 4, 1, 6])]) := by kernel_rfl
theorem b60 : callF T 59 26 (isz [3, 2, 2, 1, 4, 1, 6]) = some (.v (btF [3, 2, 2, 1, 4, 1, 6]), isz [3, 2, 2, 1, 4, 1, 6]) := bld e60 s60
theorem e61 : evss (cxt T (callF T 58) (isz [3, 2, 2, 1, 4, 1, 7])) (hd6 F_law_built.body) (rho [3, 2, 2, 1, 4, 1, 7]) = some (.nx, [some (.v (.int 3)), some (.v (.int 2)), some (.v (.int 2)), some (.v (.int 1)), some (.v (.int 4)), some (.v (.int 1)), some (.v (.int 7)), some (.l (nmF [3, 2, 2, 1, 4, 1, 7])), (envF [3, 2, 2, 1, 4, 1, 7]).getD 8 none, some (.l (kdF [3, 2, 2, 1, 4, 1, 7])), (envF [3, 2, 2, 1, 4, 1, 7]).getD 10 none, (envF [3, 2, 2, 1, 4, 1, 7]).getD 11 none, some (.v (mnF [3, 2, 2, 1, 4, 1, 7])), (envF [3, 2, 2, 1, 4, 1, 7]).getD 13 none, (envF [3, 2, 2, 1, 4, 1, 7]).getD 14 none]) := by kernel_rfl
theorem s61 : biM .sorted [.l (ctF [3, 2, 2, 1, 4, 1, 7])] = some (.l (ctF [3, 2, 2, 1, 4, 1, 7])) := srt_id (xs := (strsOf (ctF [3, 2, 2, 1, 4, 1, 7])).getD []) (by kernel_rfl) (by decide +kernel) (by kernel_rfl) (by decide +kernel) (by kernel_rfl)
theorem p61 : callF T 59 22 [.v (btF [3, 2, 2, 1, 4, 1, 7])] = some (.v (.bool true), [.v (btF [3, 2, 2, 1, 4, 1, 7])]) := by kernel_rfl
theorem b61 : callF T 59 26 (isz [3, 2, 2, 1, 4, 1, 7]) = some (.v (btF [3, 2, 2, 1, 4, 1, 7]), isz [3, 2, 2, 1, 4, 1, 7]) := bld e61 s61
theorem e62 : evss (cxt T (callF T 58) (isz [3, 2, 2, 1, 4, 1, 8])) (hd6 F_law_built.body) (rho [3, 2, 2, 1, 4, 1, 8]) = some (.nx, [some (.v (.int 3)), some (.v (.int 2)), some (.v (.int 2)), some (.v (.int 1)), some (.v (.int 4)), some (.v (.int 1)), some (.v (.int 8)), some (.l (nmF [3, 2, 2, 1, 4, 1, 8])), (envF [3, 2, 2, 1, 4, 1, 8]).getD 8 none, some (.l (kdF [3, 2, 2, 1, 4, 1, 8])), (envF [3, 2, 2, 1, 4, 1, 8]).getD 10 none, (envF [3, 2, 2, 1, 4, 1, 8]).getD 11 none, some (.v (mnF [3, 2, 2, 1, 4, 1, 8])), (envF [3, 2, 2, 1, 4, 1, 8]).getD 13 none, (envF [3, 2, 2, 1, 4, 1, 8]).getD 14 none]) := by kernel_rfl
theorem s62 : biM .sorted [.l (ctF [3, 2, 2, 1, 4, 1, 8])] = some (.l (ctF [3, 2, 2, 1, 4, 1, 8])) := srt_id (xs := (strsOf (ctF [3, 2, 2, 1, 4, 1, 8])).getD []) (by kernel_rfl) (by decide +kernel) (by kernel_rfl) (by decide +kernel) (by kernel_rfl)
theorem p62 : callF T 59 22 [.v (btF [3, 2, 2, 1, 4, 1, 8])] = some (.v (.bool true), [.v (btF [3, 2, 2, 1, 4, 1, 8])]) := by kernel_rfl
theorem b62 : callF T 59 26 (isz [3, 2, 2, 1, 4, 1, 8]) = some (.v (btF [3, 2, 2, 1, 4, 1, 8]), isz [3, 2, 2, 1, 4, 1, 8]) := bld e62 s62
theorem e63 : evss (cxt T (callF T 58) (isz [3, 2, 2, 1, 4, 1, 9])) (hd6 F_law_built.body) (rho [3, 2, 2, 1, 4, 1, 9]) = some (.nx, [some (.v (.int 3)), some (.v (.int 2)), some (.v (.int 2)), some (.v (.int 1)), some (.v (.int 4)), some (.v (.int 1)), some (.v (.int 9)), some (.l (nmF [3, 2, 2, 1, 4, 1, 9])), (envF [3, 2, 2, 1, 4, 1, 9]).getD 8 none, some (.l (kdF [3, 2, 2, 1, 4, 1, 9])), (envF [3, 2, 2, 1, 4, 1, 9]).getD 10 none, (envF [3, 2, 2, 1, 4, 1, 9]).getD 11 none, some (.v (mnF [3, 2, 2, 1, 4, 1, 9])), (envF [3, 2, 2, 1, 4, 1, 9]).getD 13 none, (envF [3, 2, 2, 1, 4, 1, 9]).getD 14 none]) := by kernel_rfl
theorem s63 : biM .sorted [.l (ctF [3, 2, 2, 1, 4, 1, 9])] = some (.l (ctF [3, 2, 2, 1, 4, 1, 9])) := srt_id (xs := (strsOf (ctF [3, 2, 2, 1, 4, 1, 9])).getD []) (by kernel_rfl) (by decide +kernel) (by kernel_rfl) (by decide +kernel) (by kernel_rfl)
theorem p63 : callF T 59 22 [.v (btF [3, 2, 2, 1, 4, 1, 9])] = some (.v (.bool false), [.v (btF [3, 2, 2, 1, 4, 1, 9])]) := by kernel_rfl
theorem b63 : callF T 59 26 (isz [3, 2, 2, 1, 4, 1, 9]) = some (.v (btF [3, 2, 2, 1, 4, 1, 9]), isz [3, 2, 2, 1, 4, 1, 9]) := bld e63 s63
theorem e64 : evss (cxt T (callF T 58) (isz [3, 2, 2, 1, 4, 1, 10])) (hd6 F_law_built.body) (rho [3, 2, 2, 1, 4, 1, 10]) = some (.nx, [some (.v (.int 3)), some (.v (.int 2)), some (.v (.int 2)), some (.v (.int 1)), some (.v (.int 4)), some (.v (.int 1)), some (.v (.int 10)), some (.l (nmF [3, 2, 2, 1, 4, 1, 10])), (envF [3, 2, 2, 1, 4, 1, 10]).getD 8 none, some (.l (kdF [3, 2, 2, 1, 4, 1, 10])), (envF [3, 2, 2, 1, 4, 1, 10]).getD 10 none, (envF [3, 2, 2, 1, 4, 1, 10]).getD 11 none, some (.v (mnF [3, 2, 2, 1, 4, 1, 10])), (envF [3, 2, 2, 1, 4, 1, 10]).getD 13 none, (envF [3, 2, 2, 1, 4, 1, 10]).getD 14 none]) := by kernel_rfl
theorem s64 : biM .sorted [.l (ctF [3, 2, 2, 1, 4, 1, 10])] = some (.l (ctF [3, 2, 2, 1, 4, 1, 10])) := srt_id (xs := (strsOf (ctF [3, 2, 2, 1, 4, 1, 10])).getD []) (by kernel_rfl) (by decide +kernel) (by kernel_rfl) (by decide +kernel) (by kernel_rfl)
theorem p64 : callF T 59 22 [.v (btF [3, 2, 2, 1, 4, 1, 10])] = some (.v (.bool false), [.v (btF [3, 2, 2, 1, 4, 1, 10])]) := by kernel_rfl
theorem b64 : callF T 59 26 (isz [3, 2, 2, 1, 4, 1, 10]) = some (.v (btF [3, 2, 2, 1, 4, 1, 10]), isz [3, 2, 2, 1, 4, 1, 10]) := bld e64 s64
def Good (l : List Int) : Prop := ∃ m d p t r e g q due, l = [m, d, p, t, r, e, g] ∧ callF T 59 26 [.v (.int m), .v (.int d), .v (.int p), .v (.int t), .v (.int r), .v (.int e), .v (.int g)] = some (.v q, [.v (.int m), .v (.int d), .v (.int p), .v (.int t), .v (.int r), .v (.int e), .v (.int g)]) ∧ callF T 59 22 [.v q] = some (.v (.bool due), [.v q]) ∧ due = (l.zip [12, 6, 4, 6, 20, 4, 8]).all fun x => decide (x.1 ≤ x.2)
theorem g00 : Good [10, 2, 2, 1, 4, 1, 4] := ⟨_, _, _, _, _, _, _, _, _, rfl, b00, p00, rfl⟩
theorem g01 : Good [11, 2, 2, 1, 4, 1, 4] := ⟨_, _, _, _, _, _, _, _, _, rfl, b01, p01, rfl⟩
theorem g02 : Good [12, 2, 2, 1, 4, 1, 4] := ⟨_, _, _, _, _, _, _, _, _, rfl, b02, p02, rfl⟩
theorem g03 : Good [13, 2, 2, 1, 4, 1, 4] := ⟨_, _, _, _, _, _, _, _, _, rfl, b03, p03, rfl⟩
theorem g04 : Good [14, 2, 2, 1, 4, 1, 4] := ⟨_, _, _, _, _, _, _, _, _, rfl, b04, p04, rfl⟩
theorem g10 : Good [3, 4, 2, 1, 4, 1, 4] := ⟨_, _, _, _, _, _, _, _, _, rfl, b10, p10, rfl⟩
theorem g11 : Good [3, 5, 2, 1, 4, 1, 4] := ⟨_, _, _, _, _, _, _, _, _, rfl, b11, p11, rfl⟩
theorem g12 : Good [3, 6, 2, 1, 4, 1, 4] := ⟨_, _, _, _, _, _, _, _, _, rfl, b12, p12, rfl⟩
theorem g13 : Good [3, 7, 2, 1, 4, 1, 4] := ⟨_, _, _, _, _, _, _, _, _, rfl, b13, p13, rfl⟩
theorem g14 : Good [3, 8, 2, 1, 4, 1, 4] := ⟨_, _, _, _, _, _, _, _, _, rfl, b14, p14, rfl⟩
theorem g20 : Good [3, 2, 2, 1, 4, 1, 4] := ⟨_, _, _, _, _, _, _, _, _, rfl, b20, p20, rfl⟩
theorem g21 : Good [3, 2, 3, 1, 4, 1, 4] := ⟨_, _, _, _, _, _, _, _, _, rfl, b21, p21, rfl⟩
theorem g22 : Good [3, 2, 4, 1, 4, 1, 4] := ⟨_, _, _, _, _, _, _, _, _, rfl, b22, p22, rfl⟩
theorem g23 : Good [3, 2, 5, 1, 4, 1, 4] := ⟨_, _, _, _, _, _, _, _, _, rfl, b23, p23, rfl⟩
theorem g24 : Good [3, 2, 6, 1, 4, 1, 4] := ⟨_, _, _, _, _, _, _, _, _, rfl, b24, p24, rfl⟩
theorem g30 : Good [4, 2, 2, 4, 4, 1, 4] := ⟨_, _, _, _, _, _, _, _, _, rfl, b30, p30, rfl⟩
theorem g31 : Good [5, 2, 2, 5, 4, 1, 4] := ⟨_, _, _, _, _, _, _, _, _, rfl, b31, p31, rfl⟩
theorem g32 : Good [6, 2, 2, 6, 4, 1, 4] := ⟨_, _, _, _, _, _, _, _, _, rfl, b32, p32, rfl⟩
theorem g33 : Good [7, 2, 2, 7, 4, 1, 4] := ⟨_, _, _, _, _, _, _, _, _, rfl, b33, p33, rfl⟩
theorem g34 : Good [8, 2, 2, 8, 4, 1, 4] := ⟨_, _, _, _, _, _, _, _, _, rfl, b34, p34, rfl⟩
theorem g40 : Good [3, 2, 2, 1, 18, 1, 4] := ⟨_, _, _, _, _, _, _, _, _, rfl, b40, p40, rfl⟩
theorem g41 : Good [3, 2, 2, 1, 19, 1, 4] := ⟨_, _, _, _, _, _, _, _, _, rfl, b41, p41, rfl⟩
theorem g42 : Good [3, 2, 2, 1, 20, 1, 4] := ⟨_, _, _, _, _, _, _, _, _, rfl, b42, p42, rfl⟩
theorem g43 : Good [3, 2, 2, 1, 21, 1, 4] := ⟨_, _, _, _, _, _, _, _, _, rfl, b43, p43, rfl⟩
theorem g44 : Good [3, 2, 2, 1, 22, 1, 4] := ⟨_, _, _, _, _, _, _, _, _, rfl, b44, p44, rfl⟩
theorem g50 : Good [3, 2, 2, 1, 4, 2, 4] := ⟨_, _, _, _, _, _, _, _, _, rfl, b50, p50, rfl⟩
theorem g51 : Good [3, 2, 2, 1, 4, 3, 4] := ⟨_, _, _, _, _, _, _, _, _, rfl, b51, p51, rfl⟩
theorem g52 : Good [3, 2, 2, 1, 4, 4, 4] := ⟨_, _, _, _, _, _, _, _, _, rfl, b52, p52, rfl⟩
theorem g53 : Good [3, 2, 2, 1, 4, 5, 4] := ⟨_, _, _, _, _, _, _, _, _, rfl, b53, p53, rfl⟩
theorem g54 : Good [3, 2, 2, 1, 4, 6, 4] := ⟨_, _, _, _, _, _, _, _, _, rfl, b54, p54, rfl⟩
theorem g60 : Good [3, 2, 2, 1, 4, 1, 6] := ⟨_, _, _, _, _, _, _, _, _, rfl, b60, p60, rfl⟩
theorem g61 : Good [3, 2, 2, 1, 4, 1, 7] := ⟨_, _, _, _, _, _, _, _, _, rfl, b61, p61, rfl⟩
theorem g62 : Good [3, 2, 2, 1, 4, 1, 8] := ⟨_, _, _, _, _, _, _, _, _, rfl, b62, p62, rfl⟩
theorem g63 : Good [3, 2, 2, 1, 4, 1, 9] := ⟨_, _, _, _, _, _, _, _, _, rfl, b63, p63, rfl⟩
theorem g64 : Good [3, 2, 2, 1, 4, 1, 10] := ⟨_, _, _, _, _, _, _, _, _, rfl, b64, p64, rfl⟩
theorem f78 : callF T 59 27 [.v (.int 78)] = some (.v (fullF 78), [.v (.int 78)]) := by kernel_rfl
theorem q78 : callF T 59 22 [.v (fullF 78)] = some (.v (.bool true), [.v (fullF 78)]) := by kernel_rfl
theorem f79 : callF T 59 27 [.v (.int 79)] = some (.v (fullF 79), [.v (.int 79)]) := by kernel_rfl
theorem q79 : callF T 59 22 [.v (fullF 79)] = some (.v (.bool true), [.v (fullF 79)]) := by kernel_rfl
theorem f80 : callF T 59 27 [.v (.int 80)] = some (.v (fullF 80), [.v (.int 80)]) := by kernel_rfl
theorem q80 : callF T 59 22 [.v (fullF 80)] = some (.v (.bool true), [.v (fullF 80)]) := by kernel_rfl
theorem f81 : callF T 59 27 [.v (.int 81)] = some (.v (fullF 81), [.v (.int 81)]) := by kernel_rfl
theorem q81 : callF T 59 22 [.v (fullF 81)] = some (.v (.bool false), [.v (fullF 81)]) := by kernel_rfl
theorem f82 : callF T 59 27 [.v (.int 82)] = some (.v (fullF 82), [.v (.int 82)]) := by kernel_rfl
theorem q82 : callF T 59 22 [.v (fullF 82)] = some (.v (.bool false), [.v (fullF 82)]) := by kernel_rfl
end Lw
end Mn
end
open PySem
namespace Mn
def low (c : Nat) : Prop := 97 ≤ c ∧ c ≤ 122
theorem rg1 {r : Int} (h : 0 ≤ r ∧ r < 2 ^ 62) : rgItems [.v (.int r)] = some ((List.range r.toNat).map fun (i : Nat) => .int (0 + (i : Int))) := if_pos ⟨by omega, h.2⟩
theorem rg1_get {n j : Nat} {p : P} (h : ((List.range n).map fun (i : Nat) => (PyData.int (0 + (i : Int)) : P))[j]? = some p) : j < n ∧ p = .int j := by
 rw [List.getElem?_map] at h
 obtain ⟨i, h1, h2⟩ := Option.map_eq_some_iff.mp h
 have hj := (List.getElem?_eq_some_iff.mp h1).1
 rw [List.length_range] at hj
 rw [List.getElem?_range hj] at h1
 cases h1
 exact ⟨hj, by rw [← h2, Int.zero_add]⟩
theorem subL {l : List P} {r : Int} {c : P} (h0 : 0 ≤ r) (h : l[r.toNat]? = some c) : subM (.l l) (.v (.int r)) = some (.v c) := by
 show (L2.atI l r).map M.v = _
 have hl := (List.getElem?_eq_some_iff.mp h).1
 unfold L2.atI L2.ixN
 rw [if_pos h0, if_pos (by omega)]
 show (l[r.toNat]?).map _ = _
 rw [h]; rfl
end Mn
namespace Mn
namespace Lw
open PySem
def ixA : Ix := by constructor <;> first | exact 0 | exact Str.ofString ""
theorem hnd : SpHand (callF T 59) 23 := fun ns k h1 h2 => hand_ok ixA T (callF T 58) ns k h1 h2
theorem tke : SpTake (callF T 59) 24 := fun t d h m h1 h2 h3 => take_ok ixA T (callF T 58) t d h m h1 h2 h3
theorem bts_nil {X : Cxt} {ρ : Env} : bindTs X [] [] ρ = some ρ := by unfold bindTs; rfl
theorem bts_cons {X : Cxt} {i : Nat} {ts : List Tg} {p : P} {ps : List P} {ρ ρ2 : Env} (h1 : isLk (slot ρ i) = false) (h2 : pmAt X i = false) (h3 : i < ρ.length) (k : bindTs X ts ps (ρ.set i (some (.v p))) = some ρ2) : bindTs X (.nm i :: ts) (p :: ps) ρ = some ρ2 := by
 unfold bindTs bindT
 rw [sto_go h1 h2 h3]
 exact k
theorem bt_tup {X : Cxt} {ts : List Tg} {ps : List P} {ρ ρ2 : Env} (k : bindTs X ts ps ρ = some ρ2) : bindT X (.tp ts) (.tuple ps) ρ = some ρ2 := by
 unfold bindT
 exact k
theorem bt_list {X : Cxt} {ts : List Tg} {ps : List P} {ρ ρ2 : Env} (k : bindTs X ts ps ρ = some ρ2) : bindT X (.tp ts) (.list ps) ρ = some ρ2 := by
 unfold bindT
 exact k
abbrev gU : List P := [.int 3, .int 2, .int 2, .int 1, .int 4, .int 1, .int 4]
abbrev gG : List P := [.int 12, .int 6, .int 4, .int 6, .int 20, .int 4, .int 8]
def isPv : Option M → Bool
 | none => true
 | some (.v _) => true
 | _ => false
theorem isPv_own {X : Cxt} {ρ : Env} {i : Nat} {o : Option M} (h : isPv o = true) (h1 : slot ρ i = o) (h2 : pmAt X i = false) : ownOk X ρ [i] = true := by
 unfold ownOk
 rw [List.all_cons, List.all_nil, h2, h1]
 cases o with
 | none => rfl
 | some m => cases m <;> first | rfl | cases h
theorem isPv_own2 {X : Cxt} {ρ : Env} {i j : Nat} {o o2 : Option M} (h : isPv o = true) (h1 : slot ρ i = o) (h2 : pmAt X i = false) (k1 : isPv o2 = true) (k2 : slot ρ j = o2) (k3 : pmAt X j = false) : ownOk X ρ [i, j] = true := by
 have a := isPv_own h h1 h2
 have b := isPv_own k1 k2 k3
 unfold ownOk at *
 simp only [List.all_cons, List.all_nil, Bool.and_true] at a b ⊢
 rw [a, b]; rfl
def G4 (m : M) : Prop := m = .l gG ∨ m = .v (.list gG)
theorem g4_sub {m : M} (h : G4 m) {r : Int} {c : P} (h0 : 0 ≤ r) (e : gG[r.toNat]? = some c) : subM m (.v (.int r)) = some (.v c) := by
 rcases h with rfl | rfl
 ·exact subL h0 e
 ·exact subL h0 e
def GoodP (ps : List P) : Prop := ∃ l : List Int, ps = l.map PyData.int ∧ Good l
theorem G00 : GoodP [.int 10, .int 2, .int 2, .int 1, .int 4, .int 1, .int 4] := ⟨[10, 2, 2, 1, 4, 1, 4], rfl, g00⟩
theorem G01 : GoodP [.int 11, .int 2, .int 2, .int 1, .int 4, .int 1, .int 4] := ⟨[11, 2, 2, 1, 4, 1, 4], rfl, g01⟩
theorem G02 : GoodP [.int 12, .int 2, .int 2, .int 1, .int 4, .int 1, .int 4] := ⟨[12, 2, 2, 1, 4, 1, 4], rfl, g02⟩
theorem G03 : GoodP [.int 13, .int 2, .int 2, .int 1, .int 4, .int 1, .int 4] := ⟨[13, 2, 2, 1, 4, 1, 4], rfl, g03⟩
theorem G04 : GoodP [.int 14, .int 2, .int 2, .int 1, .int 4, .int 1, .int 4] := ⟨[14, 2, 2, 1, 4, 1, 4], rfl, g04⟩
theorem G10 : GoodP [.int 3, .int 4, .int 2, .int 1, .int 4, .int 1, .int 4] := ⟨[3, 4, 2, 1, 4, 1, 4], rfl, g10⟩
theorem G11 : GoodP [.int 3, .int 5, .int 2, .int 1, .int 4, .int 1, .int 4] := ⟨[3, 5, 2, 1, 4, 1, 4], rfl, g11⟩
theorem G12 : GoodP [.int 3, .int 6, .int 2, .int 1, .int 4, .int 1, .int 4] := ⟨[3, 6, 2, 1, 4, 1, 4], rfl, g12⟩
theorem G13 : GoodP [.int 3, .int 7, .int 2, .int 1, .int 4, .int 1, .int 4] := ⟨[3, 7, 2, 1, 4, 1, 4], rfl, g13⟩
theorem G14 : GoodP [.int 3, .int 8, .int 2, .int 1, .int 4, .int 1, .int 4] := ⟨[3, 8, 2, 1, 4, 1, 4], rfl, g14⟩
theorem G20 : GoodP [.int 3, .int 2, .int 2, .int 1, .int 4, .int 1, .int 4] := ⟨[3, 2, 2, 1, 4, 1, 4], rfl, g20⟩
theorem G21 : GoodP [.int 3, .int 2, .int 3, .int 1, .int 4, .int 1, .int 4] := ⟨[3, 2, 3, 1, 4, 1, 4], rfl, g21⟩
theorem G22 : GoodP [.int 3, .int 2, .int 4, .int 1, .int 4, .int 1, .int 4] := ⟨[3, 2, 4, 1, 4, 1, 4], rfl, g22⟩
theorem G23 : GoodP [.int 3, .int 2, .int 5, .int 1, .int 4, .int 1, .int 4] := ⟨[3, 2, 5, 1, 4, 1, 4], rfl, g23⟩
theorem G24 : GoodP [.int 3, .int 2, .int 6, .int 1, .int 4, .int 1, .int 4] := ⟨[3, 2, 6, 1, 4, 1, 4], rfl, g24⟩
theorem G30 : GoodP [.int 4, .int 2, .int 2, .int 4, .int 4, .int 1, .int 4] := ⟨[4, 2, 2, 4, 4, 1, 4], rfl, g30⟩
theorem G31 : GoodP [.int 5, .int 2, .int 2, .int 5, .int 4, .int 1, .int 4] := ⟨[5, 2, 2, 5, 4, 1, 4], rfl, g31⟩
theorem G32 : GoodP [.int 6, .int 2, .int 2, .int 6, .int 4, .int 1, .int 4] := ⟨[6, 2, 2, 6, 4, 1, 4], rfl, g32⟩
theorem G33 : GoodP [.int 7, .int 2, .int 2, .int 7, .int 4, .int 1, .int 4] := ⟨[7, 2, 2, 7, 4, 1, 4], rfl, g33⟩
theorem G34 : GoodP [.int 8, .int 2, .int 2, .int 8, .int 4, .int 1, .int 4] := ⟨[8, 2, 2, 8, 4, 1, 4], rfl, g34⟩
theorem G40 : GoodP [.int 3, .int 2, .int 2, .int 1, .int 18, .int 1, .int 4] := ⟨[3, 2, 2, 1, 18, 1, 4], rfl, g40⟩
theorem G41 : GoodP [.int 3, .int 2, .int 2, .int 1, .int 19, .int 1, .int 4] := ⟨[3, 2, 2, 1, 19, 1, 4], rfl, g41⟩
theorem G42 : GoodP [.int 3, .int 2, .int 2, .int 1, .int 20, .int 1, .int 4] := ⟨[3, 2, 2, 1, 20, 1, 4], rfl, g42⟩
theorem G43 : GoodP [.int 3, .int 2, .int 2, .int 1, .int 21, .int 1, .int 4] := ⟨[3, 2, 2, 1, 21, 1, 4], rfl, g43⟩
theorem G44 : GoodP [.int 3, .int 2, .int 2, .int 1, .int 22, .int 1, .int 4] := ⟨[3, 2, 2, 1, 22, 1, 4], rfl, g44⟩
theorem G50 : GoodP [.int 3, .int 2, .int 2, .int 1, .int 4, .int 2, .int 4] := ⟨[3, 2, 2, 1, 4, 2, 4], rfl, g50⟩
theorem G51 : GoodP [.int 3, .int 2, .int 2, .int 1, .int 4, .int 3, .int 4] := ⟨[3, 2, 2, 1, 4, 3, 4], rfl, g51⟩
theorem G52 : GoodP [.int 3, .int 2, .int 2, .int 1, .int 4, .int 4, .int 4] := ⟨[3, 2, 2, 1, 4, 4, 4], rfl, g52⟩
theorem G53 : GoodP [.int 3, .int 2, .int 2, .int 1, .int 4, .int 5, .int 4] := ⟨[3, 2, 2, 1, 4, 5, 4], rfl, g53⟩
theorem G54 : GoodP [.int 3, .int 2, .int 2, .int 1, .int 4, .int 6, .int 4] := ⟨[3, 2, 2, 1, 4, 6, 4], rfl, g54⟩
theorem G60 : GoodP [.int 3, .int 2, .int 2, .int 1, .int 4, .int 1, .int 6] := ⟨[3, 2, 2, 1, 4, 1, 6], rfl, g60⟩
theorem G61 : GoodP [.int 3, .int 2, .int 2, .int 1, .int 4, .int 1, .int 7] := ⟨[3, 2, 2, 1, 4, 1, 7], rfl, g61⟩
theorem G62 : GoodP [.int 3, .int 2, .int 2, .int 1, .int 4, .int 1, .int 8] := ⟨[3, 2, 2, 1, 4, 1, 8], rfl, g62⟩
theorem G63 : GoodP [.int 3, .int 2, .int 2, .int 1, .int 4, .int 1, .int 9] := ⟨[3, 2, 2, 1, 4, 1, 9], rfl, g63⟩
theorem G64 : GoodP [.int 3, .int 2, .int 2, .int 1, .int 4, .int 1, .int 10] := ⟨[3, 2, 2, 1, 4, 1, 10], rfl, g64⟩
theorem nm_bool2 {a b : Bool} (h : a = b) : PyData.eqv (.bool a) (.bool b) = true := by subst h; cases a <;> (unfold PyData.eqv; rfl)
theorem nm_ne {a b : Bool} (h : a = b) : (!PyData.eqv (.bool a) (.bool b)) = false := by rw [nm_bool2 h]; rfl
theorem full_ok (r : Int) (h0 : 0 ≤ r) (h1 : r < 5) : ∃ q, callF T 59 27 [.v (.int (78 + r))] = some (.v q, [.v (.int (78 + r))]) ∧ callF T 59 22 [.v q] = some (.v (.bool (decide (78 + r ≤ 80))), [.v q]) := by
 have hr : r = 0 ∨ r = 1 ∨ r = 2 ∨ r = 3 ∨ r = 4 := by omega
 rcases hr with rfl | rfl | rfl | rfl | rfl
 ·rw [show (78 : Int) + 0 = 78 from by decide, show decide ((78 : Int) ≤ 80) = true from by decide]; exact ⟨_, f78, q78⟩
 ·rw [show (78 : Int) + 1 = 79 from by decide, show decide ((79 : Int) ≤ 80) = true from by decide]; exact ⟨_, f79, q79⟩
 ·rw [show (78 : Int) + 2 = 80 from by decide, show decide ((80 : Int) ≤ 80) = true from by decide]; exact ⟨_, f80, q80⟩
 ·rw [show (78 : Int) + 3 = 81 from by decide, show decide ((81 : Int) ≤ 80) = false from by decide]; exact ⟨_, f81, q81⟩
 ·rw [show (78 : Int) + 4 = 82 from by decide, show decide ((82 : Int) ≤ 80) = false from by decide]; exact ⟨_, f82, q82⟩
abbrev tgs : List P := [.none, .int 0, .bool true, .str (Str.ofString ""), .str (Str.ofString "kind"), .tuple [], .tuple [.tuple [], .tuple [], .tuple []], .list [], frzD [], .tuple [.tuple [.tuple [.str (Str.ofString "kind"), .none, .tuple []]], .tuple []], .tuple [.none, .tuple [], .tuple []]]
theorem t0 : callF T 59 22 [.v (.none)] = some (.v (.bool false), [.v (.none)]) := by kernel_rfl
theorem t1 : callF T 59 22 [.v (.int 0)] = some (.v (.bool false), [.v (.int 0)]) := by kernel_rfl
theorem t2 : callF T 59 22 [.v (.bool true)] = some (.v (.bool false), [.v (.bool true)]) := by kernel_rfl
theorem t3 : callF T 59 22 [.v (.str (Str.ofString ""))] = some (.v (.bool false), [.v (.str (Str.ofString ""))]) := by kernel_rfl
theorem t4 : callF T 59 22 [.v (.str (Str.ofString "kind"))] = some (.v (.bool false), [.v (.str (Str.ofString "kind"))]) := by kernel_rfl
theorem t5 : callF T 59 22 [.v (.tuple [])] = some (.v (.bool false), [.v (.tuple [])]) := by kernel_rfl
theorem t6 : callF T 59 22 [.v (.tuple [.tuple [], .tuple [], .tuple []])] = some (.v (.bool false), [.v (.tuple [.tuple [], .tuple [], .tuple []])]) := by kernel_rfl
theorem t7 : callF T 59 22 [.v (.list [])] = some (.v (.bool false), [.v (.list [])]) := by kernel_rfl
theorem t8 : callF T 59 22 [.v (frzD [])] = some (.v (.bool false), [.v (frzD [])]) := by kernel_rfl
theorem t9 : callF T 59 22 [.v (.tuple [.tuple [.tuple [.str (Str.ofString "kind"), .none, .tuple []]], .tuple []])] = some (.v (.bool false), [.v (.tuple [.tuple [.tuple [.str (Str.ofString "kind"), .none, .tuple []]], .tuple []])]) := by kernel_rfl
theorem t10 : callF T 59 22 [.v (.tuple [.none, .tuple [], .tuple []])] = some (.v (.bool false), [.v (.tuple [.none, .tuple [], .tuple []])]) := by kernel_rfl
theorem tg_ok {q : P} (h : q ∈ tgs) : callF T 59 22 [.v q] = some (.v (.bool false), [.v q]) := by
 simp only [tgs, List.mem_cons, List.not_mem_nil, or_false] at h
 rcases h with rfl | rfl | rfl | rfl | rfl | rfl | rfl | rfl | rfl | rfl | rfl
 ·exact t0
 ·exact t1
 ·exact t2
 ·exact t3
 ·exact t4
 ·exact t5
 ·exact t6
 ·exact t7
 ·exact t8
 ·exact t9
 ·exact t10
theorem least_ok : callF T 59 22 [.v (.tuple [.tuple [.tuple [.str (Str.ofString "kind"), .none, .tuple []]], .tuple [], .tuple []])] = some (.v (.bool true), [.v (.tuple [.tuple [.tuple [.str (Str.ofString "kind"), .none, .tuple []]], .tuple [], .tuple []])]) := by kernel_rfl
theorem k04_ok (ns : List Int) (hns : ns.length ≤ 63) : runF T (callF T 59) F_law [.s ns] = some (.v (.bool true), [.s ns]) := by
 have hL : LT = 500000 := rfl
 have key : ∃ r ms, runF T (callF T 59) F_law [.s ns] = some (r, ms) ∧ r = .v (.bool true) ∧ ms = [.s ns] := by
  apply run_of rfl
  unfold F_law
  show WSS _ _ [some _, none, none, none, none, none, none, none, none, none, none, none, none, none, none, none, none, none, none, none] _ _
  dsimp only
  walk_at "s"
  refine ws_fr (fun j ρ => ∃ (o1 o2 o3 o4 o5 o6 o7 o8 o9 o10 o11 o12 o13 o14 o15 o16 o17 o18 o19 : Option M), ρ = [some (.s ns), o1, o2, o3, o4, o5, o6, o7, o8, o9, o10, o11, o12, o13, o14, o15, o16, o17, o18, o19] ∧ isLk o1 = false ∧ isLk o2 = false ∧ isLk o3 = false ∧ isLk o4 = false ∧ isLk o5 = false ∧ isLk o6 = false ∧ isLk o7 = false ∧ isLk o8 = false ∧ isLk o9 = false ∧ isLk o10 = false ∧ isLk o11 = false ∧ isLk o12 = false ∧ isLk o13 = false ∧ isLk o14 = false ∧ isLk o15 = false ∧ isLk o16 = false ∧ isLk o17 = false ∧ isPv o18 = true ∧ isPv o19 = true) rfl ?_
  refine wi_rg ?_
  walk_at "s"
  refine ⟨_, _, rfl, rg1 ⟨by split <;> split <;> omega, by split <;> split <;> omega⟩, ⟨_, _, _, _, _, _, _, _, _, _, _, _, _, _, _, _, _, _, _, rfl, rfl, rfl, rfl, rfl, rfl, rfl, rfl, rfl, rfl, rfl, rfl, rfl, rfl, rfl, rfl, rfl, rfl, rfl, rfl⟩, fun j q ρ2 hp hI => ?_, fun ρ2 hI => ?_⟩
  ·obtain ⟨hj, rfl⟩ := rg1_get hp
   have hj9 : j < 100 := by
    have : (if (if (9 : Int) < (ns.length : Int) then (9 : Int) else (ns.length : Int)) > 1 then (if (9 : Int) < (ns.length : Int) then (9 : Int) else (ns.length : Int)) else 1) ≤ 9 := by split <;> split <;> omega
    omega
   obtain ⟨o1, o2, o3, o4, o5, o6, o7, o8, o9, o10, o11, o12, o13, o14, o15, o16, o17, o18, o19, rfl, u1, u2, u3, u4, u5, u6, u7, u8, u9, u10, u11, u12, u13, u14, u15, u16, u17, u18, u19⟩ := hI
   refine ⟨_, sto_go u1 rfl (Nat.le_of_ble_eq_true rfl), ?_⟩
   dsimp only [List.set]
   walk_at "n"
   obtain ⟨h1, e1, hd1⟩ := hnd ns j hns hj9
   refine ⟨_, _, e1, ?_⟩
   refine lf_ex1 (sto_go u2 rfl (Nat.le_of_ble_eq_true rfl)) ?_
   walk_at "n"
   refine lf_ex1 (sto_go u3 rfl (Nat.le_of_ble_eq_true rfl)) ?_
   walk_at "n"
   refine lf_ex1 (sto_go u4 rfl (Nat.le_of_ble_eq_true rfl)) ?_
   walk_at "n"
   refine ws_fr (fun i ρ => ∃ (h' m4 : M) (o5 o6 o7 o8 o9 o10 o11 o12 o13 o14 o15 o16 o17 o18 o19 : Option M), ρ = [some (.s ns), some (.v (.int j)), some h', some (.l gU), some m4, o5, o6, o7, o8, o9, o10, o11, o12, o13, o14, o15, o16, o17, o18, o19] ∧ G4 m4 ∧ isLk o5 = false ∧ isLk o6 = false ∧ isLk o7 = false ∧ isLk o8 = false ∧ isLk o9 = false ∧ isLk o10 = false ∧ isLk o11 = false ∧ isLk o12 = false ∧ isLk o13 = false ∧ isLk o14 = false ∧ isLk o15 = false ∧ isLk o16 = false ∧ isLk o17 = false ∧ isPv o18 = true ∧ isPv o19 = true ∧ Hd (10 * (i : Int)) 0 h') rfl ?_
   refine wi_rg ?_
   walk_at "n"
   refine ⟨_, _, rfl, rg1 ⟨by omega, by omega⟩, ⟨_, _, _, _, _, _, _, _, _, _, _, _, _, _, _, _, _, rfl, .inl rfl, u5, u6, u7, u8, u9, u10, u11, u12, u13, u14, u15, u16, u17, u18, u19, hd1⟩, fun i q ρ2 hp2 hJ => ?_, fun ρ2 hJ => ?_⟩
   ·obtain ⟨hi, rfl⟩ := rg1_get hp2
    have hi : i < 12 := by simpa using hi
    clear u5 u6 u7 u8 u9 u10 u11 u12 u13 u14 u15 u16 u17 u18 u19 hd1
    obtain ⟨h2, m4, o5, o6, o7, o8, o9, o10, o11, o12, o13, o14, o15, o16, o17, o18, o19, rfl, hm4, u5, u6, u7, u8, u9, u10, u11, u12, u13, u14, u15, u16, u17, u18, u19, hd2⟩ := hJ
    refine ⟨_, sto_go u5 rfl (Nat.le_of_ble_eq_true rfl), ?_⟩
    dsimp only [List.set]
    refine wss_split (fun ρ => ∃ (h' : M) (n1 : Int) (ps : List P), ρ = [some (.s ns), some (.v (.int j)), some h', some (.l gU), some m4, some (.v (.int i)), o6, o7, o8, some (.v (.int n1)), some (.l ps), o11, o12, o13, o14, o15, o16, o17, o18, o19] ∧ Hd (10 * (i : Int) + 2) 0 h' ∧ GoodP ps) 4 _ _ ?_ ?_
    ·dsimp only [takeSL]
     walk_at "n"
     obtain ⟨r1, h3, e3, hr1, hr2, hd3⟩ := tke _ _ _ 7 hd2 (by omega) (by omega)
     refine ⟨_, _, e3, ?_⟩
     refine lf_ex1 (sto_go u9 rfl (Nat.le_of_ble_eq_true rfl)) ?_
     have hr : r1 = 0 ∨ r1 = 1 ∨ r1 = 2 ∨ r1 = 3 ∨ r1 = 4 ∨ r1 = 5 ∨ r1 = 6 := by omega
     clear hr1 hr2
     walk_at "n"
     refine lf_ex1 (sto_go u10 rfl (Nat.le_of_ble_eq_true rfl)) ?_
     walk_at "n"
     rcases hr with rfl | rfl | rfl | rfl | rfl | rfl | rfl
     all_goals
      walk_at "s"
      refine lf_sub rfl (g4_sub hm4 (by decide) rfl) ?_
      walk_at "s"
      obtain ⟨r2, h4, e4, hr1, hr2, hd4⟩ := tke _ _ _ 5 hd3 (by omega) (by omega)
      refine ⟨_, _, e4, ?_⟩
      walk_at "s"
      have hr : r2 = 0 ∨ r2 = 1 ∨ r2 = 2 ∨ r2 = 3 ∨ r2 = 4 := by omega
      first
       | refine ⟨fun _ => ?_, fun h => absurd h (by decide)⟩
       | refine ⟨fun h => absurd h (by decide), fun _ => ?_⟩
      all_goals walk_at "s"
      all_goals try
       first
        | refine ⟨fun _ => ?_, fun h => absurd h (by decide)⟩
        | refine ⟨fun h => absurd h (by decide), fun _ => ?_⟩
        | refine ⟨_, rfl, fun _ => ?_, fun h => absurd h (by decide)⟩
        | refine ⟨_, rfl, fun h => absurd h (by decide), fun _ => ?_⟩
      all_goals walk_at "s"
      refine ⟨h4, _, _, rfl, hd4.mono (by omega), ?_⟩
      rcases hr with rfl | rfl | rfl | rfl | rfl
      all_goals first | exact G00 | exact G01 | exact G02 | exact G03 | exact G04 | exact G10 | exact G11 | exact G12 | exact G13 | exact G14 | exact G20 | exact G21 | exact G22 | exact G23 | exact G24 | exact G30 | exact G31 | exact G32 | exact G33 | exact G34 | exact G40 | exact G41 | exact G42 | exact G43 | exact G44 | exact G50 | exact G51 | exact G52 | exact G53 | exact G54 | exact G60 | exact G61 | exact G62 | exact G63 | exact G64
    ·rintro _ ⟨h3, n1, ps, rfl, hd3, l, rfl, m, d, p, t, r, e, g, q, due, rfl, eb, ep, ed⟩
     rcases hm4 with rfl | rfl
     all_goals
      dsimp only [dropSL]
      walk_at "n"
      refine ⟨_, _, rfl, bt_list (bts_cons u12 rfl (Nat.le_of_ble_eq_true rfl) (bts_cons u13 rfl (Nat.le_of_ble_eq_true rfl) (bts_cons u14 rfl (Nat.le_of_ble_eq_true rfl) (bts_cons u15 rfl (Nat.le_of_ble_eq_true rfl) (bts_cons u6 rfl (Nat.le_of_ble_eq_true rfl) (bts_cons u16 rfl (Nat.le_of_ble_eq_true rfl) (bts_cons u17 rfl (Nat.le_of_ble_eq_true rfl) bts_nil))))))), ?_⟩
      dsimp only [List.set]
      walk_at "n"
      refine ⟨_, _, eb, ?_⟩
      walk_at "n"
      refine ⟨_, _, ep, ?_⟩
      refine lf_ex1 (sto_go u7 rfl (Nat.le_of_ble_eq_true rfl)) ?_
      walk_at "n"
      refine we_comp (fun n ρ acc => ∃ (o18 o19 : Option M), ρ = [some (.s ns), some (.v (.int j)), some h3, some (.l gU), some (.v (.list gG)), some (.v (.int i)), some (.v (.int r)), some (.v (.bool due)), o8, some (.v (.int n1)), some (.v (.list ([m, d, p, t, r, e, g].map PyData.int))), o11, some (.v (.int m)), some (.v (.int d)), some (.v (.int p)), some (.v (.int t)), some (.v (.int e)), some (.v (.int g)), o18, o19] ∧ acc = ((([m, d, p, t, r, e, g] : List Int).zip [12, 6, 4, 6, 20, 4, 8]).take n).map fun x => PyData.bool (decide (x.1 ≤ x.2))) rfl ?_
      refine wi_zp ?_
      walk_at "n"
      refine ⟨isPv_own2 u18 rfl rfl u19 rfl rfl, ⟨_, _, rfl, rfl⟩, fun n q2 ρ2 acc hq2 hK => ?_, fun ρ2 qs hK => ?_⟩
      ·obtain ⟨o18, o19, rfl, rfl⟩ := hK
       dsimp only [wipeE, List.set]
       have hq3 : ((([m, d, p, t, r, e, g] : List Int).zip [12, 6, 4, 6, 20, 4, 8]).map fun x : Int × Int => (PyData.tuple [.int x.1, .int x.2] : P))[n]? = some q2 := hq2
       rw [List.getElem?_map] at hq3
       obtain ⟨x, hx, rfl⟩ := Option.map_eq_some_iff.mp hq3
       have hn : n < 7 := (List.getElem?_eq_some_iff.mp hx).1
       refine ⟨_, bt_tup (bts_cons rfl rfl (Nat.le_of_ble_eq_true rfl) (bts_cons rfl rfl (Nat.le_of_ble_eq_true rfl) bts_nil)), ?_⟩
       dsimp only [List.set]
       walk_at "s"
       refine ⟨by rw [List.length_map, List.length_take]; exact Nat.lt_of_le_of_lt (Nat.min_le_left _ _) (by show n < 1000000; omega), _, _, rfl, ?_⟩
       rw [List.take_add_one, hx, List.map_append]
       rfl
      ·obtain ⟨o18', o19', rfl, rfl⟩ := hK
       (try walk_at "mo")
       walk_at "s"
       subst ed
       refine lf_ex1 (sto_go u11 rfl (Nat.le_of_ble_eq_true rfl)) ?_
       walk_at "s"
       refine ⟨fun h => absurd h (by decide), fun _ => ?_⟩
       walk_at "s"
       refine ⟨fun h => absurd (h.symm.trans (nm_ne rfl)) (by decide), fun _ => ?_⟩
       walk_at "s"
       exact ⟨h3, _, _, _, _, _, _, _, _, _, _, _, _, _, _, _, _, rfl, .inr rfl, rfl, rfl, rfl, u8, rfl, rfl, rfl, rfl, rfl, rfl, rfl, rfl, rfl, u18, u19, hd3.mono (by omega)⟩
   ·obtain ⟨h2, m4, o5, o6, o7, o8, o9, o10, o11, o12, o13, o14, o15, o16, o17, o18, o19, rfl, hm4, u5, u6, u7, u8, u9, u10, u11, u12, u13, u14, u15, u16, u17, u18, u19, hd2⟩ := hJ
    rw [List.length_map, List.length_range] at hd2
    walk_at "n"
    obtain ⟨r1, h3, e3, hr1, hr2, hd3⟩ := tke _ _ _ 5 hd2 (by show 10 * ((12 : Nat) : Int) ≤ LT; omega) (by omega)
    refine ⟨_, _, e3, ?_⟩
    walk_at "s"
    refine lf_ex1 (sto_go u6 rfl (Nat.le_of_ble_eq_true rfl)) ?_
    obtain ⟨q, ef, eq⟩ := full_ok r1 hr1 hr2
    walk_at "n"
    refine ⟨_, _, ef, ?_⟩
    walk_at "n"
    refine ⟨_, _, eq, ?_⟩
    refine lf_ex1 (sto_go u7 rfl (Nat.le_of_ble_eq_true rfl)) ?_
    walk_at "n"
    refine ⟨fun h => absurd h (by decide), fun _ => ?_⟩
    walk_at "n"
    refine ⟨fun h => absurd (h.symm.trans (nm_ne rfl)) (by decide), fun _ => ?_⟩
    walk_at "n"
    refine ws_fr (fun n ρ => ∃ (o8 : Option M), ρ = [some (.s ns), some (.v (.int j)), some h3, some (.l gU), some m4, o5, some (.v (.int (78 + r1))), some (.v (.bool (decide (78 + r1 ≤ 80)))), o8, o9, o10, o11, o12, o13, o14, o15, o16, o17, o18, o19] ∧ isLk o8 = false) rfl ?_
    refine wi_of ?_
    walk_at "n"
    refine ⟨⟨_, rfl, u8⟩, fun n q2 ρ2 hq2 hK => ?_, fun ρ2 hK => ?_⟩
    ·clear u8
     obtain ⟨o8, rfl, u8⟩ := hK
     refine ⟨_, sto_go u8 rfl (Nat.le_of_ble_eq_true rfl), ?_⟩
     dsimp only [List.set]
     walk_at "n"
     refine ⟨_, _, tg_ok (List.mem_of_getElem? hq2), ?_⟩
     walk_at "n"
     refine ⟨fun h => absurd h (by decide), fun _ => ?_⟩
     walk_at "n"
     rfl
    ·clear u8
     obtain ⟨o8, rfl, u8⟩ := hK
     walk_at "n"
     refine ⟨_, _, _, _, _, _, _, _, _, _, _, _, _, _, _, _, _, _, _, rfl, rfl, ?_, rfl, ?_, u5, rfl, rfl, u8, u9, u10, u11, u12, u13, u14, u15, u16, u17, u18, u19⟩
     ·obtain ⟨_, _, _, rfl, _⟩ := hd3
      rfl
     ·rcases hm4 with rfl | rfl <;> rfl
  ·obtain ⟨o1, o2, o3, o4, o5, o6, o7, o8, o9, o10, o11, o12, o13, o14, o15, o16, o17, o18, o19, rfl, _⟩ := hI
   walk_at "s"
   refine ⟨_, _, least_ok, ?_⟩
   walk_at "s"
   exact ⟨rfl, rfl⟩
 obtain ⟨r, ms, e, rfl, rfl⟩ := key
 exact e
theorem pure_law : ∀ ns : List Int, ns.length ≤ 63 → ∃ ds, callF T 60 28 [.s ns] = some (.v (.bool true), ds) := fun ns hns => ⟨[.s ns], k04_ok ns hns⟩
end Lw
end Mn
theorem PySem.Challenge.cw_surecall_k04_programs_at_their_bounds_holds : PySem.Challenge.rw_surecall_k04_programs_at_their_bounds.Holds := by
 exact Mn.Lw.holds Mn.Lw.pure_law
