import PyProof.Rows.All
import Wide.All
import OpenK.AllK
import Wide.FinOn
import HandS.ForMost
import HandS.TupSets
import HandS.DictTup
import KE.SortData
import KE.DataMinMax
import KE.KDictSum
import KE.KDictCopyH
import HandS.Walk
import HandS.Zip
import HandS.TupAny
import HandS.TupLe
import HandS.TupLen
import HandS.Star
import HandS.Conv
import HandS.IsInst
import HandS.SetFor
import HandS.Strs
import KE.KDictWalk
import PyProof.EnumMake
import KE.KDictPairs
import KE.KDictDisplayH
import PyProof.WalkInts
import PyProof.MinMaxWalk
import PyProof.EnumIter
import KE.GoesMore
import PyProof.Draws
import HandS.Lambda
import HandS.Comp
import HandS.More
import HandS.WordsExc
import HandS.Defaults
import HandS.Codes
import HandS.SortInts
import KE.KLam
import KE.SortKeyHeap
import KE.KSortKey
import Lean
import KE.KStateDown
import HandS.Head0
import HandS.Head1
import HandS.Head2
import HandS.HeadEnd
import HandS.HeadHook1
import HandS.HeadHook2
import HandS.HeadHook3
import HandS.HeadHook4
import HandS.HeadWalk
import HandS.EndTab
import PySem.Challenge.RW_stoopers_k23_whole_reaches
set_option Elab.async false
set_option linter.all false
set_option maxRecDepth 100000
set_option maxHeartbeats 4000000
/-! own rules over the hand layer: sorting and least ones of data -/
namespace So
open PySem PySem.Spec PyProof.Rows L2 PySem.W
section
variable {X : Cx} {pins : List (Addr × Obj)} {σ : L2.St} {H : Hp} {s : Shared} {K : PySem.W.Frag}
/-- what a value stands for -/
def Std (K : PySem.W.Frag) (H : Hp) (v : Value) (d : PyData) : Prop := ∃ x : V, RelV x v ∧ Dp K H x d
theorem each_std : ∀ {xs : List V} {ds : List PyData} {us : List Value}, DpAll K H xs ds → Vals xs us → EachIs (Std K H) us ds
  | [], [], [], _, _ => .nil
  | _ :: _, _ :: _, _ :: _, h, r => by
    cases h with
    | cons h1 h2 =>
      cases r with
      | cons r1 r2 => exact .cons ⟨_, r1, h1⟩ (each_std h2 r2)
  | [], _ :: _, _, h, _ => by cases h
  | _ :: _, [], _, h, _ => by cases h
  | [], [], _ :: _, _, r => by cases r
  | _ :: _, _ :: _, [], _, r => by cases r
theorem std_each : ∀ {ds : List PyData} {us : List Value}, EachIs (Std K H) us ds → ∃ xs : List V, Vals xs us ∧ DpAll K H xs ds
  | _, _, .nil => ⟨[], .nil, .nil⟩
  | _, _, .cons ⟨x, r, h⟩ t => by
    obtain ⟨xs, r2, h2⟩ := std_each t
    exact ⟨x :: xs, .cons r r2, .cons h h2⟩
theorem std_reads (I : Inv X pins σ H s) {us : List Value} {ds : List PyData} (e : EachIs (Std X.K H) us ds) : EachIs (fun v d => ∃ as, Reads s.heap v d as) us ds :=
  e.mono fun v d ⟨x, r, h⟩ => Dp.reads I d x v h r
theorem DpAll.len : ∀ {xs : List V} {ds : List PyData}, DpAll K H xs ds → xs.length = ds.length
  | [], [], _ => rfl
  | _ :: _, _ :: _, h => by
    cases h with
    | cons _ h2 => exact congrArg Nat.succ (DpAll.len h2)
  | [], _ :: _, h => by cases h
  | _ :: _, [], h => by cases h
theorem map_id' {α : Type} (l : List α) : l.map (fun x => x) = l := List.map_id l
theorem hLine (n : Nat) (h : n ≤ 1000) : n ≤ sizeLine := Nat.le_trans h (by decide)
abbrev ordD : PyData → PyData → Bool := dataLe false (fun d => d)
/-- sorted(xs), the items alike data of any length -/
def rSortD (K : PySem.W.Frag) : List V → Hp → VK → Prop := fun vs H Q => ∃ (a : Addr) (xs : List V) (ds : List PyData), vs = [V.ref a] ∧ SqL K H a xs ∧ DpAll K H xs ds ∧ AllAlike ds ∧ Sortable ds ∧ (∀ d ∈ ds, d.depth ≤ 60) ∧
  ∀ (ys : List V) (p : Addr), DpAll K H ys (ds.mergeSort ordD) → H p = none → Q (.ref p) (upd H p (.lst ys))
theorem cr_sortD (hu : X.A.units + 64 < cLine) : CallR X (.builtin "sorted") (rSortD X.K) := by
  intro pins s σ H vs us Q I r h
  obtain ⟨a, xs, ds, rfl, hs, hd, hal, hk, hdep, q⟩ := h
  obtain rfl := Vals.ref1 r
  obtain ⟨its, rv, hl, hz⟩ := I.list hs
  have e := each_std hd rv
  have hlen : ds.length = xs.length := (DpAll.len hd).symm
  refine sorted_data (enc := fun d => d) (bs := ds) hl.isList e (std_reads I e) (by rw [map_id']; exact hal) (by rw [map_id']; exact hk) (by rw [hlen]; exact hz) (fun d hm => by have := hdep d hm; omega) fun out ho eo => ?_
  obtain ⟨ys, r2, h2⟩ := std_each eo
  obtain ⟨ep, he'⟩ := PyProof.Rows.sortedAll_at s.heap its out.toArray
  have hl2 : ys.length ≤ sizeLine := by
    rw [r2.length, ho, hlen]
    exact hz
  exact ⟨.ref _, upd H (s.heap.objs.size + 1) (.lst ys), I.laid (t' := s.toks) (fun _ _ => PyProof.Rows.sortedAll_old) (Nat.le_succ _) ⟨hl2, out, ep, r2, he'⟩, rfl, q ys _ h2 (I.hok.fresh (Nat.le_succ _))⟩
mutual
theorem rd_lt {h : Heap} : ∀ (d : PyData) (v : Value) (as : List Addr), alike d d = true → Reads h v d as → ∀ b ∈ as, b < h.objs.size
  | .none, _, _, _, r, b, hb => by cases r; cases hb
  | .bool _, _, _, _, r, b, hb => by cases r; cases hb
  | .int _, _, _, _, r, b, hb => by cases r; cases hb
  | .str _, _, _, _, r, b, hb => by cases r; cases hb
  | .list xs, _, _, hal, r, b, hb => by
    cases r with
    | list h1 h2 h3 h4 =>
      rcases List.mem_cons.mp hb with e | hb
      · rw [e]
        exact Heap.lt_size h1
      · exact rdAll_lt xs _ _ (by simpa [alike] using hal) h4 b hb
  | .tuple xs, _, _, hal, r, b, hb => by
    cases r with
    | tuple h1 h2 h3 h4 => exact rdAll_lt xs _ _ (by simpa [alike] using hal) h4 b hb
  | .dict _, _, _, hal, _, _, _ => absurd hal (by simp [alike])
theorem rdAll_lt {h : Heap} : ∀ (ds : List PyData) (vs : List Value) (as : List Addr), alikeAll ds ds = true → ReadsAll h vs ds as → ∀ b ∈ as, b < h.objs.size
  | [], _, _, _, r, b, hb => by cases r; cases hb
  | d :: ds, _, _, hal, r, b, hb => by
    cases r with
    | cons h1 h2 =>
      rcases List.mem_append.mp hb with hb | hb
      · exact rd_lt d _ _ (alike_all_cons hal).1 h1 b hb
      · exact rdAll_lt ds _ _ (alike_all_cons hal).2 h2 b hb
end
/-- sorted of what was collected -/
theorem sort_tail {acc : List Value} {ds : List PyData} {h' : Heap} {tk : Nat} {H1 : Hp} {Q : VK} {A : Around} {E : Value → Shared → Prop} (hu : A.units + 64 < cLine) (I1 : Inv X pins σ H1 { s with heap := h', toks := tk }) (e : EachIs (Std X.K H1) acc ds) (hal : AllAlike ds) (hk : Sortable ds) (hdep : ∀ d ∈ ds, d.depth ≤ 60) (hz : ds.length ≤ sizeLine)
    (q : ∀ (ys : List V) (p : Addr), DpAll X.K H1 ys (ds.mergeSort ordD) → H1 p = none → Q (.ref p) (upd H1 p (.lst ys))) :
    wpAny (model X.prog X.w) A (do let l ← newList acc; let _ ← holding [l] (call (.builtin "list.sort") [l]); PySem.ret l) (fun (f : PySem.Fin) s' => ∃ v, f = PySem.Fin.done (.ret v) ∧ EP X pins σ Q v s') E { s with heap := h', toks := tk } := by
  have hal' : acc.length = ds.length := e.length
  refine wpAny_bind (wpAny_newList ?_ (by rw [hal']; exact hz))
  have hoL : (h'.push (seqObj "list" acc.toArray 0)).get? h'.objs.size = some (seqObj "list" acc.toArray 0) := Heap.get?_push_size _ rfl
  show wpAny _ _ _ _ _ { s with heap := h'.push (seqObj "list" acc.toArray 0), toks := tk }
  have er : EachIs (fun v d => ∃ as, Reads (h'.push (seqObj "list" acc.toArray 0)) v d as ∧ h'.objs.size ∉ as) acc ds := by
    refine (each_mem (std_reads I1 e)).mono fun v d ⟨⟨as, r⟩, hm⟩ => ⟨as, PyProof.Rows.Reads.keeps (fun b o z => Heap.get?_push_of_some _ z) r, fun hmem => ?_⟩
    exact Nat.lt_irrefl _ (rd_lt _ _ _ (hal d hm d hm) r _ hmem)
  refine wpAny_bind (wpAny_holding (list_sort_data (enc := fun d => d) (bs := ds) (s := { s with heap := h'.push (seqObj "list" acc.toArray 0), toks := tk }) hoL e er (by rw [map_id']; exact hal) (by rw [map_id']; exact hk) (by exact hz) (fun d hm => by have := hdep d hm; omega) fun out ho eo => ?_))
  obtain ⟨ys, r2, h2⟩ := std_each eo
  obtain ⟨e', he'⟩ := PyProof.Rows.sortedHeap_at (vs := acc) (out := out.toArray) hoL
  have hl2 : ys.length ≤ sizeLine := by
    rw [r2.length, ho]
    exact hz
  refine wpAny_pure ⟨_, rfl, .ref h'.objs.size, upd H1 h'.objs.size (.lst ys), I1.laid (t' := tk) (fun b u e => ?_) (Nat.le_refl _)
    (show ObjOk X.prog X.w _ _ _ (.lst ys) from ⟨hl2, out, e', r2, he'⟩), rfl, q ys _ h2 (I1.hok.fresh (Nat.le_refl _))⟩
  have hb : b < h'.objs.size := Heap.lt_size e
  show (sortedHeap _ _ _ _).get? b = some u
  rw [PyProof.Rows.sortedHeap_old (Nat.ne_of_lt hb) (by rw [size_push']; exact Nat.lt_succ_of_lt hb)]
  exact Heap.get?_push_of_some _ e
end
end So
/-! own rules: what a for walks -/
namespace So
open PySem PySem.Spec PyProof.Rows L2 PySem.W
section
variable {X : Cx} {pins : List (Addr × Obj)} {σ : L2.St} {H : Hp} {s : Shared} {d : Addr} {o : Obj}
/-! ### a dict with tuple keys is known from now on -/
theorem inv_frz {kvs : List (List L2.Key × V)} (I : Inv X pins σ H s) (h : H d = some (.dT kvs)) : ∃ o, s.heap.get? d = some o ∧ Inv X pins σ (upd H d (.frz o (.dT kvs))) s := by
  have ok := I.hok d _ h
  obtain ⟨z, hs, xs, pr, o, es, ep, ho, r⟩ := id ok
  have nd : ∀ b u, H b = some u → u ≠ .dT kvs → b ≠ d := fun b u e n q => by
    rw [q, h] at e
    exact n (Option.some.inj e).symm
  have un : Un X.fs [] H (upd H d (.frz o (.dT kvs))) s.heap s.heap :=
    ⟨fun _ _ e _ _ _ => e, fun b ob e _ _ _ => ⟨ob.slots, e⟩, fun b ob e n _ => by
        rw [upd_ne (fun q => by rw [q, h] at n; cases n)]
        exact n, fun b ob e _ => ⟨ob, e⟩, fun b ys e => by
        rw [upd_ne (nd b _ e (fun z => by cases z))]
        exact e, fun b ob u e => by
        rw [upd_ne (nd b _ e (fun z => by cases z))]
        exact e, fun b ps e => ⟨#[], by
        rw [upd_ne (nd b _ e (fun z => by cases z)), e]
        simp⟩⟩
  have tp : ∀ b ys, H b = some (.tup ys) → upd H d (.frz o (.dT kvs)) b = some (.tup ys) := un.tups
  refine ⟨o, ho, I.un (t' := s.toks) un fun b u e => ?_⟩
  by_cases hb : b = d
  · rw [hb, upd_same] at e
    cases e
    rw [hb]
    refine ⟨ho, ok.stay (fun _ _ _ q => q) (fun b q => ?_) tp⟩
    rw [upd_ne (nd b _ q (fun z => by cases z))]
    exact q
  · rw [upd_ne hb] at e
    refine (I.hok b u e).stay (fun _ _ _ q => q) (fun c q => ?_) tp
    rw [upd_ne (nd c _ q (fun z => by cases z))]
    exact q
/-- the dict that e makes is only read from now on -/
def tFrz (t : TE) : TE := fun σ H Q => t σ H fun x H1 => ∃ d kvs, x = .ref d ∧ H1 d = some (.dT kvs) ∧ ∀ o, Q (.ref d) (upd H1 d (.frz o (.dT kvs)))
theorem pe_frz {e : Expr} {t : TE} (he : PE X e t) : PE X e (tFrz t) := by
  refine ⟨fun pins s σ H Q I h => ?_⟩
  refine thn (he.run pins s σ H _ I h) fun u s1 ⟨x, H1, I1, rx, d, kvs, ex, hd, q⟩ => ?_
  subst ex
  obtain ⟨o, _, I2⟩ := inv_frz I1 hd
  exact ⟨.ref d, _, I2, rx, q o⟩
/-- the entries of such a dict -/
theorem frzE {kvs : List (List L2.Key × V)} (I : Inv X pins σ H s) (h : H d = some (.frz o (.dT kvs))) :
    (d == sysModules) = false ∧ s.heap.get? d = some o ∧ o.ExactDict ∧ ∃ (es : Array DictEntry) (ep : Nat), o.data = .dict es ep ∧ es.size = kvs.length ∧
      ∀ (i : Nat) (hi : i < es.size) (k : List L2.Key) (v : V), kvs[i]? = some (k, v) → ∃ (q : Addr), es[i].key = .ref q ∧ H q = some (.tup (k.map kV)) ∧ RelV v es[i].val := by
  obtain ⟨hd, z, hs, xs, pr, o', es, ep, ho, hx, hdt, he, _⟩ := I.hok d _ h
  rw [hd] at ho
  cases ho
  refine ⟨hs, hd, hx, es, ep, hdt, ?_, fun i hi k v e => ?_⟩
  · have l1 : es.size = xs.length := size_of_entries he
    have l2 : kvs.length = xs.length := Paired.length pr
    omega
  · obtain ⟨b, hb, e1, e2, e3⟩ := paired_get pr e
    have q := entry_at he i
    rw [hb] at q
    have q2 : es[i]? = some (entryOfKey (tupleKind (mixKind X.prog X.w)) b) := q
    rw [Array.getElem?_eq_getElem hi] at q2
    have q3 := Option.some.inj q2
    exact ⟨b.2.1, by rw [q3] <;> rfl, e2, by rw [q3]; exact e3⟩
/-- its values -/
def ItdT (d : Addr) (o : Obj) (kvs : List (List L2.Key × V)) : It :=
  ⟨fun i H => H d = some (.frz o (.dT kvs)) ∧ i < kvs.length, fun i H x H' => H' = H ∧ ∃ k, kvs[i]? = some (k, x), fun i H => H d = some (.frz o (.dT kvs)) ∧ kvs.length ≤ i⟩
/-- its pairs, each a new tuple of the key's own tuple and the value -/
def ItiT (d : Addr) (o : Obj) (kvs : List (List L2.Key × V)) : It :=
  ⟨fun i H => H d = some (.frz o (.dT kvs)) ∧ i < kvs.length, fun i H x H' => ∃ T k v q, kvs[i]? = some (k, v) ∧ x = .ref T ∧ H T = none ∧ H q = some (.tup (k.map kV)) ∧ H' = upd H T (.tup [.ref q, v]), fun i H => H d = some (.frz o (.dT kvs)) ∧ kvs.length ≤ i⟩
end
section
variable {P : Program} {w : World} {K : PySem.W.Frag} {tg : Expr} {d : Addr} {o : Obj} {es : Array DictEntry} {ep : Nat}
theorem turn_valsT {kvs : List (List L2.Key × V)} (it : Addr) (hod : o.data = .dict es ep) : Turn P w K tg (ItdT d o kvs) [it] it (fun i h => h.IsValIter it d i kvs.length ep) where
  mem := by simp
  obj := fun i h st b hb => by
    have e : b = it := by simpa using hb
    subst e
    obtain ⟨oi, e, c, dd⟩ := st
    exact ⟨oi, e, fun v z => by rw [dd] at z; cases z⟩
  keep := fun i h h' st k => st.at fun oi e => k it (by simp) oi e
  item := by
    intro X hP hw hK hc i pins s σ H E I hf st hg
    subst hP hw hK
    obtain ⟨hd, hi⟩ := hg
    obtain ⟨f0, f1, f2, f3, f4, f5⟩ := hf it (by simp)
    obtain ⟨hs, hgd, hx, es', ep', hdt, hsz, ent⟩ := frzE I hd
    obtain ⟨rfl, rfl⟩ := dict_ep hod hdt
    obtain ⟨⟨k, v⟩, hkv⟩ : ∃ p, kvs[i]? = some p := ⟨kvs[i], List.getElem?_eq_getElem hi⟩
    have hi' : i < es'.size := by rw [hsz]; exact hi
    obtain ⟨q, hkey, hq, rv⟩ := ent i hi' k v hkv
    rw [← hsz] at st
    refine wpAny_pyNext_values_item_raw st ⟨o, hgd, hx, hdt⟩ hi' fun h' st' sb => ?_
    have I1 : Inv X pins σ H { s with heap := h' } := I.turned (t' := s.toks) (fun b ob hb e => (sb.2 b hb).trans e) f0 f1 f3 f4 f5
    obtain ⟨oi, e, c, dd⟩ := id st'
    refine ⟨_, rfl, go_of (s := { s with heap := h' }) e c dd (by decide) ⟨v, H, I1, rv, ⟨rfl, k, hkv⟩, ?_, fun b hb => (hf b hb).1⟩⟩
    show h'.IsValIter it d (i + 1) kvs.length _
    rw [← hsz]
    exact st'
  done := by
    intro X hP hw hK hc i pins s σ H E I hf st hg
    subst hP hw hK
    obtain ⟨hd, hi⟩ := hg
    obtain ⟨f0, f1, f2, f3, f4, f5⟩ := hf it (by simp)
    obtain ⟨hs, hgd, hx, es', ep', hdt, hsz, ent⟩ := frzE I hd
    obtain ⟨rfl, rfl⟩ := dict_ep hod hdt
    rw [← hsz] at st
    exact wpAny_pyNext_values_end_raw (I.ok.hd hc) st ⟨o, hgd, hx, hdt⟩ (by rw [hsz]; exact hi) fun h' eb => ⟨rfl, I.turned (t' := s.toks) (fun b ob hb e => eb b ob hb e) f0 f1 f3 f4 f5⟩
  self := fun A i s Q E st h => wpAny_pyIter_valiter st h
theorem turn_itemsT {kvs : List (List L2.Key × V)} {elts : List Expr} {kk : Nat} {tpos : Pos} (it : Addr) (hod : o.data = .dict es ep) :
    Turn P w K (.Tuple elts kk tpos) (ItiT d o kvs) [it] it (fun i h => ∃ ok ov, IsItemIter h it d i kvs.length ep ok ov) where
  mem := by simp
  obj := fun i h st b hb => by
    have e : b = it := by simpa using hb
    subst e
    obtain ⟨ok, ov, e⟩ := st
    exact ⟨_, e, fun v z => nomatch z⟩
  keep := fun i h h' st k => let ⟨ok, ov, e⟩ := st; ⟨ok, ov, k it (by simp) _ e⟩
  item := by
    intro X hP hw hK hc i pins s σ H E I hf st hg
    subst hP hw hK
    obtain ⟨hd, hi⟩ := hg
    obtain ⟨hs, hgd, hx, es', ep', hdt, hsz, ent⟩ := frzE I hd
    obtain ⟨rfl, rfl⟩ := dict_ep hod hdt
    obtain ⟨⟨k, v⟩, hkv⟩ : ∃ p, kvs[i]? = some p := ⟨kvs[i], List.getElem?_eq_getElem hi⟩
    have hi' : i < es'.size := by rw [hsz]; exact hi
    obtain ⟨q, hkey, hq, rv⟩ := ent i hi' k v hkv
    obtain ⟨ok, ov, he⟩ := st
    rw [← hsz] at he
    have hlt : it < s.heap.objs.size := Heap.lt_size he
    refine wpAny_pyNext_items_item_raw he ⟨o, hgd, hx, hdt⟩ hi' fun h' ho hT hz hk => ?_
    refine ⟨_, rfl, wpAny_letOwnedTupleGo_items (s := { s with heap := h' }) ho fun h'' he' sb => ?_⟩
    have hT2 : h''.get? s.heap.objs.size = some { cls := .type "tuple", data := .seq #[es'[i].key, es'[i].val] } := (sb.2 _ (Nat.ne_of_gt hlt)).trans hT
    have new : ObjOk X.prog X.w (upd H s.heap.objs.size (.tup [.ref q, v])) h'' s.heap.objs.size (.tup [.ref q, v]) :=
      ⟨by show 2 ≤ sizeLine; decide, [es'[i].key, es'[i].val], .cons (show es'[i].key = Value.ref q from hkey) (.cons rv .nil), ⟨_, hT2, rfl, _, rfl⟩⟩
    have I1 : Inv X pins σ (upd H s.heap.objs.size (.tup [.ref q, v])) { s with heap := h'' } :=
      I.turnedNew (t' := s.toks) (ch := [it]) (fun b ob hb e => (sb.2 b (by simpa using hb)).trans (hk b ob (by simpa using hb) e)) hf (Nat.le_refl _) new
    refine ⟨.ref s.heap.objs.size, _, I1, rfl, ⟨_, k, v, q, hkv, rfl, I.hok.fresh (Nat.le_refl _), hq, rfl⟩, ⟨es'[i].key, es'[i].val, ?_⟩, fun b hb => ?_⟩
    · rw [← hsz]; exact he'
    · have e : b = it := by simpa using hb
      rw [e, upd_ne (Nat.ne_of_lt hlt)]
      exact (hf it (by simp)).1
  done := by
    intro X hP hw hK hc i pins s σ H E I hf st hg
    subst hP hw hK
    obtain ⟨hd, hi⟩ := hg
    obtain ⟨f0, f1, f2, f3, f4, f5⟩ := hf it (by simp)
    obtain ⟨hs, hgd, hx, es', ep', hdt, hsz, ent⟩ := frzE I hd
    obtain ⟨rfl, rfl⟩ := dict_ep hod hdt
    obtain ⟨ok, ov, he⟩ := st
    rw [← hsz] at he
    exact wpAny_pyNext_items_end_raw (I.ok.hd hc) he ⟨o, hgd, hx, hdt⟩ (by rw [hsz]; exact hi) fun h' eb => ⟨rfl, I.turned (t' := s.toks) (fun b ob hb e => eb b ob hb e) f0 f1 f3 f4 f5⟩
  self := fun A i s Q E st h => let ⟨_, _, e⟩ := st; PySem.W.kcp_self e h
end
section
variable {X : Cx} {tg e : Expr} {td : TE} {apos cpos : Pos}
def iValsT (td : TE) : TI := fun σ H R => td σ H fun x H1 => ∃ d o kvs, x = .ref d ∧ H1 d = some (.frz o (.dT kvs)) ∧ R (ItdT d o kvs) H1
def iItemsT (td : TE) : TI := fun σ H R => td σ H fun x H1 => ∃ d o kvs, x = .ref d ∧ H1 d = some (.frz o (.dT kvs)) ∧ R (ItiT d o kvs) H1
theorem raw_noDict {o : Obj} (hx : o.ExactDict) {d : Addr} {h : Heap} (hgd : h.get? d = some o) : ∀ b e, Value.ref d = .ref b → h.get? b = some e → e.dict = none := fun b e q z => by
  cases q
  rw [hgd] at z
  cases z
  exact hx.2.1
theorem pi_valuesT (he : PE X e td) (hbase : attributeBase e "values" X.env (eval e X.env) = eval e X.env := by rfl) (hline : (apos.endLine == cpos.line) = true := by rfl) : PI X tg (.Call (.Attribute e "values" apos) [] [] cpos) (iValsT td) := by
  refine ⟨fun pins s σ H R I h => ?_⟩
  refine wpAny_Call_method (T := "dict") (id := "dict.values") hbase rfl hline F.plainAttrs_dict F.slot_dict_values F.type_dict_values (thn (he.run pins s σ H _ I h) fun u s1 ⟨x, H1, I1, rx, d, o, kvs, ex, hd, q⟩ => ?_)
  subst ex
  obtain rfl : u = Value.ref d := rx
  obtain ⟨hs, hgd, hx, es, ep, hdt, hsz, ent⟩ := frzE I1 hd
  have hm : s1.heap.DictRaw d es ep := ⟨o, hgd, hx, hdt⟩
  refine ⟨hm.typeIs, fun b e => ?_, ?_⟩
  · cases e
    exact ⟨o, hgd, hx.2.1⟩
  have I2 : Inv X pins σ H1 { s1 with heap := s1.heap.push { cls := .type "dict_values", data := .fields #[.ref d] } } := I1.kept (t' := s1.toks) fun b ob q => Heap.get?_push_of_some _ q
  have fin : wpAny (model X.prog X.w) X.A (pyIter (.ref s1.heap.objs.size)) (PIE X pins σ tg R) X.xe { s1 with heap := s1.heap.push { cls := .type "dict_values", data := .fields #[.ref d] } } := by
    refine wpAny_pyIter_values_raw (d := d) (es := es) (ep := ep) ⟨_, Heap.get?_push_size _ rfl, rfl, rfl⟩ (hm.push _) (pi_one (tk := s1.toks) I2 _ (turn_valsT _ hdt) ⟨_, Heap.get?_push_size _ rfl, rfl, ?_⟩ q)
    rw [hsz] <;> rfl
  show wpAny _ _ (callWith cpos (.builtin "dict.values") [.ref d] [] []) _ X.xe s1
  exact method_meetsIn F.slot_dict_values F.entry_dict_values rfl (PySem.evalArgs_none ⟨rfl, hm.typeIs, F.args_dict_values_1 _, _, meets_dict_values_raw d hs, ⟨es, ep, hm⟩, fin⟩)
theorem pi_itemsT {elts : List Expr} {kk : Nat} {tpos : Pos} (he : PE X e td) (hbase : attributeBase e "items" X.env (eval e X.env) = eval e X.env := by rfl) (hline : (apos.endLine == cpos.line) = true := by rfl) :
    PI X (.Tuple elts kk tpos) (.Call (.Attribute e "items" apos) [] [] cpos) (iItemsT td) := by
  refine ⟨fun pins s σ H R I h => ?_⟩
  refine wpAny_Call_method (T := "dict") (id := "dict.items") hbase rfl hline F.plainAttrs_dict F.slot_dict_items F.type_dict_items (thn (he.run pins s σ H _ I h) fun u s1 ⟨x, H1, I1, rx, d, o, kvs, ex, hd, q⟩ => ?_)
  subst ex
  obtain rfl : u = Value.ref d := rx
  obtain ⟨hs, hgd, hx, es, ep, hdt, hsz, ent⟩ := frzE I1 hd
  have hm : s1.heap.DictRaw d es ep := ⟨o, hgd, hx, hdt⟩
  refine ⟨hm.typeIs, fun b e => ?_, ?_⟩
  · cases e
    exact ⟨o, hgd, hx.2.1⟩
  have I2 : Inv X pins σ H1 { s1 with heap := s1.heap.push { cls := .type "dict_items", data := .fields #[.ref d] } } := I1.kept (t' := s1.toks) fun b ob q => Heap.get?_push_of_some _ q
  have fin : wpAny (model X.prog X.w) X.A (pyIter (.ref s1.heap.objs.size)) (PIE X pins σ (.Tuple elts kk tpos) R) X.xe { s1 with heap := s1.heap.push { cls := .type "dict_items", data := .fields #[.ref d] } } := by
    refine wpAny_pyIter_items_raw (d := d) (es := es) (ep := ep) ⟨_, Heap.get?_push_size _ rfl, rfl, rfl⟩ (hm.push _) (pi_one (tk := s1.toks) I2 _ (turn_itemsT _ hdt) ⟨.none, .none, ?_⟩ q)
    rw [← hsz]
    exact Heap.get?_push_size _ rfl
  show wpAny _ _ (callWith cpos (.builtin "dict.items") [.ref d] [] []) _ X.xe s1
  exact method_meetsIn F.slot_dict_items F.entry_dict_items rfl (PySem.evalArgs_none ⟨rfl, hm.typeIs, F.args_dict_items_1 _, _, meets_dict_items_raw d hs, ⟨es, ep, hm⟩, fin⟩)
end
end So
/-! own rules: dicts with tuple keys, least and greatest ones -/
namespace So
open PySem PySem.Spec PyProof.Rows L2 PySem.W
theorem each_ix {α β : Type} {R : α → β → Prop} : ∀ {as : List α} {bs : List β}, as.length = bs.length → (∀ (i : Nat) a b, as[i]? = some a → bs[i]? = some b → R a b) → EachIs R as bs
  | [], [], _, _ => .nil
  | a :: as, b :: bs, hl, h => .cons (h 0 a b rfl rfl) (each_ix (Nat.succ.inj hl) fun i x y e1 e2 => h (i + 1) x y e1 e2)
  | [], _ :: _, hl, _ => by cases hl
  | _ :: _, [], hl, _ => by cases hl
def kD : L2.Key → PyData
  | .inl i => .int i
  | .inr x => .str x
/-- a key tuple as data -/
def keyD (k : List L2.Key) : PyData := .tuple (k.map kD)
section
variable {X : Cx} {pins : List (Addr × Obj)} {σ : L2.St} {H : Hp} {s : Shared} {K : PySem.W.Frag}
theorem dpK : ∀ k : L2.Key, Dp K H (kV k) (kD k)
  | .inl i => .int i
  | .inr x => .str x
theorem dpKs : ∀ k : List L2.Key, DpAll K H (k.map kV) (k.map kD)
  | [] => .nil
  | k :: r => .cons (dpK k) (dpKs r)
theorem dpKey {q : Addr} {k : List L2.Key} (h : H q = some (.tup (k.map kV))) : Dp K H (.ref q) (keyD k) := .tup (SqT.of h) (dpKs k)
/-- the entries of a dict with tuple keys -/
theorem dtE {d : Addr} {kvs : List (List L2.Key × V)} (I : Inv X pins σ H s) (h : Rd H d (.dT kvs)) :
    (d == sysModules) = false ∧ kvs.length ≤ sizeLine ∧ ∃ (o : Obj) (es : Array DictEntry) (ep : Nat), s.heap.get? d = some o ∧ o.ExactDict ∧ o.data = .dict es ep ∧ es.size = kvs.length ∧
      ∀ (i : Nat) (hi : i < es.size) (k : List L2.Key) (v : V), kvs[i]? = some (k, v) → ∃ (q : Addr), es[i].key = .ref q ∧ H q = some (.tup (k.map kV)) ∧ RelV v es[i].val := by
  obtain ⟨z, hs, xs, pr, o, es, ep, ho, hx, hdt, he, _⟩ : ObjOk X.prog X.w H s.heap d (.dT kvs) := h.ok I.hok
  refine ⟨hs, z, o, es, ep, ho, hx, hdt, ?_, fun i hi k v e => ?_⟩
  · have l1 : es.size = xs.length := size_of_entries he
    have l2 : kvs.length = xs.length := Paired.length pr
    omega
  · obtain ⟨b, hb, e1, e2, e3⟩ := paired_get pr e
    have q := entry_at he i
    rw [hb] at q
    have q2 : es[i]? = some (entryOfKey (tupleKind (mixKind X.prog X.w)) b) := q
    rw [Array.getElem?_eq_getElem hi] at q2
    have q3 := Option.some.inj q2
    exact ⟨b.2.1, by rw [q3] <;> rfl, e2, by rw [q3]; exact e3⟩
/-! ### sorted(d): a dict with tuple keys -/
def rSortKT (K : PySem.W.Frag) : List V → Hp → VK → Prop := fun vs H Q => ∃ (a : Addr) (kvs : List (List L2.Key × V)), vs = [V.ref a] ∧ Rd H a (.dT kvs) ∧ (∀ p ∈ kvs, p.1 ≠ []) ∧ AllAlike (kvs.map fun p => keyD p.1) ∧
  ∀ (ys : List V) (p : Addr), DpAll K H ys ((kvs.map fun p => keyD p.1).mergeSort ordD) → H p = none → Q (.ref p) (upd H p (.lst ys))
theorem keyD_depth (k : List L2.Key) : (keyD k).depth ≤ 60 := by
  have h : ∀ l : List L2.Key, PyData.depthAll (l.map kD) = 0 := by
    intro l
    induction l with
    | nil => simp [PyData.depthAll]
    | cons a r ih =>
      rw [List.map_cons, PyData.depthAll, ih]
      cases a <;> simp [kD, PyData.depth]
  unfold keyD
  rw [PyData.depth, h]
  decide
theorem cr_sortKT (hc : X.calm = true) (hu : X.A.units + 65 < cLine) : CallR X (.builtin "sorted") (rSortKT X.K) := by
  intro pins s σ H vs us Q I r h
  obtain ⟨a, kvs, rfl, hd, hne, hal, q⟩ := h
  obtain rfl := Vals.ref1 r
  obtain ⟨lo, hz, o, es, ep, ho, hx, hdt, hsz, ent⟩ := dtE I hd
  refine Calls.call_function_entry PyProof.Rows.kind_sorted PyProof.Rows.plain_sorted PyProof.Rows.entry_sorted (PyProof.Rows.args_sorted1 _) ?_
  unfold Builtin.«sorted»
  refine wpAny_bind (m := checkCount "sorted" 1 1 _) (wpAny_pure ?_)
  refine wpAny_bind (PySem.W.kdu_collect (A := X.A.in1) (PySem.KdlSrc.rawDict (es := es) (ep := ep) lo) (I.ok.hd hc) ⟨o, ho, hx, hdt⟩ (by rw [hsz]; exact hz) fun h' tk acc hk hacc => ?_)
  have I1 : Inv X pins σ H { s with heap := h', toks := tk } := I.kept hk
  have e : EachIs (Std X.K H) acc.toList (kvs.map fun p => keyD p.1) := by
    refine each_ix (by rw [Array.length_toList, hacc.1, hsz, List.length_map]) fun i v d e1 e2 => ?_
    obtain ⟨hi, ev⟩ := hacc.2 i v (by rw [← Array.getElem?_toList]; exact e1)
    rw [List.getElem?_map] at e2
    obtain ⟨⟨k, y⟩, hk2, e3⟩ := Option.map_eq_some_iff.mp e2
    obtain ⟨q, hq1, hq2, _⟩ := ent i hi k y hk2
    rw [ev, hq1, ← e3]
    exact ⟨.ref q, rfl, dpKey hq2⟩
  exact sort_tail (A := X.A.in1) (hu := by show X.A.units + 1 + 64 < cLine; omega) I1 e hal (.inl fun d hm => by
    obtain ⟨p, hp, rfl⟩ := List.mem_map.mp hm
    have hn := hne p hp
    cases e : p.1 with
    | nil => exact absurd e hn
    | cons x r => exact ⟨kD x, r.map kD, by unfold keyD; rw [List.map_cons]⟩) (fun d hm => by
    obtain ⟨p, hp, rfl⟩ := List.mem_map.mp hm
    exact keyD_depth _) (by rw [List.length_map]; exact hz) q
end
end So
/-! own rules: dicts with tuple keys, further -/
namespace So
open PySem PySem.Spec PyProof.Rows L2 PySem.W
section
variable {X : Cx} {pins : List (Addr × Obj)} {σ : L2.St} {H : Hp} {s : Shared} {K : PySem.W.Frag}
/-! ### dict(pairs), the keys tuples, no key twice -/
def EntP (H : Hp) (t : Addr) (kv : List L2.Key × V) : Prop := ∃ q, H t = some (.tup [.ref q, kv.2]) ∧ H q = some (.tup (kv.1.map kV))
theorem ent_all (I : Inv X pins σ H s) : ∀ {ts : List Addr} {kvs : List (List L2.Key × V)}, EachIs (EntP H) ts kvs →
    ∃ xs : List (List L2.Key × Addr × Value), KT H kvs xs ∧ xs.map (·.1) = kvs.map (·.1) ∧ xs.length = ts.length ∧ ∀ (j : Nat) (x : List L2.Key × Addr × Value), xs[j]? = some x → ∃ t, ts[j]? = some t ∧ s.heap.IsTuple t #[.ref x.2.1, x.2.2]
  | _, _, .nil => ⟨[], .nil, rfl, rfl, fun j x e => by simp at e⟩
  | t :: ts, kv :: kvs, .cons ⟨q, h1, h2⟩ r => by
    obtain ⟨xs, a1, a2, a3, a4⟩ := ent_all I r
    obtain ⟨its, rv, p, hz⟩ := I.tuple (SqT.of (K := X.K) h1)
    obtain ⟨u1, u2, rfl, r1, r2⟩ := vals2 rv
    obtain rfl : u1 = Value.ref q := r1
    refine ⟨(kv.1, q, u2) :: xs, .cons ⟨rfl, h2, r2⟩ a1, by rw [List.map_cons, List.map_cons, a2], by rw [List.length_cons, List.length_cons, a3], fun j x e => ?_⟩
    cases j with
    | zero =>
      have e' : (kv.1, q, u2) = x := Option.some.inj e
      subst e'
      exact ⟨t, rfl, p⟩
    | succ j => exact a4 j x e
def rDictT (K : PySem.W.Frag) : List V → Hp → VK → Prop := fun vs H Q => ∃ (a : Addr) (ts : List Addr) (kvs : List (List L2.Key × V)), vs = [V.ref a] ∧ SqL K H a (ts.map V.ref) ∧ EachIs (EntP H) ts kvs ∧ (kvs.map (·.1)).Nodup ∧
  ∀ p, H p = none → Q (.ref p) (upd H p (.dT kvs))
theorem cr_dictT (hc : X.calm = true) (hu : X.A.units + 64 < cLine) : CallR X (.type "dict") (rDictT X.K) := by
  intro pins s σ H vs us Q I r h
  obtain ⟨a, ts, kvs, rfl, hs, he, hn, q⟩ := h
  obtain rfl := Vals.ref1 r
  obtain ⟨its, rv, pl, hz⟩ := I.list hs
  obtain ⟨xs, hKT, hkeys, hlen, hent⟩ := ent_all I he
  have hits : its = ts.map Value.ref := refs_at rv
  rw [List.length_map] at hz
  have hnx : (xs.map (·.1)).Nodup := by
    rw [hkeys]
    exact hn
  have hkl : kvs.length = xs.length := Paired.length hKT
  have pitems : PairItems s.heap its.toArray (fun j => ts.getD j 0) (xs.map fun x => (Value.ref x.2.1, x.2.2)) := by
    refine ⟨by rw [List.size_toArray, hits, List.length_map, List.length_map, hlen], fun j k v e => ?_⟩
    rw [List.getElem?_map] at e
    obtain ⟨x, hx, e2⟩ := Option.map_eq_some_iff.mp e
    obtain ⟨t, ht, hp⟩ := hent j x hx
    cases e2
    have e3 : ts.getD j 0 = t := by rw [List.getD_eq_getElem?_getD, ht] <;> rfl
    refine ⟨?_, ?_⟩
    · show its.toArray[j]? = some (Value.ref (ts.getD j 0))
      rw [e3, hits]
      simp [ht]
    · show PairAt s.heap (ts.getD j 0) (Value.ref x.2.1) x.2.2
      rw [e3]
      exact .inl hp
  have key : ∀ x ∈ xs, (tupleKind (mixKind X.prog X.w)).is s.heap x.1 x.2.1 := by
    have all : ∀ {l : List (List L2.Key × V)} {m : List (List L2.Key × Addr × Value)}, KT H l m → ∀ x ∈ m, (tupleKind (mixKind X.prog X.w)).is s.heap x.1 x.2.1 := by
      intro l m z
      induction z with
      | nil => intro x hx; cases hx
      | @cons p q ps qs hq t ih =>
        intro x hx
        rcases List.mem_cons.mp hx with e | hx
        · rw [e]
          exact key_of I.hok (by rw [← hq.1]; exact hq.2.1)
        · exact ih x hx
    exact all hKT
  have hlen2 : (xs.map fun x => (Value.ref x.2.1, x.2.2)).length ≤ sizeLine := by
    rw [List.length_map, hlen]
    exact hz
  refine call_dict_pairsH (knd := tupleKind (mixKind X.prog X.w)) (ps := xs) (PairArg.list a its.toArray (fun j => ts.getD j 0) (xs.map fun x => (Value.ref x.2.1, x.2.2))) (I.ok.hd hc)
    (by show X.A.units + 1 + 1 < cLine; omega) ⟨(let ⟨o, n, h1, h2, h3, h4⟩ := pl; ⟨o, n, h1, h2, h3, h4⟩), pitems⟩ ⟨by rw [List.length_map], fun i key v e => ?_⟩ (fun h' hk x hx => ?_) hlen2 fun h' tk hd' hk => ?_
  · have e' : (xs.map fun x => (Value.ref x.2.1, x.2.2))[i]? = some (key, v) := e
    rw [List.getElem?_map] at e'
    obtain ⟨x, hx, e2⟩ := Option.map_eq_some_iff.mp e'
    cases e2
    exact ⟨x.1, x.2.1, hx, rfl⟩
  · exact tupleKind_stays.stays (fun b o vs n e _ => hk b o (Nat.ne_of_lt (Heap.lt_size e)) (by simp) e) (key x hx)
  · rw [storedAllH_nil_of_nodup xs hnx] at hd'
    have hm : (s.heap.objs.size == sysModules) = false := beq_eq_false_iff_ne.mpr (Nat.ne_of_gt I.big)
    have kp : ∀ b o, s.heap.get? b = some o → h'.get? b = some o := fun b o e => hk b o (by simp) e
    have hnone := I.hok.fresh (Nat.le_refl s.heap.objs.size)
    obtain ⟨o', es, ep, d1, d2, d3, d4, d5, d6⟩ := hd'
    refine ⟨.ref s.heap.objs.size, upd H s.heap.objs.size (.dT kvs), I.laid (t' := tk) kp (Nat.le_refl _) (show ObjOk X.prog X.w _ _ _ (.dT kvs) from
      ⟨by rw [hkl, hlen]; exact hz, hm, xs, KT.keeps hKT (fun b ys e => by rw [upd_ne (ne_of_none e hnone)]; exact e), o', es, ep, d1, d2, d3, d4, hnx⟩), rfl, q _ hnone⟩
/-! ### {k: v}, the key a tuple -/
def tDisp1 (tk tv : TE) : TE := fun σ H Q => ∀ p, H p = none → tk σ (upd H p (.dT [])) fun x H1 => tv σ H1 fun y H2 => H2 p = some (.dT []) ∧ ∃ b k, x = .ref b ∧ H2 b = some (.tup (k.map kV)) ∧ Q (.ref p) (upd H2 p (.dT [(k, y)]))
theorem pe_disp1 {k v : Expr} {pos : Pos} {tk tv : TE} (hu : X.A.units + 64 < cLine) (hk : PE X k tk) (hv : PE X v tv) : PE X (.Dict [some k] [v] pos) (tDisp1 tk tv) := by
  refine ⟨fun pins s σ H Q I h => ?_⟩
  have hn := I.hok.fresh (Nat.le_refl s.heap.objs.size)
  have I1 := I.laid (a := s.heap.objs.size) (o := .dT []) (h' := s.heap.push { cls := .type "dict", data := .dict #[] }) (t' := s.toks) (fun _ _ q => Heap.get?_push_of_some _ q) (Nat.le_refl _) (dt_empty s.heap I.big)
  have hl1 : (pairTrees [some k] [v] X.env pos).length = 1 := pairTrees_length [some k] [v] X.env pos rfl rfl
  rw [arm_eval_Dict, zip_pairTrees [some k] [v] X.env pos rfl rfl, dictDisplay_pairs (pairTrees [some k] [v] X.env pos) (by rw [← List.length_pos_iff, hl1]; decide) (by rw [hl1]; decide)]
  refine wpAny_bind (wpAny_standAt (wpAny_bind (wpAny_subDictH (knd := tupleKind (mixKind X.prog X.w)) (by show X.A.units < cLine; omega) (by rw [hl1]; decide) ?_)))
  refine pairTrees_cons_walk (thn (hk.run pins _ σ _ _ I1 (h _ hn)) fun u1 s1 ⟨x, H1, J1, r1, q1⟩ => thn (hv.run pins s1 σ H1 _ J1 q1) fun u2 s2 ⟨y, H2, J2, r2, hp, b, kk, ex, hb, q2⟩ => pairTrees_nil_walk ?_)
  subst ex
  obtain rfl : u1 = Value.ref b := r1
  obtain ⟨z, hd, xs0, rel0, dd⟩ := dt_of J2.hok hp
  cases rel0
  have hkey : (tupleKind (mixKind X.prog X.w)).is s2.heap kk b := key_of J2.hok hb
  refine ⟨[(kk, b, u2)], ⟨rfl, rfl, hkey, trivial⟩, dd, fun h' tk dk hs => wpAny_pure ?_⟩
  rw [storedAllH_nil_of_nodup _ (by simp)] at dk
  obtain ⟨o', es, ep, d1, d2, d3, d4, d5, d6⟩ := dk
  have hne : b ≠ s.heap.objs.size := ne_of hb hp (fun z => nomatch z)
  refine ⟨.ref s.heap.objs.size, _, d_write J2 (by rw [hp]; exact True.intro) hs ⟨o', d1⟩ (show ObjOk X.prog X.w _ _ _ (.dT [(kk, y)]) from ⟨by show 1 ≤ sizeLine; decide, hd, [(kk, b, u2)], .cons ⟨rfl, by rw [upd_ne hne]; exact hb, r2⟩ .nil, o', es, ep, d1, d2, d3, d4, d6⟩), rfl, q2⟩
end
end So
/-! own rules: max(d.values()), enumerate(tuple), min of data -/
namespace So
open PySem PySem.Spec PyProof.Rows L2 PySem.W
section
variable {X : Cx}
/-! ### max(d.values()), d a dict with tuple keys, its values ints -/
def tMaxVals (td : TE) : TE := fun σ H Q => td σ H fun x H1 => ∃ a kvs is, x = V.ref a ∧ Rd H1 a (.dT kvs) ∧ kvs.map (·.2) = is.map V.int ∧ is ≠ [] ∧ ∀ m, m ∈ is → (∀ j ∈ is, j ≤ m) → Q (.int m) H1
theorem pe_maxVals {o : Expr} {p pos apos mpos : Pos} {td : TE} (hc : X.calm = true) (hg : Gl X "max") (hm : X.mg "max" = none) (hd : PE X o td) (hbase : attributeBase o "values" X.env (eval o X.env) = eval o X.env := by rfl) (hline : (apos.endLine == mpos.line) = true := by rfl)
    (hse : starEach [Expr.Call (.Attribute o "values" apos) [] [] mpos] X.env = [(false, eval (Expr.Call (.Attribute o "values" apos) [] [] mpos) X.env)] := by rfl) :
    PE X (.Call (.Name "max" p) [.Call (.Attribute o "values" apos) [] [] mpos] [] pos) (tMaxVals td) := by
  refine ⟨fun pins s σ H Q I h => ?_⟩
  refine wpAny_Call_Name_kw (ld_blt I hg hm (u := .builtin "max") (by first | rfl | decide +kernel) ?_ (by first | decide +kernel | decide) (by first | decide +kernel | decide))
  rw [hse]
  refine PySem.callWith_builtin1 (wpAny_Call_method0_late hbase hline (thn (hd.run pins s σ H _ I h) fun v s1 ⟨x, H1, I1, r1, a, kvs, is, ex, ha, hv, hne, q⟩ => ?_))
  subst ex
  obtain rfl : v = Value.ref a := r1
  obtain ⟨hsys, hz, ob, es, ep, ho, hx, hdt, hsz, ent⟩ := dtE I1 ha
  have hm1 : s1.heap.DictRaw a es ep := ⟨ob, ho, hx, hdt⟩
  refine ⟨"dict", "dict.values", F.plainAttrs_dict, F.slot_dict_values, F.type_dict_values, hm1.typeIs, fun b e => ?_, Calls.callWith_builtin rfl (PySem.evalArgs_none ?_)⟩
  · cases e
    exact ⟨ob, ho, hx.2.1⟩
  refine call_meetsIn F.slot_dict_values hm1.typeIs F.entry_dict_values (F.args_dict_values_1 _) (meets_dict_values_raw a hsys) ⟨⟨es, ep, hm1⟩, ?_⟩
  have hm2 : (s1.heap.push { cls := .type "dict_values", data := .fields #[.ref a] }).DictRaw a es ep := hm1.push _
  have hlv : es.size = is.length := by
    have e1 := congrArg List.length hv
    rw [List.length_map, List.length_map] at e1
    rw [hsz, e1]
  have hlen : 0 < es.size := by
    rw [hlv]
    exact List.length_pos_iff.mpr hne
  have hval : ∀ (i : Nat) (v : Value), (∃ hi : i < es.size, v = es[i].val) → ∃ t, v = Value.int (is.getD i 0) t := fun i v ⟨hi, ev⟩ => by
    have hik : i < kvs.length := by rw [← hsz]; exact hi
    obtain ⟨q, _, _, rv⟩ := ent i hi kvs[i].1 kvs[i].2 (by rw [List.getElem?_eq_getElem hik])
    have e1 : (kvs.map (·.2))[i]? = some kvs[i].2 := by rw [List.getElem?_map, List.getElem?_eq_getElem hik] <;> rfl
    rw [hv, List.getElem?_map] at e1
    obtain ⟨j, hj, e2⟩ := Option.map_eq_some_iff.mp e1
    rw [← e2] at rv
    obtain ⟨t, e3⟩ := rv
    refine ⟨t, ?_⟩
    rw [ev, e3, List.getD_eq_getElem?_getD, hj] <;> rfl
  refine call_max_walk (wpAny_pyIter_values_raw (v := s1.heap.objs.size) (d := a) (es := es) (ep := ep) ⟨_, Heap.get?_push_size _ rfl, rfl, rfl⟩ hm2 ?_)
  have hlt : a < s1.heap.objs.size := Heap.lt_size ho
  have hsz1 : (s1.heap.push { cls := .type "dict_values", data := .fields #[.ref a] }).objs.size = s1.heap.objs.size + 1 := Heap.size_push _ _
  refine ⟨_, _, _, _, _, _, _, rfl, Walks.rawValues (A := X.A.in1) (I.ok.hd hc) (s1.heap.push { cls := .type "dict_values", data := .fields #[.ref a] }).objs.size a (by rw [hsz1]; exact Nat.ne_of_lt (Nat.lt_succ_of_lt hlt)) es ep,
    ⟨⟨_, Heap.get?_push_size _ rfl, rfl, rfl⟩, hm2.push _⟩, fun b hb => ?_, hlen, CmpOf.ints_gt (fun i => is.getD i 0) hval, fun v h' tk hP hk => ?_⟩
  · show b < ((s1.heap.push _).push _).objs.size
    rw [Heap.size_push, Heap.size_push]
    rw [hsz1] at hb
    rcases List.mem_cons.mp hb with e | hb
    · rw [e]
      exact Nat.lt_succ_self _
    · have e : b = a := List.mem_singleton.mp hb
      rw [e]
      exact Nat.lt_succ_of_lt (Nat.lt_succ_of_lt hlt)
  · obtain ⟨t, rfl⟩ := hval _ v hP
    obtain ⟨b1, b2⟩ := argBest_gt (fun i => is.getD i 0) (es.size - 1)
    refine ⟨.int _, H1, I1.kept (t' := tk) fun b u e => hk b u (fun hmem => ?_) (Heap.get?_push_of_some _ (Heap.get?_push_of_some _ e)), ⟨t, rfl⟩, q _ ?_ fun j hj => ?_⟩
    · have e1 : b = (s1.heap.push { cls := .type "dict_values", data := .fields #[.ref a] }).objs.size := List.mem_singleton.mp hmem
      have e2 := Heap.lt_size e
      rw [hsz1] at e1
      rw [e1] at e2
      exact absurd e2 (Nat.not_lt.mpr (Nat.le_succ _))
    · have hb : argBest (fun i j => decide (is.getD i 0 > is.getD j 0)) (es.size - 1) < is.length := by omega
      rw [List.getD_eq_getElem?_getD, List.getElem?_eq_getElem hb]
      exact List.getElem_mem hb
    · obtain ⟨i, hi, e⟩ := List.mem_iff_getElem.mp hj
      have e2 : is.getD i 0 = j := by rw [List.getD_eq_getElem?_getD, List.getElem?_eq_getElem hi, ← e] <;> rfl
      rw [← e2]
      exact b2 i (by omega)
/-! ### min(xs), the items alike data -/
def rMinD (K : PySem.W.Frag) : List V → Hp → VK → Prop := fun vs H Q => ∃ (a : Addr) (xs : List V) (d : PyData) (ds : List PyData), vs = [V.ref a] ∧ SqL K H a xs ∧ DpAll K H xs (d :: ds) ∧ AlikeAll (d :: ds) ∧ PyData.depthAll (d :: ds) ≤ 60 ∧
  ∀ (y : V), Dp K H y (minD d ds) → Q y H
theorem dpAt {K : PySem.W.Frag} {H : Hp} : ∀ {xs : List V} {ds : List PyData}, DpAll K H xs ds → ∀ (i : Nat) (x : V), xs[i]? = some x → ∃ d, ds[i]? = some d ∧ Dp K H x d
  | [], [], _, i, x, e => by simp at e
  | y :: ys, d :: ds, h, i, x, e => by
    cases h with
    | cons h1 h2 =>
      cases i with
      | zero =>
        have e' : y = x := Option.some.inj e
        rw [← e']
        exact ⟨d, rfl, h1⟩
      | succ i => exact dpAt h2 i x e
  | [], _ :: _, h, _, _, _ => by cases h
  | _ :: _, [], h, _, _, _ => by cases h
theorem cr_minD (hc : X.calm = true) (hu : X.A.units + 64 < cLine) : CallR X (.builtin "min") (rMinD X.K) := by
  intro pins s σ H vs us Q I r h
  obtain ⟨a, xs, d, ds, rfl, hs, hd, hal, hdep, q⟩ := h
  obtain rfl := Vals.ref1 r
  obtain ⟨its, rv, hl, hz⟩ := I.list hs
  obtain ⟨as, hr⟩ := Dp.readsAll I (d :: ds) xs its hd rv
  refine min_list_data (I.ok.hd hc) hl.isList (x := d) (xs := ds) (as := as) hr hal (by omega) fun i v h' tk bs hv hm hk => ?_
  have I1 : Inv X pins σ H { s with heap := h', toks := tk } := I.kept hk
  have hv2 : its[i]? = some v := by simpa using hv
  have hxi : i < xs.length := by
    rw [rv.length]
    exact (List.getElem?_eq_some_iff.mp hv2).1
  obtain ⟨u, hu2, ru⟩ := rv.get (List.getElem?_eq_getElem hxi)
  rw [hv2] at hu2
  obtain rfl : v = u := Option.some.inj hu2
  obtain ⟨e, he, hde⟩ := dpAt hd i xs[i] (List.getElem?_eq_getElem hxi)
  obtain ⟨as2, hr2⟩ := Dp.reads I1 e xs[i] v hde ru
  have hmem : minD d ds ∈ d :: ds := by
    have gen : ∀ (l : List PyData) (x : PyData), minD x l ∈ x :: l := by
      intro l
      induction l with
      | nil => intro x; exact List.mem_cons_self
      | cons y l ih =>
        intro x
        have z : minD x (y :: l) = minD (if dataLt y x then y else x) l := rfl
        rw [z]
        split
        · exact List.mem_cons_of_mem _ (ih y)
        · rcases List.mem_cons.mp (ih x) with w | w
          · rw [w]
            exact List.mem_cons_self
          · exact List.mem_cons_of_mem _ (List.mem_cons_of_mem _ w)
    exact gen ds d
  have ee : e = minD d ds := alike_unique _ _ _ _ _ (hal.1 e (List.mem_of_getElem? he) _ hmem) hr2 hm
  exact ⟨xs[i], H, I1, ru, q _ (by rw [← ee]; exact hde)⟩
end
end So
/-! own rules: enumerate(tuple) -/
namespace So
open PySem PySem.Spec PyProof.Rows L2 PySem.W
open AutoSeq1 (wpAny_loadPart')
theorem enumNewT (l : Addr) (items : Array Value) (n : Nat) (dct : Option Addr) (sl : Array (Option Value)) :
    Meets (Builtin.«enumerate.__new__» ⟨[.type "enumerate", .ref l], []⟩) (fun _ R s => s.heap.get? l = some { cls := .type "tuple", dict := dct, data := .seq items n, slots := sl } ∧
      R (.ok (.ret (.ref (s.heap.push { cls := .type "tuple_iterator", data := .fields #[.ref l, .int 0 0] }).objs.size)))
        { s with heap := (s.heap.push { cls := .type "tuple_iterator", data := .fields #[.ref l, .int 0 0] }).push { cls := .type "enumerate", data := .fields #[.none, .bool false, .ref s.heap.objs.size, rawInt 0, .none, .none] } }) :=
  .of_wp fun prog w A R s h => by
    obtain ⟨hp, g, d, tk, os⟩ := s; obtain ⟨hl, h⟩ := h
    have hsub := sub_enumerate
    have hT : Heap.IsTuple (Shared.heap ⟨hp, g, d, tk, os⟩) l items := ⟨_, hl, rfl, n, rfl⟩
    wp_walk using wpAny_loadPart' hl
    refine wpAny_stack_any fun st => wpAny_pure ?_
    split
    · rename_i c _ _ _ _ _
      cases (c == Value.type "enumerate")
      · wp_walk using wpAny_loadPart' hl, wpAny_pyIter_tuple hT
        exact ⟨_, rfl, h⟩
      · wp_walk using wpAny_loadPart' hl, wpAny_pyIter_tuple hT
        exact ⟨_, rfl, h⟩
    · wp_walk using wpAny_loadPart' hl, wpAny_pyIter_tuple hT
      exact ⟨_, rfl, h⟩
theorem call_enumT {prog : Program} {w : World} {A : Around} {E : Value → Shared → Prop} {s : Shared} {l : Addr} {items : Array Value} {Q : Value → Shared → Prop} (hL : s.heap.IsTuple l items)
    (h : ∀ h', IsEnum h' (s.heap.objs.size + 1) s.heap.objs.size 0 .none → h'.IsTupleIter s.heap.objs.size l 0 → h'.objs.size = s.heap.objs.size + 2 →
      (∀ b o, s.heap.get? b = some o → h'.get? b = some o) → Q (.ref (s.heap.objs.size + 1)) { s with heap := h' }) :
    wpAny (model prog w) A (call (.type "enumerate") [.ref l]) Q E s := by
  obtain ⟨⟨c, dct, dt, sl⟩, hl, hc, n, hd⟩ := hL
  replace hc : c = .type "tuple" := hc
  replace hd : dt = .seq items n := hd
  subst hc hd
  refine callType_new F.called_enumerate (by decide) (F.typeCall_enumerate_1 _) (F.newCall_enumerate_1 _) (fun obj => F.args_object_init_2 obj _) F.entry_enumerate_new
    (enumNewT l items n dct sl) ⟨hl, ?_⟩
  have hz : (s.heap.push { cls := .type "tuple_iterator", data := .fields #[.ref l, .int 0 0] }).objs.size = s.heap.objs.size + 1 := Heap.size_push ..
  show _ ∧ _
  rw [hz]
  have he : IsEnum ((s.heap.push { cls := .type "tuple_iterator", data := .fields #[.ref l, .int 0 0] }).push { cls := .type "enumerate", data := .fields #[.none, .bool false, .ref s.heap.objs.size, rawInt 0, .none, .none] }) (s.heap.objs.size + 1) s.heap.objs.size 0 .none := by
    have q := Heap.get?_push_size (s.heap.push { cls := .type "tuple_iterator", data := .fields #[.ref l, .int 0 0] }) (o := { cls := .type "enumerate", data := .fields #[.none, .bool false, .ref s.heap.objs.size, rawInt 0, .none, .none] }) rfl
    rw [hz] at q
    exact q
  exact ⟨⟨_, he, rfl⟩, h _ he ⟨_, Heap.get?_push_of_some _ (Heap.get?_push_size _ rfl), rfl, rfl⟩ (by rw [Heap.size_push, hz]) fun b o x => Heap.get?_push_of_some _ (Heap.get?_push_of_some _ x)⟩
def IteT (K : PySem.W.Frag) (a : Addr) : It :=
  ⟨fun i H => ∃ (xs : List V) (x : V), SqT K H a xs ∧ xs[i]? = some x, fun i H v H' => ∃ T x, v = .ref T ∧ H T = none ∧ H' = upd H T (.tup [.int (i : Nat), x]) ∧ ∀ xs, SqT K H a xs → xs[i]? = some x, fun i H => ∃ xs : List V, SqT K H a xs ∧ xs.length = i⟩
theorem turn_enumT {P : Program} {w : World} {K : PySem.W.Frag} {elts : List Expr} {kk : Nat} {tpos : Pos} (a e it : Addr) :
    Turn P w K (.Tuple elts kk tpos) (IteT K a) [e, it] e (fun i h => (∃ old, IsEnum h e it ((i : Nat) : Int) old) ∧ h.IsTupleIter it a i ∧ e ≠ it ∧ a ≠ it) where
  mem := by simp
  obj := fun i h st b hb => by
    obtain ⟨⟨old, he⟩, ⟨o, ho, hc, hd⟩, _⟩ := st
    rcases (show b = e ∨ b = it by simpa using hb) with z | z
    · rw [z]; exact ⟨_, he, fun v q => nomatch q⟩
    · rw [z]; exact ⟨o, ho, fun v q => by rw [hd] at q; cases q⟩
  keep := fun i h h' st k => let ⟨⟨old, he⟩, hi, hne⟩ := st; ⟨⟨old, k e (by simp) _ he⟩, hi.at fun o q => k it (by simp) o q, hne⟩
  item := by
    intro X hP hw hK hc i pins s σ H E I hf st hg
    subst hP hw hK
    obtain ⟨⟨old, he⟩, hit, hne, hai⟩ := st
    obtain ⟨xs, x, hq, hx⟩ := hg
    obtain ⟨its, rv, p, hz⟩ := I.tuple hq
    obtain ⟨u, hu, ru⟩ := rv.get hx
    have hel : e < s.heap.objs.size := Heap.lt_size he
    have hil : it < s.heap.objs.size := by obtain ⟨_, q, _⟩ := hit; exact Heap.lt_size q
    have hea : e ≠ a := fun z => by
      obtain ⟨o, ho, hc, _⟩ := p
      subst z
      have he' := he
      unfold IsEnum at he'
      rw [ho] at he'
      have e2 := Option.some.inj he'
      rw [e2] at hc
      injection hc with hc2
      exact absurd hc2 (by decide)
    have hi : i < its.toArray.size := by
      rw [List.size_toArray]
      exact (List.getElem?_eq_some_iff.mp hu).1
    refine wpAny_pyNext_enum_itemD (Draws.tuple (A := X.A.in1) (I.ok.hd hc) it a hai its.toArray) he ⟨hit, p⟩ hi hne (by simp [hne, hea]) fun y h' tk hP ho hst hT hsz hk => ?_
    have ey : y = u := by
      have hP' : its.toArray[i]? = some y := hP
      have hu' : its.toArray[i]? = some u := by simpa using hu
      rw [hP'] at hu'
      exact Option.some.inj hu'
    subst ey
    refine ⟨_, rfl, wpAny_letOwnedTupleGo_enum (s := { s with heap := h', toks := tk + 1 }) ho fun h'' he' sb => ?_⟩
    have hT2 : h''.get? s.heap.objs.size = some { cls := .type "tuple", data := .seq #[.int i tk, y] } := (sb.2 _ (Nat.ne_of_gt hel)).trans hT
    have new : ObjOk X.prog X.w (upd H s.heap.objs.size (.tup [.int (i : Nat), x])) h'' s.heap.objs.size (.tup [.int (i : Nat), x]) :=
      ⟨by show 2 ≤ sizeLine; decide, [.int i tk, y], .cons ⟨_, rfl⟩ (.cons ru .nil), ⟨_, hT2, rfl, _, rfl⟩⟩
    have I1 : Inv X pins σ (upd H s.heap.objs.size (.tup [.int (i : Nat), x])) { s with heap := h'', toks := tk + 1 } :=
      I.turnedNew (ch := [e, it]) (fun b ob hb q => (sb.2 b (fun z => hb (by simp [z]))).trans (hk b ob (fun z => hb (by simp [z])) (fun z => hb (by simp [z])) q)) hf (Nat.le_refl _) new
    refine ⟨.ref s.heap.objs.size, _, I1, rfl, ⟨_, x, rfl, I.hok.fresh (Nat.le_refl _), rfl, fun ys hy => by rw [I.tuple_inj hy hq]; exact hx⟩, ⟨⟨y, ?_⟩, hst.1.at fun o q => (sb.2 it (Ne.symm hne)).trans q, hne, hai⟩, fun b hb => ?_⟩
    · have e1 : ((i + 1 : Nat) : Int) = (i : Int) + 1 := by omega
      rw [e1]; exact he'
    · have hb' : b < s.heap.objs.size := by
        rcases (show b = e ∨ b = it by simpa using hb) with z | z
        · rw [z]; exact hel
        · rw [z]; exact hil
      rw [upd_ne (Nat.ne_of_lt hb')]
      exact (hf b hb).1
  done := by
    intro X hP hw hK hc i pins s σ H E I hf st hg
    subst hP hw hK
    obtain ⟨⟨old, he⟩, hit, hne, hai⟩ := st
    obtain ⟨xs, hq, hx⟩ := hg
    obtain ⟨its, rv, p, hz⟩ := I.tuple hq
    obtain ⟨f0, f1, f2, f3, f4, f5⟩ := hf it (by simp)
    have hl := rv.length
    have hn : its.toArray.size = i := by
      rw [List.size_toArray]
      omega
    subst hn
    exact wpAny_pyNext_enum_endD (Draws.tuple (A := X.A.in1) (I.ok.hd hc) it a hai its.toArray) he ⟨hit, p⟩ fun h' eb => ⟨rfl, I.turned (t' := s.toks) (fun b o hb q => eb b o hb q) f0 f1 f3 f4 f5⟩
  self := fun A i s Q E st h => let ⟨⟨_, he⟩, _⟩ := st; wpAny_pyIter_enum he h
def iEnumT (K : PySem.W.Frag) (ta : TA) : TI := fun σ H R => ta σ H fun vs H1 => ∃ a xs, vs = [.ref a] ∧ SqT K H1 a xs ∧ R (IteT K a) H1
theorem pi_enumT {X : Cx} {e : Expr} {ta : TA} {p pos tpos : Pos} {elts : List Expr} {kk : Nat} (hg : Gl X "enumerate") (hm : X.mg "enumerate" = none) (ha : PA X [e] ta) (hs : starEach [e] X.env = [(false, eval e X.env)] := by rfl) :
    PI X (.Tuple elts kk tpos) (.Call (.Name "enumerate" p) [e] [] pos) (iEnumT X.K ta) := by
  refine ⟨fun pins s σ H R I h => ?_⟩
  refine Call_ (ld_blt I hg hm boot_enumerate (PyProof.Rows.callWith_type1 (thn (ha.run pos pins s σ H _ I h) fun us s1 ⟨vs, H1, I1, r1, q1⟩ => ?_) hs rfl))
  obtain ⟨a, xs, ex, hq, q⟩ := q1
  subst ex
  cases r1 with
  | cons r rr =>
    cases rr
    cases r
    obtain ⟨its, rv, p', hz⟩ := I1.tuple hq
    have hal : a < s1.heap.objs.size := p'.lt
    refine call_enumT p' fun h' he hit hsz hk => wpAny_pyIter_enum he ?_
    have I2 : Inv X pins σ H1 { s1 with heap := h' } := I1.kept (t' := s1.toks) hk
    refine ⟨s1.heap.objs.size + 1, [s1.heap.objs.size + 1, s1.heap.objs.size], _, _, H1, rfl, I2, turn_enumT a (s1.heap.objs.size + 1) s1.heap.objs.size, ⟨⟨.none, he⟩, hit, Nat.succ_ne_self _, Nat.ne_of_lt hal⟩, fun b hb => ?_, q⟩
    have hle : s1.heap.objs.size ≤ b := by
      rcases (show b = s1.heap.objs.size + 1 ∨ b = s1.heap.objs.size by simpa using hb) with z | z
      · rw [z]; exact Nat.le_add_right _ _
      · rw [z]; exact Nat.le_refl _
    exact I1.fpOk hle (I1.hok.fresh hle)
theorem walk_enumT {K : PySem.W.Frag} {a : Addr} {xs : List V} : Walk (IteT K a) xs.length (fun H => SqT K H a xs) (YPair (fun i => some (.int (i : Nat))) (fun i => xs[i]?)) where
  goes := fun i H hi h => ⟨xs, xs[i], h, List.getElem?_eq_getElem hi⟩
  stops := fun H h => ⟨xs, h, rfl⟩
  yields := fun i H v H' hi h y => by
    obtain ⟨T, x, e1, e2, e3, e4⟩ := y
    exact ⟨T, .int (i : Nat), x, e1, e2, e3, rfl, e4 xs h⟩
theorem walk_itemsT {d : Addr} {o : Obj} {kvs : List (List L2.Key × V)} : Walk (ItiT d o kvs) kvs.length (fun H => H d = some (.frz o (.dT kvs))) (fun i H x H' => ∃ T k v q, kvs[i]? = some (k, v) ∧ x = .ref T ∧ H T = none ∧ H q = some (.tup (k.map kV)) ∧ H' = upd H T (.tup [.ref q, v])) where
  goes := fun i H hi h => ⟨h, hi⟩
  stops := fun H h => ⟨h, Nat.le_refl _⟩
  yields := fun i H v H' hi h y => y
theorem walk_valsT {d : Addr} {o : Obj} {kvs : List (List L2.Key × V)} : Walk (ItdT d o kvs) kvs.length (fun H => H d = some (.frz o (.dT kvs))) (fun i H x H' => H' = H ∧ ∃ k, kvs[i]? = some (k, x)) where
  goes := fun i H hi h => ⟨h, hi⟩
  stops := fun H h => ⟨h, Nat.le_refl _⟩
  yields := fun i H v H' hi h y => y
end So
/-! own rules: set(xs) of ints, sorted after; several names at once -/
namespace So
open PySem PySem.Spec PyProof.Rows L2 PySem.W
section
variable {P : Program} {w : World} {A : Around} {E : Value → Shared → Prop} {s : Shared}
theorem call_set_lstI {l : Addr} {items : Array Value} (ns : List Int) {Q : Value → Shared → Prop} (hh : A.handled = none) (hl : s.heap.IsList l items) (hit : IntsAre items.toList ns) (hb : ns.length + 1 < scanBound)
    (h : ∀ (h' : Heap) (tk c : Nat), SetR w h' s.heap.objs.size (fun j => decide (j ∈ ns)) c → c ≤ ns.length → (∀ b o, s.heap.get? b = some o → h'.get? b = some o) → Q (.ref s.heap.objs.size) { s with heap := h', toks := tk }) :
    wpAny (model P w) A (call (.type "set") [.ref l]) Q E s := by
  have hisz : items.size = ns.length := by
    have q := IntsAre.length hit
    rw [Array.length_toList] at q
    exact q
  obtain ⟨c, tl, hmro⟩ := F.called_set.mro
  have hmade := F.called_set.made
  have hsub := F.called_set.sub
  refine wpAny_call (codeAny_of_tree ?_)
  show wpAny _ _ (callAny (.type "set") _) _ _ _
  refine wpAny_pure ⟨Code.quiet_builtin _ (by decide +kernel), codeAny_builtin F.entry_type_call ?_⟩
  rw [Around.under_plain (weight_type_call_type "set" [.ref l] []) rfl]
  have h1 := F.called_set.notType
  have h2 := F.called_set.canCreate
  have hct := F.typeCall_set_1 (.ref l)
  repeat (any_goals (first | assumption | wp_step))

  refine codeAny_mono (code_set_led1 (.ref l) (E := E) (Q₁ := fun obj s₁ => obj = .ref s.heap.objs.size ∧ s₁ = { s with heap := s.heap.push { cls := .type "set", dict := none, data := .set #[] 0 (.fresh 0 0 (!w.params.followText "set-order")) } }) ⟨rfl, rfl⟩) fun r s₁ hr => ?_
  cases r with
  | error e => exact hr
  | ok fl =>
    cases fl with
    | ret obj =>
      obtain ⟨rfl, rfl⟩ := hr
      have hS : (s.heap.push { cls := .type "set", dict := none, data := .set #[] 0 (.fresh 0 0 (!w.params.followText "set-order")) }).get? s.heap.objs.size = some { cls := .type "set", dict := none, data := .set #[] 0 (.fresh 0 0 (!w.params.followText "set-order")) } := Heap.get?_push_size _ rfl
      have hT : Shared.TypeIs { s with heap := s.heap.push { cls := .type "set", dict := none, data := .set #[] 0 (.fresh 0 0 (!w.params.followText "set-order")) } } (.ref s.heap.objs.size) "set" := ⟨_, hS, rfl⟩
      have hli := F.called_set.init.lookup
      have hbi := F.called_set.init.bind (.ref s.heap.objs.size)
      repeat (any_goals (first | assumption | wp_step))

      refine codeAny_mono (codeAny_call_builtin (R := wants (fun r s₂ => r = .none ∧ ∃ h' tk c, s₂ = { s with heap := h', toks := tk } ∧ SetR w h' s.heap.objs.size (fun j => decide (j ∈ ns)) c ∧ c ≤ ns.length ∧
          (∀ b o, s.heap.get? b = some o → h'.get? b = some o)) E) F.called_set.init.plain F.entry_set_init (check_set_init_1 hT ?_)) fun r₂ s₂ hr₂ => ?_
      · obtain ⟨ol, hol, hcl, nl, hdl⟩ := hl
        obtain ⟨ocls, odict, odata, oslots⟩ := ol
        simp only at hcl hdl
        subst hcl; subst hdl
        have hol' : (s.heap.push { cls := .type "set", dict := none, data := .set #[] 0 (.fresh 0 0 (!w.params.followText "set-order")) }).get? l = some { cls := .type "list", dict := odict, data := .seq items nl, slots := oslots } := Heap.get?_push_of_some _ hol
        have hsls := F.sub_list_set
        have hslf := F.sub_list_frozenset
        have hne : (Value.type "list" == Value.type "dict") = false := by decide
        have hl1 : (s.heap.push { cls := .type "set", dict := none, data := .set #[] 0 (.fresh 0 0 (!w.params.followText "set-order")) }).IsList l items := ⟨_, hol', rfl, nl, rfl⟩
        unfold Builtin.«set.__init__» noKeywords Builtin.Frozenset.updateFrom
        generalize hPI : pyIter = PI
        wp_walk
        subst hPI

        refine wpAny_pyIter_list hl1 ?_
        refine wpAny_bind (wpAny_runValue ?_)
        have hlS : l < s.heap.objs.size := Heap.lt_size hol
        have hh3 : A.in1.in1.in1.handled = none := by simp [hh]
        have hz1 : (s.heap.push { cls := .type "set", dict := none, data := .set #[] 0 (.fresh 0 0 (!w.params.followText "set-order")) }).objs.size = s.heap.objs.size + 1 := Heap.size_push ..
        have hneI : l ≠ (s.heap.push { cls := .type "set", dict := none, data := .set #[] 0 (.fresh 0 0 (!w.params.followText "set-order")) }).objs.size := by
          rw [Heap.size_push]; exact Nat.ne_of_lt (Nat.lt_succ_of_lt hlS)
        have hSf : s.heap.objs.size ∉ [(s.heap.push { cls := .type "set", dict := none, data := .set #[] 0 (.fresh 0 0 (!w.params.followText "set-order")) }).objs.size, l] := by
          rw [Heap.size_push]; simp only [List.mem_cons, List.mem_singleton, List.not_mem_nil, or_false, not_or]
          exact ⟨Nat.ne_of_lt (Nat.lt_succ_self _), Nat.ne_of_gt hlS⟩
        have hval : ∀ (i : Nat) (v : Value), items[i]? = some v → ∃ k t, ns[i]? = some k ∧ v = .int k t := fun i v hv => by
          have hi : i < ns.length := by rw [← hisz]; exact (Array.getElem?_eq_some_iff.mp hv).1
          obtain ⟨t, e⟩ := PyProof.Rows.IntsAre.int_at hit i v (by rw [Array.getElem?_toList]; exact hv)
          refine ⟨ns[i], t, List.getElem?_eq_getElem hi, ?_⟩
          rw [e, List.getD_eq_getElem?_getD, List.getElem?_eq_getElem hi] <;> rfl
        refine set_update_ints ((Walks.list hh3 _ l hneI items).toS) s.heap.objs.size
          hSf ns hisz hb hval (items.size - 0) 0 _ (by omega) (Nat.zero_le _)
          ⟨⟨_, Heap.get?_push_size _ rfl, rfl, rfl⟩, (hl1.push _)⟩ ?hS0 ?hR
        case hS0 =>
          have hget : ((s.heap.push { cls := .type "set", dict := none, data := .set #[] 0 (.fresh 0 0 (!w.params.followText "set-order")) }).push { cls := .type "list_iterator", data := .fields #[.ref l, .int 0 0] }).get? s.heap.objs.size
              = some { cls := .type "set", dict := none, data := .set #[] 0 (.fresh 0 0 (!w.params.followText "set-order")) } := Heap.get?_push_of_some _ hS
          exact ⟨0, Nat.le_refl 0, setR_new_at hget⟩
        case hR =>
          intro s' c' hm hc' hS'
          obtain ⟨h', g2, d', tk', os'⟩ := s'
          have eg : g2 = s.gens := hm.gens
          have ed : d' = s.drawn := hm.drawn
          have eo : os' = s.os := hm.os
          subst eg; subst ed; subst eo
          show wpAny _ _ _ _ _ _
          refine wpAny_pure ?_
          show wpAny _ _ (ret Value.none) _ _ _
          rw [hisz] at hc'
          refine wpAny_pure ⟨rfl, h', tk', c', rfl, hS', hc', fun b o e => ?_⟩
          have hb0 : b < s.heap.objs.size := Heap.lt_size e
          have hb1 : b ≠ s.heap.objs.size := Nat.ne_of_lt hb0
          have hb2 : b ≠ (s.heap.push { cls := .type "set", dict := none, data := .set #[] 0 (.fresh 0 0 (!w.params.followText "set-order")) }).objs.size := by
            rw [Heap.size_push]; exact Nat.ne_of_lt (Nat.lt_succ_of_lt hb0)
          exact hm.heap b o (by simp only [List.mem_cons, List.mem_singleton, List.not_mem_nil, or_false, not_or]; exact ⟨hb1, hb2⟩) (Heap.get?_push_of_some _ (Heap.get?_push_of_some _ e))

      · cases r₂ with
        | error e => exact hr₂
        | ok fl₂ =>
          cases fl₂ with
          | ret r =>
            obtain ⟨rfl, h', tk, c', rfl, hS', hc', hk'⟩ := hr₂
            repeat (any_goals (first | assumption | wp_step))
            exact h _ _ _ hS' hc' hk'
          | _ => exact hr₂.elim
    | _ => exact hr.elim

end
section
variable {X : Cx}
/-- set(xs), xs a tuple or a list of ints -/
def rSetI (K : PySem.W.Frag) (w : World) : List V → Hp → VK → Prop := fun vs H Q => ∃ (a : Addr) (ns : List Int), vs = [.ref a] ∧ (SqT K H a (ns.map V.int) ∨ SqL K H a (ns.map V.int)) ∧ ns.length ≤ 1000 ∧
  ∀ (p : Addr) (c : Nat), H p = none → c ≤ ns.length → Q (.ref p) (upd H p (SetO w p (fun j => decide (j ∈ ns)) c))
theorem cr_setI (hc : X.calm = true) : CallR X (.type "set") (rSetI X.K X.w) := by
  intro pins s σ H vs us Q I r h
  obtain ⟨a, ns, rfl, hs, hl, q⟩ := h
  obtain rfl := Vals.ref1 r
  have hb : ns.length + 1 < scanBound := by unfold scanBound; omega
  have hn := I.hok.fresh (Nat.le_refl s.heap.objs.size)
  rcases hs with hs | hs
  · obtain ⟨its, rv, pt, hz⟩ := I.tuple hs
    refine call_set_tupI ns (I.ok.hd hc) (show s.heap.IsTuple a its.toArray from pt) (ints_of_vals rv) hb fun h' tk c R1 hcn k => ?_
    exact ⟨.ref s.heap.objs.size, upd H s.heap.objs.size (SetO X.w s.heap.objs.size (fun j => decide (j ∈ ns)) c), I.laid (t' := tk) k (Nat.le_refl _) (setO_new R1), rfl, q _ c hn hcn⟩
  · obtain ⟨its, rv, pl, hz⟩ := I.list hs
    refine call_set_lstI ns (I.ok.hd hc) pl.isList (ints_of_vals rv) hb fun h' tk c R1 hcn k => ?_
    exact ⟨.ref s.heap.objs.size, upd H s.heap.objs.size (SetO X.w s.heap.objs.size (fun j => decide (j ∈ ns)) c), I.laid (t' := tk) k (Nat.le_refl _) (setO_new R1), rfl, q _ c hn hcn⟩
end
end So
/-! own rule: three plain names at once -/
namespace So
open PySem PySem.Spec PyProof.Rows L2 PySem.W
section
variable {X : Cx}
def tPar3 (i j k : Nat) (ta : TA) : TS := fun D σ H => ta σ H fun vs H1 => ∃ v w u, vs = [v, w, u] ∧ D.nx (((σ.set k (some u)).set j (some w)).set i (some v)) H1
theorem ps_par3 {i j k : Nat} {x y z : Str} {a b c : Expr} {ta : TA} {px py pz pt pos : Pos} {kt k2 pt2} (hc : X.calm = true) (hN : X.N.Nodup) (hi : X.N[i]? = some x) (hj : X.N[j]? = some y) (hk : X.N[k]? = some z)
    (hx : X.env.scope.names.lookup x = some .local) (hy : X.env.scope.names.lookup y = some .local) (hz : X.env.scope.names.lookup z = some .local) (ha : PA X [a, b, c] ta)
    (hw : swappedStores [.Tuple [.Name x px, .Name y py, .Name z pz] kt pt] (.Tuple [a, b, c] k2 pt2) X.env = pure (some [x, y, z]))
    (hs : swapsWithSole [.Tuple [.Name x px, .Name y py, .Name z pz] kt pt] (.Tuple [a, b, c] k2 pt2) pos.line X.env = pure false := by rfl) :
    PS X (.Assign [.Tuple [.Name x px, .Name y py, .Name z pz] kt pt] (.Tuple [a, b, c] k2 pt2) pos) (tPar3 i j k ta) := by
  refine ⟨fun pins s σ H D I h => ?_⟩
  rw [exec_Assign_arm]
  refine wpAny_bind (wpAny_standAt ?_)
  rw [hs]
  refine wpAny_bind (wpAny_pure ?_)
  rw [if_neg (by decide)]
  refine wpAny_bind (Tuple_ (thn (ha.run _ pins s σ H _ I h) fun us s1 ⟨vs, H1, I1, r1, q1⟩ => ?_))
  obtain ⟨v, w, u, e1, q1⟩ := q1
  subst e1
  obtain ⟨u1, u2, u3, rfl, rv, rw', ru⟩ : ∃ u1 u2 u3, us = [u1, u2, u3] ∧ RelV v u1 ∧ RelV w u2 ∧ RelV u u3 := by
    cases r1 with
    | cons p q =>
      cases q with
      | cons p' q' =>
        cases q' with
        | cons p'' q'' =>
          cases q''
          exact ⟨_, _, _, rfl, p, p', p''⟩
  refine wpAny_newObj_type ?_ (by show 3 ≤ sizeLine; decide)
  have I2 : Inv X pins σ H1 { s1 with heap := s1.heap.push { cls := .type "tuple", data := .seq [u1, u2, u3].toArray } } := I1.kept (t' := s1.toks) fun b o e => Heap.get?_push_of_some _ e
  rw [hw]
  refine wpAny_bind (wpAny_pure ?_)
  show wpAny (model X.prog X.w) X.A (do rule "assign.swapped-stores"; let items ← unpackItems (.ref s1.heap.objs.size) 3 none; assignInOrder [fun v => bindName X.env z v, fun v => bindName X.env y v, fun v => bindName X.env x v] items.reverse; pure Flow.next) _ _ _
  refine wpAny_bind (wpAny_rule (wpAny_bind (unpackItems_tuple (items := #[u1, u2, u3]) (I.ok.hd hc) (IsTup.new s1.heap _) fun h' hx' => ?_)))
  have I3 := I2.kept (h' := h') (t' := s1.toks) fun b o e => hx' b o (Nat.ne_of_lt (Heap.lt_size e)) e
  show wpAny _ _ (assignInOrder [fun v => bindName X.env z v, fun v => bindName X.env y v, fun v => bindName X.env x v] [u3, u2, u1] >>= fun _ => pure Flow.next) _ _ _
  refine wpAny_bind (assignInOrder_cons (wpAny_bindName (store_ok I3 hN hk (.inl hz) ru (fun s2 I4 => ?_) (.inr hz))))
  refine assignInOrder_cons (wpAny_bindName (store_ok I4 hN hj (.inl hy) rw' (fun s3 I5 => ?_) (.inr hy)))
  refine assignInOrder_cons (wpAny_bindName (store_ok I5 hN hi (.inl hx) rv (fun s4 I6 => assignInOrder_nil (wpAny_pure ?_)) (.inr hx)))
  exact ⟨_, H1, I6, q1⟩
end
end So
/-! heaps that grow, data in them, comprehensions by data -/
namespace So
open PySem PySem.Spec PyProof.Rows L2 PySem.W LamX
section
variable {K : PySem.W.Frag} {T : List (Addr × Str)} {H H' H0 H1 H2 : Hp}
/-- all but the tables stays, and the tables are tables of the same names -/
structure Gr (T : List (Addr × Str)) (H H' : Hp) : Prop where
  ext : ExtN H H'
  tab : Tabs T H → Tabs T H'
theorem Gr.refl : Gr T H H := ⟨ExtN.refl H, id⟩
theorem Gr.trans (a : Gr T H H1) (b : Gr T H1 H2) : Gr T H H2 := ⟨a.ext.trans b.ext, fun t => b.tab (a.tab t)⟩
theorem Gr.of (e : Same H H') : Gr T H H' := ⟨ExtN.of e, fun t => t.ext e⟩
theorem Gr.new {p : Addr} {o : HO} (h : H p = none) : Gr T H (upd H p o) := Gr.of fun b x e => by
  rw [upd_ne (ne_of_none e h)]
  exact e
theorem Gr.new2 {p : Addr} {o : HO} (g : Gr T H H') (h : H' p = none) : Gr T H (upd H' p o) := g.trans (Gr.new h)
/-- the object is neither a table nor another thing -/
def plainO : HO → Bool
  | .tbl _ => false
  | .ext _ => false
  | _ => true
theorem plain_tbl {o : HO} (h : plainO o = true) : ∀ ps, o ≠ .tbl ps := fun ps e => by subst e; cases h
theorem Gr.at {a : Addr} {o : HO} (g : Gr T H H') (h : H a = some o) (k : plainO o = true := by rfl) : H' a = some o := g.ext a o h (plain_tbl k)
/-- nothing but a table stands at a -/
def Nw (H : Hp) (a : Addr) : Prop := ∀ o, H a = some o → ∃ ps, o = .tbl ps
theorem Nw.of (h : H a = none) : Nw H a := fun o e => by rw [h] at e; cases e
theorem Nw.back {a : Addr} (g : Gr T H H') (h : Nw H' a) : Nw H a := fun o e => by
  by_cases k : ∃ ps, o = .tbl ps
  · exact k
  · exact h o (g.ext a o e fun ps z => k ⟨ps, z⟩)
theorem Nw.ne {a b : Addr} {o : HO} (h : Nw H a) (e : H b = some o) (k : plainO o = true := by rfl) : b ≠ a := fun z => by
  subst z
  obtain ⟨ps, z⟩ := h o e
  exact plain_tbl k ps z
theorem ne_new {a b : Addr} {o : HO} (e : H b = some o) (h : H a = none) : b ≠ a := ne_of_none e h
/-- a plain object that is new since H is written -/
theorem Gr.put {a : Addr} {o o' : HO} (g : Gr T H H') (n : Nw H a) (h : H' a = some o) (k : plainO o = true := by rfl) : Gr T H (upd H' a o') := by
  refine ⟨fun b x e nt => ?_, fun t p hp => ?_⟩
  · have nb : b ≠ a := fun z => by
      subst z
      obtain ⟨ps, z⟩ := n x e
      exact nt ps z
    rw [upd_ne nb]
    exact g.ext b x e nt
  · obtain ⟨ps, h1, h2, h3⟩ := g.tab t p hp
    refine ⟨ps, ?_, h2, fun pos cv hc => ?_⟩
    · rw [upd_ne (fun z => by rw [z, h] at h1; cases h1; cases k)]
      exact h1
    · obtain ⟨c, e1, e2⟩ := h3 pos cv hc
      refine ⟨c, e1, ?_⟩
      rw [upd_ne (fun z => by rw [z, h] at e2; cases e2; cases k)]
      exact e2
theorem sqL_ext {a : Addr} {xs : List V} (e : ExtN H H') (h : SqL K H a xs) : SqL K H' a xs := by
  rcases h with (h | ⟨o, h⟩) | h
  · exact .inl (.inl (e _ _ h (fun _ z => by cases z)))
  · exact .inl (.inr ⟨o, e _ _ h (fun _ z => by cases z)⟩)
  · exact .inr h
theorem sqT_ext {a : Addr} {xs : List V} (e : ExtN H H') (h : SqT K H a xs) : SqT K H' a xs := by
  rcases h with (h | ⟨o, h⟩) | h
  · exact .inl (.inl (e _ _ h (fun _ z => by cases z)))
  · exact .inl (.inr ⟨o, e _ _ h (fun _ z => by cases z)⟩)
  · exact .inr h
theorem Gr.sqL {a : Addr} {xs : List V} (g : Gr T H H') (h : SqL K H a xs) : SqL K H' a xs := sqL_ext g.ext h
theorem Gr.sqT {a : Addr} {xs : List V} (g : Gr T H H') (h : SqT K H a xs) : SqT K H' a xs := sqT_ext g.ext h
/-! ### data -/
mutual
theorem dp_ext (e : ExtN H H') : ∀ (d : PyData) {v : V}, Dp K H v d → Dp K H' v d
  | .none, _, h => by cases h; exact .non
  | .bool _, _, h => by cases h; exact .bl _
  | .int _, _, h => by cases h; exact .int _
  | .str _, _, h => by cases h; exact .str _
  | .list ds, _, h => by
    cases h with
    | lst h1 h2 => exact .lst (sqL_ext e h1) (dpAll_ext e ds h2)
  | .tuple ds, _, h => by
    cases h with
    | tup h1 h2 => exact .tup (sqT_ext e h1) (dpAll_ext e ds h2)
  | .dict _, _, h => by cases h
theorem dpAll_ext (e : ExtN H H') : ∀ (ds : List PyData) {vs : List V}, DpAll K H vs ds → DpAll K H' vs ds
  | [], _, h => by cases h; exact .nil
  | d :: ds, _, h => by
    cases h with
    | cons h1 h2 => exact .cons (dp_ext e d h1) (dpAll_ext e ds h2)
end
theorem Gr.dp {v : V} {d : PyData} (g : Gr T H H') (h : Dp K H v d) : Dp K H' v d := dp_ext g.ext d h
theorem Gr.dpAll {vs : List V} {ds : List PyData} (g : Gr T H H') (h : DpAll K H vs ds) : DpAll K H' vs ds := dpAll_ext g.ext ds h
theorem dp_int {v : V} {n : Int} (h : Dp K H v (.int n)) : v = .int n := by cases h; rfl
theorem dp_bool {v : V} {b : Bool} (h : Dp K H v (.bool b)) : v = .bl b := by cases h; rfl
theorem dp_tup {v : V} {ds : List PyData} (h : Dp K H v (.tuple ds)) : ∃ a xs, v = .ref a ∧ SqT K H a xs ∧ DpAll K H xs ds := by
  cases h with
  | tup h1 h2 => exact ⟨_, _, rfl, h1, h2⟩
theorem dp_lst {v : V} {ds : List PyData} (h : Dp K H v (.list ds)) : ∃ a xs, v = .ref a ∧ SqL K H a xs ∧ DpAll K H xs ds := by
  cases h with
  | lst h1 h2 => exact ⟨_, _, rfl, h1, h2⟩
theorem dpAll_nil {xs : List V} (h : DpAll K H xs []) : xs = [] := by cases h; rfl
theorem dpAll_cons {xs : List V} {d : PyData} {ds : List PyData} (h : DpAll K H xs (d :: ds)) : ∃ v vs, xs = v :: vs ∧ Dp K H v d ∧ DpAll K H vs ds := by
  cases h with
  | cons h1 h2 => exact ⟨_, _, rfl, h1, h2⟩
theorem dpAll_app : ∀ {xs ys : List V} {ds es : List PyData}, DpAll K H xs ds → DpAll K H ys es → DpAll K H (xs ++ ys) (ds ++ es)
  | [], _, [], _, _, h => h
  | _ :: _, _, _ :: _, _, h1, h => by
    cases h1 with
    | cons a b => exact .cons a (dpAll_app b h)
  | [], _, _ :: _, _, h, _ => by cases h
  | _ :: _, _, [], _, h, _ => by cases h
theorem dpAll_snoc {xs : List V} {ds : List PyData} {y : V} {d : PyData} (h : DpAll K H xs ds) (h2 : Dp K H y d) : DpAll K H (xs ++ [y]) (ds ++ [d]) := dpAll_app h (.cons h2 .nil)
theorem dpAll_at : ∀ {xs : List V} {ds : List PyData}, DpAll K H xs ds → ∀ {i : Nat} {d : PyData}, ds[i]? = some d → ∃ x, xs[i]? = some x ∧ Dp K H x d
  | [], [], _, _, _, h => by simp at h
  | x :: _, _ :: _, h, 0, d, e => by
    cases h with
    | cons h1 h2 =>
      cases Option.some.inj e
      exact ⟨x, rfl, h1⟩
  | _ :: _, _ :: _, h, i + 1, d, e => by
    cases h with
    | cons h1 h2 => exact dpAll_at h2 (i := i) e
  | [], _ :: _, h, _, _, _ => by cases h
  | _ :: _, [], h, _, _, _ => by cases h
theorem dpAll_at2 {xs : List V} {ds : List PyData} (h : DpAll K H xs ds) {i : Nat} {x : V} {d : PyData} (e : xs[i]? = some x) (e2 : ds[i]? = some d) : Dp K H x d := by
  obtain ⟨y, e3, h⟩ := dpAll_at h e2
  rw [e] at e3
  cases e3
  exact h
theorem dpAll_int : ∀ {xs : List V} {ns : List Int}, DpAll K H xs (ns.map .int) → xs = ns.map V.int
  | _, [], h => dpAll_nil h
  | _, n :: ns, h => by
    obtain ⟨v, vs, rfl, h1, h2⟩ := dpAll_cons h
    rw [dp_int h1, dpAll_int h2]
    rfl
theorem int_dpAll : ∀ (ns : List Int), DpAll K H (ns.map V.int) (ns.map .int)
  | [] => .nil
  | n :: ns => .cons (.int n) (int_dpAll ns)
theorem dpAll_bool : ∀ {xs : List V} {ns : List Bool}, DpAll K H xs (ns.map .bool) → xs = ns.map V.bl
  | _, [], h => dpAll_nil h
  | _, n :: ns, h => by
    obtain ⟨v, vs, rfl, h1, h2⟩ := dpAll_cons h
    rw [dp_bool h1, dpAll_bool h2]
    rfl
theorem dpAll_flat : ∀ {xs : List V} {ns : List Int}, DpAll K H xs (ns.map .int) → ∀ x ∈ xs, ∃ n, x = V.int n := fun h x hx => by
  rw [dpAll_int h] at hx
  obtain ⟨n, _, e⟩ := List.mem_map.mp hx
  exact ⟨n, e.symm⟩
/-! ### data without lists -/
mutual
def noL : PyData → Bool
  | .list _ => false
  | .dict _ => false
  | .tuple ds => noLs ds
  | _ => true
def noLs : List PyData → Bool
  | [] => true
  | d :: ds => noL d && noLs ds
end
mutual
theorem dp_keep (e : ∀ a xs, SqT K H a xs → SqT K H' a xs) : ∀ (d : PyData) {v : V}, noL d = true → Dp K H v d → Dp K H' v d
  | .none, _, _, h => by cases h; exact .non
  | .bool _, _, _, h => by cases h; exact .bl _
  | .int _, _, _, h => by cases h; exact .int _
  | .str _, _, _, h => by cases h; exact .str _
  | .list ds, _, n, h => by cases n
  | .tuple ds, _, n, h => by
    cases h with
    | tup h1 h2 => exact .tup (e _ _ h1) (dpAll_keep e ds n h2)
  | .dict _, _, _, h => by cases h
theorem dpAll_keep (e : ∀ a xs, SqT K H a xs → SqT K H' a xs) : ∀ (ds : List PyData) {vs : List V}, noLs ds = true → DpAll K H vs ds → DpAll K H' vs ds
  | [], _, _, h => by cases h; exact .nil
  | d :: ds, _, n, h => by
    have n2 : (noL d && noLs ds) = true := n
    rw [Bool.and_eq_true] at n2
    cases h with
    | cons h1 h2 => exact .cons (dp_keep e d n2.1 h1) (dpAll_keep e ds n2.2 h2)
end
theorem noLs_of : ∀ {ds : List PyData}, (∀ d ∈ ds, noL d = true) → noLs ds = true
  | [], _ => rfl
  | d :: ds, h => by
    show (noL d && noLs ds) = true
    rw [h d (List.mem_cons_self ..), noLs_of fun x hx => h x (List.mem_cons_of_mem _ hx)]
    rfl
theorem noL_ints (ns : List Int) : noLs (ns.map PyData.int) = true := noLs_of fun d h => by
  obtain ⟨n, _, rfl⟩ := List.mem_map.mp h
  rfl
/-- no tuple stands at a: a store there keeps the tuples -/
def noTup : HO → Bool
  | .tup _ => false
  | .frz _ _ => false
  | _ => true
theorem sqT_put {a b : Addr} {o o' : HO} {xs : List V} (h : H a = some o) (k : noTup o = true) (q : SqT K H b xs) : SqT K (upd H a o') b xs := by
  rcases q with (q | ⟨z, q⟩) | q
  · refine .inl (.inl ?_)
    rw [upd_ne (fun e => by rw [e, h] at q; cases q; cases k)]
    exact q
  · refine .inl (.inr ⟨z, ?_⟩)
    rw [upd_ne (fun e => by rw [e, h] at q; cases q; cases k)]
    exact q
  · exact .inr q
theorem dpAll_put {a : Addr} {o o' : HO} {xs : List V} {ds : List PyData} (h : H a = some o) (n : noLs ds = true) (q : DpAll K H xs ds) (k : noTup o = true := by rfl) : DpAll K (upd H a o') xs ds := dpAll_keep (fun _ _ z => sqT_put h k z) ds n q
theorem dp_put {a : Addr} {o o' : HO} {v : V} {d : PyData} (h : H a = some o) (n : noL d = true) (q : Dp K H v d) (k : noTup o = true := by rfl) : Dp K (upd H a o') v d := dp_keep (fun _ _ z => sqT_put h k z) d n q
/-! ### a comprehension by data -/
theorem filterMap_take {α β : Type} (f : α → Option β) (l : List α) {i : Nat} {a : α} (h : l[i]? = some a) : (l.take (i + 1)).filterMap f = (l.take i).filterMap f ++ (match f a with | some b => [b] | none => []) := by
  rw [List.take_add_one, h, List.filterMap_append]
  cases e : f a <;> simp [e]
variable {J : It} {n : Nat} {G : Hp → Prop} {Y : Nat → Hp → V → Hp → Prop}
theorem lcD {α : Type} (as : List α) (f : α → Option PyData) (nl : ∀ a d, f a = some d → noL d = true) (w : Walk J n G Y) {g : TG} {tt : TT} {te : TE} {vs : List Nat} {σ : L2.St} {D : Addr} {Qd : Hp → Prop} (hn : n = as.length) (hD : H1 D = none) (hsz : as.length ≤ 100000)
    (hG : ∀ H, Gr T H1 H → G H)
    (hs : ∀ (i : Nat) (a : α) (x : V) (H H' : Hp) (Yes : V → Hp → Prop) (No : Hp → Prop), as[i]? = some a → Gr T H1 H → Y i H x H' → (∀ y H4 d, f a = some d → Gr T H H4 → Dp K H4 y d → Yes y H4) → (∀ H3, f a = none → Gr T H H3 → No H3) →
      g x (wipe σ vs) H' fun σ2 H2 => wipe σ2 vs = wipe σ vs ∧ tt σ2 H2 fun b H3 => if b = true then te σ2 H3 Yes else No H3)
    (hd : ∀ H' ys, Gr T H1 H' → H' D = some (.lst ys) → DpAll K H' ys (as.filterMap f) → Qd H') :
    ∃ W : Nat → Nat → Hp → Prop, (∃ m, W 0 m (upd H1 D (.lst []))) ∧ ∀ i m H, W i m H →
      (J.stop i H ∧ Qd H) ∨ (J.go i H ∧ ∃ Nx : Hp → Prop, (∀ H', Nx H' → ∃ m', m' < m ∧ W (i + 1) m' H') ∧ ∀ x H', J.yld i H x H' → g x (wipe σ vs) H' fun σ2 H2 => wipe σ2 vs = wipe σ vs ∧ tt σ2 H2 fun b H3 =>
        if b = true then te σ2 H3 fun y H4 => ∃ acc, H4 D = some (.lst acc) ∧ acc.length < sizeLine ∧ Nx (upd H4 D (.lst (acc ++ [y]))) else Nx H3) := by
  subst hn
  have nD : Nw H1 D := Nw.of hD
  refine lc_it w (fun i H => Gr T H1 H ∧ ∃ acc, H D = some (.lst acc) ∧ DpAll K H acc ((as.take i).filterMap f)) ?_ ?_ ?_ ?_
  · exact ⟨Gr.new hD, [], upd_same, by rw [List.take_zero]; exact .nil⟩
  · exact fun i H _ h => hG H h.1
  · intro i x H H' hi hp y
    obtain ⟨g1, acc, e, da⟩ := hp
    have ea : as[i]? = some as[i] := List.getElem?_eq_getElem hi
    refine hs i as[i] x H H' _ _ ea g1 y (fun y H4 d ed g4 hy => ?_) (fun H3 ed g3 => ?_)
    · have e4 := g4.at e
      have la : acc.length ≤ as.length := by
        rw [DpAll.len da]
        exact Nat.le_trans (List.length_filterMap_le _ _) (by rw [List.length_take]; omega)
      refine ⟨acc, e4, Nat.lt_of_le_of_lt (Nat.le_trans la hsz) (by decide), (g1.trans g4).put nD e4, acc ++ [y], upd_same, ?_⟩
      rw [filterMap_take f as ea, ed]
      refine dpAll_snoc (dpAll_put e4 (noLs_of fun d hd => ?_) (g4.dpAll da)) (dp_put e4 (nl _ _ ed) hy)
      obtain ⟨a, _, h⟩ := List.mem_filterMap.mp hd
      exact nl a d h
    · refine ⟨g1.trans g3, acc, g3.at e, ?_⟩
      rw [filterMap_take f as ea, ed, List.append_nil]
      exact g3.dpAll da
  · intro H hp
    obtain ⟨g1, acc, e, da⟩ := hp
    rw [List.take_length] at da
    exact hd H acc g1 e da
end
end So
namespace So
open PySem PySem.Spec PyProof.Rows L2 PySem.W
def topS (i : Nat) : Stmt := PySem.Challenge.pw_stoopers_k23_whole_reaches.main.body.getD i (.Pass ⟨0, 0, 0, 0⟩)
abbrev s_is_int : Stmt := topS 9
abbrev s_is_from : Stmt := topS 10
abbrev s_need_from : Stmt := topS 11
abbrev s_is_height : Stmt := topS 12
abbrev s_is_tie : Stmt := topS 13
abbrev s_need_web : Stmt := topS 14
abbrev s_need_heights : Stmt := topS 15
abbrev s_tied_to : Stmt := topS 16
abbrev s_hanging : Stmt := topS 17
abbrev s_everybody : Stmt := topS 18
abbrev s_lots_of : Stmt := topS 19
abbrev s_open_at : Stmt := topS 21
abbrev s_joins : Stmt := topS 22
abbrev s_join_of : Stmt := topS 23
abbrev s_fewest_of : Stmt := topS 24
abbrev s_next_of : Stmt := topS 26
abbrev s_after : Stmt := topS 27
abbrev s_all_of : Stmt := topS 30
abbrev s_need_start : Stmt := topS 31
abbrev s_steps_of : Stmt := topS 33
abbrev s_within : Stmt := topS 34
abbrev s_steps_table : Stmt := topS 35
abbrev s_farthest : Stmt := topS 36
abbrev s_need_weights : Stmt := topS 37
abbrev s_worth : Stmt := topS 38
abbrev s_greatest_worth : Stmt := topS 39
abbrev s_nearest : Stmt := topS 40
abbrev s_cheapest : Stmt := topS 41
abbrev s_law_taken : Stmt := topS 43
abbrev s_law_alike : Stmt := topS 44
abbrev s_law_web : Stmt := topS 45
abbrev s_law_heights : Stmt := topS 46
abbrev s_law_ties : Stmt := topS 47
abbrev s_law_stoops : Stmt := topS 48
abbrev s_law_after : Stmt := topS 49
abbrev s_law_steps : Stmt := topS 50
abbrev s_law : Stmt := topS 51
structure Nm (mg : Str → Option Value) : Prop where
  isinstance_ : mg "isinstance" = none
  len_ : mg "len" = none
  all_ : mg "all" = none
  any_ : mg "any" = none
  sum_ : mg "sum" = none
  sorted_ : mg "sorted" = none
  set_ : mg "set" = none
  tuple_ : mg "tuple" = none
  range_ : mg "range" = none
  max_ : mg "max" = none
  min_ : mg "min" = none
  dict_ : mg "dict" = none
  zip_ : mg "zip" = none
  abs_ : mg "abs" = none
  int_ : mg "int" = none
  list_ : mg "list" = none
  enumerate_ : mg "enumerate" = none
  bool_ : mg "bool" = none
  str_ : mg "str" = none
/-- the def x of the module (no defaults) -/
abbrev FnP (K : PySem.W.Frag) (x : Str) (st : Stmt) (f : Addr) (fd : FuncData) : Prop := FunD K x x (defArgs st) (defBody st) (defScope st) [] [] f fd
theorem sc_is_int : FnScope ["value"] ["value"] (defScope s_is_int) := ⟨rfl, rfl, rfl, by decide +kernel, rfl, by decide +kernel, by decide +kernel⟩
theorem b_is_int {K : PySem.W.Frag} {f : Addr} {fd : FuncData} (F : FnP K "is_int" s_is_int f fd) : Binds K fd ["value"] [] := F.bindsN fun _ _ _ _ _ _ us hl => match us, hl with | [_], _ => rfl
theorem sc_is_from : FnScope ["value", "least", "most"] ["value", "least", "most"] (defScope s_is_from) := ⟨rfl, rfl, rfl, by decide +kernel, rfl, by decide +kernel, by decide +kernel⟩
theorem b_is_from {K : PySem.W.Frag} {f : Addr} {fd : FuncData} (F : FnP K "is_from" s_is_from f fd) : Binds K fd ["value", "least", "most"] [] := F.bindsN fun _ _ _ _ _ _ us hl => match us, hl with | [_, _, _], _ => rfl
theorem sc_need_from : FnScope ["value", "least", "most"] ["value", "least", "most"] (defScope s_need_from) := ⟨rfl, rfl, rfl, by decide +kernel, rfl, by decide +kernel, by decide +kernel⟩
theorem b_need_from {K : PySem.W.Frag} {f : Addr} {fd : FuncData} (F : FnP K "need_from" s_need_from f fd) : Binds K fd ["value", "least", "most"] [] := F.bindsN fun _ _ _ _ _ _ us hl => match us, hl with | [_, _, _], _ => rfl
theorem sc_is_height : FnScope ["value"] ["value"] (defScope s_is_height) := ⟨rfl, rfl, rfl, by decide +kernel, rfl, by decide +kernel, by decide +kernel⟩
theorem b_is_height {K : PySem.W.Frag} {f : Addr} {fd : FuncData} (F : FnP K "is_height" s_is_height f fd) : Binds K fd ["value"] [] := F.bindsN fun _ _ _ _ _ _ us hl => match us, hl with | [_], _ => rfl
theorem sc_is_tie : FnScope ["value", "many"] ["value", "many"] (defScope s_is_tie) := ⟨rfl, rfl, rfl, by decide +kernel, rfl, by decide +kernel, by decide +kernel⟩
theorem b_is_tie {K : PySem.W.Frag} {f : Addr} {fd : FuncData} (F : FnP K "is_tie" s_is_tie f fd) : Binds K fd ["value", "many"] [] := F.bindsN fun _ _ _ _ _ _ us hl => match us, hl with | [_, _], _ => rfl
theorem sc_need_web : FnScope ["value", "many", "ties", "index", "tie"] ["value"] (defScope s_need_web) := ⟨rfl, rfl, rfl, by decide +kernel, rfl, by decide +kernel, by decide +kernel⟩
theorem b_need_web {K : PySem.W.Frag} {f : Addr} {fd : FuncData} (F : FnP K "need_web" s_need_web f fd) : Binds K fd ["value"] [] := F.bindsN fun _ _ _ _ _ _ us hl => match us, hl with | [_], _ => rfl
theorem sc_need_heights : FnScope ["web", "value", "index", "height"] ["web", "value"] (defScope s_need_heights) := ⟨rfl, rfl, rfl, by decide +kernel, rfl, by decide +kernel, by decide +kernel⟩
theorem b_need_heights {K : PySem.W.Frag} {f : Addr} {fd : FuncData} (F : FnP K "need_heights" s_need_heights f fd) : Binds K fd ["web", "value"] [] := F.bindsN fun _ _ _ _ _ _ us hl => match us, hl with | [_, _], _ => rfl
theorem sc_tied_to : FnScope ["web", "person", "found", "one", "other"] ["web", "person"] (defScope s_tied_to) := ⟨rfl, rfl, rfl, by decide +kernel, rfl, by decide +kernel, by decide +kernel⟩
theorem b_tied_to {K : PySem.W.Frag} {f : Addr} {fd : FuncData} (F : FnP K "tied_to" s_tied_to f fd) : Binds K fd ["web", "person"] [] := F.bindsN fun _ _ _ _ _ _ us hl => match us, hl with | [_, _], _ => rfl
theorem sc_hanging : FnScope ["web", "person", "lot", "found", "edge", "here", "other"] ["web", "person", "lot"] (defScope s_hanging) := ⟨rfl, rfl, rfl, by decide +kernel, rfl, by decide +kernel, by decide +kernel⟩
theorem b_hanging {K : PySem.W.Frag} {f : Addr} {fd : FuncData} (F : FnP K "hanging" s_hanging f fd) : Binds K fd ["web", "person", "lot"] [] := F.bindsN fun _ _ _ _ _ _ us hl => match us, hl with | [_, _, _], _ => rfl
theorem sc_everybody : FnScope ["web"] ["web"] (defScope s_everybody) := ⟨rfl, rfl, rfl, by decide +kernel, rfl, by decide +kernel, by decide +kernel⟩
theorem b_everybody {K : PySem.W.Frag} {f : Addr} {fd : FuncData} (F : FnP K "everybody" s_everybody f fd) : Binds K fd ["web"] [] := F.bindsN fun _ _ _ _ _ _ us hl => match us, hl with | [_], _ => rfl
theorem sc_lots_of : FnScope ["some", "found", "person", "lot"] ["some"] (defScope s_lots_of) := ⟨rfl, rfl, rfl, by decide +kernel, rfl, by decide +kernel, by decide +kernel⟩
theorem b_lots_of {K : PySem.W.Frag} {f : Addr} {fd : FuncData} (F : FnP K "lots_of" s_lots_of f fd) : Binds K fd ["some"] [] := F.bindsN fun _ _ _ _ _ _ us hl => match us, hl with | [_], _ => rfl
theorem sc_open_at : FnScope ["heights", "goal", "height", "one"] ["heights", "goal", "height"] (defScope s_open_at) := ⟨rfl, rfl, rfl, by decide +kernel, rfl, by decide +kernel, by decide +kernel⟩
theorem b_open_at {K : PySem.W.Frag} {f : Addr} {fd : FuncData} (F : FnP K "open_at" s_open_at f fd) : Binds K fd ["heights", "goal", "height"] [] := F.bindsN fun _ _ _ _ _ _ us hl => match us, hl with | [_, _, _], _ => rfl
theorem sc_joins : FnScope ["web", "some", "source", "lot", "one", "person"] ["web", "some", "source"] (defScope s_joins) := ⟨rfl, rfl, rfl, by decide +kernel, rfl, by decide +kernel, by decide +kernel⟩
theorem b_joins {K : PySem.W.Frag} {f : Addr} {fd : FuncData} (F : FnP K "joins" s_joins f fd) : Binds K fd ["web", "some", "source"] [] := F.bindsN fun _ _ _ _ _ _ us hl => match us, hl with | [_, _, _], _ => rfl
theorem sc_join_of : FnScope ["web", "heights", "goal", "height", "some", "source", "one", "due", "free", "lot"] ["web", "heights", "goal", "height"] (defScope s_join_of) := ⟨rfl, rfl, rfl, by decide +kernel, rfl, by decide +kernel, by decide +kernel⟩
theorem b_join_of {K : PySem.W.Frag} {f : Addr} {fd : FuncData} (F : FnP K "join_of" s_join_of f fd) : Binds K fd ["web", "heights", "goal", "height"] [] := F.bindsN fun _ _ _ _ _ _ us hl => match us, hl with | [_, _, _, _], _ => rfl
theorem sc_fewest_of : FnScope ["web", "heights", "goal", "height"] ["web", "heights", "goal"] (defScope s_fewest_of) := ⟨rfl, rfl, rfl, by decide +kernel, rfl, by decide +kernel, by decide +kernel⟩
theorem b_fewest_of {K : PySem.W.Frag} {f : Addr} {fd : FuncData} (F : FnP K "fewest_of" s_fewest_of f fd) : Binds K fd ["web", "heights", "goal"] [] := F.bindsN fun _ _ _ _ _ _ us hl => match us, hl with | [_, _, _], _ => rfl
theorem sc_next_of : FnScope ["web", "heights", "found", "person", "one"] ["web", "heights"] (defScope s_next_of) := ⟨rfl, rfl, rfl, by decide +kernel, rfl, by decide +kernel, by decide +kernel⟩
theorem b_next_of {K : PySem.W.Frag} {f : Addr} {fd : FuncData} (F : FnP K "next_of" s_next_of f fd) : Binds K fd ["web", "heights"] [] := F.bindsN fun _ _ _ _ _ _ us hl => match us, hl with | [_, _], _ => rfl
theorem sc_after : FnScope ["heights", "person", "other"] ["heights", "person", "other"] (defScope s_after) := ⟨rfl, rfl, rfl, by decide +kernel, rfl, by decide +kernel, by decide +kernel⟩
theorem b_after {K : PySem.W.Frag} {f : Addr} {fd : FuncData} (F : FnP K "after" s_after f fd) : Binds K fd ["heights", "person", "other"] [] := F.bindsN fun _ _ _ _ _ _ us hl => match us, hl with | [_, _, _], _ => rfl
theorem sc_all_of : FnScope ["web", "heights", "known", "edge", "now", "person", "other", "told"] ["web", "heights"] (defScope s_all_of) := ⟨rfl, rfl, rfl, by decide +kernel, rfl, by decide +kernel, by decide +kernel⟩
theorem b_all_of {K : PySem.W.Frag} {f : Addr} {fd : FuncData} (F : FnP K "all_of" s_all_of f fd) : Binds K fd ["web", "heights"] [] := F.bindsN fun _ _ _ _ _ _ us hl => match us, hl with | [_, _], _ => rfl
theorem sc_need_start : FnScope ["web", "heights"] ["web", "heights"] (defScope s_need_start) := ⟨rfl, rfl, rfl, by decide +kernel, rfl, by decide +kernel, by decide +kernel⟩
theorem b_need_start {K : PySem.W.Frag} {f : Addr} {fd : FuncData} (F : FnP K "need_start" s_need_start f fd) : Binds K fd ["web", "heights"] [] := F.bindsN fun _ _ _ _ _ _ us hl => match us, hl with | [_, _], _ => rfl
theorem sc_steps_of : FnScope ["web", "heights", "told"] ["web", "heights"] (defScope s_steps_of) := ⟨rfl, rfl, rfl, by decide +kernel, rfl, by decide +kernel, by decide +kernel⟩
theorem b_steps_of {K : PySem.W.Frag} {f : Addr} {fd : FuncData} (F : FnP K "steps_of" s_steps_of f fd) : Binds K fd ["web", "heights"] [] := F.bindsN fun _ _ _ _ _ _ us hl => match us, hl with | [_, _], _ => rfl
theorem sc_within : FnScope ["web", "heights", "steps", "told", "many"] ["web", "heights", "steps"] (defScope s_within) := ⟨rfl, rfl, rfl, by decide +kernel, rfl, by decide +kernel, by decide +kernel⟩
theorem b_within {K : PySem.W.Frag} {f : Addr} {fd : FuncData} (F : FnP K "within" s_within f fd) : Binds K fd ["web", "heights", "steps"] [] := F.bindsN fun _ _ _ _ _ _ us hl => match us, hl with | [_, _, _], _ => rfl
theorem sc_steps_table : FnScope ["web", "heights", "counts", "many"] ["web", "heights"] (defScope s_steps_table) := ⟨rfl, rfl, rfl, by decide +kernel, rfl, by decide +kernel, by decide +kernel⟩
theorem b_steps_table {K : PySem.W.Frag} {f : Addr} {fd : FuncData} (F : FnP K "steps_table" s_steps_table f fd) : Binds K fd ["web", "heights"] [] := F.bindsN fun _ _ _ _ _ _ us hl => match us, hl with | [_, _], _ => rfl
theorem sc_farthest : FnScope ["web", "heights", "told", "most", "one"] ["web", "heights"] (defScope s_farthest) := ⟨rfl, rfl, rfl, by decide +kernel, rfl, by decide +kernel, by decide +kernel⟩
theorem b_farthest {K : PySem.W.Frag} {f : Addr} {fd : FuncData} (F : FnP K "farthest" s_farthest f fd) : Binds K fd ["web", "heights"] [] := F.bindsN fun _ _ _ _ _ _ us hl => match us, hl with | [_, _], _ => rfl
theorem sc_need_weights : FnScope ["web", "value", "one"] ["web", "value"] (defScope s_need_weights) := ⟨rfl, rfl, rfl, by decide +kernel, rfl, by decide +kernel, by decide +kernel⟩
theorem b_need_weights {K : PySem.W.Frag} {f : Addr} {fd : FuncData} (F : FnP K "need_weights" s_need_weights f fd) : Binds K fd ["web", "value"] [] := F.bindsN fun _ _ _ _ _ _ us hl => match us, hl with | [_, _], _ => rfl
theorem sc_worth : FnScope ["weights", "told", "weight", "height"] ["weights", "told"] (defScope s_worth) := ⟨rfl, rfl, rfl, by decide +kernel, rfl, by decide +kernel, by decide +kernel⟩
theorem b_worth {K : PySem.W.Frag} {f : Addr} {fd : FuncData} (F : FnP K "worth" s_worth f fd) : Binds K fd ["weights", "told"] [] := F.bindsN fun _ _ _ _ _ _ us hl => match us, hl with | [_, _], _ => rfl
theorem sc_greatest_worth : FnScope ["web", "heights", "weights", "some", "told", "best", "value"] ["web", "heights", "weights"] (defScope s_greatest_worth) := ⟨rfl, rfl, rfl, by decide +kernel, rfl, by decide +kernel, by decide +kernel⟩
theorem b_greatest_worth {K : PySem.W.Frag} {f : Addr} {fd : FuncData} (F : FnP K "greatest_worth" s_greatest_worth f fd) : Binds K fd ["web", "heights", "weights"] [] := F.bindsN fun _ _ _ _ _ _ us hl => match us, hl with | [_, _, _], _ => rfl
theorem sc_nearest : FnScope ["web", "heights", "wishes", "some", "told", "one", "wish"] ["web", "heights", "wishes"] (defScope s_nearest) := ⟨rfl, rfl, rfl, by decide +kernel, rfl, by decide +kernel, by decide +kernel⟩
theorem b_nearest {K : PySem.W.Frag} {f : Addr} {fd : FuncData} (F : FnP K "nearest" s_nearest f fd) : Binds K fd ["web", "heights", "wishes"] [] := F.bindsN fun _ _ _ _ _ _ us hl => match us, hl with | [_, _, _], _ => rfl
theorem sc_cheapest : FnScope ["web", "heights", "weights", "most", "some", "told", "many"] ["web", "heights", "weights", "most"] (defScope s_cheapest) := ⟨rfl, rfl, rfl, by decide +kernel, rfl, by decide +kernel, by decide +kernel⟩
theorem b_cheapest {K : PySem.W.Frag} {f : Addr} {fd : FuncData} (F : FnP K "cheapest" s_cheapest f fd) : Binds K fd ["web", "heights", "weights", "most"] [] := F.bindsN fun _ _ _ _ _ _ us hl => match us, hl with | [_, _, _, _], _ => rfl
theorem sc_law_taken : FnScope ["_law_row", "_law_many", "_law_found", "_law_cell"] ["_law_row", "_law_many"] (defScope s_law_taken) := ⟨rfl, rfl, rfl, by decide +kernel, rfl, by decide +kernel, by decide +kernel⟩
theorem b_law_taken {K : PySem.W.Frag} {f : Addr} {fd : FuncData} (F : FnP K "_law_taken" s_law_taken f fd) : Binds K fd ["_law_row", "_law_many"] [] := F.bindsN fun _ _ _ _ _ _ us hl => match us, hl with | [_, _], _ => rfl
theorem sc_law_alike : FnScope ["_law_found", "_law_due", "_law_k"] ["_law_found", "_law_due"] (defScope s_law_alike) := ⟨rfl, rfl, rfl, by decide +kernel, rfl, by decide +kernel, by decide +kernel⟩
theorem b_law_alike {K : PySem.W.Frag} {f : Addr} {fd : FuncData} (F : FnP K "_law_alike" s_law_alike f fd) : Binds K fd ["_law_found", "_law_due"] [] := F.bindsN fun _ _ _ _ _ _ us hl => match us, hl with | [_, _], _ => rfl
theorem sc_law_web : FnScope ["_law_row", "_law_most", "_law_more", "_law_many", "_law_ties_here", "_law_person", "_law_turn", "_law_one"] ["_law_row", "_law_most", "_law_more"] (defScope s_law_web) := ⟨rfl, rfl, rfl, by decide +kernel, rfl, by decide +kernel, by decide +kernel⟩
theorem b_law_web {K : PySem.W.Frag} {f : Addr} {fd : FuncData} (F : FnP K "_law_web" s_law_web f fd) : Binds K fd ["_law_row", "_law_most", "_law_more"] [] := F.bindsN fun _ _ _ _ _ _ us hl => match us, hl with | [_, _, _], _ => rfl
theorem sc_law_heights : FnScope ["_law_row", "_law_many", "_law_high", "_law_one"] ["_law_row", "_law_many", "_law_high"] (defScope s_law_heights) := ⟨rfl, rfl, rfl, by decide +kernel, rfl, by decide +kernel, by decide +kernel⟩
theorem b_law_heights {K : PySem.W.Frag} {f : Addr} {fd : FuncData} (F : FnP K "_law_heights" s_law_heights f fd) : Binds K fd ["_law_row", "_law_many", "_law_high"] [] := F.bindsN fun _ _ _ _ _ _ us hl => match us, hl with | [_, _, _], _ => rfl
theorem sc_law_ties : FnScope ["_law_web_here", "_law_person", "_law_one", "_law_other"] ["_law_web_here", "_law_person"] (defScope s_law_ties) := ⟨rfl, rfl, rfl, by decide +kernel, rfl, by decide +kernel, by decide +kernel⟩
theorem b_law_ties {K : PySem.W.Frag} {f : Addr} {fd : FuncData} (F : FnP K "_law_ties" s_law_ties f fd) : Binds K fd ["_law_web_here", "_law_person"] [] := F.bindsN fun _ _ _ _ _ _ us hl => match us, hl with | [_, _], _ => rfl
theorem sc_law_stoops : FnScope ["_law_web_here", "_law_heights_here", "_law_found", "_law_person", "_law_one"] ["_law_web_here", "_law_heights_here"] (defScope s_law_stoops) := ⟨rfl, rfl, rfl, by decide +kernel, rfl, by decide +kernel, by decide +kernel⟩
theorem b_law_stoops {K : PySem.W.Frag} {f : Addr} {fd : FuncData} (F : FnP K "_law_stoops" s_law_stoops f fd) : Binds K fd ["_law_web_here", "_law_heights_here"] [] := F.bindsN fun _ _ _ _ _ _ us hl => match us, hl with | [_, _], _ => rfl
theorem sc_law_after : FnScope ["_law_heights_here", "_law_pair"] ["_law_heights_here", "_law_pair"] (defScope s_law_after) := ⟨rfl, rfl, rfl, by decide +kernel, rfl, by decide +kernel, by decide +kernel⟩
theorem b_law_after {K : PySem.W.Frag} {f : Addr} {fd : FuncData} (F : FnP K "_law_after" s_law_after f fd) : Binds K fd ["_law_heights_here", "_law_pair"] [] := F.bindsN fun _ _ _ _ _ _ us hl => match us, hl with | [_, _], _ => rfl
theorem sc_law_steps : FnScope ["_law_web_here", "_law_heights_here", "_law_found", "_law_edge", "_law_steps_here", "_law_later", "_law_now", "_law_pair", "_law_told"] ["_law_web_here", "_law_heights_here"] (defScope s_law_steps) := ⟨rfl, rfl, rfl, by decide +kernel, rfl, by decide +kernel, by decide +kernel⟩
theorem b_law_steps {K : PySem.W.Frag} {f : Addr} {fd : FuncData} (F : FnP K "_law_steps" s_law_steps f fd) : Binds K fd ["_law_web_here", "_law_heights_here"] [] := F.bindsN fun _ _ _ _ _ _ us hl => match us, hl with | [_, _], _ => rfl
theorem sc_law : FnScope ["_law_script", "_law_row", "_law_web_here", "_law_many", "_law_heights_here", "_law_steps_here", "_law_known", "_law_some", "_law_told", "_law_counts", "_law_one", "_law_top", "_law_weights", "_law_sums", "_law_at", "_law_pairs", "_law_wishes", "_law_far"] ["_law_script"] (defScope s_law) := ⟨rfl, rfl, rfl, by decide +kernel, rfl, by decide +kernel, by decide +kernel⟩
theorem b_law {K : PySem.W.Frag} {f : Addr} {fd : FuncData} (F : FnP K "law" s_law f fd) : Binds K fd ["_law_script"] [] := F.bindsN fun _ _ _ _ _ _ us hl => match us, hl with | [_], _ => rfl
end So
/-! webs: the looks at what is handed in -/
namespace So
open PySem PySem.Spec PyProof.Rows L2 PySem.W LamX
open C8 (Cal pe_c pe_gc)
section
variable {P : Program} {w : World} {K : PySem.W.Frag} {mg : Str → Option Value} {base : Heap} {T : List (Addr × Str)}
/-! ### data -/
abbrev dI (n : Int) : PyData := .int n
abbrev dN (n : Nat) : PyData := .int (n : Int)
abbrev dInts (ns : List Int) : PyData := .tuple (ns.map .int)
abbrev dNs (ns : List Nat) : List PyData := ns.map dN
abbrev dPair (p : Nat × Nat) : PyData := .tuple [dN p.1, dN p.2]
abbrev dWeb (n : Nat) (ties : List (Nat × Nat)) : PyData := .tuple [dN n, .tuple (ties.map dPair)]
/-- a web as the law makes it -/
structure Wb (n : Nat) (ties : List (Nat × Nat)) : Prop where
  pos : 1 ≤ n
  le : n ≤ 4
  len : ties.length ≤ 16
  ok : ∀ t ∈ ties, t.1 < t.2 ∧ t.2 < n
  up : ∀ (i : Nat) (s t : Nat × Nat), ties[i]? = some s → ties[i + 1]? = some t → s.1 < t.1 ∨ (s.1 = t.1 ∧ s.2 < t.2)
theorem dNs_ints (ns : List Nat) : dNs ns = (ns.map fun (n : Nat) => (n : Int)).map PyData.int := by
  rw [List.map_map]
  rfl
/-! ### promises -/
def spIsInt : Sp := fun vs H Q _ => ∃ i : Int, vs = [.int i] ∧ Q (.bl true) H
def spIsFrom : Sp := fun vs H Q _ => ∃ i a b : Int, vs = [.int i, .int a, .int b] ∧ a ≤ i ∧ i ≤ b ∧ Q (.bl true) H
def spNeedFrom : Sp := fun vs H Q _ => ∃ i a b : Int, vs = [.int i, .int a, .int b] ∧ a ≤ i ∧ i ≤ b ∧ Q .non H
def spIsHeight : Sp := fun vs H Q _ => ∃ i : Int, vs = [.int i] ∧ -1000 ≤ i ∧ i ≤ 1000 ∧ Q (.bl true) H
theorem bb_isinstance : bootBuiltins "isinstance" = some (.builtin "isinstance") := by decide +kernel
theorem ty_int {X : Cx} {pos : Pos} (hg : Gl X "int") (m : X.mg "int" = none) : PE X (.Name "int" pos) (tC (.ty "int")) := pe_bltn hg m (u := .type "int") (by decide +kernel) rfl
theorem ty_bool {X : Cx} {pos : Pos} (hg : Gl X "bool") (m : X.mg "bool" = none) : PE X (.Name "bool" pos) (tC (.ty "bool")) := pe_bltn hg m (u := .type "bool") (by decide +kernel) rfl
theorem ty_str {X : Cx} {pos : Pos} (hg : Gl X "str") (m : X.mg "str" = none) : PE X (.Name "str" pos) (tC (.ty "str")) := pe_bltn hg m (u := .type "str") (by decide +kernel) rfl
theorem ty_tuple {X : Cx} {pos : Pos} (hg : Gl X "tuple") (m : X.mg "tuple" = none) : PE X (.Name "tuple" pos) (tC (.ty "tuple")) := pe_bltn hg m (u := .type "tuple") (by decide +kernel) rfl
theorem ty_list {X : Cx} {pos : Pos} (hg : Gl X "list") (m : X.mg "list" = none) : PE X (.Name "list" pos) (tC (.ty "list")) := pe_bltn hg m (u := .type "list") (by decide +kernel) rfl
theorem tx_tup {H : Hp} {a : Addr} {xs : List V} (h : SqT K H a xs) : TyX K H (.ref a) (.type "tuple") := by
  rcases h with (h | ⟨o, h⟩) | ⟨o, its, n, h, hc, _⟩
  · exact .base (.tup h)
  · exact .fTuple h
  · exact .kTuple h hc
theorem tx_lst {H : Hp} {a : Addr} {xs : List V} (h : SqL K H a xs) : TyX K H (.ref a) (.type "list") := by
  rcases h with (h | ⟨o, h⟩) | ⟨o, its, n, h, hc, _⟩
  · exact .base (.lst h)
  · exact .base (.frz h)
  · exact .kList h hc
theorem ok_is_int {f : Addr} {fd : FuncData} (F : FnP K "is_int" s_is_int f fd) (N : Nm mg) (g : mg "is_int" = some (.ref f)) : Cal P w K mg base 1 "is_int" spIsInt [] := by
  refine ⟨f, fd, _, [], F.ok sc_is_int (fun vs H Q E h => ?_) (fun cdv A outer s H vs Q E hr h => ?_), g, F.kp, b_is_int F, .nil⟩
  · obtain ⟨i, rfl, _⟩ := h
    rfl
  · obtain ⟨i, rfl, q⟩ := h
    refine ⟨_, PSs.nox (pss_one (ps_ret (pe_and (pe_callB call_isi rfl N.isinstance_ bb_isinstance (pa_cons (pv 0) (pa_cons (ty_int rfl N.int_) pa_nil))) (pe_one (pe_not (pe_callB call_isi rfl N.isinstance_ bb_isinstance (pa_cons (pv 0) (pa_cons (ty_bool rfl N.bool_) pa_nil)))))))), ?_⟩
    refine ⟨_, rfl, _, _, _, _, true, rfl, .ty _, .base (.int i), kit_ty (by decide +kernel), true, rfl, ?_⟩
    refine ⟨_, rfl, _, _, _, _, false, rfl, .ty _, .base (.int i), kit_ty (by decide +kernel), false, rfl, ?_⟩
    exact q
theorem ok_is_from {f : Addr} {fd : FuncData} (F : FnP K "is_from" s_is_from f fd) (N : Nm mg) (g : mg "is_from" = some (.ref f)) (C1 : Cal P w K mg base 1 "is_int" spIsInt []) : Cal P w K mg base 2 "is_from" spIsFrom [] := by
  refine ⟨f, fd, _, [], F.ok sc_is_from (fun vs H Q E h => ?_) (fun cdv A outer s H vs Q E hr h => ?_), g, F.kp, b_is_from F, .nil⟩
  · obtain ⟨i, a, b, rfl, _⟩ := h
    rfl
  · obtain ⟨i, a, b, rfl, h1, h2, q⟩ := h
    refine ⟨_, PSs.nox (pss_one (ps_ret (pe_and (pe_c C1 hr (by decide) rfl (pa_cons (pv 0) pa_nil)) (pe_one (pe_chain op_le op_le (pv 1) (pv 0) (pv 2)))))), ?_⟩
    refine ⟨_, rfl, i, rfl, true, rfl, ?_⟩
    refine ⟨_, rfl, _, rfl, _, _, rfl, rfl, _, rfl, ?_⟩
    rw [decide_eq_true h1]
    refine ⟨_, rfl, _, _, rfl, rfl, ?_⟩
    show Q (.bl (decide (i ≤ b))) H
    rw [decide_eq_true h2]
    exact q
theorem ok_need_from {f : Addr} {fd : FuncData} (F : FnP K "need_from" s_need_from f fd) (g : mg "need_from" = some (.ref f)) (C2 : Cal P w K mg base 2 "is_from" spIsFrom []) : Cal P w K mg base 3 "need_from" spNeedFrom [] := by
  refine ⟨f, fd, _, [], F.ok sc_need_from (fun vs H Q E h => ?_) (fun cdv A outer s H vs Q E hr h => ?_), g, F.kp, b_need_from F, .nil⟩
  · obtain ⟨i, a, b, rfl, _⟩ := h
    rfl
  · obtain ⟨i, a, b, rfl, h1, h2, q⟩ := h
    refine ⟨_, PSs.nox (pss_one (ps_if (pt_not (pt_val (pe_c C2 hr (by decide) rfl (pa_cons (pv 0) (pa_cons (pv 1) (pa_cons (pv 2) pa_nil)))))) pss_never pss_nil)), ?_⟩
    refine ⟨_, rfl, _, rfl, _, rfl, i, a, b, rfl, h1, h2, true, rfl, ?_⟩
    exact q
theorem ok_is_height {f : Addr} {fd : FuncData} (F : FnP K "is_height" s_is_height f fd) (g : mg "is_height" = some (.ref f)) (mh : ∃ u, mg "MOST_HEIGHT" = some u ∧ RelV (.int 1000) u) (C2 : Cal P w K mg base 2 "is_from" spIsFrom []) : Cal P w K mg base 3 "is_height" spIsHeight [] := by
  refine ⟨f, fd, _, [], F.ok sc_is_height (fun vs H Q E h => ?_) (fun cdv A outer s H vs Q E hr h => ?_), g, F.kp, b_is_height F, .nil⟩
  · obtain ⟨i, rfl, _⟩ := h
    rfl
  · obtain ⟨i, rfl, h1, h2, q⟩ := h
    refine ⟨_, PSs.nox (pss_one (ps_ret (pe_c C2 hr (by decide) rfl (pa_cons (pv 0) (pa_cons (pe_un un_neg (pe_gc rfl mh)) (pa_cons (pe_gc rfl mh) pa_nil)))))), ?_⟩
    exact ⟨_, rfl, 1000, rfl, i, -1000, 1000, rfl, h1, h2, q⟩
/-! ### ties, webs, heights -/
theorem dp_pair {H : Hp} {v : V} {p : Nat × Nat} (h : Dp K H v (dPair p)) : ∃ a, v = .ref a ∧ SqT K H a [.int p.1, .int p.2] := by
  obtain ⟨a, xs, rfl, h1, h2⟩ := dp_tup h
  obtain ⟨v, vs, rfl, h3, h4⟩ := dpAll_cons h2
  obtain ⟨v2, vs2, rfl, h5, h6⟩ := dpAll_cons h4
  rw [dpAll_nil h6, dp_int h3, dp_int h5] at h1
  exact ⟨a, rfl, h1⟩
theorem dp_web {H : Hp} {v : V} {n : Nat} {ties : List (Nat × Nat)} (h : Dp K H v (dWeb n ties)) : ∃ a b xs, v = .ref a ∧ SqT K H a [.int n, .ref b] ∧ SqT K H b xs ∧ DpAll K H xs (ties.map dPair) := by
  obtain ⟨a, xs, rfl, h1, h2⟩ := dp_tup h
  obtain ⟨v, vs, rfl, h3, h4⟩ := dpAll_cons h2
  obtain ⟨v2, vs2, rfl, h5, h6⟩ := dpAll_cons h4
  obtain ⟨b, ys, rfl, h7, h8⟩ := dp_tup h5
  rw [dpAll_nil h6, dp_int h3] at h1
  exact ⟨a, b, ys, rfl, h1, h7, h8⟩
theorem dp_ints {H : Hp} {v : V} {ns : List Int} (h : Dp K H v (dInts ns)) : ∃ a, v = .ref a ∧ SqT K H a (ns.map V.int) := by
  obtain ⟨a, xs, rfl, h1, h2⟩ := dp_tup h
  rw [dpAll_int h2] at h1
  exact ⟨a, rfl, h1⟩
def spIsTie (K : PySem.W.Frag) : Sp := fun vs H Q _ => ∃ (v : V) (p : Nat × Nat) (n : Nat), vs = [v, .int n] ∧ Dp K H v (dPair p) ∧ p.1 < p.2 ∧ p.2 < n ∧ Q (.bl true) H
theorem ok_is_tie {f : Addr} {fd : FuncData} (F : FnP K "is_tie" s_is_tie f fd) (N : Nm mg) (g : mg "is_tie" = some (.ref f)) (C2 : Cal P w K mg base 2 "is_from" spIsFrom []) : Cal P w K mg base 3 "is_tie" (spIsTie K) [] := by
  refine ⟨f, fd, _, [], F.ok sc_is_tie (fun vs H Q E h => ?_) (fun cdv A outer s H vs Q E hr h => ?_), g, F.kp, b_is_tie F, .nil⟩
  · obtain ⟨v, p, n, rfl, _⟩ := h
    rfl
  · obtain ⟨v, ⟨a, b⟩, n, rfl, hv, h1, h2, q⟩ := h
    obtain ⟨t, rfl, ht⟩ := dp_pair hv
    have h1 : a < b := h1
    have h2 : b < n := h2
    refine ⟨_, PSs.nox (pss_cons (ps_if (PW.pt (pw_or (pt_not (pt_val (pe_callB call_isi rfl N.isinstance_ bb_isinstance (pa_cons (pv 0) (pa_cons (ty_tuple rfl N.tuple_) pa_nil))))) (pw_or1 (pt_cmpR op_ne (pe_callB call_len_seq rfl N.len_ PySem.boot_len (pa_cons (pv 0) pa_nil)) pe_int (nomark _))))) pss_never pss_nil)
      (pss_one (ps_ret (pe_and (pe_c C2 hr (by decide) rfl (pa_cons (pe_ix ix_tup (pv 0) pe_int (fun _ _ => rfl)) (pa_cons pe_int (pa_cons (pe_op op_sub (pv 1) pe_int) pa_nil))))
        (pe_and (pe_c C2 hr (by decide) rfl (pa_cons (pe_ix ix_tup (pv 0) pe_int (fun _ _ => rfl)) (pa_cons pe_int (pa_cons (pe_op op_sub (pv 1) pe_int) pa_nil))))
          (pe_one (pe_cmpR op_lt (pe_ix ix_tup (pv 0) pe_int (fun _ _ => rfl)) (pe_ix ix_tup (pv 0) pe_int (fun _ _ => rfl)) (nomark _)))))))), ?_⟩
    refine ⟨_, rfl, _, _, _, _, true, rfl, .ty _, tx_tup ht, kit_ty (by decide +kernel), true, rfl, iteF ?_⟩
    refine ⟨_, rfl, _, _, rfl, .inr ht, rfl, _, rfl, ?_⟩
    refine iteF ?_
    refine ⟨_, rfl, _, _, _, _, rfl, rfl, ht, atI_nat (j := 0) rfl, _, rfl, _, _, rfl, rfl, _, _, _, rfl, by show (0 : Int) ≤ a; omega, by show (a : Int) ≤ (n : Int) - 1; omega, true, rfl, ?_⟩
    refine ⟨_, rfl, _, _, _, _, rfl, rfl, ht, atI_nat (j := 1) rfl, _, rfl, _, _, rfl, rfl, _, _, _, rfl, by show (0 : Int) ≤ b; omega, by show (b : Int) ≤ (n : Int) - 1; omega, true, rfl, ?_⟩
    refine ⟨_, rfl, _, _, _, _, rfl, rfl, ht, atI_nat (j := 0) rfl, _, rfl, _, _, _, _, rfl, rfl, ht, atI_nat (j := 1) rfl, _, _, rfl, rfl, ?_⟩
    show Q (.bl (decide ((a : Int) < b))) H
    rw [decide_eq_true (by omega)]
    exact q
end
end So
namespace So
open PySem PySem.Spec PyProof.Rows L2 PySem.W LamX
open C8 (Cal pe_c pe_gc)
section
variable {P : Program} {w : World} {K : PySem.W.Frag} {mg : Str → Option Value} {base : Heap} {T : List (Addr × Str)}
theorem lexAt2 (a b c d : Int) (h : c < a ∨ (c = a ∧ d < b)) :
    Ob.lexAt (fun j => decide ([a, b].getD j 0 = [c, d].getD j 0)) (fun j => decide ([a, b].getD j 0 ≤ [c, d].getD j 0)) (decide ([a, b].length ≤ [c, d].length)) 0 (min [a, b].length [c, d].length) = false := by
  show Ob.lexAt _ _ _ 0 2 = false
  simp only [Ob.lexAt]
  rcases h with h | ⟨h1, h2⟩
  · have e : ¬ a = c := by omega
    simp [e]
    omega
  · subst h1
    have e : ¬ b = d := by omega
    simp [e]
    omega
def spNeedWeb (K : PySem.W.Frag) (T : List (Addr × Str)) : Sp := fun vs H Q _ => ∃ (v : V) (n : Nat) (ties : List (Nat × Nat)), vs = [v] ∧ Dp K H v (dWeb n ties) ∧ Wb n ties ∧ ∀ H', Gr T H H' → Q .non H'
theorem ok_need_web {f : Addr} {fd : FuncData} (F : FnP K "need_web" s_need_web f fd) (N : Nm mg) (g : mg "need_web" = some (.ref f)) (mp : ∃ u, mg "MOST_PERSONS" = some u ∧ RelV (.int 8) u) (C2 : Cal P w K mg base 2 "is_from" spIsFrom []) (C3 : Cal P w K mg base 3 "is_tie" (spIsTie K) []) :
    Cal P w K mg base 4 "need_web" (spNeedWeb K T) [] := by
  refine ⟨f, fd, _, [], F.ok sc_need_web (fun vs H Q E h => ?_) (fun cdv A outer s H vs Q E hr h => ?_), g, F.kp, b_need_web F, .nil⟩
  · obtain ⟨v, n, ties, rfl, _⟩ := h
    rfl
  · obtain ⟨v, n, ties, rfl, hv, wb, q⟩ := h
    obtain ⟨a, b, xs, rfl, ha, hb, hx⟩ := dp_web hv
    have nd := sc_need_web.nd
    refine ⟨_, PSs.nox (pss_cons (ps_if (PW.pt (pw_or (pt_not (pt_val (pe_callB call_isi rfl N.isinstance_ bb_isinstance (pa_cons (pv 0) (pa_cons (ty_tuple rfl N.tuple_) pa_nil))))) (pw_or1 (pt_cmpR op_ne (pe_callB call_len_seq rfl N.len_ PySem.boot_len (pa_cons (pv 0) pa_nil)) pe_int (nomark _))))) pss_never pss_nil)
      (pss_cons (ps_asg (pv 0) (pg_tup (by rfl) (pgs_cons (pg_name (i := 1) nd rfl (.inl rfl)) (pgs_cons (pg_name (i := 2) nd rfl (.inl rfl)) pgs_nil))))
      (pss_cons (ps_if (PW.pt (pw_or (pt_not (pt_val (pe_c C2 hr (by decide) rfl (pa_cons (pv 1) (pa_cons pe_int (pa_cons (pe_gc rfl mp) pa_nil)))))) (pw_or1 (pt_not (pt_val (pe_callB call_isi rfl N.isinstance_ bb_isinstance (pa_cons (pv 2) (pa_cons (ty_tuple rfl N.tuple_) pa_nil)))))))) pss_never pss_nil)
      (pss_one (ps_for PassesOwn.never rfl (pi_enumT rfl N.enumerate_ (pa_cons (pv 2) pa_nil)) (pg_tup (by rfl) (pgs_cons (pg_name (i := 3) nd rfl (.inl rfl)) (pgs_cons (pg_name (i := 4) nd rfl (.inl rfl)) pgs_nil)))
        (pss_one (ps_if (PW.pt (pw_or (pt_not (pt_val (pe_c C3 hr (by decide) rfl (pa_cons (pv 4) (pa_cons (pv 1) pa_nil))))) (pw_or1 (PW.pt (pw_and (pt_cmpR op_gt (pv 3) pe_int (nomark _)) (pw_and1 (pt_cmpR (op_leT hr.units0) (pv 4) (pe_ix ix_tup (pv 2) (pe_op op_sub (pv 3) pe_int) (fun _ _ => rfl)) (nomark _)))))))) pss_never pss_nil))))))), ?_⟩
    refine ⟨_, rfl, _, _, _, _, true, rfl, .ty _, tx_tup ha, kit_ty (by decide +kernel), true, rfl, iteF ?_⟩
    refine ⟨_, rfl, _, _, rfl, .inr ha, rfl, _, rfl, iteF ?_⟩
    refine ⟨_, rfl, a, _, rfl, ha, rfl, _, _, rfl, _, _, rfl, rfl, ?_⟩
    refine ⟨_, rfl, _, _, _, rfl, by have := wb.pos; omega, by have := wb.le; omega, true, rfl, iteF ?_⟩
    refine ⟨_, rfl, _, _, _, _, true, rfl, .ty _, tx_tup hb, kit_ty (by decide +kernel), true, rfl, iteF ?_⟩
    refine ⟨_, rfl, b, xs, rfl, hb, ?_⟩
    refine for_it walk_enumT (fun i σ H' => Gr T H H' ∧ ∃ z3 z4, σ = [some (.ref a), some (.int n), some (.ref b), z3, z4]) ⟨Gr.refl, none, none, rfl⟩ (fun i σ H' _ h => h.1.sqT hb) (fun i x σ H1 H2 hi h y => ?_) (fun σ H' h => q H' h.1)
    obtain ⟨g1, z3, z4, rfl⟩ := h
    obtain ⟨t, i', y, rfl, nt, rfl, e1, e2⟩ := y
    cases e1
    have g2 : Gr T H (upd H1 t (.tup [.int (i : Nat), y])) := g1.new2 nt
    have hit : i < ties.length := by
      have := DpAll.len hx
      rw [List.length_map] at this
      omega
    have et : ties[i]? = some ties[i] := List.getElem?_eq_getElem hit
    have hy : Dp K (upd H1 t (.tup [.int (i : Nat), y])) y (dPair ties[i]) := dpAll_at2 (g2.dpAll hx) e2 (by rw [List.getElem?_map, et]; rfl)
    obtain ⟨ya, rfl, hya⟩ := dp_pair hy
    have hb2 := g2.sqT hb
    have okt := wb.ok _ (List.mem_of_getElem? et)
    refine ⟨t, _, rfl, SqT.of upd_same, rfl, _, _, rfl, _, _, rfl, rfl, ?_⟩
    refine ⟨_, rfl, _, rfl, _, _, _, rfl, hy, okt.1, okt.2, true, rfl, iteF ?_⟩
    refine ⟨_, rfl, _, _, rfl, rfl, _, rfl, ite2 (fun e => ?_) (fun e => ?_)⟩
    · have e : (0 : Int) < (i : Int) := of_decide_eq_true e
      have hi1 : i - 1 < ties.length := by omega
      have et1 : ties[i - 1]? = some ties[i - 1] := List.getElem?_eq_getElem hi1
      obtain ⟨p, ep, hp⟩ := dpAll_at (g2.dpAll hx) (i := i - 1) (d := dPair ties[i - 1]) (by rw [List.getElem?_map, et1]; rfl)
      obtain ⟨pa, rfl, hpa⟩ := dp_pair hp
      have hup := wb.up (i - 1) _ _ et1 (by rw [show i - 1 + 1 = i by omega]; exact et)
      refine ⟨_, rfl, _, rfl, _, rfl, _, _, rfl, rfl, b, xs, (i : Int) - 1, .ref pa, rfl, rfl, hb2, ?_, ?_⟩
      · rw [show (i : Int) - 1 = ((i - 1 : Nat) : Int) by omega]
        exact atI_nat ep
      · refine ⟨ya, pa, [_, _], [_, _], rfl, rfl, hya, hpa, _, rfl, ?_⟩
        rw [lexAt2 _ _ _ _ (by rcases hup with h | ⟨h1, h2⟩ <;> omega)]
        refine iteF ?_
        exact ⟨g2, _, _, rfl⟩
    · refine iteF ?_
      exact ⟨g2, _, _, rfl⟩
end
end So
namespace So
open PySem PySem.Spec PyProof.Rows L2 PySem.W LamX
open C8 (Cal pe_c pe_gc)
section
variable {P : Program} {w : World} {K : PySem.W.Frag} {mg : Str → Option Value} {base : Heap} {T : List (Addr × Str)}
theorem int_at {hs : List Int} {i : Nat} {y : V} (h : (hs.map V.int)[i]? = some y) : ∃ n, hs[i]? = some n ∧ y = .int n := by
  rw [List.getElem?_map] at h
  cases e : hs[i]? with
  | none => rw [e] at h; cases h
  | some n =>
    rw [e] at h
    cases h
    exact ⟨n, rfl, rfl⟩
def spNeedHs (K : PySem.W.Frag) (T : List (Addr × Str)) : Sp := fun vs H Q _ => ∃ (v u : V) (n : Nat) (ties : List (Nat × Nat)) (hs : List Int), vs = [v, u] ∧ Dp K H v (dWeb n ties) ∧ Dp K H u (dInts hs) ∧ hs.length = n ∧ n ≤ 4 ∧ (∀ x ∈ hs, -1000 ≤ x ∧ x ≤ 1000) ∧ ∀ H', Gr T H H' → Q .non H'
theorem ok_need_heights {f : Addr} {fd : FuncData} (F : FnP K "need_heights" s_need_heights f fd) (N : Nm mg) (g : mg "need_heights" = some (.ref f)) (C3 : Cal P w K mg base 3 "is_height" spIsHeight []) :
    Cal P w K mg base 4 "need_heights" (spNeedHs K T) [] := by
  refine ⟨f, fd, _, [], F.ok sc_need_heights (fun vs H Q E h => ?_) (fun cdv A outer s H vs Q E hr h => ?_), g, F.kp, b_need_heights F, .nil⟩
  · obtain ⟨v, u, n, ties, hs, rfl, _⟩ := h
    rfl
  · obtain ⟨v, u, n, ties, hs, rfl, hv, hu, hl, hn4, hb, q⟩ := h
    obtain ⟨a, b, xs, rfl, ha, _, _⟩ := dp_web hv
    obtain ⟨c, rfl, hc⟩ := dp_ints hu
    have nd := sc_need_heights.nd
    refine ⟨_, PSs.nox (pss_cons (ps_if (PW.pt (pw_or (pt_not (pt_val (pe_callB call_isi rfl N.isinstance_ bb_isinstance (pa_cons (pv 1) (pa_cons (ty_tuple rfl N.tuple_) pa_nil))))) (pw_or1 (pt_cmpR op_ne (pe_callB call_len_seq rfl N.len_ PySem.boot_len (pa_cons (pv 1) pa_nil)) (pe_ix ix_tup (pv 0) pe_int (fun _ _ => rfl)) (nomark _))))) pss_never pss_nil)
      (pss_one (ps_for PassesOwn.never rfl (pi_enumT rfl N.enumerate_ (pa_cons (pv 1) pa_nil)) (pg_tup (by rfl) (pgs_cons (pg_name (i := 2) nd rfl (.inl rfl)) (pgs_cons (pg_name (i := 3) nd rfl (.inl rfl)) pgs_nil)))
        (pss_one (ps_if (pt_not (pt_val (pe_c C3 hr (by decide) rfl (pa_cons (pv 3) pa_nil)))) pss_never pss_nil))))), ?_⟩
    refine ⟨_, rfl, _, _, _, _, true, rfl, .ty _, tx_tup hc, kit_ty (by decide +kernel), true, rfl, iteF ?_⟩
    refine ⟨_, rfl, _, _, rfl, .inr hc, _, rfl, _, _, _, _, rfl, rfl, ha, atI_nat (j := 0) rfl, rfl, _, rfl, ?_⟩
    refine iteNS (by rw [List.length_map, hl]) ?_
    refine ⟨_, rfl, c, _, rfl, hc, ?_⟩
    refine for_it walk_enumT (fun i σ H' => Gr T H H' ∧ ∃ z3 z4, σ = [some (.ref a), some (.ref c), z3, z4]) ⟨Gr.refl, none, none, rfl⟩ (fun i σ H' _ h => h.1.sqT hc) (fun i x σ H1 H2 hi h y => ?_) (fun σ H' h => q H' h.1)
    obtain ⟨g1, z3, z4, rfl⟩ := h
    obtain ⟨t, i', y, rfl, nt, rfl, e1, e2⟩ := y
    cases e1
    have g2 : Gr T H (upd H1 t (.tup [.int (i : Nat), y])) := g1.new2 nt
    obtain ⟨h, eh, rfl⟩ := int_at e2
    have hbd := hb h (List.mem_of_getElem? eh)
    refine ⟨t, _, rfl, SqT.of upd_same, rfl, _, _, rfl, _, _, rfl, rfl, ?_⟩
    refine ⟨_, rfl, _, rfl, hbd.1, hbd.2, true, rfl, iteF ?_⟩
    exact ⟨g2, _, _, rfl⟩
def spNeedStart (K : PySem.W.Frag) (T : List (Addr × Str)) : Sp := fun vs H Q _ => ∃ (v u : V) (n : Nat) (ties : List (Nat × Nat)) (hs : List Int), vs = [v, u] ∧ Dp K H v (dWeb n ties) ∧ Wb n ties ∧ Dp K H u (dInts hs) ∧ hs.length = n ∧ (∀ x ∈ hs, -1000 ≤ x ∧ x ≤ 1000) ∧ ∀ H', Gr T H H' → Q .non H'
theorem ok_need_start {f : Addr} {fd : FuncData} (F : FnP K "need_start" s_need_start f fd) (g : mg "need_start" = some (.ref f)) (C4 : Cal P w K mg base 4 "need_web" (spNeedWeb K T) []) (C5 : Cal P w K mg base 4 "need_heights" (spNeedHs K T) []) :
    Cal P w K mg base 5 "need_start" (spNeedStart K T) [] := by
  refine ⟨f, fd, _, [], F.ok sc_need_start (fun vs H Q E h => ?_) (fun cdv A outer s H vs Q E hr h => ?_), g, F.kp, b_need_start F, .nil⟩
  · obtain ⟨v, u, n, ties, hs, rfl, _⟩ := h
    rfl
  · obtain ⟨v, u, n, ties, hs, rfl, hv, wb, hu, hl, hb, q⟩ := h
    refine ⟨_, PSs.nox (pss_cons (ps_expr (pe_c C4 hr (by decide) rfl (pa_cons (pv 0) pa_nil))) (pss_one (ps_expr (pe_c C5 hr (by decide) rfl (pa_cons (pv 0) (pa_cons (pv 1) pa_nil)))))), ?_⟩
    refine ⟨_, rfl, v, n, ties, rfl, hv, wb, fun H1 g1 => ?_⟩
    exact ⟨_, rfl, _, rfl, v, u, n, ties, hs, rfl, g1.dp hv, g1.dp hu, hl, wb.le, hb, fun H2 g2 => q H2 (g1.trans g2)⟩
def spNeedWs (K : PySem.W.Frag) (T : List (Addr × Str)) : Sp := spNeedHs K T
theorem ok_need_weights {f : Addr} {fd : FuncData} (F : FnP K "need_weights" s_need_weights f fd) (N : Nm mg) (g : mg "need_weights" = some (.ref f)) (C2 : Cal P w K mg base 2 "is_from" spIsFrom []) :
    Cal P w K mg base 3 "need_weights" (spNeedWs K T) [] := by
  refine ⟨f, fd, _, [], F.ok sc_need_weights (fun vs H Q E h => ?_) (fun cdv A outer s H vs Q E hr h => ?_), g, F.kp, b_need_weights F, .nil⟩
  · obtain ⟨v, u, n, ties, hs, rfl, _⟩ := h
    rfl
  · obtain ⟨v, u, n, ties, hs, rfl, hv, hu, hl, hn4, hb, q⟩ := h
    obtain ⟨a, b, xs, rfl, ha, _, _⟩ := dp_web hv
    obtain ⟨c, rfl, hc⟩ := dp_ints hu
    have nd := sc_need_weights.nd
    refine ⟨_, PSs.nox (pss_cons (ps_if (PW.pt (pw_or (pt_not (pt_val (pe_callB call_isi rfl N.isinstance_ bb_isinstance (pa_cons (pv 1) (pa_cons (ty_tuple rfl N.tuple_) pa_nil))))) (pw_or1 (pt_cmpR op_ne (pe_callB call_len_seq rfl N.len_ PySem.boot_len (pa_cons (pv 1) pa_nil)) (pe_ix ix_tup (pv 0) pe_int (fun _ _ => rfl)) (nomark _))))) pss_never pss_nil)
      (pss_one (ps_if (pt_not (pt_val (pe_callB (cr_all rfl) rfl N.all_ (by decide +kernel) (pa_cons
        (pe_lc (own := [("one", 2)]) (g := gName 2) (tt := tYes) rfl nd (pi_tup (pv 1)) (blkOk_by (own := [("one", 2)]) (N := ["web", "value", "one"]) (sc := defScope s_need_weights) (by decide +kernel)) (fun _ _ _ _ _ => pg_name (i := 2) nd rfl (Or.inl rfl)) (fun _ _ _ _ _ => pts_nil)
          (fun _ _ _ _ _ => pe_c C2 hr (by decide) rfl (pa_cons (pv 2) (pa_cons (pe_un un_neg pe_int) (pa_cons pe_int pa_nil))))) pa_nil)))) pss_never pss_nil))), ?_⟩
    refine ⟨_, rfl, _, _, _, _, true, rfl, .ty _, tx_tup hc, kit_ty (by decide +kernel), true, rfl, iteF ?_⟩
    refine ⟨_, rfl, _, _, rfl, .inr hc, _, rfl, _, _, _, _, rfl, rfl, ha, atI_nat (j := 0) rfl, rfl, _, rfl, ?_⟩
    refine iteNS (by rw [List.length_map, hl]) ?_
    refine ⟨_, rfl, c, rfl, ⟨_, hc⟩, fun D hD => ?_⟩
    refine lcD (T := T) (K := K) hs (fun _ => some (.bool true)) (fun _ _ e => by cases e; rfl) walk_tup (by rw [List.length_map]) hD ?_ (fun H' g' => g'.sqT hc) (fun i x v H1 H2 Yes No ex g1 y hy hn => ?_) (fun H' ys g' eD hys => ?_)
    · omega
    · obtain ⟨rfl, ev⟩ := y
      obtain ⟨z, ez, rfl⟩ := int_at ev
      cases ez.symm.trans ex
      have hbd := hb _ (List.mem_of_getElem? ex)
      refine ⟨rfl, ?_⟩
      exact ⟨_, rfl, _, rfl, _, _, _, rfl, hbd.1, hbd.2, hy _ _ _ rfl Gr.refl (.bl true)⟩
    · have e2 : hs.filterMap (fun _ => some (PyData.bool true)) = (hs.map fun _ => true).map PyData.bool := by
        rw [List.map_map, List.filterMap_eq_map']
        rfl
      rw [e2] at hys
      rw [dpAll_bool hys] at eD
      refine ⟨D, _, rfl, SqL.of eD, true, ?_, iteF ?_⟩
      · simp
      · exact q H' g'
end
end So
namespace So
open PySem PySem.Spec PyProof.Rows L2 PySem.W LamX
open C8 (Cal pe_c pe_gc)
/-! ### plain -/
def leN (a b : Nat) : Bool := decide (a ≤ b)
def sortN (l : List Nat) : List Nat := l.mergeSort leN
theorem sortN_perm (l : List Nat) : (sortN l).Perm l := List.mergeSort_perm l leN
theorem sortN_pw (l : List Nat) : (sortN l).Pairwise (· ≤ ·) :=
  (List.pairwise_mergeSort (le := leN) (fun a b c h1 h2 => decide_eq_true (Nat.le_trans (of_decide_eq_true h1) (of_decide_eq_true h2))) (fun a b => by
    unfold leN
    rcases Nat.le_total a b with h | h <;> simp [h]) l).imp fun h => of_decide_eq_true h
theorem sortN_int {l : List Nat} {ns : List Int} (p : ns.Perm (l.map fun (n : Nat) => (n : Int))) (s : ns.Pairwise (· ≤ ·)) : ns = (sortN l).map fun (n : Nat) => (n : Int) := by
  refine List.Perm.eq_of_pairwise (le := (· ≤ ·)) (fun a b _ _ h1 h2 => Int.le_antisymm h1 h2) s ?_ (p.trans ((sortN_perm l).map _).symm)
  rw [List.pairwise_map]
  exact (sortN_pw l).imp fun h => by omega
theorem sortN_mem {l : List Nat} {x : Nat} : x ∈ sortN l ↔ x ∈ l := (sortN_perm l).mem_iff
/-- the other ends of the person's ties -/
def endsAt (ties : List (Nat × Nat)) (p : Nat) : List Nat := ties.filterMap fun t => if t.1 = p ∨ t.2 = p then some (t.1 + t.2 - p) else none
def tiedTo (ties : List (Nat × Nat)) (p : Nat) : List Nat := sortN (endsAt ties p)
theorem tiedTo_len (ties : List (Nat × Nat)) (p : Nat) : (tiedTo ties p).length ≤ ties.length := by
  unfold tiedTo
  rw [(sortN_perm _).length_eq]
  exact List.length_filterMap_le _ _
section
variable {P : Program} {w : World} {K : PySem.W.Frag} {mg : Str → Option Value} {base : Heap} {T : List (Addr × Str)}
theorem pair_at {H : Hp} {xs : List V} {ps : List (Nat × Nat)} (h : DpAll K H xs (ps.map dPair)) {i : Nat} {x : V} (e : xs[i]? = some x) : ∃ p a, ps[i]? = some p ∧ x = .ref a ∧ SqT K H a [.int p.1, .int p.2] := by
  have hl := DpAll.len h
  rw [List.length_map] at hl
  have hi : i < ps.length := by
    have := List.getElem?_eq_some_iff.mp e
    obtain ⟨h1, _⟩ := this
    omega
  have ep : ps[i]? = some ps[i] := List.getElem?_eq_getElem hi
  obtain ⟨a, h1, h2⟩ := dp_pair (dpAll_at2 h e (by rw [List.getElem?_map, ep]; rfl))
  exact ⟨_, a, ep, h1, h2⟩
abbrev sIn (p a b : Nat) : Bool := inV (.int p) [.int a, .int b]
theorem sIn_eq (p a b : Nat) : sIn p a b = decide (a = p ∨ b = p) := by
  show ((([V.int a, V.int b] : List V).any fun y => eqV y (.int p))) = _
  simp only [List.any_cons, List.any_nil, eqV, Bool.or_false]
  by_cases h1 : a = p <;> by_cases h2 : b = p <;> simp [h1, h2] <;> omega
theorem take_fm {α β : Type} (f : α → Option β) (l : List α) {i : Nat} {a : α} (h : l[i]? = some a) : (l.take (i + 1)).filterMap f = (l.take i).filterMap f ++ (f a).toList := by
  rw [List.take_add_one, h, List.filterMap_append]
  cases e : f a <;> simp [e]
theorem szTake {α β : Type} {l : List α} {i : Nat} (f : α → Option β) (h : l.length ≤ 100000) : ((l.take i).filterMap f).length < sizeLine := by
  have h1 := List.length_filterMap_le f (l.take i)
  have h2 : (l.take i).length ≤ l.length := by
    rw [List.length_take]
    omega
  exact Nat.lt_of_le_of_lt (show _ ≤ 100000 by omega) (by decide)
def spTied (K : PySem.W.Frag) (T : List (Addr × Str)) : Sp := fun vs H Q _ => ∃ (v : V) (n : Nat) (ties : List (Nat × Nat)) (p : Nat), vs = [v, .int p] ∧ Dp K H v (dWeb n ties) ∧ ties.length ≤ 16 ∧ ∀ H' l, Gr T H H' → Nw H l → H' l = some (.lst ((tiedTo ties p).map fun (n : Nat) => V.int n)) → Q (.ref l) H'
theorem ok_tied_to {f : Addr} {fd : FuncData} (F : FnP K "tied_to" s_tied_to f fd) (N : Nm mg) (g : mg "tied_to" = some (.ref f)) :
    Cal P w K mg base 1 "tied_to" (spTied K T) [] := by
  refine ⟨f, fd, _, [], F.ok sc_tied_to (fun vs H Q E h => ?_) (fun cdv A outer s H vs Q E hr h => ?_), g, F.kp, b_tied_to F, .nil⟩
  · obtain ⟨v, n, ties, p, rfl, _⟩ := h
    rfl
  · obtain ⟨v, n, ties, p, rfl, hv, hl, q⟩ := h
    obtain ⟨a, b, xs, rfl, ha, hb, hx⟩ := dp_web hv
    have nd := sc_tied_to.nd
    refine ⟨_, PSs.nox (pss_cons (ps_set (i := 2) nd rfl (.inl rfl) (pe_lst pa_nil))
      (pss_cons (ps_for PassesOwn.never rfl (pi_tup (pe_ix ix_tup (pv 0) pe_int (fun _ _ => rfl))) (pg_tup (by rfl) (pgs_cons (pg_name (i := 3) nd rfl (.inl rfl)) (pgs_cons (pg_name (i := 4) nd rfl (.inl rfl)) pgs_nil)))
        (pss_one (ps_if (pt_cmpR op_in_seq (pv 1) (pe_tup (pa_cons (pv 3) (pa_cons (pv 4) pa_nil))) (by rfl))
          (pss_one (ps_expr (pe_bm PySem.F.plainAttrs_list PySem.F.slot_list_append PySem.F.type_list_append mt_append (pv 2) (pa_cons (pe_op op_sub (pe_op op_add (pv 3) (pv 4)) (pv 1)) pa_nil)))) pss_nil)))
      (pss_one (ps_ret (pe_callB cr_sortedI rfl N.sorted_ (by decide +kernel) (pa_cons (pv 2) pa_nil)))))), ?_⟩
    refine ⟨Nat.zero_le _, fun o no => ?_⟩
    have nO : Nw H o := Nw.of no
    have g0 : Gr T H (upd H o (.lst [])) := Gr.new no
    refine ⟨.ref a, rfl, a, _, _, .ref b, rfl, rfl, g0.sqT ha, atI_nat (j := 1) rfl, b, rfl, ⟨_, g0.sqT hb⟩, ?_⟩
    refine for_it walk_tup (fun i σ H' => Gr T H H' ∧ H' o = some (.lst (((ties.take i).filterMap fun t => if t.1 = p ∨ t.2 = p then some (t.1 + t.2 - p) else none).map fun (n : Nat) => V.int n)) ∧ ∃ z3 z4, σ = [some (.ref a), some (.int p), some (.ref o), z3, z4]) ⟨g0, upd_same, none, none, rfl⟩ (fun i σ H' _ h => h.1.sqT hb) (fun i x σ H1 H2 hi h y => ?_) (fun σ H' h => ?_)
    · obtain ⟨g1, eo, z3, z4, rfl⟩ := h
      obtain ⟨rfl, e2⟩ := y
      obtain ⟨t, ta, et, rfl, hta⟩ := pair_at (g1.dpAll hx) e2
      refine ⟨ta, _, rfl, hta, rfl, _, _, rfl, _, _, rfl, rfl, ?_⟩
      refine ⟨_, rfl, _, rfl, _, rfl, by show 2 ≤ sizeLine; decide, fun c nc => ?_⟩
      have g2 : Gr T H (upd H2 c (.tup [.int t.1, .int t.2])) := g1.new2 nc
      have oc : o ≠ c := ne_of_none eo nc
      have eo2 : (upd H2 c (.tup [.int t.1, .int t.2])) o = _ := (upd_ne oc).trans eo
      refine ⟨c, _, rfl, .inr (SqT.of upd_same), rfl, rfl, _, rfl, ?_⟩
      show (if sIn p t.1 t.2 = true then _ else _)
      rw [sIn_eq]
      refine ite2 (fun e => ?_) (fun e => ?_)
      · have e : t.1 = p ∨ t.2 = p := of_decide_eq_true e
        refine ⟨.ref o, rfl, .inl ⟨rfl, _, SqL.of eo2⟩, _, rfl, _, rfl, _, _, rfl, rfl, _, rfl, _, _, rfl, rfl, o, _, _, rfl, rfl, eo2, ?_, ?_⟩
        · rw [List.length_map]
          exact szTake _ (by omega)
        · refine ⟨g2.put nO eo2, ?_, _, _, rfl⟩
          rw [upd_same, take_fm _ ties et, if_pos e, List.map_append]
          have : ((t.1 : Int) + t.2 - p) = ((t.1 + t.2 - p : Nat) : Int) := by omega
          show some (HO.lst (_ ++ [V.int ((t.1 : Int) + t.2 - p)])) = _
          rw [this]
          rfl
      · have e : ¬ (t.1 = p ∨ t.2 = p) := fun z => e (decide_eq_true z)
        refine ⟨g2, ?_, _, _, rfl⟩
        rw [eo2, take_fm _ ties et, if_neg e]
        simp
    · obtain ⟨g1, eo, z3, z4, rfl⟩ := h
      have hlen : xs.length = ties.length := by
        have := DpAll.len hx
        rw [List.length_map] at this
        exact this
      rw [hlen, List.take_length] at eo
      refine ⟨.ref o, rfl, o, (endsAt ties p).map fun (n : Nat) => (n : Int), rfl, SqL.of ?_, fun ns' c hp hs nc => ?_⟩
      · rw [List.map_map]
        exact eo
      · refine q _ c (g1.new2 nc) (Nw.back g1 (Nw.of nc)) ?_
        rw [upd_same, sortN_int hp hs, List.map_map]
        rfl
end
end So
namespace So
open PySem PySem.Spec PyProof.Rows L2 PySem.W LamX
open C8 (Cal pe_c pe_gc)
section
variable {P : Program} {w : World} {K : PySem.W.Frag} {mg : Str → Option Value} {base : Heap} {T : List (Addr × Str)}
/-! ### everybody -/
def spEverybody (K : PySem.W.Frag) (T : List (Addr × Str)) : Sp := fun vs H Q _ => ∃ (v : V) (n : Nat) (ties : List (Nat × Nat)), vs = [v] ∧ Dp K H v (dWeb n ties) ∧ n ≤ 4 ∧ ∀ H' l, Gr T H H' → H' l = some (.tup ((List.range n).map fun (n : Nat) => V.int n)) → Q (.ref l) H'
theorem rgV0 (n : Nat) : rgV 0 (n : Int) = (List.range n).map fun (n : Nat) => V.int n := by
  unfold rgV
  rw [show ((n : Int) - 0).toNat = n by omega]
  refine List.map_congr_left fun i _ => ?_
  rw [Int.zero_add]
theorem ok_everybody {f : Addr} {fd : FuncData} (F : FnP K "everybody" s_everybody f fd) (N : Nm mg) (g : mg "everybody" = some (.ref f)) :
    Cal P w K mg base 1 "everybody" (spEverybody K T) [] := by
  refine ⟨f, fd, _, [], F.ok sc_everybody (fun vs H Q E h => ?_) (fun cdv A outer s H vs Q E hr h => ?_), g, F.kp, b_everybody F, .nil⟩
  · obtain ⟨v, n, ties, rfl, _⟩ := h
    rfl
  · obtain ⟨v, n, ties, rfl, hv, hn, q⟩ := h
    obtain ⟨a, b, xs, rfl, ha, _, _⟩ := dp_web hv
    refine ⟨_, PSs.nox (pss_one (ps_ret (pe_tupRg rfl rfl N.tuple_ (prg_1 rfl N.range_ (pe_ix ix_tup (pv 0) pe_int (fun _ _ => rfl)))))), ?_⟩
    refine ⟨_, rfl, _, _, _, _, rfl, rfl, ha, atI_nat (j := 0) rfl, _, rfl, .of_le (by omega) (by omega) (by omega) (by omega), fun q1 nq => ?_⟩
    exact q _ q1 (Gr.new nq) (by rw [upd_same, rgV0])
/-! ### open_at -/
def openAt (hs gs : List Int) (v : Int) : List Nat := (List.range hs.length).filter fun i => decide (v ≤ hs.getD i 0 ∧ gs.getD i 0 ≤ v)
theorem getD_at {hs : List Int} {i : Nat} {x : Int} (h : hs[i]? = some x) : hs.getD i 0 = x := by
  rw [List.getD_eq_getElem?_getD, h]
  rfl
theorem int_get {hs : List Int} {i : Nat} (h : i < hs.length) : (hs.map V.int)[i]? = some (.int (hs.getD i 0)) := by
  have e : hs[i]? = some hs[i] := List.getElem?_eq_getElem h
  rw [List.getElem?_map, e, getD_at e]
  rfl
theorem filterMap_if {α β : Type} (l : List α) (p : α → Bool) (f : α → β) : l.filterMap (fun a => if p a = true then some (f a) else none) = (l.filter p).map f := by
  induction l with
  | nil => rfl
  | cons a l ih => by_cases h : p a = true <;> simp [h, ih]
theorem dpAll_ns {H : Hp} {xs : List V} {ns : List Nat} (h : DpAll K H xs (dNs ns)) : xs = ns.map fun (n : Nat) => V.int n := by
  rw [dNs_ints] at h
  rw [dpAll_int h, List.map_map]
  rfl
theorem ns_dpAll {H : Hp} (ns : List Nat) : DpAll K H (ns.map fun (n : Nat) => V.int n) (dNs ns) := by
  rw [dNs_ints, show (ns.map fun (n : Nat) => V.int n) = (ns.map fun (n : Nat) => (n : Int)).map V.int by rw [List.map_map]; rfl]
  exact int_dpAll _
theorem range_at {n i : Nat} (h : i < n) : (List.range n)[i]? = some i := by
  rw [List.getElem?_range h]
theorem walk_rg0 {m n : Nat} (h : m = n) : Walk (Itr 0 m) n (fun _ => True) (YFn fun i => .int (i : Nat)) := by
  subst h
  exact walk_range.mono (fun _ h => h) fun i H x H' _ _ y => ⟨y.1, by rw [y.2]; exact congrArg V.int (Int.zero_add _)⟩
def spOpenAt (K : PySem.W.Frag) (T : List (Addr × Str)) : Sp := fun vs H Q _ => ∃ (u v : V) (hs gs : List Int) (z : Int), vs = [u, v, .int z] ∧ Dp K H u (dInts hs) ∧ Dp K H v (dInts gs) ∧ hs.length ≤ 4 ∧ gs.length = hs.length ∧ ∀ H' l, Gr T H H' → H' l = some (.lst ((openAt hs gs z).map fun (n : Nat) => V.int n)) → Q (.ref l) H'
theorem ok_open_at {f : Addr} {fd : FuncData} (F : FnP K "open_at" s_open_at f fd) (N : Nm mg) (g : mg "open_at" = some (.ref f)) :
    Cal P w K mg base 1 "open_at" (spOpenAt K T) [] := by
  refine ⟨f, fd, _, [], F.ok sc_open_at (fun vs H Q E h => ?_) (fun cdv A outer s H vs Q E hr h => ?_), g, F.kp, b_open_at F, .nil⟩
  · obtain ⟨u, v, hs, gs, z, rfl, _⟩ := h
    rfl
  · obtain ⟨u, v, hs, gs, z, rfl, hu, hv, hl, hgl, q⟩ := h
    obtain ⟨a, rfl, ha⟩ := dp_ints hu
    obtain ⟨b, rfl, hb⟩ := dp_ints hv
    have nd := sc_open_at.nd
    refine ⟨_, PSs.nox (pss_one (ps_ret (pe_lc (own := [("one", 3)]) (g := gName 3) (tt := tTest (tChain (rI0 fun i j => .bl (decide (j ≤ i))) (rI0 fun i j => .bl (decide (j ≤ i))) (tOp (rIxT K) (tVar 0) (tVar 3)) (tVar 2) (tOp (rIxT K) (tVar 1) (tVar 3)))) rfl nd (pi_range1 rfl N.range_ (pa_cons (pe_callB call_len_seq rfl N.len_ PySem.boot_len (pa_cons (pv 0) pa_nil)) pa_nil)) (blkOk_by (own := [("one", 3)]) (N := ["heights", "goal", "height", "one"]) (sc := defScope s_open_at) (by decide +kernel)) (fun _ _ _ _ _ => pg_name (i := 3) nd rfl (Or.inl rfl))
      (fun _ _ _ _ _ => pts_one (pt_chain op_ge op_ge (pe_ix ix_tup (pv 0) (pv 3) (fun _ _ => rfl)) (pv 2) (pe_ix ix_tup (pv 1) (pv 3) (fun _ _ => rfl)))) (fun _ _ _ _ _ => pv 3)))), ?_⟩
    refine ⟨_, rfl, _, _, rfl, .inr ha, hs.length, by rw [List.length_map], by omega, by omega, fun D hD => ?_⟩
    refine lcD (T := T) (K := K) (List.range hs.length) (fun i => if decide (z ≤ hs.getD i 0 ∧ gs.getD i 0 ≤ z) = true then some (dN i) else none) (fun _ _ e => by split at e <;> cases e; rfl) (walk_rg0 (Int.toNat_natCast _)) (by rw [List.length_range]) hD (by rw [List.length_range]; omega) (fun _ _ => True.intro) (fun i x v H1 H2 Yes No ex g1 y hy hn => ?_) (fun H' ys g' eD hys => ?_)
    · obtain ⟨rfl, rfl⟩ := y
      have hi : i < hs.length := by
        have h := (List.getElem?_eq_some_iff.mp ex).1
        rw [List.length_range] at h
        exact h
      rw [range_at hi] at ex
      cases ex
      refine ⟨rfl, ?_⟩
      refine ⟨.ref a, rfl, .int i, rfl, a, _, (i : Nat), _, rfl, rfl, g1.sqT ha, atI_nat (int_get hi), _, rfl, _, _, rfl, rfl, _, rfl, ite2 (fun e1 => ?_) (fun e1 => ?_)⟩
      · have e1 : z ≤ hs.getD i 0 := of_decide_eq_true e1
        refine ⟨.ref b, rfl, .int i, rfl, b, _, (i : Nat), _, rfl, rfl, g1.sqT hb, atI_nat (int_get (by omega)), _, _, rfl, rfl, _, rfl, ite2 (fun e2 => ?_) (fun e2 => ?_)⟩
        · have e2 : gs.getD i 0 ≤ z := of_decide_eq_true e2
          exact ⟨_, rfl, hy _ _ _ (if_pos (decide_eq_true ⟨e1, e2⟩)) Gr.refl (.int _)⟩
        · exact hn _ (if_neg fun h => e2 (decide_eq_true (of_decide_eq_true h).2)) Gr.refl
      · exact ⟨_, rfl, hn _ (if_neg fun h => e1 (decide_eq_true (of_decide_eq_true h).1)) Gr.refl⟩
    · rw [filterMap_if] at hys
      have hys : DpAll K H' ys (dNs (openAt hs gs z)) := hys
      rw [dpAll_ns hys] at eD
      exact q _ D g' eD
end
end So
namespace So
open PySem PySem.Spec PyProof.Rows L2 PySem.W LamX
open C8 (Cal pe_c pe_gc)
open RZ StX
section
variable {P : Program} {w : World} {K : PySem.W.Frag} {mg : Str → Option Value} {base : Heap} {T : List (Addr × Str)}
/-! ### after -/
theorem slA_of {H : Hp} {a : Addr} {xs : List V} {lo hi : Option Int} {Q : VK} (h : SqT K H a xs) (q : ∀ H' p, Gr T H H' → SqT K H' p (cutV xs lo hi) → Q (.ref p) H') : rSlA K (.ref a) lo hi H Q := by
  refine ⟨a, xs, rfl, h, fun e => q H a Gr.refl ?_, fun _ p np => q _ p (Gr.new np) (SqT.of upd_same)⟩
  have : cutV xs lo hi = xs := by
    unfold cutV
    rw [e.1, e.2]
    simp
  rw [this]
  exact h
theorem cut_to (xs : List V) (k : Nat) : cutV xs none (some (k : Int)) = xs.take k := by
  unfold cutV
  rw [HT.sIx_none, HT.sIx_nat, List.drop_zero, Nat.sub_zero]
  rcases Nat.le_total k xs.length with h | h
  · rw [Nat.min_eq_left h]
  · rw [Nat.min_eq_right h, List.take_length, List.take_of_length_le h]
theorem cut_from (xs : List V) (k : Nat) : cutV xs (some (k : Int)) none = xs.drop k := by
  unfold cutV
  rw [HT.sIx_none, HT.sIx_nat]
  rcases Nat.le_total k xs.length with h | h
  · rw [Nat.min_eq_left h, List.take_of_length_le (by rw [List.length_drop]; omega)]
  · rw [Nat.min_eq_right h, List.drop_length, List.drop_eq_nil_of_le h, List.take_nil]
/-- the heights behind the stoop of p to o -/
def stoop (hs : List Int) (p o : Nat) : List Int := hs.set p (hs.getD o 0)
theorem stoop_cut (hs : List Int) (p o : Nat) (h : p < hs.length) : (hs.map V.int).take p ++ (.int (hs.getD o 0) :: (hs.map V.int).drop (p + 1)) = (stoop hs p o).map V.int := by
  unfold stoop
  rw [List.set_eq_take_append_cons_drop, if_pos h, List.map_append, List.map_cons, List.map_take, List.map_drop]
def spAfter (K : PySem.W.Frag) (T : List (Addr × Str)) : Sp := fun vs H Q _ => ∃ (v : V) (hs : List Int) (p o : Nat), vs = [v, .int p, .int o] ∧ Dp K H v (dInts hs) ∧ p < hs.length ∧ o < hs.length ∧ hs.length ≤ 4 ∧ ∀ H' l, Gr T H H' → H' l = some (.tup ((stoop hs p o).map V.int)) → Q (.ref l) H'
theorem ok_after {f : Addr} {fd : FuncData} (F : FnP K "after" s_after f fd) (g : mg "after" = some (.ref f)) :
    Cal P w K mg base 1 "after" (spAfter K T) [] := by
  refine ⟨f, fd, _, [], F.ok sc_after (fun vs H Q E h => ?_) (fun cdv A outer s H vs Q E hr h => ?_), g, F.kp, b_after F, .nil⟩
  · obtain ⟨v, hs, p, o, rfl, _⟩ := h
    rfl
  · obtain ⟨v, hs, p, o, rfl, hv, hp, ho, hl, q⟩ := h
    obtain ⟨a, rfl, ha⟩ := dp_ints hv
    refine ⟨_, PSs.nox (pss_one (ps_ret (pe_tup (pa_star (pe_slice sl_tupA (pv 0) po_none (po_some (pv 1))) (pa_cons (pe_ix ix_tup (pv 0) (pv 2) (fun _ _ => rfl)) (pa_star (pe_slice sl_tupA (pv 0) (po_some (pe_op op_add (pv 1) pe_int)) po_none) pa_nil)))))), ?_⟩
    refine ⟨.ref a, rfl, _, rfl, p, rfl, ?_⟩
    refine slA_of (T := T) ha fun H1 b g1 hb => ?_
    rw [cut_to] at hb
    refine ⟨b, _, rfl, .inl hb, ?_⟩
    refine ⟨.ref a, rfl, .int o, rfl, a, _, (o : Nat), _, rfl, rfl, g1.sqT ha, atI_nat (int_get ho), ?_⟩
    refine ⟨.ref a, rfl, _, rfl, _, _, rfl, rfl, (p : Int) + 1, rfl, ?_⟩
    dsimp only [tNoPart]
    refine slA_of (T := T) (g1.sqT ha) fun H2 c g2 hc => ?_
    rw [show (p : Int) + 1 = ((p + 1 : Nat) : Int) by omega, cut_from] at hc
    refine ⟨c, _, rfl, .inl hc, ?_, fun l nl => ?_⟩
    · refine Nat.le_trans (?_ : _ ≤ 100000) (by decide)
      simp only [List.length_append, List.length_cons, List.length_take, List.length_drop, List.length_map, List.length_nil]
      omega
    · refine q _ l ((g1.trans g2).trans (Gr.new nl)) ?_
      rw [upd_same, List.append_nil, stoop_cut hs p o hp]
/-! ### worth -/
def worthOf (ws hs : List Int) : Int := ((List.zip ws hs).map fun p => p.1 * p.2).sum
theorem walk_zipT {a b : Addr} {xs ys : List V} {n : Nat} (hn : n = min xs.length ys.length) : Walk (ItzT K a b) n (fun H => SqT K H a xs ∧ SqT K H b ys) (YPair (fun i => xs[i]?) (fun i => ys[i]?)) := by
  subst hn
  refine ⟨fun i _ hi q => ?_, fun _ q => ⟨xs, ys, q.1, q.2, by omega⟩, fun i H v H' _ q y => ?_⟩
  · have h1 : i < xs.length := by omega
    have h2 : i < ys.length := by omega
    exact ⟨xs, ys, xs[i], ys[i], q.1, q.2, by simp [h1], by simp [h2]⟩
  · obtain ⟨T, x, z, h1, h2, h3, h4, h5⟩ := y
    exact ⟨T, x, z, h1, h2, h3, h4 xs q.1, h5 ys q.2⟩
theorem filterMap_some' {α β : Type} (l : List α) (f : α → β) : l.filterMap (fun a => some (f a)) = l.map f := by
  induction l with
  | nil => rfl
  | cons a l ih => simp [ih]
def spWorth (K : PySem.W.Frag) (T : List (Addr × Str)) : Sp := fun vs H Q _ => ∃ (u v : V) (ws hs : List Int), vs = [u, v] ∧ Dp K H u (dInts ws) ∧ Dp K H v (dInts hs) ∧ ws.length ≤ 4 ∧ hs.length = ws.length ∧ (∀ x ∈ ws, -1000 ≤ x ∧ x ≤ 1000) ∧ ∀ H', Gr T H H' → Q (.int (worthOf ws hs)) H'
theorem ok_worth {f : Addr} {fd : FuncData} (F : FnP K "worth" s_worth f fd) (N : Nm mg) (g : mg "worth" = some (.ref f)) :
    Cal P w K mg base 1 "worth" (spWorth K T) [] := by
  refine ⟨f, fd, _, [], F.ok sc_worth (fun vs H Q E h => ?_) (fun cdv A outer s H vs Q E hr h => ?_), g, F.kp, b_worth F, .nil⟩
  · obtain ⟨u, v, ws, hs, rfl, _⟩ := h
    rfl
  · obtain ⟨u, v, ws, hs, rfl, hu, hv, hl, hl2, hb, q⟩ := h
    obtain ⟨a, rfl, ha⟩ := dp_ints hu
    obtain ⟨b, rfl, hb2⟩ := dp_ints hv
    have nd := sc_worth.nd
    refine ⟨_, PSs.nox (pss_one (ps_ret (pe_callB (cr_sum rfl) rfl N.sum_ (by decide +kernel) (pa_cons
      (pe_lc (own := [("weight", 2), ("height", 3)]) (tt := tYes) rfl nd (pi_zipA rfl N.zip_ (pa_cons (pv 0) (pa_cons (pv 1) pa_nil))) (blkOk_by (own := [("weight", 2), ("height", 3)]) (N := ["weights", "told", "weight", "height"]) (sc := defScope s_worth) (by decide +kernel))
        (g := gTup K 2 (gCons (gName 2) (gCons (gName 3) gNil))) (fun _ _ _ _ _ => pg_tup (by rfl) (pgs_cons (pg_name (i := 2) nd rfl (Or.inl rfl)) (pgs_cons (pg_name (i := 3) nd rfl (Or.inl rfl)) pgs_nil))) (fun _ _ _ _ _ => pts_nil) (fun _ _ _ _ _ => pe_op op_mul (pv 2) (pv 3))) pa_nil)))), ?_⟩
    refine ⟨.ref a, rfl, .ref b, rfl, a, b, _, _, rfl, .inr ⟨ha, hb2, fun D hD => ?_⟩⟩
    refine lcD (T := T) (K := K) (List.zip ws hs) (fun p => some (dI (p.1 * p.2))) (fun _ _ e => by cases e; rfl) (walk_zipT rfl) (by rw [List.length_zip, List.length_map, List.length_map]) hD (by rw [List.length_zip]; omega) (fun H' g' => ⟨g'.sqT ha, g'.sqT hb2⟩) (fun i x v H1 H2 Yes No ex g1 y hy hn => ?_) (fun H' ys g' eD hys => ?_)
    · obtain ⟨t, x1, x2, rfl, nt, rfl, e1, e2⟩ := y
      obtain ⟨z1, ez1, rfl⟩ := int_at e1
      obtain ⟨z2, ez2, rfl⟩ := int_at e2
      have ex2 : (List.zip ws hs)[i]? = some (z1, z2) := List.getElem?_zip_eq_some.mpr ⟨ez1, ez2⟩
      cases ex2.symm.trans ex
      have hz := hb z1 (List.mem_of_getElem? ez1)
      refine ⟨t, _, rfl, SqT.of upd_same, rfl, _, _, rfl, _, _, rfl, rfl, rfl, ?_⟩
      refine ⟨_, rfl, _, rfl, z1, z2, rfl, rfl, .inl ⟨?_, ?_⟩, ?_⟩
      · show -(2 ^ 64) < z1
        omega
      · show z1 < 2 ^ 64
        omega
      · exact hy _ _ _ rfl (Gr.new nt) (.int _)
    · rw [filterMap_some'] at hys
      have e : (List.zip ws hs).map (fun p => dI (p.1 * p.2)) = ((List.zip ws hs).map fun p => p.1 * p.2).map PyData.int := by
        rw [List.map_map]
        rfl
      rw [e] at hys
      rw [dpAll_int hys] at eD
      exact ⟨D, _, rfl, SqL.of eD, q _ g'⟩
end
end So
namespace So
open PySem PySem.Spec PyProof.Rows L2 PySem.W LamX
open C8 (Cal pe_c pe_gc)
open RZ StX
/-! ### plain: the stoops that may be made -/
def nextsAt (ties : List (Nat × Nat)) (hs : List Int) (p : Nat) : List (Nat × Nat) := ((tiedTo ties p).filter fun o => decide (hs.getD o 0 < hs.getD p 0)).map fun o => (p, o)
def nexts (n : Nat) (ties : List (Nat × Nat)) (hs : List Int) : List (Nat × Nat) := (List.range n).flatMap (nextsAt ties hs)
theorem endsAt_mem {ties : List (Nat × Nat)} {p o : Nat} : o ∈ endsAt ties p ↔ (p, o) ∈ ties ∨ (o, p) ∈ ties := by
  unfold endsAt
  rw [List.mem_filterMap]
  constructor
  · rintro ⟨⟨a, b⟩, ht, e⟩
    split at e
    · rename_i h
      cases e
      rcases h with h | h
      · have h : a = p := h
        subst h
        left
        rw [show a + b - a = b by omega]
        exact ht
      · have h : b = p := h
        subst h
        right
        rw [show a + b - b = a by omega]
        exact ht
    · cases e
  · rintro (h | h)
    · refine ⟨_, h, ?_⟩
      rw [if_pos (.inl rfl)]
      show some (p + o - p) = some o
      rw [show p + o - p = o by omega]
    · refine ⟨_, h, ?_⟩
      rw [if_pos (.inr rfl)]
      show some (o + p - p) = some o
      rw [show o + p - p = o by omega]
theorem tiedTo_mem {ties : List (Nat × Nat)} {p o : Nat} : o ∈ tiedTo ties p ↔ (p, o) ∈ ties ∨ (o, p) ∈ ties := by
  unfold tiedTo
  rw [sortN_mem, endsAt_mem]
theorem tiedTo_lt {n : Nat} {ties : List (Nat × Nat)} (wb : Wb n ties) {p o : Nat} (h : o ∈ tiedTo ties p) : o < n ∧ p < n ∧ o ≠ p := by
  rcases tiedTo_mem.mp h with h | h
  · have := wb.ok _ h
    exact ⟨this.2, by have := this.1; have := this; simp only at *; omega, by have := this.1; simp only at *; omega⟩
  · have := wb.ok _ h
    exact ⟨by have h1 := this.1; have h2 := this.2; simp only at *; omega, this.2, by have := this.1; simp only at *; omega⟩
theorem nextsAt_len (ties : List (Nat × Nat)) (hs : List Int) (p : Nat) : (nextsAt ties hs p).length ≤ ties.length := by
  unfold nextsAt
  rw [List.length_map]
  exact Nat.le_trans (List.length_filter_le _ _) (tiedTo_len ties p)
theorem flatMap_len {α β : Type} (f : α → List β) (k : Nat) (h : ∀ a, (f a).length ≤ k) : ∀ l : List α, (l.flatMap f).length ≤ l.length * k
  | [] => by simp
  | a :: l => by
    rw [List.flatMap_cons, List.length_append, List.length_cons, Nat.succ_mul]
    have := h a
    have := flatMap_len f k h l
    omega
theorem take_flat {α β : Type} (f : α → List β) (l : List α) {i : Nat} {a : α} (h : l[i]? = some a) : (l.take (i + 1)).flatMap f = (l.take i).flatMap f ++ f a := by
  rw [List.take_add_one, h, List.flatMap_append]
  simp
theorem nexts_take_len (n : Nat) {ties : List (Nat × Nat)} (hs : List Int) (i : Nat) (h : ties.length ≤ 16) (hn : n ≤ 4) : (((List.range n).take i).flatMap (nextsAt ties hs)).length ≤ 64 := by
  have h1 := flatMap_len (nextsAt ties hs) 16 (fun a => Nat.le_trans (nextsAt_len ties hs a) h) ((List.range n).take i)
  have h2 : ((List.range n).take i).length ≤ 4 := by
    rw [List.length_take, List.length_range]
    omega
  omega
theorem noL_pairs (ps : List (Nat × Nat)) : noLs (ps.map dPair) = true := noLs_of fun d h => by
  obtain ⟨p, _, rfl⟩ := List.mem_map.mp h
  rfl
section
variable {P : Program} {w : World} {K : PySem.W.Frag} {mg : Str → Option Value} {base : Heap} {T : List (Addr × Str)}
def spNextOf (K : PySem.W.Frag) (T : List (Addr × Str)) : Sp := fun vs H Q _ => ∃ (v u : V) (n : Nat) (ties : List (Nat × Nat)) (hs : List Int), vs = [v, u] ∧ Dp K H v (dWeb n ties) ∧ Dp K H u (dInts hs) ∧ Wb n ties ∧ hs.length = n ∧ ∀ H' v', Gr T H H' → Dp K H' v' (.tuple ((nexts n ties hs).map dPair)) → Q v' H'
theorem ok_next_of {f : Addr} {fd : FuncData} (F : FnP K "next_of" s_next_of f fd) (N : Nm mg) (g : mg "next_of" = some (.ref f)) (CE : Cal P w K mg base 1 "everybody" (spEverybody K T) []) (CT : Cal P w K mg base 1 "tied_to" (spTied K T) []) :
    Cal P w K mg base 2 "next_of" (spNextOf K T) [] := by
  refine ⟨f, fd, _, [], F.ok sc_next_of (fun vs H Q E h => ?_) (fun cdv A outer s H vs Q E hr h => ?_), g, F.kp, b_next_of F, .nil⟩
  · obtain ⟨v, u, n, ties, hs, rfl, _⟩ := h
    rfl
  · obtain ⟨v, u, n, ties, hs, rfl, hv, hu, wb, hl, q⟩ := h
    obtain ⟨a, rfl, ha⟩ := dp_ints hu
    have nd := sc_next_of.nd
    refine ⟨_, PSs.nox (pss_cons (ps_set (i := 2) nd rfl (.inl rfl) (pe_lst pa_nil))
      (pss_cons (ps_for PassesOwn.never rfl (pi_tup (pe_c CE hr (by decide) rfl (pa_cons (pv 0) pa_nil))) (pg_name (i := 3) nd rfl (.inr rfl))
        (pss_one (ps_expr (pe_bm PySem.F.plainAttrs_list PySem.F.slot_list_extend PySem.F.type_list_extend mt_extend (pv 2) (pa_cons
          (pe_lc (own := [("one", 4)]) (g := gName 4) (tt := tTest (tOp (rI0 fun i j => .bl (decide (i < j))) (tOp (rIxT K) (tVar 1) (tVar 4)) (tOp (rIxT K) (tVar 1) (tVar 3)))) rfl nd (pi_list (pe_c CT hr (by decide) rfl (pa_cons (pv 0) (pa_cons (pv 3) pa_nil)))) (blkOk_by (own := [("one", 4)]) (N := ["web", "heights", "found", "person", "one"]) (sc := defScope s_next_of) (by decide +kernel)) (fun _ _ _ _ _ => pg_name (i := 4) nd rfl (Or.inl rfl))
            (fun _ _ _ _ _ => pts_one (pt_cmpR op_lt (pe_ix ix_tup (pv 1) (pv 4) (fun _ _ => rfl)) (pe_ix ix_tup (pv 1) (pv 3) (fun _ _ => rfl)) (nomark _))) (fun _ _ _ _ _ => pe_tup (pa_cons (pv 3) (pa_cons (pv 4) pa_nil)))) pa_nil)))))
      (pss_one (ps_ret (pe_callTy call_tuple_of rfl N.tuple_ (by decide +kernel) (pa_cons (pv 2) pa_nil)))))), ?_⟩
    refine ⟨Nat.zero_le _, fun o no => ?_⟩
    have nO : Nw H o := Nw.of no
    have g0 : Gr T H (upd H o (.lst [])) := Gr.new no
    refine ⟨v, rfl, v, n, ties, rfl, g0.dp hv, wb.le, fun H0 l g1 el => ?_⟩
    have g01 := g0.trans g1
    have eo0 := g1.at (a := o) upd_same
    refine ⟨l, rfl, ⟨_, SqT.of el⟩, ?_⟩
    refine for_it walk_tup (fun i σ H' => H' l = some (.tup ((List.range n).map fun (n : Nat) => V.int n)) ∧ Gr T H H' ∧ (∃ acc, H' o = some (.lst acc) ∧ DpAll K H' acc ((((List.range n).take i).flatMap (nextsAt ties hs)).map dPair)) ∧ ∃ z3 z4, σ = [some v, some (.ref a), some (.ref o), z3, z4]) ⟨el, g01, ⟨[], eo0, .nil⟩, none, none, rfl⟩ (fun i σ H' _ h => SqT.of h.1) (fun i x σ H1 H2 hi h y => ?_) (fun σ H' h => ?_)
    · obtain ⟨g2, g3, ⟨acc, eo, dacc⟩, z3, z4, rfl⟩ := h
      obtain ⟨rfl, e2⟩ := y
      have hi : i < n := by
        rw [List.length_map, List.length_range] at hi
        exact hi
      rw [List.getElem?_map, range_at hi] at e2
      cases e2
      refine ⟨.ref o, rfl, .inl ⟨rfl, _, SqL.of eo⟩, ?_⟩
      refine ⟨v, rfl, .int i, rfl, v, n, ties, i, rfl, g3.dp hv, wb.len, fun H3 c g4 _ ec => ?_⟩
      refine ⟨c, rfl, ⟨_, SqL.of ec⟩, fun D hD => ?_⟩
      refine lcD (T := T) (K := K) (tiedTo ties i) (fun o => if decide (hs.getD o 0 < hs.getD i 0) = true then some (dPair (i, o)) else none) (fun _ _ e => by split at e <;> cases e; rfl) walk_list (by rw [List.length_map]) hD (by have := tiedTo_len ties i; have := wb.len; omega) (fun H' g' => SqL.of (g'.at ec)) (fun j b x H5 H6 Yes No ex g5 y hy hn => ?_) (fun H' ys g' eD hys => ?_)
      · obtain ⟨rfl, e3⟩ := y
        rw [List.getElem?_map, ex] at e3
        cases e3
        have hb := tiedTo_lt wb (List.mem_of_getElem? ex)
        have gg := (g3.trans g4).trans g5
        refine ⟨rfl, ?_⟩
        refine ⟨.ref a, rfl, .int b, rfl, a, _, (b : Nat), _, rfl, rfl, gg.sqT ha, atI_nat (int_get (by omega)), .ref a, rfl, .int i, rfl, a, _, (i : Nat), _, rfl, rfl, gg.sqT ha, atI_nat (int_get (by omega)), _, _, rfl, rfl, _, rfl, ite2 (fun e1 => ?_) (fun e1 => ?_)⟩
        · refine ⟨.int i, rfl, .int b, rfl, by show 2 ≤ sizeLine; decide, fun t nt => ?_⟩
          exact hy _ _ _ (if_pos e1) (Gr.new nt) (.tup (SqT.of upd_same) (.cons (.int _) (.cons (.int _) .nil)))
        · exact hn _ (if_neg e1) Gr.refl
      · rw [filterMap_if] at hys
        have gg := g4.trans g'
        have eo3 := gg.at eo
        have la := DpAll.len dacc
        have ly := DpAll.len hys
        refine ⟨o, D, acc, ys, rfl, rfl, eo3, eD, ?_, (upd_ne (ne_of (gg.at g2) eo3 (by intro z; cases z))).trans (gg.at g2), (g3.trans gg).put nO eo3, ⟨_, upd_same, ?_⟩, _, _, rfl⟩
        · rw [la, ly, List.length_map, List.length_map]
          have h1 := nexts_take_len n hs i wb.len wb.le (ties := ties)
          have h2 := List.length_filter_le (fun o => decide (hs.getD o 0 < hs.getD i 0)) (tiedTo ties i)
          have h3 := tiedTo_len ties i
          have h4 := wb.len
          exact Nat.le_trans (show _ ≤ 100000 by omega) (by decide)
        · rw [take_flat _ _ (range_at hi), List.map_append]
          have e : (nextsAt ties hs i).map dPair = ((tiedTo ties i).filter fun o => decide (hs.getD o 0 < hs.getD i 0)).map fun o => dPair (i, o) := by
            unfold nextsAt
            rw [List.map_map]
            rfl
          rw [e]
          refine dpAll_app (dpAll_put eo3 (noL_pairs _) (gg.dpAll dacc)) (dpAll_put eo3 ?_ hys)
          rw [← e]
          exact noL_pairs _
    · obtain ⟨g2, g3, ⟨acc, eo, dacc⟩, z3, z4, rfl⟩ := h
      rw [List.length_map, List.length_range] at dacc
      rw [List.take_of_length_le (by rw [List.length_range]; omega)] at dacc
      refine ⟨.ref o, rfl, o, acc, rfl, .inl ⟨SqL.of eo, fun t nt => ?_⟩⟩
      have g5 := Gr.new (T := T) (o := HO.tup acc) nt
      exact q _ _ (g3.trans g5) (.tup (SqT.of upd_same) (g5.dpAll dacc))
end
end So
/-! sorted(xs, key=lambda t: (len(t), t)) over tuples -/
namespace So
open PySem PySem.Spec PyProof.Rows L2 PySem.W LamX
section
variable {P : Program} {w : World} {A : Around} {s : Shared}
/-- one call of the lambda -/
theorem lam_turn {f c' L : Addr} {q : Str} {params : Arguments} {scope : Scope} {pm ctv v : Value} {mg mb : Str → Option Value} {ds : List PyData} {p1 p2 p3 p4 p5 : Pos} {x1 : Nat}
    (of : s.heap.get? f = some (kla_obj "<lambda>" q params (.Tuple [.Call (.Name "len" p1) [.Name "lot" p2] [] p3, .Name "lot" p4] x1 p5) scope [] pm c' ctv))
    (hcd : s.heap.CodeRec (.ref c') q) (hd : A.depth < recursionLimit) (hg : s.heap.Ns mainGlobals mg) (hm : mg "len" = none) (hb : s.heap.Ns builtinsNs mb) (hl : mb "len" = some (.builtin "len")) (nl : s.heap.NoLimit)
    (k1 : scope.kind = .function) (k2 : scope.isCoroutine = false) (k3 : scope.isGenerator = false) (k4 : scope.names.lookup ("lot" : Str) = some .local) (k5 : scope.names.lookup ("len" : Str) = some .globalImplicit) (k6 : ∀ y ∈ scope.names, y.2 ≠ .cell)
    (hbind : bindArgs (kla_fn "<lambda>" q params (.Tuple [.Call (.Name "len" p1) [.Name "lot" p2] [] p3, .Name "lot" p4] x1 p5) scope [] pm (.ref c') ctv) ⟨[v], []⟩ = pure [(("lot" : Str), v)])
    (hv : Reads s.heap v (.tuple ds) []) (hz : ds.length ≤ 1000) :
    wpAny (model P w) A (call (.ref f) [v]) (KeyPure (.tuple [.int ds.length, .tuple ds]) s) (fun _ _ => False) s := by
  have rc : codeAny (model P w) A (.call (.ref f) ⟨[v], []⟩) (fun r s' => match r with
      | .ok (.ret u) => KeyPure (.tuple [.int ds.length, .tuple ds]) s u s'
      | _ => False) s := by
    refine kla_callFunE hd of rfl k2 k3 rfl hcd ?_
    rw [hbind]
    refine wpAny_pure (wpAny_newFunctionEnv k6 (fun y hy => ?_) (fun h₁ hns hsb => ⟨nl.fresh _ hsb, ?_⟩) k1)
    · rw [List.mem_singleton] at hy
      rw [hy]
      exact k4
    show codeAny _ _ (.expr _ _) _ _
    have kp : ∀ b o, s.heap.get? b = some o → h₁.get? b = some o := fun b o e => hsb.extBut b o (Nat.ne_of_lt (Heap.lt_size e)) (Heap.get?_push_of_some _ e)
    have loc : (fun x => ([(("lot" : Str), v)] : List (Str × Value)).reverse.lookup x) ("lot" : Str) = some v := by
      show List.lookup _ [_] = _
      simp [List.lookup]
    cases hv with
    | tuple h1 h2 h3 h4 =>
      rename_i a o items n
      have hlen : items.size = ds.length := by
        have := h4.lenAny
        rw [Array.length_toList] at this
        exact this
      refine kla_codeExpr ?_
      refine wpAny_Tuple_spliced ?_
      refine args_cons (Call_ (Calls.Name_function_global k1 k5 (Calls.loadGlobal_builtin (hg.keeps kp) hm (hb.keeps kp) hl ?_)))
      refine callWith_builtin1 (args_cons (wpAny_Name (wpAny_loadName_local k1 k4 hns loc (args_nil ?_))))
      refine len_tuple (items := items) ⟨o, kp _ _ h1, h2, n, h3⟩ (by rw [hlen]; omega) ?_
      refine args_cons (wpAny_Name (wpAny_loadName_local k1 k4 hns loc (args_nil ?_)))
      refine ⟨by show 2 ≤ sizeLine; decide, _, _, rfl, fun b o e => Heap.get?_push_of_some _ (kp b o e), ?_⟩
      have hr : ∀ o', Reads (h₁.push o') (.ref a) (.tuple ds) [] := fun o' =>
        .tuple (Heap.get?_push_of_some _ (kp _ _ h1)) h2 h3 (ReadsAll.keeps (fun b o e => Heap.get?_push_of_some _ (kp b o e)) h4)
      rw [hlen]
      exact .tuple (as := []) (Heap.get?_push_size _ rfl) rfl rfl (.cons (as := []) (bs := []) (.int _ _) (.cons (as := []) (bs := []) (hr _) .nil))
  refine wpAny_call (codeAny_mono rc fun r s' hq => ?_)
  cases r with
  | error e => exact False.elim hq
  | ok fl =>
    cases fl with
    | ret u => exact hq
    | next => exact False.elim hq
    | brk => exact False.elim hq
    | cont => exact False.elim hq
end
end So
namespace So
open PySem PySem.Spec PyProof.Rows L2 PySem.W LamX
mutual
theorem reads_noL {h : Heap} : ∀ (d : PyData) {v : Value} {as : List Addr}, noL d = true → Reads h v d as → as = []
  | .none, _, _, _, r => by cases r; rfl
  | .bool _, _, _, _, r => by cases r; rfl
  | .int _, _, _, _, r => by cases r; rfl
  | .str _, _, _, _, r => by cases r; rfl
  | .list _, _, _, n, _ => by cases n
  | .dict _, _, _, n, _ => by cases n
  | .tuple ds, _, _, n, r => by
    cases r with
    | tuple h1 h2 h3 h4 => exact readsAll_noL ds n h4
theorem readsAll_noL {h : Heap} : ∀ (ds : List PyData) {vs : List Value} {as : List Addr}, noLs ds = true → ReadsAll h vs ds as → as = []
  | [], _, _, _, r => by cases r; rfl
  | d :: ds, _, _, n, r => by
    have n2 : (noL d && noLs ds) = true := n
    rw [Bool.and_eq_true] at n2
    cases r with
    | cons h1 h2 =>
      rw [reads_noL d n2.1 h1, readsAll_noL ds n2.2 h2]
      rfl
end
/-- the key of a tuple -/
def lotK (ds : List PyData) : PyData := .tuple [.int ds.length, .tuple ds]
def tSortLam (K : PySem.W.Frag) (T : List (Addr × Str)) (t : TA) : TE := fun σ H Q => t σ H fun vs H1 => ∃ (a : Addr) (xs : List V) (dss : List (List PyData)), vs = [.ref a] ∧ SqL K H1 a xs ∧ DpAll K H1 xs (dss.map PyData.tuple) ∧ Tabs T H1 ∧
  (∀ ds ∈ dss, noLs ds = true ∧ ds.length ≤ 1000 ∧ (lotK ds).depth ≤ 60) ∧ AllAlike (dss.map lotK) ∧ Sortable (dss.map lotK) ∧
  ∀ H2 ys p, Gr T H1 H2 → DpAll K H2 ys ((dss.mergeSort (dataLe false lotK)).map PyData.tuple) → H2 p = some (.lst ys) → Q (.ref p) H2
section
variable {X : Cx}
theorem std_each2 {K : PySem.W.Frag} {H : Hp} {dss : List (List PyData)} {us : List Value} (e : EachIs (fun v ds => Std K H v (.tuple ds)) us dss) : ∃ xs : List V, Vals xs us ∧ DpAll K H xs (dss.map PyData.tuple) := by
  induction e with
  | nil => exact ⟨[], .nil, .nil⟩
  | cons h t ih =>
    obtain ⟨x, r, h⟩ := h
    obtain ⟨xs, r2, h2⟩ := ih
    exact ⟨x :: xs, .cons r r2, .cons h h2⟩
theorem each_std2 {K : PySem.W.Frag} {H : Hp} : ∀ {dss : List (List PyData)} {xs : List V} {us : List Value}, DpAll K H xs (dss.map PyData.tuple) → Vals xs us → EachIs (fun v ds => Std K H v (.tuple ds)) us dss
  | [], xs, us, h, r => by
    have := dpAll_nil h
    subst this
    cases r
    exact .nil
  | ds :: dss, xs, us, h, r => by
    obtain ⟨v, vs, rfl, h1, h2⟩ := dpAll_cons h
    cases r with
    | cons r1 r2 => exact .cons ⟨_, r1, h1⟩ (each_std2 h2 r2)
theorem pe_sortLam {T : List (Addr × Str)} {c PT : Addr} {k : Nat} {e : Expr} {t : TA} {params : Arguments} {scope : Scope} {p p0 p1 p2 p3 p4 p5 lpos pos : Pos} {x1 : Nat} (hr : Room (k + 2) X.A) (hg : Gl X "sorted") (hm : X.mg "sorted" = none) (hmL : X.mg "len" = none)
    (ha : PA X [e] t) (TB : TabB X.base X.mg c PT) (hcode : X.env.code = .ref c) (hmT : (PT, X.env.qual ++ "<lambda>") ∈ T) (hu : ∀ p ∈ T, p.1 = PT → p.2 = X.env.qual ++ "<lambda>") (hdef : defaultsOf params X.env = ([], [])) (hfree : ∀ y ∈ scope.names, y.2 = .free → ∃ c, X.env.cells.lookup y.1 = some c)
    (hclo : cloFrom X.env.cells scope.names [] = [])
    (k1 : scope.kind = .function) (k2 : scope.isCoroutine = false) (k3 : scope.isGenerator = false) (k4 : scope.names.lookup ("lot" : Str) = some .local) (k5 : scope.names.lookup ("len" : Str) = some .globalImplicit) (k6 : ∀ y ∈ scope.names, y.2 ≠ .cell)
    (hbind : ∀ (q : Str) (pm cv ctv v : Value), bindArgs (kla_fn "<lambda>" q params (.Tuple [.Call (.Name "len" p1) [.Name "lot" p2] [] p3, .Name "lot" p4] x1 p5) scope [] pm cv ctv) ⟨[v], []⟩ = pure [(("lot" : Str), v)])
    (he : backTo pos (starEach [e] X.env) = (false, eval e X.env) :: backTo pos (starEach [] X.env) := by rfl) :
    PE X (.Call (.Name "sorted" p) [e] [⟨some "key", .Lambda params (.Tuple [.Call (.Name "len" p1) [.Name "lot" p2] [] p3, .Name "lot" p4] x1 p5) scope lpos, p0⟩] pos) (tSortLam X.K T t) := by
  refine ⟨fun pins s σ H Q I h => ?_⟩
  refine wpAny_Call_Name_kw (ld_blt I hg hm (u := .builtin "sorted") (by decide +kernel) ?_)
  refine callWith_kw ?_ he (by rw [he]; rfl)
  refine thn (ha.run pos pins s σ H _ I h) fun us s1 ⟨vs, H1, I1, r1, q1⟩ => ?_
  obtain ⟨a, xs, dss, rfl, hs, hd, hT, hsm, hal, hso, q⟩ := q1
  obtain rfl := Vals.ref1 r1
  refine kws_cons (lam_make2 I1 TB hcode hmT hu hT hdef hfree fun f c' pm' ctv H2 s2 I2 eN T2 hf hfn hfr hco => kws_nil ?_)
  have g12 : Gr T H1 H2 := ⟨eN, fun _ => T2⟩
  have hs2 := g12.sqL hs
  have hd2 := g12.dpAll hd
  obtain ⟨its, rv, hl, hz⟩ := I2.list hs2
  have hea := each_std2 hd2 rv
  have hlen : dss.length = xs.length := by
    rw [DpAll.len hd2, List.length_map]
  rw [hclo] at hf
  obtain ⟨⟨oc, vs', t', hoc, hdc, hvc⟩, _, _⟩ := I2.hok c' _ hco
  obtain ⟨mb, hb1, hb2⟩ := I2.mod.blt
  refine sorted_key_data (β := List PyData) (b := false) (R := fun v ds => Std X.K H2 v (.tuple ds)) (bs := dss) lotK hl.isList hea hal hso (by rw [hlen]; exact hz) (fun ds hm => ?_) (ksk_s1 _ _) (fun _ => ksk_l1 _ _) (fun x => ksk_t1 f x) (fun v ds hR hm h tk kp => ?_) (fun out c0 h' tk kp fr hD ho eo => ?_)
  · have := (hsm ds hm).2.2
    have := hr.un
    omega
  · obtain ⟨x, rx, hx⟩ := hR
    obtain ⟨as, hre⟩ := Dp.reads I2 _ _ _ hx rx
    have n1 := (hsm ds hm).1
    have e0 := reads_noL (.tuple ds) n1 hre
    subst e0
    refine lam_turn (s := { s2 with heap := h, toks := tk }) (L := 0) (mg := X.mg) (mb := mb) (kp _ _ hf) ⟨c', oc, vs', t', rfl, kp _ _ hoc, hdc, hvc⟩ ((hr.in1).in1).depth ((I2.mod.glob.keeps I2.bk).keeps kp) hmL ((hb1.keeps I2.bk).keeps kp) ((hb2 _ (by decide)).trans (by decide +kernel)) (I2.nolimit.keeps kp) k1 k2 k3 k4 k5 k6 (hbind _ _ _ _ _) (Reads.keeps kp hre) (hsm ds hm).2.1
  · obtain ⟨ys, r2, h2⟩ := std_each2 eo
    have hl2 : ys.length ≤ sizeLine := by
      rw [r2.length, ho, hlen]
      exact hz
    have nH : H2 (s2.heap.objs.size + 1) = none := I2.hok.fresh (Nat.le_succ _)
    refine ⟨.ref _, upd H2 (s2.heap.objs.size + 1) (.lst ys), I2.laid (t' := tk) kp (Nat.le_succ _) ⟨hl2, out, c0, r2, hD⟩, rfl, ?_⟩
    have g3 := g12.new2 (o := .lst ys) nH
    exact q _ ys _ g3 ((Gr.new (T := T) nH).dpAll h2) upd_same
end
end So
namespace So
open PySem PySem.Spec PyProof.Rows L2 PySem.W LamX
open C8 (Cal pe_c pe_gc)
open RZ StX
/-! ### plain: all lots -/
def lotsOf (l : List Nat) : List (List Nat) := l.foldl (fun acc p => acc ++ acc.map (· ++ [p])) [[]]
theorem lotsOf_snoc (l : List Nat) (p : Nat) : lotsOf (l ++ [p]) = lotsOf l ++ (lotsOf l).map (· ++ [p]) := by
  unfold lotsOf
  rw [List.foldl_append]
  rfl
theorem snoc_ind {α : Type} {P : List α → Prop} (h0 : P []) (h1 : ∀ l a, P l → P (l ++ [a])) (l : List α) : P l := by
  have h : ∀ n (l : List α), l.length = n → P l := by
    intro n
    induction n with
    | zero =>
      intro l hl
      rw [List.length_eq_zero_iff.mp hl]
      exact h0
    | succ n ih =>
      intro l hl
      have hne : l ≠ [] := by
        intro e
        rw [e] at hl
        cases hl
      rw [← List.dropLast_concat_getLast hne]
      exact h1 _ _ (ih _ (by rw [List.length_dropLast, hl]; rfl))
  exact h _ l rfl
theorem lotsOf_mem : ∀ (l lot : List Nat), lot ∈ lotsOf l ↔ lot.Sublist l := by
  intro l
  induction l using snoc_ind with
  | h0 =>
    intro lot
    show lot ∈ [[]] ↔ _
    rw [List.mem_singleton, List.sublist_nil]
  | h1 l a ih =>
    intro lot
    rw [lotsOf_snoc, List.mem_append, List.mem_map, ih, List.sublist_append_iff]
    constructor
    · rintro (h | ⟨r, h, rfl⟩)
      · exact ⟨lot, [], (List.append_nil _).symm, h, List.nil_sublist _⟩
      · exact ⟨r, [a], rfl, (ih r).mp h, List.Sublist.refl _⟩
    · rintro ⟨l1, l2, rfl, h1, h2⟩
      cases h2 with
      | cons _ h =>
        rw [List.sublist_nil.mp h, List.append_nil]
        exact .inl h1
      | cons_cons _ h =>
        rw [List.sublist_nil.mp h]
        exact .inr ⟨l1, (ih l1).mpr h1, rfl⟩
theorem lotsOf_len : ∀ (l : List Nat), (lotsOf l).length = 2 ^ l.length := by
  intro l
  induction l using snoc_ind with
  | h0 => rfl
  | h1 l a ih =>
    rw [lotsOf_snoc, List.length_append, List.length_map, ih, List.length_append]
    show _ = 2 ^ (l.length + 1)
    omega
abbrev dLot (l : List Nat) : PyData := .tuple (dNs l)
theorem noL_ns (l : List Nat) : noLs (dNs l) = true := noLs_of fun d h => by
  obtain ⟨n, _, rfl⟩ := List.mem_map.mp h
  rfl
theorem alikeAll_ns : ∀ (a b : List Nat), alikeAll (dNs a) (dNs b) = true
  | [], [] => by simp [alikeAll]
  | [], _ :: _ => by simp [alikeAll]
  | _ :: _, [] => by simp [alikeAll]
  | x :: a, y :: b => by
    have := alikeAll_ns a b
    simp only [List.map_cons, alikeAll, alike, Bool.true_and]
    exact this
theorem depthAll_ns : ∀ (a : List Nat), PyData.depthAll (dNs a) = 0
  | [] => by simp [PyData.depthAll]
  | x :: a => by
    have := depthAll_ns a
    simp only [List.map_cons, PyData.depthAll, PyData.depth, this]
    rfl
theorem lotK_alike (a b : List Nat) : alike (lotK (dNs a)) (lotK (dNs b)) = true := by
  unfold lotK
  simp only [alike, alikeAll, alikeAll_ns, Bool.and_true, Bool.true_and]
theorem lotK_depth (a : List Nat) : (lotK (dNs a)).depth ≤ 60 := by
  unfold lotK
  simp only [PyData.depth, PyData.depthAll, depthAll_ns]
  decide
theorem lotK_le {a b : List Nat} (h : dataLe false lotK (dNs a) (dNs b) = true) : a.length ≤ b.length := by
  rw [dataLe_eq] at h
  have h : (!dataLt (lotK (dNs b)) (lotK (dNs a))) = true := h
  unfold lotK at h
  rw [dataLt_pair (by simp [alike]) (by simp [alike, alikeAll_ns])] at h
  rw [dataLt_int] at h
  simp only [PyData.eqv, beq_iff_eq, List.length_map] at h
  by_cases e : (b.length : Int) = (a.length : Int)
  · omega
  · rw [if_neg e] at h
    simp only [Bool.not_eq_true', decide_eq_false_iff_not] at h
    omega
section
variable {P : Program} {w : World} {K : PySem.W.Frag} {mg : Str → Option Value} {base : Heap} {T : List (Addr × Str)}
theorem nofree : ∀ y ∈ ([(("lot" : Str), NameKind.local), (("len" : Str), NameKind.globalImplicit)] : List (Str × NameKind)), y.2 = .free → False := fun y hy e => by
  rcases List.mem_cons.mp hy with rfl | hy
  · cases e
  · rw [List.mem_singleton] at hy
    subst hy
    cases e
def lamQ : Str := (("lots_of" : Str) ++ (".<locals>." : Str)) ++ ("<lambda>" : Str)
def spLots (K : PySem.W.Frag) (T : List (Addr × Str)) : Sp := fun vs H Q _ => ∃ (v : V) (some_ : List Nat), vs = [v] ∧ Dp K H v (.list (dNs some_)) ∧ some_.length ≤ 4 ∧ Tabs T H ∧
  ∀ H' l (ys : List V) (lots : List (List Nat)), Gr T H H' → H' l = some (.lst ys) → DpAll K H' ys (lots.map dLot) → (∀ lot, lot ∈ lots ↔ lot.Sublist some_) → lots.Pairwise (fun a b => a.length ≤ b.length) → Q (.ref l) H'
theorem ok_lots_of {f c PT : Addr} {fd : FuncData} (F : FnP K "lots_of" s_lots_of f fd) (N : Nm mg) (g : mg "lots_of" = some (.ref f)) (hc : fd.code = .ref c) (TB : TabB base mg c PT) (hT : T = [(PT, lamQ)]) :
    Cal P w K mg base 3 "lots_of" (spLots K T) [] := by
  have hb := b_lots_of F
  have hkp := F.kp
  obtain ⟨oc, od, dV, kV, doc, pm, an, cdv, ct, osl, rfl, lk, hcd, hD, hK⟩ := F.ex
  have hc : cdv = .ref c := hc
  subst hc
  refine ⟨f, _, _, [], fn_of lk hcd sc_lots_of (fun vs H Q E h => ?_) (fun A outer s H vs Q E hr h => ?_), g, hkp, hb, .nil⟩
  · obtain ⟨v, l, rfl, _⟩ := h
    rfl
  · obtain ⟨v, so, rfl, hv, hl, ht, q⟩ := h
    obtain ⟨a, xs, rfl, ha, hxs⟩ := dp_lst hv
    rw [dpAll_ns hxs] at ha
    have nd := sc_lots_of.nd
    refine ⟨_, PSs.nox (pss_cons (ps_set (i := 1) nd rfl (.inl rfl) (pe_lst (pa_cons (pe_tup pa_nil) pa_nil)))
      (pss_cons (ps_for PassesOwn.never rfl (pi_list (pv 0)) (pg_name (i := 2) nd rfl (.inr rfl))
        (pss_one (ps_set (i := 1) nd rfl (.inl rfl) (pe_op op_cat (pv 1) (pe_lc (own := [("lot", 3)]) (g := gName 3) (tt := tYes) rfl nd (pi_list (pv 1)) (blkOk_by (own := [("lot", 3)]) (N := ["some", "found", "person", "lot"]) (sc := defScope s_lots_of) (by decide +kernel)) (fun _ _ _ _ _ => pg_name (i := 3) nd rfl (Or.inl rfl)) (fun _ _ _ _ _ => pts_nil)
          (te := tTup (tStar K (tVar 3) (tCons (tVar 2) tNil))) (fun _ _ _ _ _ => pe_tup (pa_star (pv 3) (pa_cons (pv 2) pa_nil))))))))
      (pss_one (ps_ret (pe_sortLam (T := T) (k := 0) hr rfl N.sorted_ N.len_ (pa_cons (pv 1) pa_nil) TB rfl (by rw [hT]; exact List.mem_cons_self ..) (by rw [hT]; intro p hp _; rw [List.mem_singleton] at hp; rw [hp]; rfl) rfl (fun y hy e => (nofree y hy e).elim) rfl rfl rfl rfl rfl rfl (by decide +kernel) (fun _ _ _ _ _ => rfl)))))), ?_⟩
    have hlist : ∀ l : List Nat, l.length ≤ 4 → (lotsOf l).length ≤ 16 := fun l h => by
      rw [lotsOf_len]
      exact Nat.pow_le_pow_right (by decide) h
    refine ⟨by show 0 ≤ sizeLine; decide, fun e ne => ⟨by show 1 ≤ sizeLine; decide, fun o no => ?_⟩⟩
    have g0 : Gr T H (upd (upd H e (.tup [])) o (.lst [.ref e])) := (Gr.new ne).trans (Gr.new no)
    refine ⟨.ref a, rfl, a, rfl, ⟨_, g0.sqL ha⟩, ?_⟩
    refine for_it walk_list (fun i σ H' => Gr T H H' ∧ ∃ o acc z2 z3, σ = [some (.ref a), some (.ref o), z2, z3] ∧ H' o = some (.lst acc) ∧ DpAll K H' acc ((lotsOf (so.take i)).map dLot)) ⟨g0, o, [.ref e], none, none, rfl, upd_same, ?_⟩ (fun i σ H' _ h => h.1.sqL ha) (fun i x σ H1 H2 hi h y => ?_) (fun σ H' h => ?_)
    · refine .cons (.tup (SqT.of ?_) .nil) .nil
      rw [upd_ne (ne_of_none upd_same no), upd_same]
    · obtain ⟨g1, o1, acc, z2, z3, rfl, eo, da⟩ := h
      obtain ⟨rfl, e2⟩ := y
      rw [List.length_map] at hi
      have es : so[i]? = some so[i] := List.getElem?_eq_getElem hi
      rw [List.getElem?_map, es] at e2
      cases e2
      have hli : (lotsOf (so.take i)).length ≤ 16 := hlist _ (by rw [List.length_take]; omega)
      refine ⟨.ref o1, rfl, .ref o1, rfl, o1, rfl, ⟨_, SqL.of eo⟩, fun D hD => ?_⟩
      refine lcD (T := T) (K := K) (lotsOf (so.take i)) (fun l => some (dLot (l ++ [so[i]]))) (fun _ _ e => by cases e; exact noL_ns _) walk_list (by rw [DpAll.len da, List.length_map]) hD (by omega) (fun H' g' => SqL.of (g'.at eo)) (fun j b x H5 H6 Yes No ex g5 y hy hn => ?_) (fun H' ys g' eD hys => ?_)
      · obtain ⟨rfl, e3⟩ := y
        have hx : Dp K H6 x (dLot b) := dpAll_at2 (g5.dpAll da) e3 (by rw [List.getElem?_map, ex]; rfl)
        obtain ⟨p, xs', rfl, hp, hxs'⟩ := dp_tup hx
        rw [dpAll_ns hxs'] at hp
        have hbl : b.length ≤ 4 := by
          have := (lotsOf_mem _ _).mp (List.mem_of_getElem? ex) |>.length_le
          rw [List.length_take] at this
          omega
        refine ⟨rfl, ?_⟩
        refine ⟨_, rfl, p, _, rfl, .inl hp, _, rfl, ?_, fun t nt => ?_⟩
        · refine Nat.le_trans (?_ : _ ≤ 100000) (by decide)
          simp only [List.length_append, List.length_map, List.length_cons, List.length_nil]
          omega
        · refine hy _ _ _ rfl (Gr.new nt) (.tup (SqT.of upd_same) ?_)
          have : (b.map fun (n : Nat) => V.int n) ++ [V.int (so[i] : Nat)] = (b ++ [so[i]]).map fun (n : Nat) => V.int n := by rw [List.map_append]; rfl
          show DpAll K _ ((b.map fun (n : Nat) => V.int n) ++ [V.int (so[i] : Nat)]) _
          rw [this]
          exact ns_dpAll _
      · rw [filterMap_some'] at hys
        have eo2 := g'.at eo
        have ly := DpAll.len hys
        have la := DpAll.len da
        refine ⟨o1, D, acc, ys, rfl, rfl, eo2, eD, ?_, fun p np => ?_⟩
        · refine Nat.le_trans (?_ : _ ≤ 100000) (by decide)
          rw [ly, la, List.length_map, List.length_map]
          omega
        · have g2 := Gr.new (T := T) (o := HO.lst (acc ++ ys)) np
          refine ⟨(g1.trans g').trans g2, p, acc ++ ys, _, _, rfl, upd_same, ?_⟩
          have e : (lotsOf (so.take (i + 1))).map dLot = (lotsOf (so.take i)).map dLot ++ (lotsOf (so.take i)).map fun l => dLot (l ++ [so[i]]) := by
            rw [List.take_add_one, es]
            show (lotsOf (so.take i ++ [so[i]])).map dLot = _
            rw [lotsOf_snoc, List.map_append, List.map_map]
            rfl
          rw [e]
          exact g2.dpAll (dpAll_app (g'.dpAll da) hys)
    · obtain ⟨g1, o1, acc, z2, z3, rfl, eo, da⟩ := h
      rw [List.length_map, List.take_length] at da
      have ed : (lotsOf so).map dLot = ((lotsOf so).map dNs).map PyData.tuple := by
        rw [List.map_map]
        rfl
      rw [ed] at da
      refine ⟨.ref o1, rfl, o1, acc, (lotsOf so).map dNs, rfl, SqL.of eo, da, g1.tab ht, fun ds hm => ?_, ?_, .inl ?_, fun H2 ys p g2 hys ep => ?_⟩
      · obtain ⟨l, hl', rfl⟩ := List.mem_map.mp hm
        have := ((lotsOf_mem _ _).mp hl').length_le
        exact ⟨noL_ns l, by rw [List.length_map]; omega, lotK_depth l⟩
      · intro d hd d' hd'
        rw [List.map_map] at hd hd'
        obtain ⟨l, _, rfl⟩ := List.mem_map.mp hd
        obtain ⟨l', _, rfl⟩ := List.mem_map.mp hd'
        exact lotK_alike l l'
      · intro d hd
        obtain ⟨ds, _, rfl⟩ := List.mem_map.mp hd
        exact ⟨_, _, rfl⟩
      · have em : (((lotsOf so).map dNs).mergeSort (dataLe false lotK)) = ((lotsOf so).mergeSort (fun a b => dataLe false lotK (dNs a) (dNs b))).map dNs := (List.map_mergeSort (f := dNs) (r := fun a b => dataLe false lotK (dNs a) (dNs b)) (s := dataLe false lotK) (fun _ _ _ _ => rfl)).symm
        rw [em, List.map_map] at hys
        refine q _ p ys ((lotsOf so).mergeSort fun a b => dataLe false lotK (dNs a) (dNs b)) (g1.trans g2) ep hys (fun lot => ?_) ?_
        · rw [(List.mergeSort_perm _ _).mem_iff, lotsOf_mem]
        · have tl := sortLe_total (listOrd itemOrd) false fun b => keyToks (lotK b)
          have pw := List.pairwise_mergeSort (le := fun a b : List Nat => dataLe false lotK (dNs a) (dNs b)) (fun a b c h1 h2 => tl.trans (dNs a) (dNs b) (dNs c) h1 h2) (fun a b => by
            rw [Bool.or_eq_true]
            exact tl.total (dNs a) (dNs b)) (lotsOf so)
          exact pw.imp fun h => lotK_le h
end
end So
namespace So
open PySem PySem.Spec PyProof.Rows L2 PySem.W LamX
open C8 (Cal pe_c pe_gc)
open RZ StX
/-! ### plain -/
/-- x is reached from p by ties to persons of the lot -/
inductive Hang (ties : List (Nat × Nat)) (lot : List Nat) (p : Nat) : Nat → Prop where
  | base : Hang ties lot p p
  | step {x y : Nat} : Hang ties lot p x → y ∈ tiedTo ties x → y ∈ lot → Hang ties lot p y
theorem shaped_of {d : PyData} (h : d.canLay0 = true) (h2 : d.depth ≤ 64) : SeqAt.shaped d = true := by
  unfold SeqAt.shaped
  rw [h, decide_eq_true h2]
  rfl
theorem canLayAll_int : ∀ ns : List Int, PyData.canLayAll0 (ns.map .int) = true
  | [] => by simp [PyData.canLayAll0]
  | n :: ns => by simp [PyData.canLayAll0, PyData.canLay0, canLayAll_int ns]
theorem depthAll_int : ∀ ns : List Int, PyData.depthAll (ns.map .int) = 0
  | [] => by simp [PyData.depthAll]
  | n :: ns => by simp [PyData.depthAll, PyData.depth, depthAll_int ns]
theorem shaped_ints (ns : List Int) : SeqAt.shaped (.list (ns.map .int)) = true := shaped_of (by rw [PyData.canLay0]; exact canLayAll_int ns) (by rw [PyData.depth, depthAll_int]; decide)
theorem shaped_nil : SeqAt.shaped (.list []) = true := shaped_ints []
theorem eqv_nil (ds : List PyData) : PyData.eqv (.list ds) (.list []) = ds.isEmpty := by
  cases ds <;> simp [PyData.eqv, PyData.eqvAll]
theorem inV_ns (x : Nat) (ns : List Nat) : inV (.int x) (ns.map fun (n : Nat) => V.int n) = decide (x ∈ ns) := by
  unfold inV
  rw [List.any_map]
  by_cases h : x ∈ ns
  · rw [decide_eq_true h, List.any_eq_true]
    exact ⟨x, h, by simp [eqV]⟩
  · rw [decide_eq_false h, List.any_eq_false]
    intro y hy
    have : y ≠ x := fun e => h (e ▸ hy)
    simp [eqV]
    omega
theorem flat_ns (ns : List Nat) : (ns.map fun (n : Nat) => V.int n).all flatV = true := by
  rw [List.all_map, List.all_eq_true]
  intro x _
  rfl
/-- what stands in hanging's loop -/
structure HInv (ties : List (Nat × Nat)) (lot : List Nat) (p : Nat) (found edge : List Nat) : Prop where
  nd : found.Nodup
  sub : ∀ x ∈ found, x = p ∨ x ∈ lot
  hang : ∀ x ∈ found, Hang ties lot p x
  inp : p ∈ found
  edge : ∀ x ∈ edge, x ∈ found
theorem HInv.len {ties : List (Nat × Nat)} {lot : List Nat} {p : Nat} {found edge : List Nat} (h : HInv ties lot p found edge) : found.length ≤ lot.length + 1 :=
  List.Nodup.length_le_of_subset (l₂ := p :: lot) h.nd fun x hx => by
    rcases h.sub x hx with e | e
    · rw [e]
      exact List.mem_cons_self ..
    · exact List.mem_cons_of_mem _ e
theorem HInv.grow {ties : List (Nat × Nat)} {lot : List Nat} {p x : Nat} {found edge : List Nat} (h : HInv ties lot p found edge) (hx : x ∈ lot) (hn : x ∉ found) (hh : Hang ties lot p x) : HInv ties lot p (found ++ [x]) (edge ++ [x]) where
  nd := by
    rw [List.nodup_append]
    refine ⟨h.nd, by simp, fun a ha b hb e => ?_⟩
    rw [List.mem_singleton] at hb
    subst e hb
    exact hn ha
  sub := fun y hy => by
    rcases List.mem_append.mp hy with hy | hy
    · exact h.sub y hy
    · rw [List.mem_singleton] at hy
      exact .inr (hy ▸ hx)
  hang := fun y hy => by
    rcases List.mem_append.mp hy with hy | hy
    · exact h.hang y hy
    · rw [List.mem_singleton] at hy
      exact hy ▸ hh
  inp := List.mem_append_left _ h.inp
  edge := fun y hy => by
    rcases List.mem_append.mp hy with hy | hy
    · exact List.mem_append_left _ (h.edge y hy)
    · exact List.mem_append_right _ hy
def Shut (ties : List (Nat × Nat)) (lot found edge : List Nat) : Prop := ∀ x ∈ found, x ∉ edge → ∀ y ∈ tiedTo ties x, y ∈ lot → y ∈ found
theorem HInv.all {ties : List (Nat × Nat)} {lot : List Nat} {p : Nat} {found : List Nat} (h : HInv ties lot p found []) (s : Shut ties lot found []) (x : Nat) : x ∈ found ↔ Hang ties lot p x := by
  refine ⟨h.hang x, fun hx => ?_⟩
  induction hx with
  | base => exact h.inp
  | step _ h1 h2 ih => exact s _ ih (by simp) _ h1 h2
section
variable {P : Program} {w : World} {K : PySem.W.Frag} {mg : Str → Option Value} {base : Heap} {T : List (Addr × Str)}
abbrev vN (l : List Nat) : List V := l.map fun (n : Nat) => V.int n
def spHanging (K : PySem.W.Frag) (T : List (Addr × Str)) : Sp := fun vs H Q _ => ∃ (v u : V) (n : Nat) (ties : List (Nat × Nat)) (p : Nat) (lot : List Nat), vs = [v, .int p, u] ∧ Dp K H v (dWeb n ties) ∧ Dp K H u (.list (dNs lot)) ∧ ties.length ≤ 16 ∧ lot.length ≤ 16 ∧
  ∀ H' l ys, Gr T H H' → H' l = some (.tup (vN ys)) → (∀ x, x ∈ ys ↔ Hang ties lot p x) → ys.length ≤ 20 → Q (.ref l) H'
theorem ok_hanging {f : Addr} {fd : FuncData} (F : FnP K "hanging" s_hanging f fd) (N : Nm mg) (g : mg "hanging" = some (.ref f)) (CT : Cal P w K mg base 1 "tied_to" (spTied K T) []) :
    Cal P w K mg base 2 "hanging" (spHanging K T) [] := by
  refine ⟨f, fd, _, [], F.ok sc_hanging (fun vs H Q E h => ?_) (fun cdv A outer s H vs Q E hr h => ?_), g, F.kp, b_hanging F, .nil⟩
  · obtain ⟨v, u, n, ties, p, lot, rfl, _⟩ := h
    rfl
  · obtain ⟨v, u, n, ties, p, lot, rfl, hv, hu, htl, hll, q⟩ := h
    obtain ⟨a, xs, rfl, ha, hxs⟩ := dp_lst hu
    rw [dpAll_ns hxs] at ha
    have nd := sc_hanging.nd
    refine ⟨_, PSs.nox (pss_cons (ps_par (i := 3) (j := 4) (by rfl) nd rfl rfl (by decide) rfl rfl (pa_cons (pe_lst (pa_cons (pv 1) pa_nil)) (pa_cons (pe_lst (pa_cons (pv 1) pa_nil)) pa_nil)) (by rfl))
      (pss_cons (ps_while PassesOwn.never (pt_cmpR (op_neD hr.units) (pv 4) (pe_lst pa_nil) (nomark _))
        (pss_cons (ps_set (i := 5) nd rfl (.inl rfl) (pe_bm0 PySem.F.plainAttrs_list PySem.F.slot_list_pop PySem.F.type_list_pop mt_pop (pv 4)))
        (pss_one (ps_for PassesOwn.never rfl (pi_list (pe_c CT hr (by decide) rfl (pa_cons (pv 0) (pa_cons (pv 5) pa_nil)))) (pg_name (i := 6) nd rfl (.inl rfl))
          (pss_one (ps_if (PW.pt (pw_and (pt_cmpR op_in_seq (pv 6) (pv 2) (by rfl)) (pw_and1 (pt_cmpR op_notIn_seq (pv 6) (pv 3) (by rfl)))))
            (pss_cons (ps_expr (pe_bm PySem.F.plainAttrs_list PySem.F.slot_list_append PySem.F.type_list_append mt_append (pv 3) (pa_cons (pv 6) pa_nil)))
            (pss_one (ps_expr (pe_bm PySem.F.plainAttrs_list PySem.F.slot_list_append PySem.F.type_list_append mt_append (pv 4) (pa_cons (pv 6) pa_nil))))) pss_nil))))))
      (pss_one (ps_ret (pe_callTy call_tuple_of rfl N.tuple_ (by decide +kernel) (pa_cons (pe_callB cr_sortedI rfl N.sorted_ (by decide +kernel) (pa_cons (pv 3) pa_nil)) pa_nil)))))), ?_⟩
    refine ⟨_, rfl, by show 1 ≤ sizeLine; decide, fun lf nf => ⟨_, rfl, by show 1 ≤ sizeLine; decide, fun le ne => ⟨_, _, rfl, ?_⟩⟩⟩
    have nF : Nw H lf := Nw.of nf
    have g0 : Gr T H (upd (upd H lf (.lst [.int p])) le (.lst [.int p])) := (Gr.new nf).trans (Gr.new ne)
    have nE : Nw H le := Nw.back (T := T) (Gr.new nf) (Nw.of ne)
    have hne : lf ≠ le := ne_of_none upd_same ne
    have small : ∀ l : List Nat, l.length ≤ 1000 → (vN l).length < sizeLine := fun l h => by
      rw [List.length_map]
      exact Nat.lt_of_le_of_lt h (by decide)
    refine ⟨fun m σ H' => ∃ found edge z5 z6, m = 2 * (lot.length + 1 - found.length) + edge.length ∧ m ≤ 40 ∧ σ = [some v, some (.int p), some (.ref a), some (.ref lf), some (.ref le), z5, z6] ∧ Gr T H H' ∧ H' lf = some (.lst (vN found)) ∧ H' le = some (.lst (vN edge)) ∧ HInv ties lot p found edge ∧ Shut ties lot found edge,
      ⟨_, [p], [p], none, none, rfl, by show 2 * (lot.length + 1 - 1) + 1 ≤ 40; omega, rfl, g0, (upd_ne hne).trans upd_same, upd_same, ⟨by simp, fun x hx => .inl (List.mem_singleton.mp hx), fun x hx => by rw [List.mem_singleton.mp hx]; exact .base, by simp, fun x hx => hx⟩, fun x hx hn => absurd hx hn⟩, ?_⟩
    rintro m σ H1 ⟨found, edge, z5, z6, rfl, hm40, rfl, g1, ef, ee, hi, hs⟩
    have hlenE : ∀ {f e : List Nat}, HInv ties lot p f e → f.length ≤ 17 := fun h => by have := h.len; omega
    refine ⟨.ref le, rfl, by show 0 ≤ sizeLine; decide, fun t nt => ?_⟩
    have gt := Gr.new (T := T) (o := HO.lst []) nt
    have ee1 := gt.at ee
    have ef1 := gt.at ef
    refine ⟨.list (dNs edge), .list [], .lst (SqL.of ee1) (ns_dpAll edge), .lst (SqL.of upd_same) .nil, by rw [dNs_ints]; exact shaped_ints _, shaped_nil, _, rfl, ?_⟩
    rw [eqv_nil]
    by_cases hed : edge = []
    · subst hed
      refine iteF ?_
      refine ⟨.ref lf, rfl, lf, found.map fun (n : Nat) => (n : Int), rfl, ?_, fun ns' c hp hso nc => ?_⟩
      · rw [List.map_map]
        exact SqL.of ef1
      · have e := sortN_int hp hso
        subst e
        refine ⟨c, _, rfl, .inl ⟨SqL.of upd_same, fun l nl => ?_⟩⟩
        refine q _ l (sortN found) (((g1.trans gt).trans (Gr.new nc)).trans (Gr.new nl)) ?_ (fun x => ?_) ?_
        · rw [upd_same, List.map_map]
          rfl
        · rw [sortN_mem]
          exact hi.all hs x
        · rw [(sortN_perm found).length_eq]
          have := hlenE hi
          omega
    · have hne0 : edge ≠ [] := hed
      have hemp : (dNs edge).isEmpty = false := by
        cases edge with
        | nil => exact absurd rfl hed
        | cons a b => rfl
      rw [hemp]
      refine iteT ?_
      refine ⟨fun σ' H' => ∃ found' edge' z5 z6, 2 * (lot.length + 1 - found'.length) + edge'.length < 2 * (lot.length + 1 - found.length) + edge.length ∧ σ' = [some v, some (.int p), some (.ref a), some (.ref lf), some (.ref le), z5, z6] ∧ Gr T H H' ∧ H' lf = some (.lst (vN found')) ∧ H' le = some (.lst (vN edge')) ∧ HInv ties lot p found' edge' ∧ Shut ties lot found' edge', fun σ' H' ⟨f', e', y5, y6, hm, h2, h3, h4, h5, h6, h7⟩ => ⟨_, hm, f', e', y5, y6, rfl, by omega, h2, h3, h4, h5, h6, h7⟩, ?_⟩
      have ed : edge.dropLast ++ [edge.getLast hne0] = edge := List.dropLast_concat_getLast hne0
      generalize hh : edge.getLast hne0 = here at ed
      generalize hdl : edge.dropLast = rest at ed
      have hhe : here ∈ edge := by rw [← ed]; simp
      have hrl : rest.length + 1 = edge.length := by rw [← ed]; simp
      have epop : (vN edge)[(vN edge).length - 1]? = some (.int here) := by
        rw [← ed]
        simp
      have edrop : (vN edge).dropLast = vN rest := by
        rw [← ed]
        simp
      refine ⟨.ref le, rfl, .inl ⟨rfl, _, SqL.of ee1⟩, le, _, _, rfl, rfl, ee1, epop, ?_⟩
      rw [edrop]
      have g2 : Gr T H (upd (upd H1 t (.lst [])) le (.lst (vN rest))) := (g1.trans gt).put nE ee1
      refine ⟨v, rfl, .int here, rfl, v, n, ties, here, rfl, g2.dp hv, htl, fun H3 c g3 nc ec => ?_⟩
      have ef3 := g3.at ((upd_ne hne).trans ef1)
      have ee3 := g3.at (upd_same (H := upd H1 t (.lst [])) (a := le) (o := HO.lst (vN rest)))
      have g23 := g2.trans g3
      have hcf : c ≠ lf := (nc.ne ((upd_ne hne).trans ef1)).symm
      have hce : c ≠ le := (nc.ne (upd_same (H := upd H1 t (.lst [])) (a := le) (o := HO.lst (vN rest)))).symm
      refine ⟨c, rfl, ⟨_, SqL.of ec⟩, ?_⟩
      refine for_it walk_list (fun i σ' H' => H' c = some (.lst (vN (tiedTo ties here))) ∧ ∃ found' edge' z6, 2 * (lot.length + 1 - found'.length) + edge'.length + 1 ≤ 2 * (lot.length + 1 - found.length) + edge.length ∧ σ' = [some v, some (.int p), some (.ref a), some (.ref lf), some (.ref le), some (.int here), z6] ∧ Gr T H H' ∧ H' lf = some (.lst (vN found')) ∧ H' le = some (.lst (vN edge')) ∧ HInv ties lot p found' edge' ∧ here ∈ found' ∧
        (∀ x ∈ found', x ∉ edge' → x ≠ here → ∀ y ∈ tiedTo ties x, y ∈ lot → y ∈ found') ∧ ∀ y ∈ (tiedTo ties here).take i, y ∈ lot → y ∈ found')
        ⟨ec, found, rest, z6, by omega, rfl, g23, ef3, ee3, ⟨hi.nd, hi.sub, hi.hang, hi.inp, fun x hx => hi.edge x (by rw [← ed]; exact List.mem_append_left _ hx)⟩, hi.edge _ hhe, fun x hx hn hxh => hs x hx (fun z => by
          rw [← ed, List.mem_append, List.mem_singleton] at z
          rcases z with z | z
          · exact hn z
          · exact hxh z), by simp⟩
        (fun i σ' H' _ h => SqL.of h.1) (fun i x σ' H4 H5 hlt h y => ?_) (fun σ' H' h => ?_)
      · obtain ⟨ec', f', e', z6', hm, rfl, g4, ef4, ee4, hi4, hh4, hs4, ht4⟩ := h
        obtain ⟨rfl, e2⟩ := y
        rw [List.length_map] at hlt
        have et : (tiedTo ties here)[i]? = some (tiedTo ties here)[i] := List.getElem?_eq_getElem hlt
        generalize (tiedTo ties here)[i] = b at et
        rw [List.getElem?_map, et] at e2
        cases e2
        have etk : (tiedTo ties here).take (i + 1) = (tiedTo ties here).take i ++ [b] := by
          rw [List.take_add_one, et]
          rfl
        refine ⟨.int b, rfl, .ref a, rfl, a, _, rfl, .inl (g4.sqL ha), rfl, flat_ns lot, _, rfl, ?_⟩
        show (if inV (.int b) (vN lot) = true then _ else _)
        rw [inV_ns]
        refine ite2 (fun e1 => ?_) (fun e1 => ?_)
        · have e1 : b ∈ lot := of_decide_eq_true e1
          refine ⟨.int b, rfl, .ref lf, rfl, lf, _, rfl, .inl (SqL.of ef4), rfl, flat_ns f', _, rfl, ?_⟩
          show (if (!inV (.int b) (vN f')) = true then _ else _)
          rw [inV_ns]
          by_cases hbf : b ∈ f'
          · rw [decide_eq_true hbf]
            refine iteF ?_
            refine ⟨ec', f', e', _, hm, rfl, g4, ef4, ee4, hi4, hh4, hs4, ?_⟩
            rw [etk]
            intro y hy hyl
            rcases List.mem_append.mp hy with hy | hy
            · exact ht4 y hy hyl
            · rw [List.mem_singleton] at hy
              exact hy ▸ hbf
          · rw [decide_eq_false hbf]
            refine iteT ?_
            have hb : Hang ties lot p b := .step (hi4.hang _ hh4) (List.mem_of_getElem? et) e1
            have hi5 := hi4.grow e1 hbf hb
            have l5 := hi5.len
            rw [List.length_append] at l5
            have l5 : f'.length + 1 ≤ lot.length + 1 := l5
            have l6 : e'.length ≤ 1000 := by
              have h1 := hi4.len
              have h2 := hi.len
              have : edge.length ≤ 900 := by omega
              omega
            refine ⟨.ref lf, rfl, .inl ⟨rfl, _, SqL.of ef4⟩, .int b, rfl, lf, _, _, rfl, rfl, ef4, small f' (by omega), ?_⟩
            have ee5 : (upd H5 lf (.lst (vN f' ++ [.int b]))) le = some (.lst (vN e')) := (upd_ne hne.symm).trans ee4
            refine ⟨.ref le, rfl, .inl ⟨rfl, _, SqL.of ee5⟩, .int b, rfl, le, _, _, rfl, rfl, ee5, small e' l6, ?_⟩
            have ev : ∀ l : List Nat, vN l ++ [V.int b] = vN (l ++ [b]) := fun l => (List.map_append (l₁ := l) (l₂ := [b])).symm
            rw [ev, ev]
            refine ⟨?_, f' ++ [b], e' ++ [b], _, ?_, rfl, (g4.put nF ef4).put nE ((upd_ne hne.symm).trans ee4), ?_, upd_same, hi5, List.mem_append_left _ hh4, ?_, ?_⟩
            · rw [upd_ne hce, upd_ne hcf]
              exact ec'
            · rw [List.length_append, List.length_append]
              show 2 * (lot.length + 1 - (f'.length + 1)) + (e'.length + 1) + 1 ≤ _
              omega
            · rw [upd_ne hne, upd_same]
            · intro x hx hn hxh y hy hyl
              rcases List.mem_append.mp hx with hx | hx
              · exact List.mem_append_left _ (hs4 x hx (fun z => hn (List.mem_append_left _ z)) hxh y hy hyl)
              · exact absurd (List.mem_append_right _ hx) hn
            · rw [etk]
              intro y hy hyl
              rcases List.mem_append.mp hy with hy | hy
              · exact List.mem_append_left _ (ht4 y hy hyl)
              · exact List.mem_append_right _ hy
        · have e1 : b ∉ lot := fun z => e1 (decide_eq_true z)
          refine iteF ?_
          refine ⟨ec', f', e', _, hm, rfl, g4, ef4, ee4, hi4, hh4, hs4, ?_⟩
          rw [etk]
          intro y hy hyl
          rcases List.mem_append.mp hy with hy | hy
          · exact ht4 y hy hyl
          · rw [List.mem_singleton] at hy
            subst hy
            exact absurd hyl e1
      · obtain ⟨ec', f', e', z6', hm, rfl, g4, ef4, ee4, hi4, hh4, hs4, ht4⟩ := h
        rw [List.length_map, List.take_length] at ht4
        refine ⟨f', e', _, _, by omega, rfl, g4, ef4, ee4, hi4, fun x hx hn => ?_⟩
        by_cases hxh : x = here
        · rw [hxh]
          exact ht4
        · exact hs4 x hx hn hxh
end
end So
namespace So
open PySem PySem.Spec PyProof.Rows L2 PySem.W LamX
open C8 (Cal pe_c pe_gc)
open RZ StX
/-! ### plain -/
open Classical in
/-- a Prop as a Bool -/
noncomputable def bP (p : Prop) : Bool := decide p
theorem bP_iff {p : Prop} : bP p = true ↔ p := by
  unfold bP
  exact @decide_eq_true_iff p (Classical.propDecidable p)
theorem bP_of {p : Prop} {b : Bool} (h : b = true ↔ p) : b = bP p := by
  cases e : bP p with
  | true => exact h.mpr (bP_iff.mp e)
  | false =>
    cases b with
    | true => exact absurd (bP_iff.mpr (h.mp rfl)) (by rw [e]; exact Bool.false_ne_true)
    | false => rfl
/-- the persons so join the source, walking over so and the source alone -/
def Joins (ties : List (Nat × Nat)) (so src : List Nat) : Prop := ∀ p ∈ so, ∃ x ∈ src, Hang ties (so ++ src) p x
section
variable {P : Program} {w : World} {K : PySem.W.Frag} {mg : Str → Option Value} {base : Heap} {T : List (Addr × Str)}
def spJoins (K : PySem.W.Frag) (T : List (Addr × Str)) : Sp := fun vs H Q _ => ∃ (v u x : V) (n : Nat) (ties : List (Nat × Nat)) (so src : List Nat), vs = [v, u, x] ∧ Dp K H v (dWeb n ties) ∧ Dp K H u (dLot so) ∧ Dp K H x (.list (dNs src)) ∧ ties.length ≤ 16 ∧ so.length ≤ 4 ∧ src.length ≤ 4 ∧
  ∀ H', Gr T H H' → Q (.bl (bP (Joins ties so src))) H'
theorem ok_joins {f : Addr} {fd : FuncData} (F : FnP K "joins" s_joins f fd) (N : Nm mg) (g : mg "joins" = some (.ref f)) (CH : Cal P w K mg base 2 "hanging" (spHanging K T) []) :
    Cal P w K mg base 3 "joins" (spJoins K T) [] := by
  refine ⟨f, fd, _, [], F.ok sc_joins (fun vs H Q E h => ?_) (fun cdv A outer s H vs Q E hr h => ?_), g, F.kp, b_joins F, .nil⟩
  · obtain ⟨v, u, x, n, ties, so, src, rfl, _⟩ := h
    rfl
  · obtain ⟨v, u, x, n, ties, so, src, rfl, hv, hu, hx, htl, hso, hsrc, q⟩ := h
    obtain ⟨a, xs, rfl, ha, hxs⟩ := dp_tup hu
    rw [dpAll_ns hxs] at ha
    obtain ⟨b, ys, rfl, hb, hys⟩ := dp_lst hx
    rw [dpAll_ns hys] at hb
    have nd := sc_joins.nd
    refine ⟨_, PSs.nox (pss_cons (ps_set (i := 3) nd rfl (.inr rfl) (pe_lst (pa_star (pv 1) (pa_star (pv 2) pa_nil))))
      (pss_one (ps_ret (pe_callB (cr_all rfl) rfl N.all_ (by decide +kernel) (pa_cons
        (pe_lc (own := [("person", 5)]) (g := gName 5) (tt := tYes) rfl nd (pi_tup (pv 1)) (blkOk_by (own := [("person", 5)]) (N := ["web", "some", "source", "lot", "one", "person"]) (sc := defScope s_joins) (by decide +kernel)) (fun _ _ _ _ _ => pg_name (i := 5) nd rfl (Or.inl rfl)) (fun _ _ _ _ _ => pts_nil)
          (te := tCB (rAny K) (tCons (tLc (iTup K (tCall (spHanging K T) [] C8.E0 (tCons (tVar 0) (tCons (tVar 5) (tCons (tVar 3) tNil))))) (gName 4) tYes (tOp (rIn K false) (tVar 4) (tVar 2)) [4]) tNil))
          (fun _ _ _ _ _ => pe_callB (cr_any rfl) rfl N.any_ (by decide +kernel) (pa_cons
            (pe_lc (own := [("one", 4)]) (g := gName 4) (tt := tYes) rfl nd (pi_tup (pe_c CH hr (by decide) rfl (pa_cons (pv 0) (pa_cons (pv 5) (pa_cons (pv 3) pa_nil))))) (blkOk_by (own := [("one", 4)]) (N := ["web", "some", "source", "lot", "one", "person"]) (by rfl)) (fun _ _ _ _ _ => pg_name (i := 4) nd rfl (Or.inl rfl)) (fun _ _ _ _ _ => pts_nil)
              (fun _ _ _ _ _ => pe_cmpR op_in_seq (pv 4) (pv 2) (by rfl))) pa_nil))) pa_nil))))), ?_⟩
    refine ⟨.ref a, rfl, a, _, rfl, .inl ha, .ref b, rfl, b, _, rfl, .inr hb, ?_, fun o no => ?_⟩
    · refine Nat.le_trans (?_ : _ ≤ 100000) (by decide)
      simp only [List.length_append, List.length_map, List.length_nil]
      omega
    rw [List.append_nil]
    have elot : (so.map fun (n : Nat) => V.int n) ++ (src.map fun (n : Nat) => V.int n) = vN (so ++ src) := (List.map_append ..).symm
    rw [elot]
    have g0 : Gr T H (upd H o (.lst (vN (so ++ src)))) := Gr.new no
    have dlot : ∀ {H'}, Gr T (upd H o (.lst (vN (so ++ src)))) H' → Dp K H' (.ref o) (.list (dNs (so ++ src))) := fun g => .lst (SqL.of (g.at upd_same)) (ns_dpAll _)
    refine ⟨.ref a, rfl, a, rfl, ⟨_, g0.sqT ha⟩, fun D hD => ?_⟩
    refine lcD (T := T) (K := K) so (fun p => some (.bool (bP (∃ x ∈ src, Hang ties (so ++ src) p x)))) (fun _ _ e => by cases e; rfl) walk_tup (by rw [List.length_map]) hD (by omega) (fun H' g' => (g0.trans g').sqT ha) (fun i p z H1 H2 Yes No ex g1 y hy hn => ?_) (fun H' ys g' eD hys => ?_)
    · obtain ⟨rfl, e2⟩ := y
      rw [List.getElem?_map, ex] at e2
      cases e2
      refine ⟨rfl, ?_⟩
      refine ⟨v, rfl, .int p, rfl, .ref o, rfl, v, .ref o, n, ties, p, so ++ src, rfl, (g0.trans g1).dp hv, dlot g1, htl, by rw [List.length_append]; omega, fun H3 l ys g3 el hl hyl => ?_⟩
      refine ⟨l, rfl, ⟨_, SqT.of el⟩, fun D2 hD2 => ?_⟩
      refine lcD (T := T) (K := K) ys (fun x => some (.bool (decide (x ∈ src)))) (fun _ _ e => by cases e; rfl) walk_tup (by rw [List.length_map]) hD2 (by omega) (fun H' g' => g'.sqT (SqT.of el)) (fun j b' z H4 H5 Yes2 No2 ex2 g4 y2 hy2 hn2 => ?_) (fun H' bs g' eD2 hbs => ?_)
      · obtain ⟨rfl, e3⟩ := y2
        rw [List.getElem?_map, ex2] at e3
        cases e3
        refine ⟨rfl, ?_⟩
        refine ⟨.int b', rfl, .ref b, rfl, b, _, rfl, .inl ((((g0.trans g1).trans g3).trans g4).sqL hb), rfl, flat_ns src, ?_⟩
        show Yes2 (.bl (inV (.int b') (vN src))) H5
        rw [inV_ns]
        exact hy2 _ _ _ rfl Gr.refl (.bl _)
      · rw [filterMap_some'] at hbs
        have e : ys.map (fun x => PyData.bool (decide (x ∈ src))) = (ys.map fun x => decide (x ∈ src)).map PyData.bool := by
          rw [List.map_map]
          rfl
        rw [e] at hbs
        rw [dpAll_bool hbs] at eD2
        refine ⟨D2, _, rfl, SqL.of eD2, ?_⟩
        have e2 : ((ys.map fun x => decide (x ∈ src)).any id) = bP (∃ x ∈ src, Hang ties (so ++ src) p x) := by
          refine bP_of ?_
          rw [List.any_map, List.any_eq_true]
          constructor
          · rintro ⟨x, hx, h⟩
            exact ⟨x, of_decide_eq_true h, (hl x).mp hx⟩
          · rintro ⟨x, hx, h⟩
            exact ⟨x, (hl x).mpr h, decide_eq_true hx⟩
        rw [e2]
        exact hy _ _ _ rfl (g3.trans g') (.bl _)
    · rw [filterMap_some'] at hys
      have e : so.map (fun p => PyData.bool (bP (∃ x ∈ src, Hang ties (so ++ src) p x))) = (so.map fun p => bP (∃ x ∈ src, Hang ties (so ++ src) p x)).map PyData.bool := by
        rw [List.map_map]
        rfl
      rw [e] at hys
      rw [dpAll_bool hys] at eD
      refine ⟨D, _, rfl, SqL.of eD, ?_⟩
      have e2 : ((so.map fun p => bP (∃ x ∈ src, Hang ties (so ++ src) p x)).all id) = bP (Joins ties so src) := by
        refine bP_of ?_
        rw [List.all_map, List.all_eq_true]
        exact ⟨fun h p hp => bP_iff.mp (h p hp), fun h p hp => bP_iff.mpr (h p hp)⟩
      rw [e2]
      exact q _ (g0.trans g')
end
end So
namespace So
open PySem PySem.Spec PyProof.Rows L2 PySem.W LamX
open C8 (Cal pe_c pe_gc)
open RZ StX
/-! ### plain -/
def srcAt (hs gs : List Int) (z : Int) : List Nat := (openAt hs gs z).filter fun i => decide (hs.getD i 0 = z)
def dueAt (hs gs : List Int) (z : Int) : List Nat := (openAt hs gs z).filter fun i => decide (gs.getD i 0 = z ∧ hs.getD i 0 ≠ z)
def freeAt (hs gs : List Int) (z : Int) : List Nat := (openAt hs gs z).filter fun i => decide (hs.getD i 0 ≠ z)
structure Valid (ties : List (Nat × Nat)) (hs gs : List Int) (z : Int) (lot : List Nat) : Prop where
  sub : lot.Sublist (freeAt hs gs z)
  due : ∀ x ∈ dueAt hs gs z, x ∈ lot
  joins : Joins ties lot (srcAt hs gs z)
structure MinLot (ties : List (Nat × Nat)) (hs gs : List Int) (z : Int) (m : Nat) : Prop where
  ex : ∃ lot, Valid ties hs gs z lot ∧ lot.length = m
  le : ∀ lot, Valid ties hs gs z lot → m ≤ lot.length
theorem openAt_lt {hs gs : List Int} {z : Int} {i : Nat} (h : i ∈ openAt hs gs z) : i < hs.length := by
  unfold openAt at h
  have := (List.mem_filter.mp h).1
  rwa [List.mem_range] at this
theorem openAt_len (hs gs : List Int) (z : Int) : (openAt hs gs z).length ≤ hs.length := by
  unfold openAt
  refine Nat.le_trans (List.length_filter_le _ _) ?_
  rw [List.length_range]
  exact Nat.le_refl _
theorem filter_len' {α : Type} (p : α → Bool) (l : List α) : (l.filter p).length ≤ l.length := List.length_filter_le _ _
section
variable {P : Program} {w : World} {K : PySem.W.Frag} {mg : Str → Option Value} {base : Heap} {T : List (Addr × Str)}
theorem filt_at {H : Hp} {D : Addr} {ys : List V} {l : List Nat} {p : Nat → Bool} (e : H D = some (.lst ys)) (h : DpAll K H ys (l.filterMap fun i => if p i = true then some (dN i) else none)) : H D = some (.lst (vN (l.filter p))) := by
  rw [filterMap_if] at h
  rw [e, dpAll_ns h]
def spJoinOf (K : PySem.W.Frag) (T : List (Addr × Str)) : Sp := fun vs H Q _ => ∃ (v u x : V) (n : Nat) (ties : List (Nat × Nat)) (hs gs : List Int) (z : Int) (m : Nat), vs = [v, u, x, .int z] ∧ Dp K H v (dWeb n ties) ∧ Dp K H u (dInts hs) ∧ Dp K H x (dInts gs) ∧ ties.length ≤ 16 ∧ hs.length ≤ 4 ∧ gs.length = hs.length ∧ Tabs T H ∧ MinLot ties hs gs z m ∧
  ∀ H' v' lot, Gr T H H' → Dp K H' v' (dLot lot) → lot.length = m → Q v' H'
theorem ok_join_of {f : Addr} {fd : FuncData} (F : FnP K "join_of" s_join_of f fd) (N : Nm mg) (g : mg "join_of" = some (.ref f)) (CO : Cal P w K mg base 1 "open_at" (spOpenAt K T) []) (CL : Cal P w K mg base 3 "lots_of" (spLots K T) []) (CJ : Cal P w K mg base 3 "joins" (spJoins K T) []) :
    Cal P w K mg base 4 "join_of" (spJoinOf K T) [] := by
  refine ⟨f, fd, _, [], F.ok sc_join_of (fun vs H Q E h => ?_) (fun cdv A outer s H vs Q E hr h => ?_), g, F.kp, b_join_of F, .nil⟩
  · obtain ⟨v, u, x, n, ties, hs, gs, z, m, rfl, _⟩ := h
    rfl
  · obtain ⟨v, u, x, n, ties, hs, gs, z, m, rfl, hv, hu, hx, htl, hhl, hgl, hT, hm, q⟩ := h
    have hu0 := hu
    have hx0 := hx
    obtain ⟨a, rfl, ha⟩ := dp_ints hu
    obtain ⟨b, rfl, hb⟩ := dp_ints hx
    have nd := sc_join_of.nd
    refine ⟨_, PSs.nox (pss_cons (ps_set (i := 4) nd rfl (.inl rfl) (pe_c CO hr (by decide) rfl (pa_cons (pv 1) (pa_cons (pv 2) (pa_cons (pv 3) pa_nil)))))
      (pss_cons (ps_setLc (i := 5) (own := [("one", 6)]) (g := gName 6) (tt := tTest (tOp rEq (tOp (rIxT K) (tVar 1) (tVar 6)) (tVar 3))) rfl nd rfl rfl (sw_true rfl rfl rfl (by decide +kernel)) (pi_list (pv 4)) (blkOk_by (own := [("one", 6)]) (N := ["web", "heights", "goal", "height", "some", "source", "one", "due", "free", "lot"]) (sc := defScope s_join_of) (by decide +kernel)) (fun _ _ _ _ _ => pg_name (i := 6) nd rfl (Or.inl rfl))
          (fun _ _ _ _ _ => pts_one (pt_cmpR op_eq (pe_ix ix_tup (pv 1) (pv 6) (fun _ _ => rfl)) (pv 3) (nomark _))) (fun _ _ _ _ _ => pv 6))
      (pss_cons (ps_setLc (i := 7) (own := [("one", 6)]) (g := gName 6) (tt := tAnd (tTest (tOp rEq (tOp (rIxT K) (tVar 2) (tVar 6)) (tVar 3))) (tTest (tOp rNe (tOp (rIxT K) (tVar 1) (tVar 6)) (tVar 3)))) rfl nd rfl rfl (sw_true rfl rfl rfl (by decide +kernel)) (pi_list (pv 4)) (blkOk_by (own := [("one", 6)]) (N := ["web", "heights", "goal", "height", "some", "source", "one", "due", "free", "lot"]) (sc := defScope s_join_of) (by decide +kernel)) (fun _ _ _ _ _ => pg_name (i := 6) nd rfl (Or.inl rfl))
          (fun _ _ _ _ _ => pts_one (PW.pt (pw_and (pt_cmpR op_eq (pe_ix ix_tup (pv 2) (pv 6) (fun _ _ => rfl)) (pv 3) (nomark _)) (pw_and1 (pt_cmpR op_ne (pe_ix ix_tup (pv 1) (pv 6) (fun _ _ => rfl)) (pv 3) (nomark _)))))) (fun _ _ _ _ _ => pv 6))
      (pss_cons (ps_if (pt_cmpR (op_eqD hr.units) (pv 7) (pe_lst pa_nil) (nomark _)) (pss_one (ps_ret (pe_tup pa_nil))) pss_nil)
      (pss_cons (ps_setLc (i := 8) (own := [("one", 6)]) (g := gName 6) (tt := tTest (tOp rNe (tOp (rIxT K) (tVar 1) (tVar 6)) (tVar 3))) rfl nd rfl rfl (sw_true rfl rfl rfl (by decide +kernel)) (pi_list (pv 4)) (blkOk_by (own := [("one", 6)]) (N := ["web", "heights", "goal", "height", "some", "source", "one", "due", "free", "lot"]) (sc := defScope s_join_of) (by decide +kernel)) (fun _ _ _ _ _ => pg_name (i := 6) nd rfl (Or.inl rfl))
          (fun _ _ _ _ _ => pts_one (pt_cmpR op_ne (pe_ix ix_tup (pv 1) (pv 6) (fun _ _ => rfl)) (pv 3) (nomark _))) (fun _ _ _ _ _ => pv 6))
      (pss_cons (ps_for PassesOwn.never rfl (pi_list (pe_c CL hr (by decide) rfl (pa_cons (pv 8) pa_nil))) (pg_name (i := 9) nd rfl (.inr rfl))
        (pss_one (ps_if (PW.pt (pw_and (pt_val (pe_callB (cr_all rfl) rfl N.all_ (by decide +kernel) (pa_cons
            (pe_lc (own := [("one", 6)]) (g := gName 6) (tt := tYes) rfl nd (pi_list (pv 7)) (blkOk_by (own := [("one", 6)]) (N := ["web", "heights", "goal", "height", "some", "source", "one", "due", "free", "lot"]) (sc := defScope s_join_of) (by decide +kernel)) (fun _ _ _ _ _ => pg_name (i := 6) nd rfl (Or.inl rfl)) (fun _ _ _ _ _ => pts_nil)
              (te := tOp (rIn K false) (tVar 6) (tVar 9)) (fun _ _ _ _ _ => pe_cmpR op_in_seq (pv 6) (pv 9) (by rfl))) pa_nil)))
            (pw_and1 (pt_val (pe_c CJ hr (by decide) rfl (pa_cons (pv 0) (pa_cons (pv 9) (pa_cons (pv 5) pa_nil))))))))
          (pss_one (ps_ret (pv 9))) pss_nil)))
      (pss_one (ps_ret pe_non)))))))), ?_⟩
    refine ⟨.ref a, rfl, .ref b, rfl, .int z, rfl, .ref a, .ref b, hs, gs, z, rfl, hu0, hx0, hhl, hgl, fun H1 l g1 el => ?_⟩
    have lo := openAt_len hs gs z
    have hin : ∀ {j i : Nat}, (openAt hs gs z)[j]? = some i → i < hs.length := fun e => openAt_lt (List.mem_of_getElem? e)
    -- source
    refine ⟨.ref l, rfl, l, rfl, ⟨_, SqL.of el⟩, fun D1 hD1 => ?_⟩
    refine lcD (T := T) (K := K) (openAt hs gs z) (fun i => if decide (hs.getD i 0 = z) = true then some (dN i) else none) (fun _ _ e => by split at e <;> cases e; rfl) walk_list (by rw [List.length_map]) hD1 (by omega) (fun H' g' => SqL.of (g'.at el)) (fun j i y H2 H3 Yes No ex g2 yy hy hn => ?_) (fun H2 ys g2 eD1 hys => ?_)
    · obtain ⟨rfl, e2⟩ := yy
      rw [List.getElem?_map, ex] at e2
      cases e2
      have gg := g1.trans g2
      refine ⟨rfl, ?_⟩
      refine ⟨.ref a, rfl, .int i, rfl, a, _, (i : Nat), _, rfl, rfl, gg.sqT ha, atI_nat (int_get (hin ex)), .int z, rfl, rfl, _, rfl, ite2 (fun e1 => ?_) (fun e1 => ?_)⟩
      · have e1 : V.int (hs.getD i 0) = V.int z := of_decide_eq_true e1
        exact ⟨_, rfl, hy _ _ _ (if_pos (decide_eq_true (V.int.inj e1))) Gr.refl (.int _)⟩
      · exact hn _ (if_neg fun h => e1 (decide_eq_true (congrArg V.int (of_decide_eq_true h)))) Gr.refl
    have eS : H2 D1 = some (.lst (vN (srcAt hs gs z))) := filt_at eD1 hys
    have g12 := g1.trans g2
    have el2 := g2.at el
    -- due
    refine ⟨.ref l, rfl, l, rfl, ⟨_, SqL.of el2⟩, fun D2 hD2 => ?_⟩
    refine lcD (T := T) (K := K) (openAt hs gs z) (fun i => if decide (gs.getD i 0 = z ∧ hs.getD i 0 ≠ z) = true then some (dN i) else none) (fun _ _ e => by split at e <;> cases e; rfl) walk_list (by rw [List.length_map]) hD2 (by omega) (fun H' g' => SqL.of (g'.at el2)) (fun j i y H3 H4 Yes No ex g3 yy hy hn => ?_) (fun H3 ys2 g3 eD2 hys2 => ?_)
    · obtain ⟨rfl, e2⟩ := yy
      rw [List.getElem?_map, ex] at e2
      cases e2
      have gg := g12.trans g3
      have hi := hin ex
      refine ⟨rfl, ?_⟩
      refine ⟨.ref b, rfl, .int i, rfl, b, _, (i : Nat), _, rfl, rfl, gg.sqT hb, atI_nat (int_get (by omega)), .int z, rfl, rfl, _, rfl, ite2 (fun e1 => ?_) (fun e1 => ?_)⟩
      · have e1 : V.int (gs.getD i 0) = V.int z := of_decide_eq_true e1
        refine ⟨.ref a, rfl, .int i, rfl, a, _, (i : Nat), _, rfl, rfl, gg.sqT ha, atI_nat (int_get hi), .int z, rfl, rfl, _, rfl, ?_⟩
        by_cases e3 : hs.getD i 0 = z
        · rw [decide_eq_true (congrArg V.int e3)]
          refine iteF ?_
          exact hn _ (if_neg fun h => (of_decide_eq_true h).2 e3) Gr.refl
        · rw [decide_eq_false (fun h => e3 (V.int.inj h))]
          refine iteT ?_
          exact ⟨_, rfl, hy _ _ _ (if_pos (decide_eq_true ⟨V.int.inj e1, e3⟩)) Gr.refl (.int _)⟩
      · exact iteF (hn _ (if_neg fun h => e1 (decide_eq_true (congrArg V.int (of_decide_eq_true h).1))) Gr.refl)
    have eU : H3 D2 = some (.lst (vN (dueAt hs gs z))) := filt_at eD2 hys2
    have g13 := g12.trans g3
    have el3 := g3.at el2
    have eS3 := g3.at eS
    have lsu : (srcAt hs gs z).length ≤ 4 := by have := filter_len' (fun i => decide (hs.getD i 0 = z)) (openAt hs gs z); unfold srcAt; omega
    have ldu : (dueAt hs gs z).length ≤ 4 := by have := filter_len' (fun i => decide (gs.getD i 0 = z ∧ hs.getD i 0 ≠ z)) (openAt hs gs z); unfold dueAt; omega
    have lfr : (freeAt hs gs z).length ≤ 4 := by have := filter_len' (fun i => decide (hs.getD i 0 ≠ z)) (openAt hs gs z); unfold freeAt; omega
    -- if due == []
    refine ⟨.ref D2, rfl, by show 0 ≤ sizeLine; decide, fun t nt => ?_⟩
    have gt := Gr.new (T := T) (o := HO.lst []) nt
    have g14 := g13.trans gt
    refine ⟨.list (dNs (dueAt hs gs z)), .list [], .lst (SqL.of (gt.at eU)) (ns_dpAll _), .lst (SqL.of upd_same) .nil, by rw [dNs_ints]; exact shaped_ints _, shaped_nil, _, rfl, ?_⟩
    rw [eqv_nil]
    by_cases hdu : dueAt hs gs z = []
    · rw [hdu]
      refine iteT ?_
      refine ⟨by show 0 ≤ sizeLine; decide, fun p np => ?_⟩
      have hm0 : m = 0 := by
        have := hm.le [] ⟨List.nil_sublist _, fun x hx => (by rw [hdu] at hx; cases hx), fun p hp => (by cases hp)⟩
        exact Nat.le_zero.mp this
      exact q _ _ [] (g14.trans (Gr.new np)) (.tup (SqT.of upd_same) .nil) hm0.symm
    · have hemp : (dNs (dueAt hs gs z)).isEmpty = false := by
        cases e : dueAt hs gs z with
        | nil => exact absurd e hdu
        | cons a b => rfl
      rw [hemp]
      refine iteF ?_
      -- free
      refine ⟨.ref l, rfl, l, rfl, ⟨_, SqL.of (gt.at el3)⟩, fun D3 hD3 => ?_⟩
      refine lcD (T := T) (K := K) (openAt hs gs z) (fun i => if decide (hs.getD i 0 ≠ z) = true then some (dN i) else none) (fun _ _ e => by split at e <;> cases e; rfl) walk_list (by rw [List.length_map]) hD3 (by omega) (fun H' g' => SqL.of (g'.at (gt.at el3))) (fun j i y H4 H5 Yes No ex g4 yy hy hn => ?_) (fun H4 ys3 g4 eD3 hys3 => ?_)
      · obtain ⟨rfl, e2⟩ := yy
        rw [List.getElem?_map, ex] at e2
        cases e2
        have gg := g14.trans g4
        refine ⟨rfl, ?_⟩
        refine ⟨.ref a, rfl, .int i, rfl, a, _, (i : Nat), _, rfl, rfl, gg.sqT ha, atI_nat (int_get (hin ex)), .int z, rfl, rfl, _, rfl, ?_⟩
        by_cases e3 : hs.getD i 0 = z
        · rw [decide_eq_true (congrArg V.int e3)]
          refine iteF ?_
          exact hn _ (if_neg fun h => (of_decide_eq_true h) e3) Gr.refl
        · rw [decide_eq_false (fun h => e3 (V.int.inj h))]
          refine iteT ?_
          exact ⟨_, rfl, hy _ _ _ (if_pos (decide_eq_true e3)) Gr.refl (.int _)⟩
      have eF : H4 D3 = some (.lst (vN (freeAt hs gs z))) := filt_at eD3 hys3
      have g15 := g14.trans g4
      have eS4 := g4.at (gt.at eS3)
      have eU4 := g4.at (gt.at eU)
      -- the lots
      refine ⟨.ref D3, rfl, .ref D3, freeAt hs gs z, rfl, .lst (SqL.of eF) (ns_dpAll _), lfr, g15.tab hT, fun H5 L ys lots g5 eL hys hmem hpw => ?_⟩
      have g16 := g15.trans g5
      have eS5 := g5.at eS4
      have eU5 := g5.at eU4
      have hll := DpAll.len hys
      rw [List.length_map] at hll
      refine ⟨L, rfl, ⟨_, SqL.of eL⟩, ?_⟩
      refine for_it walk_list (fun i σ H' => Gr T H5 H' ∧ (∀ lot ∈ lots.take i, ¬ Valid ties hs gs z lot) ∧ ∃ z6 z9, σ = [some v, some (.ref a), some (.ref b), some (.int z), some (.ref l), some (.ref D1), z6, some (.ref D2), some (.ref D3), z9]) ⟨Gr.refl, by simp, _, _, rfl⟩ (fun i σ H' _ h => SqL.of (h.1.at eL)) (fun i x σ H6 H7 hlt h y => ?_) (fun σ H' h => ?_)
      · obtain ⟨g6, hno, z6, z9, rfl⟩ := h
        obtain ⟨rfl, e2⟩ := y
        rw [hll] at hlt
        have et : lots[i]? = some lots[i] := List.getElem?_eq_getElem hlt
        generalize lots[i] = lot at et
        have hx : Dp K H7 x (dLot lot) := dpAll_at2 (g6.dpAll hys) e2 (by rw [List.getElem?_map, et]; rfl)
        have hx1 := hx
        obtain ⟨ta, tx, rfl, hta, htx⟩ := dp_tup hx
        rw [dpAll_ns htx] at hta
        have hsub := (hmem lot).mp (List.mem_of_getElem? et)
        have hlot : lot.length ≤ 4 := Nat.le_trans hsub.length_le lfr
        have g17 := g16.trans g6
        have etk : lots.take (i + 1) = lots.take i ++ [lot] := by
          rw [List.take_add_one, et]
          rfl
        have next : ¬ Valid ties hs gs z lot → ∀ lot' ∈ lots.take (i + 1), ¬ Valid ties hs gs z lot' := fun hn lot' hl => by
          rw [etk] at hl
          rcases List.mem_append.mp hl with hl | hl
          · exact hno lot' hl
          · rw [List.mem_singleton] at hl
            rw [hl]
            exact hn
        have eU7 := g6.at eU5
        refine ⟨.ref D2, rfl, D2, rfl, ⟨_, SqL.of eU7⟩, fun D4 hD4 => ?_⟩
        refine lcD (T := T) (K := K) (dueAt hs gs z) (fun i => some (.bool (decide (i ∈ lot)))) (fun _ _ e => by cases e; rfl) walk_list (by rw [List.length_map]) hD4 (by omega) (fun H' g' => SqL.of (g'.at eU7)) (fun j i y H8 H9 Yes No ex g8 yy hy hn => ?_) (fun H8 ys4 g8 eD4 hys4 => ?_)
        · obtain ⟨rfl, e3⟩ := yy
          rw [List.getElem?_map, ex] at e3
          cases e3
          refine ⟨rfl, ?_⟩
          refine ⟨.int i, rfl, .ref ta, rfl, ta, _, rfl, .inr (g8.sqT hta), rfl, flat_ns lot, ?_⟩
          show Yes (.bl (inV (.int i) (vN lot))) H9
          rw [inV_ns]
          exact hy _ _ _ rfl Gr.refl (.bl _)
        · rw [filterMap_some'] at hys4
          have e : (dueAt hs gs z).map (fun i => PyData.bool (decide (i ∈ lot))) = ((dueAt hs gs z).map fun i => decide (i ∈ lot)).map PyData.bool := by
            rw [List.map_map]
            rfl
          rw [e] at hys4
          rw [dpAll_bool hys4] at eD4
          refine ⟨D4, _, rfl, SqL.of eD4, _, rfl, ?_⟩
          rw [List.all_map]
          refine ite2 (fun e1 => ?_) (fun e1 => ?_)
          · have hdue : ∀ x ∈ dueAt hs gs z, x ∈ lot := fun x hx => of_decide_eq_true (List.all_eq_true.mp e1 x hx)
            have g18 := g17.trans g8
            refine ⟨v, rfl, .ref ta, rfl, .ref D1, rfl, v, .ref ta, .ref D1, n, ties, lot, srcAt hs gs z, rfl, g18.dp hv, g8.dp hx1, .lst (SqL.of (g8.at (g6.at eS5))) (ns_dpAll _), htl, hlot, lsu, fun H10 g10 => ?_⟩
            refine ⟨_, rfl, ite2 (fun e2 => ?_) (fun e2 => ?_)⟩
            · have hj := bP_iff.mp e2
              have hval : Valid ties hs gs z lot := ⟨hsub, hdue, hj⟩
              refine ⟨.ref ta, rfl, q _ _ lot (g18.trans g10) (g10.dp (g8.dp hx1)) ?_⟩
              refine Nat.le_antisymm ?_ (hm.le lot hval)
              obtain ⟨lot', hv', hl'⟩ := hm.ex
              rw [← hl']
              obtain ⟨j, hj, ej⟩ := List.mem_iff_getElem.mp ((hmem lot').mpr hv'.sub)
              have hji : i ≤ j := by
                refine Nat.le_of_not_lt fun hlt' => ?_
                refine hno lot' ?_ hv'
                rw [← ej]
                exact List.mem_iff_getElem.mpr ⟨j, by rw [List.length_take]; omega, List.getElem_take⟩
              rcases Nat.lt_or_eq_of_le hji with hlt' | heq
              · have := List.pairwise_iff_getElem.mp hpw i j hlt hj hlt'
                rw [ej] at this
                have e3 := (List.getElem?_eq_some_iff.mp et).2
                rw [e3] at this
                exact this
              · subst heq
                have e3 := (List.getElem?_eq_some_iff.mp et).2
                rw [← ej, e3]
                exact Nat.le_refl _
            · refine ⟨(g6.trans g8).trans g10, next fun hv => e2 (bP_iff.mpr hv.joins), _, _, rfl⟩
          · refine iteF ?_
            refine ⟨g6.trans g8, next fun hv => e1 (List.all_eq_true.mpr fun x hx => decide_eq_true (hv.due x hx)), _, _, rfl⟩
      · obtain ⟨g6, hno, z6, z9, rfl⟩ := h
        obtain ⟨lot', hv', _⟩ := hm.ex
        refine absurd hv' (hno lot' ?_)
        rw [hll, List.take_length]
        exact (hmem lot').mpr hv'.sub
end
end So
namespace So
open PySem PySem.Spec PyProof.Rows L2 PySem.W LamX
open C8 (Cal pe_c pe_gc)
open RZ StX
section
variable {P : Program} {w : World} {K : PySem.W.Frag} {mg : Str → Option Value} {base : Heap} {T : List (Addr × Str)}
def rLn (K : PySem.W.Frag) : List V → Hp → VK → Prop := fun xs H Q => ∃ p ys, xs = [.ref p] ∧ (SqL K H p ys ∨ SqT K H p ys) ∧ Q (.int ys.length) H
def spFewest (K : PySem.W.Frag) (T : List (Addr × Str)) : Sp := fun vs H Q _ => ∃ (v u x : V) (n : Nat) (ties : List (Nat × Nat)) (hs gs : List Int) (m : Int → Nat), vs = [v, u, x] ∧ Dp K H v (dWeb n ties) ∧ Dp K H u (dInts hs) ∧ Dp K H x (dInts gs) ∧ ties.length ≤ 16 ∧ hs.length ≤ 4 ∧ gs.length = hs.length ∧ Tabs T H ∧ (∀ z ∈ gs, MinLot ties hs gs z (m z)) ∧
  ∀ H' (ks : List Int), Gr T H H' → ks.Pairwise (· < ·) → (∀ k, k ∈ ks ↔ k ∈ gs) → Q (.int ((ks.map m).sum : Nat)) H'
theorem sum_nat (l : List Int) (m : Int → Nat) : (l.map fun z => ((m z : Nat) : Int)).sum = (((l.map m).sum : Nat) : Int) := by
  induction l with
  | nil => rfl
  | cons a l ih =>
    rw [List.map_cons, List.map_cons, List.sum_cons, List.sum_cons, ih]
    omega
theorem ok_fewest_of {f : Addr} {fd : FuncData} (F : FnP K "fewest_of" s_fewest_of f fd) (N : Nm mg) (g : mg "fewest_of" = some (.ref f)) (CJ : Cal P w K mg base 4 "join_of" (spJoinOf K T) []) :
    Cal P w K mg base 5 "fewest_of" (spFewest K T) [] := by
  refine ⟨f, fd, _, [], F.ok sc_fewest_of (fun vs H Q E h => ?_) (fun cdv A outer s H vs Q E hr h => ?_), g, F.kp, b_fewest_of F, .nil⟩
  · obtain ⟨v, u, x, n, ties, hs, gs, m, rfl, _⟩ := h
    rfl
  · obtain ⟨v, u, x, n, ties, hs, gs, m, rfl, hv, hu, hx, htl, hhl, hgl, hT, hm, q⟩ := h
    have hx0 := hx
    obtain ⟨b, rfl, hb⟩ := dp_ints hx
    have nd := sc_fewest_of.nd
    refine ⟨_, PSs.nox (pss_one (ps_ret (pe_callB (cr_sum rfl) rfl N.sum_ (by decide +kernel) (pa_cons
      (pe_lc (own := [("height", 3)]) (g := gName 3) (tt := tYes) rfl nd (pi_list (pe_callB (cr_sortedSet rfl) rfl N.sorted_ (by decide +kernel) (pa_cons (pe_callTy (cr_setI rfl) rfl N.set_ (by decide +kernel) (pa_cons (pv 2) pa_nil)) pa_nil))) (blkOk_by (own := [("height", 3)]) (N := ["web", "heights", "goal", "height"]) (sc := defScope s_fewest_of) (by decide +kernel)) (fun _ _ _ _ _ => pg_name (i := 3) nd rfl (Or.inl rfl)) (fun _ _ _ _ _ => pts_nil)
        (te := tCB (rLn K) (tCons (tCall (spJoinOf K T) [] C8.E0 (tCons (tVar 0) (tCons (tVar 1) (tCons (tVar 2) (tCons (tVar 3) tNil))))) tNil))
        (fun _ _ _ _ _ => pe_callB (r := rLn K) call_len_seq rfl N.len_ PySem.boot_len (pa_cons (pe_c CJ hr (by decide) rfl (pa_cons (pv 0) (pa_cons (pv 1) (pa_cons (pv 2) (pa_cons (pv 3) pa_nil))))) pa_nil))) pa_nil)))), ?_⟩
    refine ⟨.ref b, rfl, b, gs, rfl, .inl hb, by omega, fun p c np hc => ?_⟩
    refine ⟨p, _, c, rfl, upd_same, by omega, fun ks l hks hmem _ nl => ?_⟩
    have g2 := (Gr.new (T := T) (o := SetO w p (fun j => decide (j ∈ gs)) c) np).trans (Gr.new (T := T) (o := HO.lst (ks.map V.int)) nl)
    have hmem' : ∀ k, k ∈ ks ↔ k ∈ gs := fun k => by
      rw [hmem k]
      exact decide_eq_true_iff
    have hkl : ks.length ≤ 4 := by
      have h1 : ks.Nodup := hks.imp fun h => by omega
      have h2 := List.Nodup.length_le_of_subset h1 (fun k hk => (hmem' k).mp hk)
      omega
    refine ⟨l, rfl, ⟨_, SqL.of upd_same⟩, fun D hD => ?_⟩
    refine lcD (T := T) (K := K) ks (fun z => some (dI (m z))) (fun _ _ e => by cases e; rfl) walk_list (by rw [List.length_map]) hD (by omega) (fun H' g' => SqL.of (g'.at upd_same)) (fun i z y H2 H3 Yes No ex g3 yy hy hn => ?_) (fun H' ys g' eD hys => ?_)
    · obtain ⟨rfl, e2⟩ := yy
      rw [List.getElem?_map, ex] at e2
      cases e2
      have gg := g2.trans g3
      refine ⟨rfl, ?_⟩
      refine ⟨v, rfl, u, rfl, .ref b, rfl, .int z, rfl, v, u, .ref b, n, ties, hs, gs, z, m z, rfl, gg.dp hv, gg.dp hu, gg.dp hx0, htl, hhl, hgl, gg.tab hT, hm z ((hmem' z).mp (List.mem_of_getElem? ex)), fun H4 v' lot g4 hv' hlot => ?_⟩
      obtain ⟨ta, tx, rfl, hta, htx⟩ := dp_tup hv'
      rw [dpAll_ns htx] at hta
      refine ⟨ta, _, rfl, .inr hta, ?_⟩
      rw [List.length_map, hlot]
      exact hy _ _ _ rfl g4 (.int _)
    · rw [filterMap_some'] at hys
      have e : ks.map (fun z => dI (m z)) = (ks.map fun z => ((m z : Nat) : Int)).map PyData.int := by
        rw [List.map_map]
        rfl
      rw [e] at hys
      rw [dpAll_int hys] at eD
      refine ⟨D, _, rfl, SqL.of eD, ?_⟩
      rw [sum_nat]
      exact q _ ks (g2.trans g') hks hmem'
end
end So
/-! sorted of tracked tuples of ints: the tuples stay tracked -/
namespace So
open PySem PySem.Spec PyProof.Rows L2 PySem.W
/-- a tracked tuple of these ints -/
def Tq (H : Hp) (x : V) (g : List Int) : Prop := ∃ q, x = .ref q ∧ H q = some (.tup (g.map V.int))
abbrev TqAll (H : Hp) (xs : List V) (gs : List (List Int)) : Prop := EachIs (Tq H) xs gs
def leL (a b : List Int) : Bool := decide (a ≤ b)
abbrev tD (g : List Int) : PyData := .tuple (g.map .int)
theorem dataLe_tup : dataLe false tD = leL := by
  funext p q
  show (!dataLt (.tuple (q.map .int)) (.tuple (p.map .int))) = _
  rw [dataLt_tuple]
  show (!rowLt (q.map .int) (p.map .int)) = _
  rw [dataLt_ints]
  unfold leL
  by_cases h : q < p
  · have h' : ¬ p ≤ q := fun r => List.not_lt.mpr r h
    simp [h, h']
  · have h' : p ≤ q := List.not_lt.mp h
    simp [h, h']
theorem alikeAll_int : ∀ (a b : List Int), alikeAll (a.map .int) (b.map .int) = true
  | [], [] => by simp [alikeAll]
  | [], _ :: _ => by simp [alikeAll]
  | _ :: _, [] => by simp [alikeAll]
  | x :: a, y :: b => by
    have := alikeAll_int a b
    simp only [List.map_cons, alikeAll, alike, Bool.true_and]
    exact this
theorem tD_alike (gs : List (List Int)) : AllAlike (gs.map tD) := fun d hd d' hd' => by
  obtain ⟨a, _, rfl⟩ := List.mem_map.mp hd
  obtain ⟨b, _, rfl⟩ := List.mem_map.mp hd'
  simp only [alike]
  exact alikeAll_int a b
theorem tD_sortable {gs : List (List Int)} (h : ∀ g ∈ gs, g ≠ []) : Sortable (gs.map tD) := .inl fun d hd => by
  obtain ⟨a, ha, rfl⟩ := List.mem_map.mp hd
  cases e : a with
  | nil => exact absurd e (h a ha)
  | cons x r => exact ⟨_, _, rfl⟩
theorem tD_depth (g : List Int) : (tD g).depth = 1 := by
  have h : ∀ l : List Int, PyData.depthAll (l.map .int) = 0 := by
    intro l
    induction l with
    | nil => simp [PyData.depthAll]
    | cons a r ih => simp [PyData.depthAll, PyData.depth, ih]
  rw [PyData.depth, h]
section
variable {X : Cx} {pins : List (Addr × Obj)} {σ : L2.St} {H : Hp} {s : Shared} {K : PySem.W.Frag}
/-- a value that is such a tuple -/
def Stq (H : Hp) (v : Value) (g : List Int) : Prop := ∃ x : V, RelV x v ∧ Tq H x g
theorem each_stq : ∀ {xs : List V} {gs : List (List Int)} {us : List Value}, TqAll H xs gs → Vals xs us → EachIs (Stq H) us gs
  | _, _, _, .nil, .nil => .nil
  | _, _, _, .cons h1 h2, .cons r1 r2 => .cons ⟨_, r1, h1⟩ (each_stq h2 r2)
theorem stq_each : ∀ {gs : List (List Int)} {us : List Value}, EachIs (Stq H) us gs → ∃ xs : List V, Vals xs us ∧ TqAll H xs gs
  | _, _, .nil => ⟨[], .nil, .nil⟩
  | _, _, .cons ⟨x, r, h⟩ t => by
    obtain ⟨xs, r2, h2⟩ := stq_each t
    exact ⟨x :: xs, .cons r r2, .cons h h2⟩
theorem stq_reads (I : Inv X pins σ H s) {us : List Value} {gs : List (List Int)} (e : EachIs (Stq H) us gs) : EachIs (fun v g => ∃ as, Reads s.heap v (tD g) as) us gs :=
  e.mono fun v g ⟨x, r, q, hx, hq⟩ => by
    subst hx
    exact Dp.reads I (tD g) (.ref q) v (.tup (SqT.of hq) (int_dpAll (K := X.K) g)) r
/-- sorted(xs), xs a list of tracked tuples of ints -/
def rSortTT (K : PySem.W.Frag) : List V → Hp → VK → Prop := fun vs H Q => ∃ (a : Addr) (xs : List V) (gs : List (List Int)), vs = [V.ref a] ∧ SqL K H a xs ∧ TqAll H xs gs ∧ (∀ g ∈ gs, g ≠ []) ∧
  ∀ (ys : List V) (p : Addr), TqAll H ys (gs.mergeSort leL) → H p = none → Q (.ref p) (upd H p (.lst ys))
theorem cr_sortTT (hu : X.A.units + 64 < cLine) : CallR X (.builtin "sorted") (rSortTT X.K) := by
  intro pins s σ H vs us Q I r h
  obtain ⟨a, xs, gs, rfl, hs, hd, hne, q⟩ := h
  obtain rfl := Vals.ref1 r
  obtain ⟨its, rv, hl, hz⟩ := I.list hs
  have e := each_stq hd rv
  have hlen : gs.length = xs.length := hd.length.symm
  refine sorted_data (enc := tD) (bs := gs) hl.isList e (stq_reads I e) (tD_alike gs) (tD_sortable hne) (by rw [hlen]; exact hz) (fun d hm => by rw [tD_depth]; omega) fun out ho eo => ?_
  rw [dataLe_tup] at eo
  obtain ⟨ys, r2, h2⟩ := stq_each eo
  obtain ⟨ep, he'⟩ := PyProof.Rows.sortedAll_at s.heap its out.toArray
  have hl2 : ys.length ≤ sizeLine := by
    rw [r2.length, ho, hlen]
    exact hz
  exact ⟨.ref _, upd H (s.heap.objs.size + 1) (.lst ys), I.laid (t' := s.toks) (fun _ _ => PyProof.Rows.sortedAll_old) (Nat.le_succ _) ⟨hl2, out, ep, r2, he'⟩, rfl, q ys _ h2 (I.hok.fresh (Nat.le_succ _))⟩
theorem sortT_tail {acc : List Value} {gs : List (List Int)} {h' : Heap} {tk : Nat} {H1 : Hp} {Q : VK} {A : Around} {E : Value → Shared → Prop} (hu : A.units + 64 < cLine) (I1 : Inv X pins σ H1 { s with heap := h', toks := tk }) (e : EachIs (Stq H1) acc gs) (hne : ∀ g ∈ gs, g ≠ []) (hz : gs.length ≤ sizeLine)
    (q : ∀ (ys : List V) (p : Addr), TqAll H1 ys (gs.mergeSort leL) → H1 p = none → Q (.ref p) (upd H1 p (.lst ys))) :
    wpAny (model X.prog X.w) A (do let l ← newList acc; let _ ← holding [l] (call (.builtin "list.sort") [l]); PySem.ret l) (fun (f : PySem.Fin) s' => ∃ v, f = PySem.Fin.done (.ret v) ∧ EP X pins σ Q v s') E { s with heap := h', toks := tk } := by
  have hal' : acc.length = gs.length := e.length
  refine wpAny_bind (wpAny_newList ?_ (by rw [hal']; exact hz))
  have hoL : (h'.push (seqObj "list" acc.toArray 0)).get? h'.objs.size = some (seqObj "list" acc.toArray 0) := Heap.get?_push_size _ rfl
  show wpAny _ _ _ _ _ { s with heap := h'.push (seqObj "list" acc.toArray 0), toks := tk }
  have er : EachIs (fun v g => ∃ as, Reads (h'.push (seqObj "list" acc.toArray 0)) v (tD g) as ∧ h'.objs.size ∉ as) acc gs := by
    refine (stq_reads I1 e).mono fun v g ⟨as, r⟩ => ⟨as, PyProof.Rows.Reads.keeps (fun b o z => Heap.get?_push_of_some _ z) r, fun hmem => ?_⟩
    exact Nat.lt_irrefl _ (rd_lt _ _ _ (by simp only [alike]; exact alikeAll_int g g) r _ hmem)
  refine wpAny_bind (wpAny_holding (list_sort_data (enc := tD) (bs := gs) (s := { s with heap := h'.push (seqObj "list" acc.toArray 0), toks := tk }) hoL e er (tD_alike gs) (tD_sortable hne) (by exact hz) (fun d hm => by rw [tD_depth]; omega) fun out ho eo => ?_))
  rw [dataLe_tup] at eo
  obtain ⟨ys, r2, h2⟩ := stq_each eo
  obtain ⟨e', he'⟩ := PyProof.Rows.sortedHeap_at (vs := acc) (out := out.toArray) hoL
  have hl2 : ys.length ≤ sizeLine := by
    rw [r2.length, ho]
    exact hz
  refine wpAny_pure ⟨_, rfl, .ref h'.objs.size, upd H1 h'.objs.size (.lst ys), I1.laid (t' := tk) (fun b u e => ?_) (Nat.le_refl _)
    (show ObjOk X.prog X.w _ _ _ (.lst ys) from ⟨hl2, out, e', r2, he'⟩), rfl, q ys _ h2 (I1.hok.fresh (Nat.le_refl _))⟩
  have hb : b < h'.objs.size := Heap.lt_size e
  show (sortedHeap _ _ _ _).get? b = some u
  rw [PyProof.Rows.sortedHeap_old (Nat.ne_of_lt hb) (by rw [size_push']; exact Nat.lt_succ_of_lt hb)]
  exact Heap.get?_push_of_some _ e
/-- the key of an outcome -/
abbrev kk (g : List Int) : List L2.Key := g.map Sum.inl
theorem kk_kV (g : List Int) : (kk g).map kV = g.map V.int := by
  rw [List.map_map]
  rfl
theorem kk_inj {a b : List Int} (h : kk a = kk b) : a = b := by
  have : ∀ (a b : List Int), kk a = kk b → a = b := by
    intro a
    induction a with
    | nil => intro b h; cases b with | nil => rfl | cons => cases h
    | cons x a ih =>
      intro b h
      cases b with
      | nil => cases h
      | cons y b =>
        have h2 := List.cons.inj h
        rw [Sum.inl.inj h2.1, ih b h2.2]
  exact this a b h
/-- sorted(d), d a dict whose keys are tuples of ints -/
def rSortDT (K : PySem.W.Frag) : List V → Hp → VK → Prop := fun vs H Q => ∃ (a : Addr) (gs : List (List Int)) (f : List Int → V), vs = [V.ref a] ∧ Rd H a (.dT (gs.map fun g => (kk g, f g))) ∧ (∀ g ∈ gs, g ≠ []) ∧
  ∀ (ys : List V) (p : Addr), TqAll H ys (gs.mergeSort leL) → H p = none → Q (.ref p) (upd H p (.lst ys))
theorem cr_sortDT (hc : X.calm = true) (hu : X.A.units + 65 < cLine) : CallR X (.builtin "sorted") (rSortDT X.K) := by
  intro pins s σ H vs us Q I r h
  obtain ⟨a, gs, f, rfl, hd, hne, q⟩ := h
  obtain rfl := Vals.ref1 r
  obtain ⟨lo, hz, o, es, ep, ho, hx, hdt, hsz, ent⟩ := dtE I hd
  rw [List.length_map] at hsz hz
  refine Calls.call_function_entry PyProof.Rows.kind_sorted PyProof.Rows.plain_sorted PyProof.Rows.entry_sorted (PyProof.Rows.args_sorted1 _) ?_
  unfold Builtin.«sorted»
  refine wpAny_bind (m := checkCount "sorted" 1 1 _) (wpAny_pure ?_)
  refine wpAny_bind (PySem.W.kdu_collect (A := X.A.in1) (PySem.KdlSrc.rawDict (es := es) (ep := ep) lo) (I.ok.hd hc) ⟨o, ho, hx, hdt⟩ (by rw [hsz]; exact hz) fun h' tk acc hk hacc => ?_)
  have I1 : Inv X pins σ H { s with heap := h', toks := tk } := I.kept hk
  have e : EachIs (Stq H) acc.toList gs := by
    refine each_ix (by rw [Array.length_toList, hacc.1, hsz]) fun i v g e1 e2 => ?_
    obtain ⟨hi, ev⟩ := hacc.2 i v (by rw [← Array.getElem?_toList]; exact e1)
    obtain ⟨q, hq1, hq2, _⟩ := ent i hi (kk g) (f g) (by rw [List.getElem?_map, e2]; rfl)
    rw [kk_kV] at hq2
    rw [ev, hq1]
    exact ⟨.ref q, rfl, q, rfl, hq2⟩
  exact sortT_tail (A := X.A.in1) (hu := by show X.A.units + 1 + 64 < cLine; omega) I1 e hne hz q
end
end So
/-! plain: rows of stoops, how many outcomes there are -/
namespace So
/-- g is reached from h by k stoops -/
inductive Rch (n : Nat) (ties : List (Nat × Nat)) (h : List Int) : Nat → List Int → Prop where
  | zero : Rch n ties h 0 h
  | succ {k : Nat} {g : List Int} {p : Nat × Nat} : Rch n ties h k g → p ∈ nexts n ties g → Rch n ties h (k + 1) (stoop g p.1 p.2)
def Out (n : Nat) (ties : List (Nat × Nat)) (h g : List Int) : Prop := ∃ k, Rch n ties h k g
/-- all lists of length k over these -/
def tuplesOf (vals : List Int) : Nat → List (List Int)
  | 0 => [[]]
  | k + 1 => vals.flatMap fun v => (tuplesOf vals k).map (v :: ·)
theorem tuplesOf_len (vals : List Int) : ∀ k, (tuplesOf vals k).length = vals.length ^ k
  | 0 => rfl
  | k + 1 => by
    have h : ∀ l : List Int, (l.flatMap fun v => (tuplesOf vals k).map (v :: ·)).length = l.length * vals.length ^ k := by
      intro l
      induction l with
      | nil => simp
      | cons a l ih =>
        rw [List.flatMap_cons, List.length_append, ih, List.length_map, tuplesOf_len vals k, List.length_cons, Nat.succ_mul]
        omega
    show (vals.flatMap _).length = _
    rw [h, Nat.pow_succ, Nat.mul_comm]
theorem tuplesOf_mem (vals : List Int) : ∀ (k : Nat) (l : List Int), l.length = k → (∀ x ∈ l, x ∈ vals) → l ∈ tuplesOf vals k
  | 0, l, h, _ => by
    rw [List.length_eq_zero_iff.mp h]
    exact List.mem_cons_self ..
  | k + 1, [], h, _ => by cases h
  | k + 1, x :: l, h, hx => by
    show _ ∈ vals.flatMap _
    rw [List.mem_flatMap]
    exact ⟨x, hx x (List.mem_cons_self ..), List.mem_map.mpr ⟨l, tuplesOf_mem vals k l (Nat.succ.inj h) (fun y hy => hx y (List.mem_cons_of_mem _ hy)), rfl⟩⟩
theorem stoop_len (g : List Int) (p o : Nat) : (stoop g p o).length = g.length := by
  unfold stoop
  rw [List.length_set]
theorem nexts_mem {n : Nat} {ties : List (Nat × Nat)} {g : List Int} {p : Nat × Nat} : p ∈ nexts n ties g ↔ p.1 < n ∧ p.2 ∈ tiedTo ties p.1 ∧ g.getD p.2 0 < g.getD p.1 0 := by
  obtain ⟨a, b⟩ := p
  unfold nexts nextsAt
  rw [List.mem_flatMap]
  constructor
  · rintro ⟨x, hx, hm⟩
    obtain ⟨y, hy, e⟩ := List.mem_map.mp hm
    cases e
    obtain ⟨h1, h2⟩ := List.mem_filter.mp hy
    exact ⟨List.mem_range.mp hx, h1, of_decide_eq_true h2⟩
  · rintro ⟨h1, h2, h3⟩
    exact ⟨a, List.mem_range.mpr h1, List.mem_map.mpr ⟨b, List.mem_filter.mpr ⟨h2, decide_eq_true h3⟩, rfl⟩⟩
theorem nexts_lt {n : Nat} {ties : List (Nat × Nat)} (wb : Wb n ties) {g : List Int} {p : Nat × Nat} (h : p ∈ nexts n ties g) : p.1 < n ∧ p.2 < n ∧ p.2 ≠ p.1 := by
  obtain ⟨h1, h2, _⟩ := nexts_mem.mp h
  have := tiedTo_lt wb h2
  exact ⟨h1, this.1, this.2.2⟩
theorem Rch.len {n : Nat} {ties : List (Nat × Nat)} {h : List Int} {k : Nat} {g : List Int} (r : Rch n ties h k g) : g.length = h.length := by
  induction r with
  | zero => rfl
  | succ _ _ ih => rw [stoop_len, ih]
theorem getD_mem {g : List Int} {i : Nat} (h : i < g.length) : g.getD i 0 ∈ g := by
  have e : g[i]? = some g[i] := List.getElem?_eq_getElem h
  rw [getD_at e]
  exact List.getElem_mem h
theorem Rch.vals {n : Nat} {ties : List (Nat × Nat)} (wb : Wb n ties) {h : List Int} (hl : h.length = n) {k : Nat} {g : List Int} (r : Rch n ties h k g) : ∀ x ∈ g, x ∈ h := by
  induction r with
  | zero => exact fun x hx => hx
  | @succ k g p r hp ih =>
    intro x hx
    unfold stoop at hx
    rcases List.mem_or_eq_of_mem_set hx with hx | hx
    · exact ih x hx
    · have := nexts_lt wb hp
      rw [hx]
      exact ih _ (getD_mem (by rw [r.len, hl]; exact this.2.1))
/-- not more than 256 outcomes -/
theorem out_few {n : Nat} {ties : List (Nat × Nat)} (wb : Wb n ties) {h : List Int} (hl : h.length = n) {l : List (List Int)} (nd : l.Nodup) (ho : ∀ g ∈ l, Out n ties h g) : l.length ≤ 256 := by
  have h1 := List.Nodup.length_le_of_subset (l₂ := tuplesOf h n) nd (fun g hg => by
    obtain ⟨k, r⟩ := ho g hg
    exact tuplesOf_mem h n g (by rw [r.len, hl]) (r.vals wb hl))
  rw [tuplesOf_len, hl] at h1
  have h2 : n ^ n ≤ 256 := by
    have := wb.le
    have := wb.pos
    rcases (by omega : n = 1 ∨ n = 2 ∨ n = 3 ∨ n = 4) with h | h | h | h <;> subst h <;> decide
  omega
/-- sorted, no two alike, the same members: the same list -/
theorem leL_total (a b : List Int) : (leL a b || leL b a) = true := by
  unfold leL
  rcases List.le_total a b with h | h <;> simp [h]
theorem leL_trans (a b c : List Int) (h1 : leL a b = true) (h2 : leL b c = true) : leL a c = true := by
  unfold leL at *
  simp only [decide_eq_true_eq] at *
  exact List.le_trans h1 h2
theorem sortL_pw (l : List (List Int)) : (l.mergeSort leL).Pairwise (· ≤ ·) :=
  (List.pairwise_mergeSort leL_trans leL_total l).imp fun h => of_decide_eq_true h
theorem sorted_eq {a b : List (List Int)} (ha : a.Pairwise (· ≤ ·)) (hb : b.Pairwise (· ≤ ·)) (na : a.Nodup) (nb : b.Nodup) (h : ∀ g, g ∈ a ↔ g ∈ b) : a = b :=
  List.Perm.eq_of_pairwise (fun x y _ _ h1 h2 => List.le_antisymm h1 h2) ha hb ((List.perm_ext_iff_of_nodup na nb).mpr h)
/-- what stands in the walk over all outcomes -/
structure AInv (n : Nat) (ties : List (Nat × Nat)) (h : List Int) (found edge : List (List Int)) : Prop where
  nd : found.Nodup
  out : ∀ g ∈ found, Out n ties h g
  inh : h ∈ found
  edge : ∀ g ∈ edge, g ∈ found
theorem AInv.grow {n : Nat} {ties : List (Nat × Nat)} {h x : List Int} {found edge : List (List Int)} (a : AInv n ties h found edge) (hx : Out n ties h x) (hn : x ∉ found) : AInv n ties h (found ++ [x]) (edge ++ [x]) where
  nd := by
    rw [List.nodup_append]
    refine ⟨a.nd, by simp, fun u hu b hb e => ?_⟩
    rw [List.mem_singleton] at hb
    subst e hb
    exact hn hu
  out := fun y hy => by
    rcases List.mem_append.mp hy with hy | hy
    · exact a.out y hy
    · rw [List.mem_singleton] at hy
      exact hy ▸ hx
  inh := List.mem_append_left _ a.inh
  edge := fun y hy => by
    rcases List.mem_append.mp hy with hy | hy
    · exact List.mem_append_left _ (a.edge y hy)
    · exact List.mem_append_right _ hy
def ShutA (n : Nat) (ties : List (Nat × Nat)) (found edge : List (List Int)) : Prop := ∀ g ∈ found, g ∉ edge → ∀ p ∈ nexts n ties g, stoop g p.1 p.2 ∈ found
theorem AInv.all {n : Nat} {ties : List (Nat × Nat)} {h : List Int} {found : List (List Int)} (a : AInv n ties h found []) (s : ShutA n ties found []) (g : List Int) : g ∈ found ↔ Out n ties h g := by
  have go : ∀ {k g}, Rch n ties h k g → g ∈ found := fun {k g} hk => by
    induction hk with
    | zero => exact a.inh
    | succ _ h1 ih => exact s _ ih (by simp) _ h1
  exact ⟨a.out g, fun ⟨k, hk⟩ => go hk⟩
end So
namespace So
open PySem PySem.Spec PyProof.Rows L2 PySem.W LamX
open C8 (Cal pe_c pe_gc)
open RZ StX
/-! ### lists of tracked tuples, dicts of outcomes -/
section
variable {H H' : Hp} {T : List (Addr × Str)} {K : PySem.W.Frag}
theorem tq_mono {xs : List V} {gs : List (List Int)} (k : ∀ q t, H q = some (.tup t) → H' q = some (.tup t)) (h : TqAll H xs gs) : TqAll H' xs gs := h.mono fun x g ⟨q, e, hq⟩ => ⟨q, e, k q _ hq⟩
theorem Gr.tq {xs : List V} {gs : List (List Int)} (g : Gr T H H') (h : TqAll H xs gs) : TqAll H' xs gs := tq_mono (fun _ _ e => g.at e) h
theorem tup_put {a q : Addr} {o o' : HO} {t : List V} (h : H a = some o) (k : noTup o = true) (e : H q = some (.tup t)) : (upd H a o') q = some (.tup t) := by
  rw [upd_ne (fun z => by rw [z, h] at e; cases e; cases k)]
  exact e
theorem tq_put {a : Addr} {o o' : HO} {xs : List V} {gs : List (List Int)} (h : H a = some o) (q : TqAll H xs gs) (k : noTup o = true := by rfl) : TqAll (upd H a o') xs gs := tq_mono (fun _ _ e => tup_put h k e) q
theorem tq_dp {xs : List V} {gs : List (List Int)} (h : TqAll H xs gs) : DpAll K H xs (gs.map tD) := by
  induction h with
  | nil => exact .nil
  | cons h _ ih =>
    obtain ⟨q, rfl, hq⟩ := h
    exact .cons (.tup (SqT.of hq) (int_dpAll _)) ih
theorem each_at {α β : Type} {R : α → β → Prop} : ∀ {as : List α} {bs : List β}, EachIs R as bs → ∀ {i : Nat} {a : α}, as[i]? = some a → ∃ b, bs[i]? = some b ∧ R a b
  | _, _, .nil, _, _, h => by simp at h
  | _, _, .cons h1 h2, 0, a, h => by
    cases Option.some.inj h
    exact ⟨_, rfl, h1⟩
  | _, _, .cons h1 h2, i + 1, a, h => each_at h2 (i := i) h
theorem each_snoc_inv {α β : Type} {R : α → β → Prop} : ∀ {bs : List β} {as : List α} {b : β}, EachIs R as (bs ++ [b]) → ∃ as' a, as = as' ++ [a] ∧ EachIs R as' bs ∧ R a b
  | [], _, _, .cons h .nil => ⟨[], _, rfl, .nil, h⟩
  | c :: bs, _, b, .cons h1 h2 => by
    obtain ⟨as', a, rfl, h3, h4⟩ := each_snoc_inv (bs := bs) h2
    exact ⟨_ :: as', a, rfl, .cons h1 h3, h4⟩
theorem shaped_rows (gs : List (List Int)) : SeqAt.shaped (.list (gs.map tD)) = true := by
  refine shaped_of ?_ ?_
  · rw [PyData.canLay0]
    induction gs with
    | nil => simp [PyData.canLayAll0]
    | cons g gs ih => simp [PyData.canLayAll0, PyData.canLay0, canLayAll_int, ih]
  · rw [PyData.depth]
    have : PyData.depthAll (gs.map tD) ≤ 1 := by
      induction gs with
      | nil => simp [PyData.depthAll]
      | cons g gs ih =>
        rw [List.map_cons, PyData.depthAll, tD_depth]
        omega
    omega
/-- the dict of these outcomes -/
abbrev dOut (gs : List (List Int)) (f : List Int → V) : List (List L2.Key × V) := gs.map fun g => (kk g, f g)
theorem valV_out (f : List Int → V) (g : List Int) : ∀ gs : List (List Int), valV (dOut gs f) (kk g) = if g ∈ gs then some (f g) else none
  | [] => by simp [valV]
  | x :: gs => by
    show valV ((kk x, f x) :: dOut gs f) (kk g) = _
    by_cases h : x = g
    · subst h
      rw [valV_pos rfl, if_pos (List.mem_cons_self ..)]
    · rw [valV_neg (fun z => h (kk_inj z)), valV_out f g gs]
      by_cases h2 : g ∈ gs
      · rw [if_pos h2, if_pos (List.mem_cons_of_mem _ h2)]
      · rw [if_neg h2, if_neg (fun z => by
          rcases List.mem_cons.mp z with z | z
          · exact h z.symm
          · exact h2 z)]
theorem putK_out {f : List Int → V} {g : List Int} {gs : List (List Int)} (h : g ∉ gs) : putK (dOut gs f) (kk g) (f g) = dOut (gs ++ [g]) f := by
  unfold putK
  rw [if_neg]
  · exact (List.map_append (l₁ := gs) (l₂ := [g])).symm
  · rw [valV_any, valV_out, if_neg h]
    exact Bool.false_ne_true
theorem ru1 {k : Nat} {A : Around} (r : Room k A) : A.units + 1 < cLine := by have := r.un; omega
theorem ru65 {k : Nat} {A : Around} (r : Room k A) : A.units + 65 < cLine := by have := r.un; omega
end
section
variable {P : Program} {w : World} {K : PySem.W.Frag} {mg : Str → Option Value} {base : Heap} {T : List (Addr × Str)}
def spAllOf (K : PySem.W.Frag) (T : List (Addr × Str)) : Sp := fun vs H Q _ => ∃ (v : V) (a : Addr) (n : Nat) (ties : List (Nat × Nat)) (hs : List Int), vs = [v, .ref a] ∧ Dp K H v (dWeb n ties) ∧ H a = some (.tup (hs.map V.int)) ∧ Wb n ties ∧ hs.length = n ∧
  ∀ H' l ys os, Gr T H H' → Nw H l → H' l = some (.lst ys) → TqAll H' ys os → os.Pairwise (· ≤ ·) → os.Nodup → (∀ g, g ∈ os ↔ Out n ties hs g) → Q (.ref l) H'
theorem ok_all_of {f : Addr} {fd : FuncData} (F : FnP K "all_of" s_all_of f fd) (N : Nm mg) (g : mg "all_of" = some (.ref f)) (mo : ∃ u, mg "MOST_OUTCOMES" = some u ∧ RelV (.int 5000) u) (CN : Cal P w K mg base 2 "next_of" (spNextOf K T) []) (CA : Cal P w K mg base 1 "after" (spAfter K T) []) :
    Cal P w K mg base 3 "all_of" (spAllOf K T) [] := by
  refine ⟨f, fd, _, [], F.ok sc_all_of (fun vs H Q E h => ?_) (fun cdv A outer s H vs Q E hr h => ?_), g, F.kp, b_all_of F, .nil⟩
  · obtain ⟨v, a, n, ties, hs, rfl, _⟩ := h
    rfl
  · obtain ⟨v, a, n, ties, hs, rfl, hv, ha, wb, hl, q⟩ := h
    have nd := sc_all_of.nd
    refine ⟨_, PSs.nox (pss_cons (ps_par (i := 2) (j := 3) (by rfl) nd rfl rfl (by decide) rfl rfl (pa_cons (pe_disp1 hr.units (pv 1) pe_bl) (pa_cons (pe_lst (pa_cons (pv 1) pa_nil)) pa_nil)) (by rfl))
      (pss_cons (ps_while PassesOwn.never (pt_cmpR (op_neD hr.units) (pv 3) (pe_lst pa_nil) (nomark _))
        (pss_cons (ps_set (i := 4) nd rfl (.inl rfl) (pe_bm0 PySem.F.plainAttrs_list PySem.F.slot_list_pop PySem.F.type_list_pop mt_pop (pv 3)))
        (pss_cons (ps_for PassesOwn.never rfl (pi_tup (pe_c CN hr (by decide) rfl (pa_cons (pv 0) (pa_cons (pv 4) pa_nil)))) (pg_tup (by rfl) (pgs_cons (pg_name (i := 5) nd rfl (.inl rfl)) (pgs_cons (pg_name (i := 6) nd rfl (.inl rfl)) pgs_nil)))
          (pss_cons (ps_set (i := 7) nd rfl (.inl rfl) (pe_c CA hr (by decide) rfl (pa_cons (pv 4) (pa_cons (pv 5) (pa_cons (pv 6) pa_nil)))))
          (pss_one (ps_if (pt_cmp (pc_dnotin (ru1 hr) (pv 7) (pv 2)))
            (pss_cons (ps_dput (ru1 hr) (pv 2) (pv 7) pe_bl rfl)
            (pss_one (ps_expr (pe_bm PySem.F.plainAttrs_list PySem.F.slot_list_append PySem.F.type_list_append mt_append (pv 3) (pa_cons (pv 7) pa_nil))))) pss_nil))))
        (pss_one (ps_if (pt_cmpR op_gt (pe_callB call_len_dT rfl N.len_ PySem.boot_len (pa_cons (pv 2) pa_nil)) (pe_gc rfl mo) (nomark _)) pss_never pss_nil)))))
      (pss_one (ps_ret (pe_callB (cr_sortDT rfl (ru65 hr)) rfl N.sorted_ (by decide +kernel) (pa_cons (pv 2) pa_nil)))))), ?_⟩
    have fN : Out n ties hs hs := ⟨0, .zero⟩
    -- known, edge
    refine fun dk nk => ⟨_, rfl, upd_same, a, kk hs, rfl, ?_, _, rfl, by show 1 ≤ sizeLine; decide, fun le ne => ⟨_, _, rfl, ?_⟩⟩
    · rw [upd_ne (ne_of_none ha nk), kk_kV]
      exact ha
    have nK : Nw H dk := Nw.of nk
    have g0 : Gr T H (upd (upd H dk (.dT [])) dk (.dT [(kk hs, .bl true)])) := (Gr.new nk).put nK upd_same
    have g1 : Gr T H (upd (upd (upd H dk (.dT [])) dk (.dT [(kk hs, .bl true)])) le (.lst [.ref a])) := g0.new2 ne
    have nE : Nw H le := Nw.back g0 (Nw.of ne)
    have hkl : dk ≠ le := ne_of_none upd_same ne
    refine ⟨fun m σ H' => ∃ found edge es z4 z5 z6 z7, m = 2 * (256 - found.length) + edge.length ∧ m ≤ 600 ∧ σ = [some v, some (.ref a), some (.ref dk), some (.ref le), z4, z5, z6, z7] ∧ Gr T H H' ∧ H' dk = some (.dT (dOut found fun _ => .bl true)) ∧ H' le = some (.lst es) ∧ TqAll H' es edge ∧ AInv n ties hs found edge ∧ ShutA n ties found edge,
      ⟨_, [hs], [hs], [.ref a], none, none, none, none, rfl, by show 2 * (256 - 1) + 1 ≤ 600; omega, rfl, g1, (upd_ne hkl).trans upd_same, upd_same, .cons ⟨a, rfl, g1.at ha⟩ .nil, ⟨by simp, fun x hx => by rw [List.mem_singleton.mp hx]; exact fN, by simp, fun x hx => hx⟩, fun x hx hn => absurd hx hn⟩, ?_⟩
    rintro m σ H1 ⟨found, edge, es, z4, z5, z6, z7, rfl, hm, rfl, g2, ed, ee, hes, hi, hs2⟩
    have fl : ∀ {f e : List (List Int)}, AInv n ties hs f e → f.length ≤ 256 := fun h => out_few wb hl h.nd h.out
    refine ⟨.ref le, rfl, by show 0 ≤ sizeLine; decide, fun t nt => ?_⟩
    have gt := Gr.new (T := T) (o := HO.lst []) nt
    have ee1 := gt.at ee
    have ed1 := gt.at ed
    have hes1 := gt.tq hes
    refine ⟨.list (edge.map tD), .list [], .lst (SqL.of ee1) (tq_dp hes1), .lst (SqL.of upd_same) .nil, shaped_rows edge, shaped_nil, _, rfl, ?_⟩
    rw [eqv_nil]
    by_cases hed : edge = []
    · subst hed
      refine iteF ?_
      have hne : ∀ g ∈ found, g ≠ [] := fun g hg e => by
        obtain ⟨k, r⟩ := hi.out g hg
        have := r.len
        rw [e, hl] at this
        have := wb.pos
        simp at *
        omega
      refine ⟨.ref dk, rfl, dk, found, fun _ => .bl true, rfl, .inl ed1, hne, fun ys p hys np => ?_⟩
      refine q _ p ys (found.mergeSort leL) ((g2.trans gt).new2 np) (Nw.back (g2.trans gt) (Nw.of np)) upd_same ((Gr.new (T := T) np).tq hys) (sortL_pw found) ?_ (fun g => ?_)
      · exact (List.mergeSort_perm found leL).nodup_iff.mpr hi.nd
      · rw [(List.mergeSort_perm found leL).mem_iff]
        exact hi.all hs2 g
    · have hemp : (edge.map tD).isEmpty = false := by
        cases edge with
        | nil => exact absurd rfl hed
        | cons a b => rfl
      rw [hemp]
      refine iteT ?_
      refine ⟨fun σ' H' => ∃ found' edge' es' z4 z5 z6 z7, 2 * (256 - found'.length) + edge'.length < 2 * (256 - found.length) + edge.length ∧ σ' = [some v, some (.ref a), some (.ref dk), some (.ref le), z4, z5, z6, z7] ∧ Gr T H H' ∧ H' dk = some (.dT (dOut found' fun _ => .bl true)) ∧ H' le = some (.lst es') ∧ TqAll H' es' edge' ∧ AInv n ties hs found' edge' ∧ ShutA n ties found' edge',
        fun σ' H' ⟨f', e', es', y4, y5, y6, y7, hm', h2, h3, h4, h5, h6, h7, h8⟩ => ⟨_, hm', f', e', es', y4, y5, y6, y7, rfl, by omega, h2, h3, h4, h5, h6, h7, h8⟩, ?_⟩
      have edg : edge.dropLast ++ [edge.getLast hed] = edge := List.dropLast_concat_getLast hed
      generalize edge.getLast hed = now at edg
      generalize edge.dropLast = rest at edg
      subst edg
      obtain ⟨es', x, rfl, hes', hx⟩ := each_snoc_inv hes1
      have epop : (es' ++ [x])[(es' ++ [x]).length - 1]? = some x := by simp
      have edrop : (es' ++ [x]).dropLast = es' := by simp
      have hnow : now ∈ found := hi.edge now (by simp)
      obtain ⟨qa, rfl, hqa⟩ := hx
      refine ⟨.ref le, rfl, .inl ⟨rfl, _, SqL.of ee1⟩, le, _, _, rfl, rfl, ee1, epop, ?_⟩
      rw [edrop]
      have g3 : Gr T H (upd (upd H1 t (.lst [])) le (.lst es')) := (g2.trans gt).put nE ee1
      have hqa2 : (upd (upd H1 t (.lst [])) le (.lst es')) qa = some (.tup (now.map V.int)) := tup_put ee1 rfl hqa
      have hnl : now.length = n := by
        obtain ⟨k, r⟩ := hi.out now hnow
        rw [r.len, hl]
      have ed2 : (upd (upd H1 t (.lst [])) le (.lst es')) dk = _ := (upd_ne hkl).trans ed1
      refine ⟨v, rfl, .ref qa, rfl, v, .ref qa, n, ties, now, rfl, g3.dp hv, .tup (SqT.of hqa2) (int_dpAll _), wb, hnl, fun H3 v' g4 hv' => ?_⟩
      obtain ⟨pa, pxs, rfl, hpa, hpx⟩ := dp_tup hv'
      have hqa3 := g4.at hqa2
      refine ⟨pa, rfl, ⟨_, hpa⟩, ?_⟩
      have hplen := DpAll.len hpx
      rw [List.length_map] at hplen
      refine for_it walk_tup (fun i σ' H' => SqT K H' pa pxs ∧ DpAll K H' pxs ((nexts n ties now).map dPair) ∧ H' qa = some (.tup (now.map V.int)) ∧ ∃ found' edge' es'' z5 z6 z7, 2 * (256 - found'.length) + edge'.length + 1 ≤ 2 * (256 - found.length) + (rest ++ [now]).length ∧ σ' = [some v, some (.ref a), some (.ref dk), some (.ref le), some (.ref qa), z5, z6, z7] ∧ Gr T H H' ∧ H' dk = some (.dT (dOut found' fun _ => .bl true)) ∧ H' le = some (.lst es'') ∧ TqAll H' es'' edge' ∧ AInv n ties hs found' edge' ∧ now ∈ found' ∧
          (∀ g ∈ found', g ∉ edge' → g ≠ now → ∀ p ∈ nexts n ties g, stoop g p.1 p.2 ∈ found') ∧ ∀ p ∈ (nexts n ties now).take i, stoop now p.1 p.2 ∈ found')
        ⟨hpa, hpx, hqa3, found, rest, es', z5, z6, z7, by simp only [List.length_append, List.length_cons, List.length_nil]; omega, rfl, g3.trans g4, g4.at ed2, g4.at upd_same, g4.tq (tq_put ee1 hes'), ⟨hi.nd, hi.out, hi.inh, fun x hx => hi.edge x (List.mem_append_left _ hx)⟩, hnow, fun x hx hn hxn => hs2 x hx (fun z => by
          rcases List.mem_append.mp z with z | z
          · exact hn z
          · exact hxn (List.mem_singleton.mp z)), by simp⟩
        (fun i σ' H' _ h => h.1) (fun i x σ' H4 H5 hlt h y => ?_) (fun σ' H' h => ?_)
      · obtain ⟨hpa', hpx', hqa', f', e', es'', y5, y6, y7, hm', rfl, g5, ed5, ee5, hes5, hi5, hn5, hs5, ht5⟩ := h
        obtain ⟨rfl, e2⟩ := y
        obtain ⟨p, ta, ep, rfl, hta⟩ := pair_at hpx' e2
        have etk : (nexts n ties now).take (i + 1) = (nexts n ties now).take i ++ [p] := by
          rw [List.take_add_one, ep]
          rfl
        have hpn := List.mem_of_getElem? ep
        have hplt := nexts_lt wb hpn
        refine ⟨ta, _, rfl, hta, rfl, _, _, rfl, _, _, rfl, rfl, ?_⟩
        refine ⟨.ref qa, rfl, .int p.1, rfl, .int p.2, rfl, .ref qa, now, p.1, p.2, rfl, .tup (SqT.of hqa') (int_dpAll _), by rw [hnl]; exact hplt.1, by rw [hnl]; exact hplt.2.1, by have := wb.le; omega, fun H6 l g6 el => ?_⟩
        have ed6 := g6.at ed5
        have ee6 := g6.at ee5
        have hes6 := g6.tq hes5
        refine ⟨.ref l, rfl, .ref dk, rfl, dk, _, rfl, DGet.t (k := kk (stoop now p.1 p.2)) ed6 (by rw [kk_kV]; exact el), _, rfl, ?_⟩
        rw [valV_out]
        by_cases hin : stoop now p.1 p.2 ∈ f'
        · rw [if_pos hin]
          refine iteF ?_
          refine ⟨g6.sqT hpa', g6.dpAll hpx', g6.at hqa', f', e', es'', _, _, _, hm', rfl, g5.trans g6, ed6, ee6, hes6, hi5, hn5, hs5, ?_⟩
          rw [etk]
          intro p' hp'
          rcases List.mem_append.mp hp' with hp' | hp'
          · exact ht5 p' hp'
          · rw [List.mem_singleton.mp hp']
            exact hin
        · rw [if_neg hin]
          refine iteT ?_
          have hout : Out n ties hs (stoop now p.1 p.2) := by
            obtain ⟨k, r⟩ := hi5.out now hn5
            exact ⟨k + 1, r.succ hpn⟩
          have hi6 := hi5.grow hout hin
          have l6 := fl hi6
          rw [List.length_append] at l6
          have l6 : f'.length + 1 ≤ 256 := l6
          refine ⟨.ref dk, rfl, .ref l, rfl, dk, _, rfl, DPut.t (k := kk (stoop now p.1 p.2)) ed6 (by rw [kk_kV]; exact el) (by rw [List.length_map]; exact Nat.lt_of_le_of_lt (show _ ≤ 1000 by omega) (by decide)), ?_⟩
          rw [putK_out (f := fun _ => V.bl true) hin]
          have ee7 : (upd H6 dk (.dT (dOut (f' ++ [stoop now p.1 p.2]) fun _ => .bl true))) le = some (.lst es'') := (upd_ne hkl.symm).trans ee6
          have hel : (upd H6 dk (.dT (dOut (f' ++ [stoop now p.1 p.2]) fun _ => .bl true))) l = _ := tup_put ed6 rfl el
          have hesl := hes6.length
          refine ⟨.ref le, rfl, .inl ⟨rfl, _, SqL.of ee7⟩, .ref l, rfl, le, _, _, rfl, rfl, ee7, by rw [hesl]; exact Nat.lt_of_le_of_lt (show _ ≤ 1000 by simp only [List.length_append, List.length_cons, List.length_nil] at *; omega) (by decide), ?_⟩
          have g7 := ((g5.trans g6).put nK ed6 (o' := .dT (dOut (f' ++ [stoop now p.1 p.2]) fun _ => .bl true))).put nE ee7 (o' := .lst (es'' ++ [.ref l]))
          have tq7 : TqAll (upd (upd H6 dk (.dT (dOut (f' ++ [stoop now p.1 p.2]) fun _ => .bl true))) le (.lst (es'' ++ [.ref l]))) (es'' ++ [.ref l]) (e' ++ [stoop now p.1 p.2]) :=
            each_snoc ⟨l, rfl, tup_put ee7 rfl hel⟩ (tq_put ee7 (tq_put ed6 hes6))
          refine ⟨sqT_put ee7 rfl (sqT_put ed6 rfl (g6.sqT hpa')), dpAll_put ee7 (noL_pairs _) (dpAll_put ed6 (noL_pairs _) (g6.dpAll hpx')), tup_put ee7 rfl (tup_put ed6 rfl (g6.at hqa')), f' ++ [stoop now p.1 p.2], e' ++ [stoop now p.1 p.2], es'' ++ [.ref l], _, _, _, ?_, rfl, g7, (upd_ne hkl).trans upd_same, upd_same, tq7, hi6, List.mem_append_left _ hn5, ?_, ?_⟩
          · simp only [List.length_append, List.length_cons, List.length_nil] at *
            omega
          · intro x hx hn hxn p' hp'
            rcases List.mem_append.mp hx with hx | hx
            · exact List.mem_append_left _ (hs5 x hx (fun z => hn (List.mem_append_left _ z)) hxn p' hp')
            · exact absurd (List.mem_append_right _ hx) hn
          · rw [etk]
            intro p' hp'
            rcases List.mem_append.mp hp' with hp' | hp'
            · exact List.mem_append_left _ (ht5 p' hp')
            · rw [List.mem_singleton.mp hp']
              exact List.mem_append_right _ (List.mem_singleton.mpr rfl)
      · obtain ⟨hpa', hpx', hqa', f', e', es'', y5, y6, y7, hm', rfl, g5, ed5, ee5, hes5, hi5, hn5, hs5, ht5⟩ := h
        rw [hplen, List.take_length] at ht5
        have l5 := fl hi5
        refine ⟨.ref dk, rfl, dk, _, rfl, ed5, _, _, rfl, rfl, _, rfl, ?_⟩
        rw [List.length_map]
        rw [decide_eq_false (by show ¬ ((5000 : Int) < (f'.length : Int)); omega)]
        refine iteF ?_
        refine ⟨f', e', es'', _, _, _, _, by omega, rfl, g5, ed5, ee5, hes5, hi5, fun x hx hn => ?_⟩
        by_cases hxn : x = now
        · rw [hxn]
          exact ht5
        · exact hs5 x hx hn hxn
end
end So
namespace So
open PySem PySem.Spec PyProof.Rows L2 PySem.W LamX
open C8 (Cal pe_c pe_gc)
open RZ StX
section
variable {H H' H0 H1 : Hp} {T : List (Addr × Str)} {K : PySem.W.Frag}
variable {J : It} {n : Nat} {G : Hp → Prop} {Y : Nat → Hp → V → Hp → Prop}
/-- a comprehension whose items stand in R to what they mean -/
theorem lcR {α β : Type} (as : List α) (f : α → Option β) (R : Hp → V → β → Prop) (mono : ∀ H H' v b, Gr T H H' → R H v b → R H' v b) (put : ∀ H D acc o' v b, H D = some (.lst acc) → R H v b → R (upd H D o') v b)
    (w : Walk J n G Y) {g : TG} {tt : TT} {te : TE} {vs : List Nat} {σ : L2.St} {D : Addr} {Qd : Hp → Prop} (hn : n = as.length) (hD : H1 D = none) (hsz : as.length ≤ 100000)
    (hG : ∀ H, Gr T H1 H → G H)
    (hs : ∀ (i : Nat) (a : α) (x : V) (H H' : Hp) (Yes : V → Hp → Prop) (No : Hp → Prop), as[i]? = some a → Gr T H1 H → Y i H x H' → (∀ y H4 d, f a = some d → Gr T H H4 → R H4 y d → Yes y H4) → (∀ H3, f a = none → Gr T H H3 → No H3) →
      g x (wipe σ vs) H' fun σ2 H2 => wipe σ2 vs = wipe σ vs ∧ tt σ2 H2 fun b H3 => if b = true then te σ2 H3 Yes else No H3)
    (hd : ∀ H' ys, Gr T H1 H' → H' D = some (.lst ys) → EachIs (R H') ys (as.filterMap f) → Qd H') :
    ∃ W : Nat → Nat → Hp → Prop, (∃ m, W 0 m (upd H1 D (.lst []))) ∧ ∀ i m H, W i m H →
      (J.stop i H ∧ Qd H) ∨ (J.go i H ∧ ∃ Nx : Hp → Prop, (∀ H', Nx H' → ∃ m', m' < m ∧ W (i + 1) m' H') ∧ ∀ x H', J.yld i H x H' → g x (wipe σ vs) H' fun σ2 H2 => wipe σ2 vs = wipe σ vs ∧ tt σ2 H2 fun b H3 =>
        if b = true then te σ2 H3 fun y H4 => ∃ acc, H4 D = some (.lst acc) ∧ acc.length < sizeLine ∧ Nx (upd H4 D (.lst (acc ++ [y]))) else Nx H3) := by
  subst hn
  have nD : Nw H1 D := Nw.of hD
  refine lc_it w (fun i H => Gr T H1 H ∧ ∃ acc, H D = some (.lst acc) ∧ EachIs (R H) acc ((as.take i).filterMap f)) ?_ ?_ ?_ ?_
  · exact ⟨Gr.new hD, [], upd_same, by rw [List.take_zero]; exact .nil⟩
  · exact fun i H _ h => hG H h.1
  · intro i x H H' hi hp y
    obtain ⟨g1, acc, e, da⟩ := hp
    have ea : as[i]? = some as[i] := List.getElem?_eq_getElem hi
    refine hs i as[i] x H H' _ _ ea g1 y (fun y H4 d ed g4 hy => ?_) (fun H3 ed g3 => ?_)
    · have e4 := g4.at e
      have la : acc.length ≤ as.length := by
        rw [da.length]
        exact Nat.le_trans (List.length_filterMap_le _ _) (by rw [List.length_take]; omega)
      refine ⟨acc, e4, Nat.lt_of_le_of_lt (Nat.le_trans la hsz) (by decide), (g1.trans g4).put nD e4, acc ++ [y], upd_same, ?_⟩
      rw [filterMap_take f as ea, ed]
      exact each_snoc (put _ _ _ _ _ _ e4 hy) (da.mono fun v b r => put _ _ _ _ _ _ e4 (mono _ _ _ _ g4 r))
    · refine ⟨g1.trans g3, acc, g3.at e, ?_⟩
      rw [filterMap_take f as ea, ed, List.append_nil]
      exact da.mono fun v b r => mono _ _ _ _ g3 r
  · intro H hp
    obtain ⟨g1, acc, e, da⟩ := hp
    rw [List.take_length] at da
    exact hd H acc g1 e da
end
/-- all outcomes, sorted; δ tells the least number of stoops, by lots -/
structure Wd (n : Nat) (ties : List (Nat × Nat)) (hs : List Int) (os : List (List Int)) (δ : List Int → Nat) : Prop where
  pw : os.Pairwise (· ≤ ·)
  nd : os.Nodup
  mem : ∀ g, g ∈ os ↔ Out n ties hs g
  lots : ∀ g ∈ os, ∃ m : Int → Nat, (∀ z ∈ g, MinLot ties hs g z (m z)) ∧ ∀ ks : List Int, ks.Pairwise (· < ·) → (∀ k, k ∈ ks ↔ k ∈ g) → (ks.map m).sum = δ g
theorem Wd.len {n : Nat} {ties : List (Nat × Nat)} {hs : List Int} {os : List (List Int)} {δ : List Int → Nat} (W : Wd n ties hs os δ) (wb : Wb n ties) (hl : hs.length = n) : os.length ≤ 256 := out_few wb hl W.nd fun g hg => (W.mem g).mp hg
theorem Wd.glen {n : Nat} {ties : List (Nat × Nat)} {hs : List Int} {os : List (List Int)} {δ : List Int → Nat} (W : Wd n ties hs os δ) {g : List Int} (hg : g ∈ os) : g.length = hs.length := by
  obtain ⟨k, r⟩ := (W.mem g).mp hg
  exact r.len
section
variable {P : Program} {w : World} {K : PySem.W.Frag} {mg : Str → Option Value} {base : Heap} {T : List (Addr × Str)}
/-- a pair of a tracked tuple and a whole number -/
def REnt (δ : List Int → Nat) (H : Hp) (v : V) (g : List Int) : Prop := ∃ t q, v = .ref t ∧ H t = some (.tup [.ref q, .int (δ g)]) ∧ H q = some (.tup (g.map V.int))
def spStepsOf (K : PySem.W.Frag) (T : List (Addr × Str)) : Sp := fun vs H Q _ => ∃ (v : V) (a : Addr) (n : Nat) (ties : List (Nat × Nat)) (hs : List Int) (os : List (List Int)) (δ : List Int → Nat), vs = [v, .ref a] ∧ Dp K H v (dWeb n ties) ∧ H a = some (.tup (hs.map V.int)) ∧ Wb n ties ∧ hs.length = n ∧ Tabs T H ∧ Wd n ties hs os δ ∧
  ∀ H' d, Gr T H H' → Nw H d → H' d = some (.dT (dOut os fun g => .int (δ g))) → Q (.ref d) H'
theorem rent_ents {δ : List Int → Nat} {H : Hp} : ∀ {gs : List (List Int)} {ys : List V}, EachIs (REnt δ H) ys gs → ∃ ts : List Addr, ys = ts.map V.ref ∧ EachIs (EntP H) ts (dOut gs fun g => .int (δ g))
  | _, _, .nil => ⟨[], rfl, .nil⟩
  | _, _, .cons (b := g) ⟨t, q, rfl, h1, h2⟩ r => by
    obtain ⟨ts, rfl, h⟩ := rent_ents r
    exact ⟨t :: ts, rfl, .cons ⟨q, h1, by show H q = some (.tup ((kk g).map kV)); rw [kk_kV]; exact h2⟩ h⟩
theorem ok_steps_of {f : Addr} {fd : FuncData} (F : FnP K "steps_of" s_steps_of f fd) (N : Nm mg) (g : mg "steps_of" = some (.ref f)) (CA : Cal P w K mg base 3 "all_of" (spAllOf K T) []) (CF : Cal P w K mg base 5 "fewest_of" (spFewest K T) []) :
    Cal P w K mg base 6 "steps_of" (spStepsOf K T) [] := by
  refine ⟨f, fd, _, [], F.ok sc_steps_of (fun vs H Q E h => ?_) (fun cdv A outer s H vs Q E hr h => ?_), g, F.kp, b_steps_of F, .nil⟩
  · obtain ⟨v, a, n, ties, hs, os, δ, rfl, _⟩ := h
    rfl
  · obtain ⟨v, a, n, ties, hs, os, δ, rfl, hv, ha, wb, hl, hT, W, q⟩ := h
    have nd := sc_steps_of.nd
    refine ⟨_, PSs.nox (pss_one (ps_ret (pe_callTy (cr_dictT rfl hr.units) rfl N.dict_ (by decide +kernel) (pa_cons
      (pe_lc (own := [("told", 2)]) (g := gName 2) (tt := tYes) rfl nd (pi_list (pe_c CA hr (by decide) rfl (pa_cons (pv 0) (pa_cons (pv 1) pa_nil)))) (blkOk_by (own := [("told", 2)]) (N := ["web", "heights", "told"]) (sc := defScope s_steps_of) (by decide +kernel)) (fun _ _ _ _ _ => pg_name (i := 2) nd rfl (Or.inl rfl)) (fun _ _ _ _ _ => pts_nil)
        (fun _ _ _ _ _ => pe_tup (pa_cons (pv 2) (pa_cons (pe_c CF hr (by decide) rfl (pa_cons (pv 0) (pa_cons (pv 1) (pa_cons (pv 2) pa_nil)))) pa_nil)))) pa_nil)))), ?_⟩
    refine ⟨v, rfl, .ref a, rfl, v, a, n, ties, hs, rfl, hv, ha, wb, hl, fun H1 l ys os' g1 _ el hys hpw hnd hmem => ?_⟩
    have eo : os' = os := sorted_eq hpw W.pw hnd W.nd fun g => by rw [hmem g, W.mem g]
    subst eo
    have hlen := W.len wb hl
    refine ⟨l, rfl, ⟨_, SqL.of el⟩, fun D hD => ?_⟩
    refine lcR (T := T) os' (fun g => some g) (REnt δ) (fun H H' v b g ⟨t, q, e, h1, h2⟩ => ⟨t, q, e, g.at h1, g.at h2⟩) (fun H D acc o' v b eD ⟨t, q, e, h1, h2⟩ => ⟨t, q, e, tup_put eD rfl h1, tup_put eD rfl h2⟩)
      walk_list hys.length hD (by omega) (fun H' g' => SqL.of (g'.at el)) (fun i go x H2 H3 Yes No ex g2 yy hy hn => ?_) (fun H' zs g' eD hzs => ?_)
    · obtain ⟨rfl, e2⟩ := yy
      obtain ⟨go', eg', hq⟩ := each_at (g2.tq hys) e2
      cases eg'.symm.trans ex
      obtain ⟨qa, rfl, hqa⟩ := hq
      have gg := g1.trans g2
      have hgm := List.mem_of_getElem? ex
      obtain ⟨m, hm1, hm2⟩ := W.lots go hgm
      refine ⟨rfl, ?_⟩
      refine ⟨.ref qa, rfl, v, rfl, .ref a, rfl, .ref qa, rfl, v, .ref a, .ref qa, n, ties, hs, go, m, rfl, gg.dp hv, .tup (SqT.of (gg.at ha)) (int_dpAll _), .tup (SqT.of hqa) (int_dpAll _), wb.len, by have := wb.le; omega, W.glen hgm, gg.tab hT, hm1, fun H4 ks g4 hks hkm => ?_⟩
      refine ⟨by show 2 ≤ sizeLine; decide, fun t nt => ?_⟩
      rw [hm2 ks hks hkm]
      refine hy _ _ _ rfl (g4.trans (Gr.new nt)) ⟨t, qa, rfl, upd_same, ?_⟩
      exact (Gr.new (T := T) nt).at (g4.at hqa)
    · rw [filterMap_some', List.map_id'] at hzs
      obtain ⟨ts, rfl, hts⟩ := rent_ents hzs
      refine ⟨D, ts, _, rfl, SqL.of eD, hts, ?_, ?_⟩
      · rw [List.map_map]
        exact List.pairwise_map.mpr (W.nd.imp fun h e => h (kk_inj e))
      · intro p np
        exact q _ p ((g1.trans g').trans (Gr.new np)) (Nw.back (g1.trans g') (Nw.of np)) upd_same
end
end So
namespace So
open PySem PySem.Spec PyProof.Rows L2 PySem.W LamX
open C8 (Cal pe_c pe_gc)
open RZ StX
section
variable {P : Program} {w : World} {K : PySem.W.Frag} {mg : Str → Option Value} {base : Heap} {T : List (Addr × Str)}
/-- a web and heights, as the laws hand them in -/
structure RA (K : PySem.W.Frag) (T : List (Addr × Str)) (H : Hp) (v : V) (a : Addr) (n : Nat) (ties : List (Nat × Nat)) (hs : List Int) (os : List (List Int)) (δ : List Int → Nat) : Prop where
  web : Dp K H v (dWeb n ties)
  hts : H a = some (.tup (hs.map V.int))
  wb : Wb n ties
  len : hs.length = n
  bd : ∀ x ∈ hs, -1000 ≤ x ∧ x ≤ 1000
  tab : Tabs T H
  wd : Wd n ties hs os δ
variable {H H' : Hp} {v : V} {a : Addr} {n : Nat} {ties : List (Nat × Nat)} {hs : List Int} {os : List (List Int)} {δ : List Int → Nat}
theorem RA.gr (r : RA K T H v a n ties hs os δ) (g : Gr T H H') : RA K T H' v a n ties hs os δ := ⟨g.dp r.web, g.at r.hts, r.wb, r.len, r.bd, g.tab r.tab, r.wd⟩
theorem RA.dph (r : RA K T H v a n ties hs os δ) : Dp K H (.ref a) (dInts hs) := .tup (SqT.of r.hts) (int_dpAll _)
theorem RA.few (r : RA K T H v a n ties hs os δ) : os.length ≤ 256 := r.wd.len r.wb r.len
theorem RA.glen (r : RA K T H v a n ties hs os δ) {g : List Int} (h : g ∈ os) : g.length = n := (r.wd.glen h).trans r.len
theorem noL_tD (g : List Int) : noL (tD g) = true := noL_ints g
def spWithin (K : PySem.W.Frag) (T : List (Addr × Str)) : Sp := fun vs H Q _ => ∃ (v : V) (a : Addr) (n : Nat) (ties : List (Nat × Nat)) (hs : List Int) (os : List (List Int)) (δ : List Int → Nat) (s : Nat), vs = [v, .ref a, .int s] ∧ RA K T H v a n ties hs os δ ∧ s ≤ 60 ∧
  ∀ H' v', Gr T H H' → Dp K H' v' (.list ((os.filter fun g => decide (δ g ≤ s)).map tD)) → Q v' H'
theorem ok_within {f : Addr} {fd : FuncData} (F : FnP K "within" s_within f fd) (g : mg "within" = some (.ref f)) (CS : Cal P w K mg base 5 "need_start" (spNeedStart K T) []) (CN : Cal P w K mg base 3 "need_from" spNeedFrom []) (CO : Cal P w K mg base 6 "steps_of" (spStepsOf K T) []) :
    Cal P w K mg base 7 "within" (spWithin K T) [] := by
  refine ⟨f, fd, _, [], F.ok sc_within (fun vs H Q E h => ?_) (fun cdv A outer s H vs Q E hr h => ?_), g, F.kp, b_within F, .nil⟩
  · obtain ⟨v, a, n, ties, hs, os, δ, st, rfl, _⟩ := h
    rfl
  · obtain ⟨v, a, n, ties, hs, os, δ, st, rfl, ra, hst, q⟩ := h
    have nd := sc_within.nd
    refine ⟨_, PSs.nox (pss_cons (ps_expr (pe_c CS hr (by decide) rfl (pa_cons (pv 0) (pa_cons (pv 1) pa_nil)))) (pss_cons (ps_expr (pe_c CN hr (by decide) rfl (pa_cons (pv 2) (pa_cons pe_int (pa_cons pe_int pa_nil)))))
      (pss_one (ps_ret (pe_lc (own := [("told", 3), ("many", 4)]) (g := gTup K 2 (gCons (gName 3) (gCons (gName 4) gNil))) (tt := tTest (tOp (rI0 fun i j => .bl (decide (i ≤ j))) (tVar 4) (tVar 2))) rfl nd (pi_itemsT (pe_frz (pe_c CO hr (by decide) rfl (pa_cons (pv 0) (pa_cons (pv 1) pa_nil))))) (blkOk_by (own := [("told", 3), ("many", 4)]) (N := ["web", "heights", "steps", "told", "many"]) (sc := defScope s_within) (by decide +kernel))
        (fun _ _ _ _ _ => pg_tup (by rfl) (pgs_cons (pg_name (i := 3) nd rfl (Or.inl rfl)) (pgs_cons (pg_name (i := 4) nd rfl (Or.inl rfl)) pgs_nil))) (fun _ _ _ _ _ => pts_one (pt_cmpR op_le (pv 4) (pv 2) (nomark _))) (fun _ _ _ _ _ => pv 3)))))), ?_⟩
    refine ⟨v, rfl, .ref a, rfl, v, .ref a, n, ties, hs, rfl, ra.web, ra.wb, ra.dph, ra.len, ra.bd, fun H1 g1 => ?_⟩
    refine ⟨.int st, rfl, st, 0, 60, rfl, by omega, by omega, ?_⟩
    have r1 := ra.gr g1
    refine ⟨v, rfl, .ref a, rfl, v, a, n, ties, hs, os, δ, rfl, r1.web, r1.hts, r1.wb, r1.len, r1.tab, r1.wd, fun H2 d g2 nD ed => ?_⟩
    refine ⟨d, _, rfl, ed, fun o => ?_⟩
    have g3 : Gr T H1 (upd H2 d (.frz o (.dT (dOut os fun g => .int (δ g))))) := g2.put nD ed
    refine ⟨d, o, _, rfl, upd_same, fun D hD => ?_⟩
    refine lcD (T := T) (K := K) os (fun g => if decide (δ g ≤ st) = true then some (tD g) else none) (fun _ _ e => by split at e <;> cases e; exact noL_tD _) walk_itemsT (by rw [List.length_map]) hD (by have := ra.few; omega) (fun H' g' => g'.at upd_same) (fun i go x H3 H4 Yes No ex g4 yy hy hn => ?_) (fun H' ys g' eD hys => ?_)
    · obtain ⟨t, k, u, qa, ek, rfl, nt, hqa, rfl⟩ := yy
      rw [List.getElem?_map, ex] at ek
      cases ek
      rw [kk_kV] at hqa
      refine ⟨t, _, rfl, SqT.of upd_same, rfl, _, _, rfl, _, _, rfl, rfl, rfl, ?_⟩
      have gt := Gr.new (T := T) (o := HO.tup [.ref qa, .int (δ go : Nat)]) nt
      refine ⟨.int (δ go : Nat), rfl, .int st, rfl, _, _, rfl, rfl, _, rfl, ite2 (fun e => ?_) (fun e => ?_)⟩
      · have e : ((δ go : Nat) : Int) ≤ (st : Int) := of_decide_eq_true e
        refine ⟨.ref qa, rfl, hy _ _ _ (if_pos (decide_eq_true (by omega))) gt (.tup (SqT.of (gt.at hqa)) (int_dpAll _))⟩
      · refine hn _ (if_neg fun h => e (decide_eq_true ?_)) gt
        have := of_decide_eq_true h
        show ((δ go : Nat) : Int) ≤ (st : Int)
        omega
    · rw [filterMap_if] at hys
      exact q _ _ ((g1.trans g3).trans g') (.lst (SqL.of eD) hys)
end
end So
namespace So
open PySem PySem.Spec PyProof.Rows L2 PySem.W LamX
open C8 (Cal pe_c pe_gc)
open RZ StX
section
variable {P : Program} {w : World} {K : PySem.W.Frag} {mg : Str → Option Value} {base : Heap} {T : List (Addr × Str)}
theorem Wd.ne {n : Nat} {ties : List (Nat × Nat)} {hs : List Int} {os : List (List Int)} {δ : List Int → Nat} (W : Wd n ties hs os δ) : hs ∈ os := (W.mem hs).mpr ⟨0, .zero⟩
theorem out_ne {n : Nat} {ties : List (Nat × Nat)} {hs : List Int} {os : List (List Int)} {δ : List Int → Nat} (W : Wd n ties hs os δ) (wb : Wb n ties) (hl : hs.length = n) : ∀ g ∈ os, g ≠ [] := fun g hg e => by
  have := W.glen hg
  rw [e, hl] at this
  have := wb.pos
  simp at *
  omega
theorem sortL_id {l : List (List Int)} (h : l.Pairwise (· ≤ ·)) : l.mergeSort leL = l := List.mergeSort_of_pairwise (h.imp fun h => decide_eq_true h)
def spFarthest (K : PySem.W.Frag) (T : List (Addr × Str)) : Sp := fun vs H Q _ => ∃ (v : V) (a : Addr) (n : Nat) (ties : List (Nat × Nat)) (hs : List Int) (os : List (List Int)) (δ : List Int → Nat), vs = [v, .ref a] ∧ RA K T H v a n ties hs os δ ∧
  ∀ H' v' (m : Nat), m ∈ os.map δ → (∀ g ∈ os, δ g ≤ m) → Gr T H H' → Dp K H' v' (.tuple [dN m, .list ((os.filter fun g => decide (δ g = m)).map tD)]) → Q v' H'
theorem ok_farthest {f : Addr} {fd : FuncData} (F : FnP K "farthest" s_farthest f fd) (N : Nm mg) (g : mg "farthest" = some (.ref f)) (CS : Cal P w K mg base 5 "need_start" (spNeedStart K T) []) (CO : Cal P w K mg base 6 "steps_of" (spStepsOf K T) []) :
    Cal P w K mg base 7 "farthest" (spFarthest K T) [] := by
  refine ⟨f, fd, _, [], F.ok sc_farthest (fun vs H Q E h => ?_) (fun cdv A outer s H vs Q E hr h => ?_), g, F.kp, b_farthest F, .nil⟩
  · obtain ⟨v, a, n, ties, hs, os, δ, rfl, _⟩ := h
    rfl
  · obtain ⟨v, a, n, ties, hs, os, δ, rfl, ra, q⟩ := h
    have nd := sc_farthest.nd
    refine ⟨_, PSs.nox (pss_cons (ps_expr (pe_c CS hr (by decide) rfl (pa_cons (pv 0) (pa_cons (pv 1) pa_nil)))) (pss_cons (ps_set (i := 2) nd rfl (.inr rfl) (pe_c CO hr (by decide) rfl (pa_cons (pv 0) (pa_cons (pv 1) pa_nil))))
      (pss_cons (ps_set (i := 3) nd rfl (.inr rfl) (pe_maxVals rfl rfl N.max_ (pv 2)))
      (pss_one (ps_ret (pe_tup (pa_cons (pv 3) (pa_cons (pe_lc (own := [("one", 4)]) (g := gName 4) (tt := tTest (tOp rEq (tDGet (tVar 2) (tVar 4)) (tVar 3))) rfl nd (pi_list (pe_callB (cr_sortDT rfl (ru65 hr)) rfl N.sorted_ (by decide +kernel) (pa_cons (pv 2) pa_nil))) (blkOk_by (own := [("one", 4)]) (N := ["web", "heights", "told", "most", "one"]) (sc := defScope s_farthest) (by decide +kernel))
        (fun _ _ _ _ _ => pg_name (i := 4) nd rfl (Or.inl rfl)) (fun _ _ _ _ _ => pts_one (pt_cmpR op_eq (pe_dget (ru1 hr) (pv 2) (pv 4) (fun _ _ => rfl)) (pv 3) (nomark _))) (fun _ _ _ _ _ => pv 4)) pa_nil)))))))), ?_⟩
    refine ⟨v, rfl, .ref a, rfl, v, .ref a, n, ties, hs, rfl, ra.web, ra.wb, ra.dph, ra.len, ra.bd, fun H1 g1 => ?_⟩
    have r1 := ra.gr g1
    refine ⟨v, rfl, .ref a, rfl, v, a, n, ties, hs, os, δ, rfl, r1.web, r1.hts, r1.wb, r1.len, r1.tab, r1.wd, fun H2 d g2 nD ed => ?_⟩
    have hne : (os.map fun g => ((δ g : Nat) : Int)) ≠ [] := fun e => by
      have := List.map_eq_nil_iff.mp e
      have := ra.wd.ne
      simp_all
    refine ⟨.ref d, rfl, d, _, os.map fun g => ((δ g : Nat) : Int), rfl, .inl ed, by rw [List.map_map, List.map_map]; rfl, hne, fun m hm hmax => ?_⟩
    obtain ⟨gm, hgm, rfl⟩ := List.mem_map.mp hm
    have hmax' : ∀ g ∈ os, δ g ≤ δ gm := fun g hg => by
      have := hmax _ (List.mem_map.mpr ⟨g, hg, rfl⟩)
      omega
    refine ⟨.int (δ gm : Nat), rfl, .ref d, rfl, d, os, fun g => .int (δ g), rfl, .inl ed, out_ne ra.wd ra.wb ra.len, fun ys p hys np => ?_⟩
    rw [sortL_id ra.wd.pw] at hys
    have g3 := Gr.new (T := T) (o := HO.lst ys) np
    refine ⟨p, rfl, ⟨_, SqL.of upd_same⟩, fun D hD => ?_⟩
    refine lcD (T := T) (K := K) os (fun g => if decide (δ g = δ gm) = true then some (tD g) else none) (fun _ _ e => by split at e <;> cases e; exact noL_tD _) walk_list hys.length hD (by have := ra.few; omega) (fun H' g' => SqL.of (g'.at upd_same)) (fun i go x H3 H4 Yes No ex g4 yy hy hn => ?_) (fun H' zs g' eD hzs => ?_)
    · obtain ⟨rfl, e2⟩ := yy
      obtain ⟨go', eg', hq⟩ := each_at (g4.tq (g3.tq hys)) e2
      cases eg'.symm.trans ex
      obtain ⟨qa, rfl, hqa⟩ := hq
      have hgo := List.mem_of_getElem? ex
      refine ⟨rfl, ?_⟩
      have hv : valV (dOut os fun g => V.int (δ g : Nat)) (kk go) = some (.int (δ go : Nat)) := by rw [valV_out, if_pos hgo]
      refine ⟨.ref d, rfl, .ref qa, rfl, d, .int (δ go : Nat), rfl, ?_, _, rfl, rfl, _, rfl, ite2 (fun e => ?_) (fun e => ?_)⟩
      · have := DGet.t (k := kk go) (g4.at (g3.at ed)) (by rw [kk_kV]; exact hqa)
        rw [hv] at this
        exact this
      · have e : V.int ((δ go : Nat) : Int) = V.int ((δ gm : Nat) : Int) := of_decide_eq_true e
        have e := V.int.inj e
        exact ⟨.ref qa, rfl, hy _ _ _ (if_pos (decide_eq_true (by omega))) Gr.refl (.tup (SqT.of hqa) (int_dpAll _))⟩
      · refine hn _ (if_neg fun h => e (decide_eq_true ?_)) Gr.refl
        rw [of_decide_eq_true h]
    · rw [filterMap_if] at hzs
      refine ⟨by show 2 ≤ sizeLine; decide, fun t nt => ?_⟩
      have gt := Gr.new (T := T) (o := HO.tup [.int (δ gm : Nat), .ref D]) nt
      refine q _ _ (δ gm) (List.mem_map.mpr ⟨gm, hgm, rfl⟩) hmax' ((((g1.trans g2).trans g3).trans g').trans gt) ?_
      exact .tup (SqT.of upd_same) (.cons (.int _) (.cons (gt.dp (.lst (SqL.of eD) hzs)) .nil))
end
end So
namespace So
open PySem PySem.Spec PyProof.Rows L2 PySem.W LamX
open C8 (Cal pe_c pe_gc)
open RZ StX
/-! ### plain -/
abbrev dVP (x : Int) (g : List Int) : PyData := .tuple [.int x, tD g]
theorem noL_VP (x : Int) (g : List Int) : noL (dVP x g) = true := by
  show (true && (noLs (g.map .int) && true)) = true
  rw [noL_ints]
  rfl
theorem alike_tD (a b : List Int) : alike (tD a) (tD b) = true := by
  simp only [alike]
  exact alikeAll_int a b
theorem alike_VP (x y : Int) (a b : List Int) : alike (dVP x a) (dVP y b) = true := by
  simp only [alike, alikeAll, alikeAll_int, Bool.and_true, Bool.true_and]
theorem depth_VP (x : Int) (g : List Int) : (dVP x g).depth = 2 := by
  unfold dVP
  have := tD_depth g
  simp only [PyData.depth, PyData.depthAll] at *
  omega
theorem depthAll_le {l : List PyData} {k : Nat} (h : ∀ d ∈ l, d.depth ≤ k) : PyData.depthAll l ≤ k := by
  induction l with
  | nil => simp [PyData.depthAll]
  | cons d l ih =>
    rw [PyData.depthAll]
    have := h d (List.mem_cons_self ..)
    have := ih fun x hx => h x (List.mem_cons_of_mem _ hx)
    omega
theorem tD_AA (l : List (List Int)) : AlikeAll (l.map tD) := ⟨fun x hx y hy => by
    obtain ⟨a, _, rfl⟩ := List.mem_map.mp hx
    obtain ⟨b, _, rfl⟩ := List.mem_map.mp hy
    exact alike_tD a b, fun x hx => by
    obtain ⟨a, _, rfl⟩ := List.mem_map.mp hx
    intro e
    cases e⟩
theorem VP_AA (l : List (List Int)) (f : List Int → Int) : AlikeAll (l.map fun g => dVP (f g) g) := ⟨fun x hx y hy => by
    obtain ⟨a, _, rfl⟩ := List.mem_map.mp hx
    obtain ⟨b, _, rfl⟩ := List.mem_map.mp hy
    exact alike_VP _ _ a b, fun x hx => by
    obtain ⟨a, _, rfl⟩ := List.mem_map.mp hx
    intro e
    cases e⟩
theorem tD_dep (l : List (List Int)) : PyData.depthAll (l.map tD) ≤ 60 := depthAll_le fun d hd => by
  obtain ⟨a, _, rfl⟩ := List.mem_map.mp hd
  rw [tD_depth]
  decide
theorem VP_dep (l : List (List Int)) (f : List Int → Int) : PyData.depthAll (l.map fun g => dVP (f g) g) ≤ 60 := depthAll_le fun d hd => by
  obtain ⟨a, _, rfl⟩ := List.mem_map.mp hd
  rw [depth_VP]
  decide
theorem minD_head {x : PyData} {xs : List PyData} (h : ∀ y ∈ xs, dataLt y x = false) : minD x xs = x := by
  unfold minD
  induction xs with
  | nil => rfl
  | cons y xs ih =>
    rw [List.foldl_cons, h y (List.mem_cons_self ..)]
    exact ih fun z hz => h z (List.mem_cons_of_mem _ hz)
theorem lt_tD {a b : List Int} (h : b ≤ a) : dataLt (tD a) (tD b) = false := by
  have e : leL b a = !dataLt (tD a) (tD b) := by
    rw [← dataLe_tup]
    rfl
  have h2 : leL b a = true := decide_eq_true h
  rw [h2] at e
  cases q : dataLt (tD a) (tD b) with
  | false => rfl
  | true => rw [q] at e; cases e
theorem dp_VP {K : PySem.W.Frag} {H : Hp} {v : V} {x : Int} {g : List Int} (h : Dp K H v (dVP x g)) : ∃ a y, v = .ref a ∧ SqT K H a [.int x, y] ∧ Dp K H y (tD g) := by
  obtain ⟨a, xs, rfl, h1, h2⟩ := dp_tup h
  obtain ⟨v, vs, rfl, h3, h4⟩ := dpAll_cons h2
  obtain ⟨v2, vs2, rfl, h5, h6⟩ := dpAll_cons h4
  rw [dpAll_nil h6, dp_int h3] at h1
  exact ⟨a, v2, rfl, h1, h5⟩
section
variable {P : Program} {w : World} {K : PySem.W.Frag} {mg : Str → Option Value} {base : Heap} {T : List (Addr × Str)}
def spGreatest (K : PySem.W.Frag) (T : List (Addr × Str)) : Sp := fun vs H Q _ => ∃ (v x : V) (a : Addr) (n : Nat) (ties : List (Nat × Nat)) (hs : List Int) (os : List (List Int)) (δ : List Int → Nat) (ws : List Int), vs = [v, .ref a, x] ∧ RA K T H v a n ties hs os δ ∧ Dp K H x (dInts ws) ∧ ws.length = n ∧ (∀ z ∈ ws, -1000 ≤ z ∧ z ≤ 1000) ∧
  ∀ H' v' (m : Int) (g0 : List Int), m ∈ os.map (worthOf ws) → (∀ g ∈ os, worthOf ws g ≤ m) → (os.filter fun g => decide (worthOf ws g = m)).head? = some g0 → Gr T H H' → Dp K H' v' (dVP m g0) → Q v' H'
theorem ok_greatest {f : Addr} {fd : FuncData} (F : FnP K "greatest_worth" s_greatest_worth f fd) (N : Nm mg) (g : mg "greatest_worth" = some (.ref f)) (CS : Cal P w K mg base 5 "need_start" (spNeedStart K T) []) (CW : Cal P w K mg base 3 "need_weights" (spNeedWs K T) []) (CO : Cal P w K mg base 1 "worth" (spWorth K T) []) (CA : Cal P w K mg base 3 "all_of" (spAllOf K T) []) :
    Cal P w K mg base 6 "greatest_worth" (spGreatest K T) [] := by
  refine ⟨f, fd, _, [], F.ok sc_greatest_worth (fun vs H Q E h => ?_) (fun cdv A outer s H vs Q E hr h => ?_), g, F.kp, b_greatest_worth F, .nil⟩
  · obtain ⟨v, x, a, n, ties, hs, os, δ, ws, rfl, _⟩ := h
    rfl
  · obtain ⟨v, x, a, n, ties, hs, os, δ, ws, rfl, ra, hx, hwl, hwb, q⟩ := h
    have nd := sc_greatest_worth.nd
    refine ⟨_, PSs.nox (pss_cons (ps_expr (pe_c CS hr (by decide) rfl (pa_cons (pv 0) (pa_cons (pv 1) pa_nil)))) (pss_cons (ps_expr (pe_c CW hr (by decide) rfl (pa_cons (pv 0) (pa_cons (pv 2) pa_nil))))
      (pss_cons (ps_setLc (i := 3) (own := [("told", 4)]) (g := gName 4) (tt := tYes) rfl nd rfl rfl (sw_true rfl rfl rfl (by decide +kernel)) (pi_list (pe_c CA hr (by decide) rfl (pa_cons (pv 0) (pa_cons (pv 1) pa_nil)))) (blkOk_by (own := [("told", 4)]) (N := ["web", "heights", "weights", "some", "told", "best", "value"]) (sc := defScope s_greatest_worth) (by decide +kernel))
          (fun _ _ _ _ _ => pg_name (i := 4) nd rfl (Or.inl rfl)) (fun _ _ _ _ _ => pts_nil) (fun _ _ _ _ _ => pe_tup (pa_cons (pe_c CO hr (by decide) rfl (pa_cons (pv 2) (pa_cons (pv 4) pa_nil))) (pa_cons (pv 4) pa_nil))))
      (pss_cons (ps_set (i := 5) nd rfl (.inr rfl) (pe_callB (cr_max rfl) rfl N.max_ (by decide +kernel) (pa_cons (pe_lc (own := [("value", 6), ("told", 4)]) (g := gTup K 2 (gCons (gName 6) (gCons (gName 4) gNil))) (tt := tYes) rfl nd (pi_list (pv 3)) (blkOk_by (own := [("value", 6), ("told", 4)]) (N := ["web", "heights", "weights", "some", "told", "best", "value"]) (sc := defScope s_greatest_worth) (by decide +kernel))
          (fun _ _ _ _ _ => pg_tup (by rfl) (pgs_cons (pg_name (i := 6) nd rfl (Or.inl rfl)) (pgs_cons (pg_name (i := 4) nd rfl (Or.inl rfl)) pgs_nil))) (fun _ _ _ _ _ => pts_nil) (fun _ _ _ _ _ => pv 6)) pa_nil)))
      (pss_one (ps_ret (pe_tup (pa_cons (pv 5) (pa_cons (pe_callB (cr_minD rfl hr.units) rfl N.min_ (by decide +kernel) (pa_cons
        (pe_lc (own := [("value", 6), ("told", 4)]) (g := gTup K 2 (gCons (gName 6) (gCons (gName 4) gNil))) (tt := tTest (tOp rEq (tVar 6) (tVar 5))) rfl nd (pi_list (pv 3)) (blkOk_by (own := [("value", 6), ("told", 4)]) (N := ["web", "heights", "weights", "some", "told", "best", "value"]) (sc := defScope s_greatest_worth) (by decide +kernel))
          (fun _ _ _ _ _ => pg_tup (by rfl) (pgs_cons (pg_name (i := 6) nd rfl (Or.inl rfl)) (pgs_cons (pg_name (i := 4) nd rfl (Or.inl rfl)) pgs_nil))) (fun _ _ _ _ _ => pts_one (pt_cmpR op_eq (pv 6) (pv 5) (nomark _))) (fun _ _ _ _ _ => pv 4)) pa_nil)) pa_nil))))))))), ?_⟩
    refine ⟨v, rfl, .ref a, rfl, v, .ref a, n, ties, hs, rfl, ra.web, ra.wb, ra.dph, ra.len, ra.bd, fun H1 g1 => ?_⟩
    have r1 := ra.gr g1
    refine ⟨v, rfl, x, rfl, v, x, n, ties, ws, rfl, r1.web, g1.dp hx, hwl, ra.wb.le, hwb, fun H2 g2 => ?_⟩
    have r2 := r1.gr g2
    have few := ra.few
    -- some
    refine ⟨v, rfl, .ref a, rfl, v, a, n, ties, hs, rfl, r2.web, r2.hts, r2.wb, r2.len, fun H3 l ys os' g3 _ el hys hpw hnd hmem => ?_⟩
    have eo : os' = os := sorted_eq hpw ra.wd.pw hnd ra.wd.nd fun g => by rw [hmem g, ra.wd.mem g]
    subst eo
    have r3 := r2.gr g3
    refine ⟨l, rfl, ⟨_, SqL.of el⟩, fun D hD => ?_⟩
    refine lcD (T := T) (K := K) os' (fun g => some (dVP (worthOf ws g) g)) (fun _ _ e => by cases e; exact noL_VP _ _) walk_list hys.length hD (by omega) (fun H' g' => SqL.of (g'.at el)) (fun i go y H4 H5 Yes No ex g4 yy hyes hn => ?_) (fun H4 zs g4 eD hzs => ?_)
    · obtain ⟨rfl, e2⟩ := yy
      obtain ⟨go', eg', hq⟩ := each_at (g4.tq hys) e2
      cases eg'.symm.trans ex
      obtain ⟨qa, rfl, hqa⟩ := hq
      have gg := ((g1.trans g2).trans g3).trans g4
      have hgl := ra.glen (List.mem_of_getElem? ex)
      refine ⟨rfl, ?_⟩
      refine ⟨x, rfl, .ref qa, rfl, x, .ref qa, ws, go, rfl, gg.dp hx, .tup (SqT.of hqa) (int_dpAll _), by rw [hwl]; exact ra.wb.le, by rw [hgl, hwl], hwb, fun H6 g6 => ?_⟩
      refine ⟨.ref qa, rfl, by show 2 ≤ sizeLine; decide, fun t nt => ?_⟩
      have gt := Gr.new (T := T) (o := HO.tup [.int (worthOf ws go), .ref qa]) nt
      exact hyes _ _ _ rfl (g6.trans gt) (.tup (SqT.of upd_same) (.cons (.int _) (.cons (gt.dp (.tup (SqT.of (g6.at hqa)) (int_dpAll _))) .nil)))
    rw [filterMap_some'] at hzs
    have zl : zs.length = os'.length := by rw [DpAll.len hzs, List.length_map]
    have hat : ∀ {H' : Hp} {i : Nat} {y : V} {go : List Int}, Gr T H4 H' → zs[i]? = some y → os'[i]? = some go → ∃ b z, y = .ref b ∧ SqT K H' b [.int (worthOf ws go), z] ∧ Dp K H' z (tD go) := fun g' e1 e2 => dp_VP (dpAll_at2 (g'.dpAll hzs) e1 (by rw [List.getElem?_map, e2]; rfl))
    have g04 := ((g1.trans g2).trans g3).trans g4
    -- best
    refine ⟨.ref D, rfl, D, rfl, ⟨_, SqL.of eD⟩, fun D2 hD2 => ?_⟩
    refine lcD (T := T) (K := K) os' (fun g => some (dI (worthOf ws g))) (fun _ _ e => by cases e; rfl) walk_list zl hD2 (by omega) (fun H' g' => SqL.of (g'.at eD)) (fun i go y H5 H6 Yes No ex g5 yy hyes hn => ?_) (fun H5 us g5 eD2 hus => ?_)
    · obtain ⟨rfl, e2⟩ := yy
      obtain ⟨b, z, rfl, hb, hz⟩ := hat g5 e2 ex
      refine ⟨b, _, rfl, hb, rfl, _, _, rfl, _, _, rfl, rfl, rfl, ?_⟩
      exact ⟨_, rfl, hyes _ _ _ rfl Gr.refl (.int _)⟩
    rw [filterMap_some'] at hus
    have e : os'.map (fun g => dI (worthOf ws g)) = (os'.map (worthOf ws)).map PyData.int := by
      rw [List.map_map]
      rfl
    rw [e] at hus
    rw [dpAll_int hus] at eD2
    refine ⟨D2, _, rfl, SqL.of eD2, ?_, fun m hm hmax => ?_⟩
    · rw [List.length_map]
      exact List.length_pos_of_mem ra.wd.ne
    have hmax' : ∀ g ∈ os', worthOf ws g ≤ m := fun g hg => hmax _ (List.mem_map.mpr ⟨g, hg, rfl⟩)
    -- the answer
    refine ⟨.int m, rfl, .ref D, rfl, D, rfl, ⟨_, SqL.of (g5.at eD)⟩, fun D3 hD3 => ?_⟩
    refine lcD (T := T) (K := K) os' (fun g => if decide (worthOf ws g = m) = true then some (tD g) else none) (fun _ _ e => by split at e <;> cases e; exact noL_tD _) walk_list zl hD3 (by omega) (fun H' g' => SqL.of (g'.at (g5.at eD))) (fun i go y H6 H7 Yes No ex g6 yy hyes hn => ?_) (fun H6 rs g6 eD3 hrs => ?_)
    · obtain ⟨rfl, e2⟩ := yy
      obtain ⟨b, z, rfl, hb, hz⟩ := hat (g5.trans g6) e2 ex
      refine ⟨b, _, rfl, hb, rfl, _, _, rfl, _, _, rfl, rfl, rfl, ?_⟩
      refine ⟨_, rfl, _, rfl, rfl, _, rfl, ite2 (fun e => ?_) (fun e => ?_)⟩
      · have e : V.int (worthOf ws go) = V.int m := of_decide_eq_true e
        exact ⟨_, rfl, hyes _ _ _ (if_pos (decide_eq_true (V.int.inj e))) Gr.refl hz⟩
      · refine hn _ (if_neg fun h => e (decide_eq_true ?_)) Gr.refl
        rw [of_decide_eq_true h]
    · rw [filterMap_if] at hrs
      obtain ⟨gm, hgm, egm⟩ := List.mem_map.mp hm
      have hgf : gm ∈ os'.filter fun g => decide (worthOf ws g = m) := List.mem_filter.mpr ⟨hgm, decide_eq_true egm⟩
      have hpf : (os'.filter fun g => decide (worthOf ws g = m)).Pairwise (· ≤ ·) := ra.wd.pw.filter _
      cases ef : os'.filter fun g => decide (worthOf ws g = m) with
      | nil => rw [ef] at hgf; cases hgf
      | cons g0 gr =>
        rw [ef] at hrs hpf
        refine ⟨D3, rs, tD g0, gr.map tD, rfl, SqL.of eD3, hrs, tD_AA (g0 :: gr), tD_dep (g0 :: gr), fun y hy => ?_⟩
        rw [minD_head fun z hz => by
          obtain ⟨b, hb, rfl⟩ := List.mem_map.mp hz
          exact lt_tD ((List.pairwise_cons.mp hpf).1 b hb)] at hy
        refine ⟨by show 2 ≤ sizeLine; decide, fun t nt => ?_⟩
        have gt := Gr.new (T := T) (o := HO.tup [.int m, y]) nt
        refine q _ _ m g0 hm hmax' (by rw [ef]; rfl) (((g04.trans g5).trans g6).trans gt) (.tup (SqT.of upd_same) (.cons (.int _) (.cons (gt.dp hy) .nil)))
end
end So
/-! sorted(d.items()), keys and values whole numbers -/
namespace So
open PySem PySem.Spec PyProof.Rows L2 PySem.W L2.DX
section
variable {X : Cx}
/-- the entries of a dict of whole numbers -/
abbrev dCnt (cs : List (Int × Nat)) : List (L2.Key × V) := cs.map fun c => (Sum.inl c.1, .int (c.2 : Nat))
def rItemsK : V → List V → Hp → VK → Prop := fun x xs H Q => ∃ (a : Addr) (kvs : List (L2.Key × V)), x = .ref a ∧ xs = [] ∧ H a = some (.dK kvs) ∧ ∀ p, H p = none → Q (.ref p) (upd H p (itemsO p a))
theorem mt_itemsK : MtR X "dict.items" rItemsK := by
  intro pins s σ H x xs v us Q I rx rxs h
  obtain ⟨a, kvs, rfl, rfl, ha, q⟩ := h
  cases rx
  cases rxs
  obtain ⟨z, hd, vs, rel, D⟩ := dk_of I.hok ha
  obtain ⟨es, ep, hraw, _, _⟩ := D.raw
  refine DT.callItems (es := es) (ep := ep) hd hraw ?_
  have hf : H s.heap.objs.size = none := I.hok.fresh (Nat.le_refl _)
  exact ⟨.ref s.heap.objs.size, upd H s.heap.objs.size (itemsO s.heap.objs.size a), I.laid (t' := s.toks) (fun b u e => Heap.get?_push_of_some _ e) (Nat.le_refl _) (itemsO_ok (Heap.get?_push_size _ rfl)), rfl, q _ hf⟩
def rSortIK : List V → Hp → VK → Prop := fun vs H Q => ∃ (p a : Addr) (cs : List (Int × Nat)), vs = [.ref p] ∧ H p = some (itemsO p a) ∧ H a = some (.dK (dCnt cs)) ∧
  ∀ (H' : Hp) (l : Addr) (ys : List V), (∀ b o, H b = some o → H' b = some o) → H' l = some (.lst ys) → TqAll H' ys ((cs.map fun c => [c.1, (c.2 : Int)]).mergeSort leL) → Q (.ref l) H'
theorem cr_sortIK (hc : X.calm = true) (hu : X.A.units + 65 < cLine) : CallR X (.builtin "sorted") rSortIK := by
  intro pins s σ H xs us Q I r h
  obtain ⟨p, a, cs, rfl, hp, ha, q⟩ := h
  obtain rfl := Vals.ref1 r
  have view : s.heap.IsItemsView p a := (show ObjOk X.prog X.w H s.heap p (itemsO p a) from I.hok p _ hp).1
  obtain ⟨z, hd, vs, rel, D⟩ := dk_of I.hok ha
  obtain ⟨es, ep, hraw, hsz, ent⟩ := D.raw
  have hvl : (dCnt cs).length = vs.length := Paired.length rel
  rw [List.length_map] at hvl z
  refine Calls.call_function_entry PyProof.Rows.kind_sorted PyProof.Rows.plain_sorted PyProof.Rows.entry_sorted (PyProof.Rows.args_sorted1 _) ?_
  unfold Builtin.«sorted»
  refine wpAny_bind (m := checkCount "sorted" 1 1 _) (wpAny_pure ?_)
  refine wpAny_bind (DT.collectI (A := X.A.in1) (es := es) (ep := ep) (I.ok.hd hc) view hraw (by rw [hsz, ← hvl]; exact z) fun h' tk as hk hlt hl hG => ?_)
  have I2 : Inv X pins σ H { s with heap := h', toks := tk } := I.kept hk
  have nd : as.Nodup := List.Pairwise.imp (fun h => Nat.ne_of_lt h) hG.rise
  have lak : as.length = cs.length := by omega
  have pr : ∀ (j : Nat) (b : Addr), as[j]? = some b → ∃ (c : Int × Nat) (k y : Value), cs[j]? = some c ∧ RelV (.int c.1) k ∧ RelV (.int (c.2 : Nat)) y ∧ h'.get? b = some { cls := .type "tuple", data := .seq #[k, y] } := by
    intro j b hj
    obtain ⟨en, he, hg⟩ := hG.pairs j b hj
    have hjl : j < cs.length := by
      have := (List.getElem?_eq_some_iff.mp hj).1
      omega
    have ec : cs[j]? = some cs[j] := List.getElem?_eq_getElem hjl
    have hjv : j < vs.length := by omega
    have ev : vs[j]? = some vs[j] := List.getElem?_eq_getElem hjv
    generalize vs[j] = y0 at ev
    obtain ⟨e0, he0, r1, r2⟩ := pget (j := j) rel ev
    rw [List.getElem?_map, ec] at he0
    cases he0
    have hje : j < es.size := by omega
    obtain ⟨k1, k2⟩ := ent j hje y0.1 y0.2 ev
    have e1 : es[j]? = some es[j] := Array.getElem?_eq_getElem hje
    rw [e1] at he
    cases he
    refine ⟨cs[j], _, _, ec, ?_, ?_, hg⟩
    · have : keyIs y0.1 es[j].key = true := k1
      rw [← r1] at this
      exact relV_key this
    · rw [k2]
      exact r2
  obtain ⟨H2, I3, g2, qt⟩ := takeT (P := fun b vs => ∃ (j : Nat) (c : Int × Nat), as[j]? = some b ∧ cs[j]? = some c ∧ vs = [.int c.1, .int (c.2 : Nat)]) I as H I2 nd fun b hb => by
    obtain ⟨j, hj⟩ := List.mem_iff_getElem?.mp hb
    obtain ⟨c, k, y, hc, rk, ry, hg⟩ := pr j b hj
    have hab := hG.above b hb
    exact ⟨Nat.le_of_lt hab, I.hok.fresh (Nat.le_of_lt hab), [.int c.1, .int (c.2 : Nat)], ⟨j, c, hj, hc, rfl⟩, fun H2 => ⟨by show 2 ≤ sizeLine; decide, [k, y], .cons rk (.cons ry .nil), _, hg, rfl, 0, rfl⟩⟩
  have e : EachIs (Stq H2) (as.map Value.ref) (cs.map fun c => [c.1, (c.2 : Int)]) := by
    refine each_ix (by rw [List.length_map, List.length_map, lak]) fun i v gg e1 e2 => ?_
    rw [List.getElem?_map] at e1 e2
    obtain ⟨b, hb, rfl⟩ := Option.map_eq_some_iff.mp e1
    obtain ⟨c, hc, rfl⟩ := Option.map_eq_some_iff.mp e2
    obtain ⟨vs2, ⟨j, c', hj, hc', rfl⟩, hq⟩ := qt b (List.mem_of_getElem? hb)
    have hij : i = j := by
      have h1 := List.getElem?_eq_some_iff.mp hb
      have h2 := List.getElem?_eq_some_iff.mp hj
      obtain ⟨h1, e1⟩ := h1
      obtain ⟨h2, e2⟩ := h2
      rcases Nat.lt_trichotomy i j with hl | hl | hl
      · have := List.pairwise_iff_getElem.mp hG.rise i j h1 h2 hl
        rw [e1, e2] at this
        exact absurd this (Nat.lt_irrefl _)
      · exact hl
      · have := List.pairwise_iff_getElem.mp hG.rise j i h2 h1 hl
        rw [e1, e2] at this
        exact absurd this (Nat.lt_irrefl _)
    subst hij
    rw [hc] at hc'
    cases hc'
    exact ⟨.ref b, rfl, b, rfl, hq⟩
  refine sortT_tail (A := X.A.in1) (hu := by show X.A.units + 1 + 64 < cLine; omega) I3 e (fun g hg => ?_) (by rw [List.length_map]; exact z) fun ys p' hys np => ?_
  · obtain ⟨c, _, rfl⟩ := List.mem_map.mp hg
    exact List.cons_ne_nil _ _
  · refine q (upd H2 p' (.lst ys)) p' ys (fun b o eb => ?_) upd_same ?_
    · rw [upd_ne (ne_of_none (g2 b o eb) np)]
      exact g2 b o eb
    · exact hys.mono fun x g ⟨t, e, ht⟩ => ⟨t, e, by rw [upd_ne (ne_of_none ht np)]; exact ht⟩
end
end So
namespace So
open PySem PySem.Spec PyProof.Rows L2 PySem.W LamX
open C8 (Cal pe_c pe_gc)
open RZ StX
/-! ### plain -/
/-- how far from the wishes -/
def farOf (wi g : List Int) : Int := ((List.zip g wi).map fun p => if p.1 - p.2 < 0 then -(p.1 - p.2) else p.1 - p.2).sum
/-- how many there are of each, in the order of their first -/
def cntPut (cs : List (Int × Nat)) (k : Int) : List (Int × Nat) := if k ∈ cs.map (·.1) then cs.map (fun c => if c.1 = k then (c.1, c.2 + 1) else c) else cs ++ [(k, 1)]
def cnt (l : List Nat) : List (Int × Nat) := l.foldl (fun cs (k : Nat) => cntPut cs (k : Int)) []
theorem cnt_snoc (l : List Nat) (k : Nat) : cnt (l ++ [k]) = cntPut (cnt l) (k : Int) := by
  unfold cnt
  rw [List.foldl_append]
  rfl
structure Cnt (l : List Nat) (cs : List (Int × Nat)) : Prop where
  nd : (cs.map (·.1)).Nodup
  eq : ∀ c ∈ cs, (c.2 : Nat) = l.countP fun (x : Nat) => decide ((x : Int) = c.1)
  mem : ∀ k : Int, k ∈ cs.map (·.1) ↔ ∃ x ∈ l, (x : Int) = k
theorem cnt_ok : ∀ l : List Nat, Cnt l (cnt l) := by
  intro l
  induction l using snoc_ind with
  | h0 => exact ⟨by simp [cnt], by simp [cnt], by simp [cnt]⟩
  | h1 l a ih =>
    rw [cnt_snoc]
    unfold cntPut
    by_cases h : (a : Int) ∈ (cnt l).map (·.1)
    · rw [if_pos h]
      have e : ((cnt l).map fun c => if c.1 = (a : Int) then (c.1, c.2 + 1) else c).map (·.1) = (cnt l).map (·.1) := by
        rw [List.map_map]
        refine List.map_congr_left fun c _ => ?_
        show (if c.1 = (a : Int) then (c.1, c.2 + 1) else c).1 = c.1
        split <;> rfl
      refine ⟨by rw [e]; exact ih.nd, fun c hc => ?_, fun k => ?_⟩
      · obtain ⟨c0, hc0, rfl⟩ := List.mem_map.mp hc
        have := ih.eq c0 hc0
        rw [List.countP_append]
        by_cases hk : c0.1 = (a : Int)
        · rw [if_pos hk]
          show c0.2 + 1 = _
          rw [this, hk]
          simp
        · rw [if_neg hk, this]
          simp
          omega
      · rw [e, ih.mem k]
        constructor
        · rintro ⟨x, hx, e⟩
          exact ⟨x, List.mem_append_left _ hx, e⟩
        · rintro ⟨x, hx, e'⟩
          rcases List.mem_append.mp hx with hx | hx
          · exact ⟨x, hx, e'⟩
          · rw [List.mem_singleton] at hx
            subst hx
            rw [e'] at h
            exact (ih.mem k).mp h
    · rw [if_neg h]
      have h2 : ¬ ∃ x ∈ l, (x : Int) = (a : Int) := fun z => h ((ih.mem _).mpr z)
      refine ⟨?_, fun c hc => ?_, fun k => ?_⟩
      · rw [List.map_append, List.nodup_append]
        refine ⟨ih.nd, by simp, fun x hx y hy e => ?_⟩
        simp at hy
        subst hy e
        exact h hx
      · rw [List.countP_append]
        rcases List.mem_append.mp hc with hc | hc
        · have := ih.eq c hc
          have hne : (a : Int) ≠ c.1 := fun z => h (by rw [z]; exact List.mem_map.mpr ⟨c, hc, rfl⟩)
          rw [this]
          simp [hne]
        · rw [List.mem_singleton] at hc
          subst hc
          have : l.countP (fun (x : Nat) => decide ((x : Int) = (a : Int))) = 0 := by
            rw [List.countP_eq_zero]
            intro x hx hd
            exact h2 ⟨x, hx, of_decide_eq_true hd⟩
          show 1 = _
          rw [this]
          simp
      · rw [List.map_append, List.mem_append, ih.mem k]
        constructor
        · rintro (⟨x, hx, e⟩ | hx)
          · exact ⟨x, List.mem_append_left _ hx, e⟩
          · simp at hx
            exact ⟨a, by simp, hx.symm⟩
        · rintro ⟨x, hx, e⟩
          rcases List.mem_append.mp hx with hx | hx
          · exact .inl ⟨x, hx, e⟩
          · rw [List.mem_singleton] at hx
            subst hx
            exact .inr (by simp [e])
/-- sorted, the table of how many -/
theorem cnt_sorted (l : List Nat) (ks : List Int) (hk : ks.Pairwise (· < ·)) (hm : ∀ k, k ∈ ks ↔ ∃ x ∈ l, (x : Int) = k) :
    ((cnt l).map fun c => [c.1, (c.2 : Int)]).mergeSort leL = ks.map fun k => [k, ((l.countP fun (x : Nat) => decide ((x : Int) = k) : Nat) : Int)] := by
  have ok := cnt_ok l
  have ndk : ks.Nodup := hk.imp fun h => by omega
  refine sorted_eq (sortL_pw _) ?_ ((List.mergeSort_perm _ _).nodup_iff.mpr ?_) ?_ fun g => ?_
  · rw [List.pairwise_map]
    exact hk.imp fun {a b} h => by
      refine List.le_of_lt ?_
      exact List.cons_lt_cons_iff.mpr (.inl h)
  · refine List.pairwise_map.mpr ?_
    have := List.pairwise_map.mp ok.nd
    exact this.imp fun h e => h (List.cons.inj e).1
  · refine List.pairwise_map.mpr (ndk.imp fun h e => h (List.cons.inj e).1)
  · rw [(List.mergeSort_perm _ _).mem_iff, List.mem_map, List.mem_map]
    constructor
    · rintro ⟨c, hc, rfl⟩
      refine ⟨c.1, (hm c.1).mpr ((ok.mem c.1).mp (List.mem_map.mpr ⟨c, hc, rfl⟩)), ?_⟩
      rw [ok.eq c hc]
    · rintro ⟨k, hk', rfl⟩
      obtain ⟨c, hc, rfl⟩ := List.mem_map.mp ((ok.mem k).mpr ((hm k).mp hk'))
      exact ⟨c, hc, by rw [ok.eq c hc]⟩
end So
namespace So
open PySem PySem.Spec PyProof.Rows L2 PySem.W LamX L2.DX
open C8 (Cal pe_c pe_gc)
open RZ StX
theorem valV_cnt (k : Int) : ∀ cs : List (Int × Nat), valV (dCnt cs) (Sum.inl k) = (cs.find? fun c => decide (c.1 = k)).map fun c => V.int (c.2 : Nat)
  | [] => rfl
  | c :: cs => by
    show valV ((Sum.inl c.1, V.int (c.2 : Nat)) :: dCnt cs) (Sum.inl k) = _
    by_cases h : c.1 = k
    · rw [valV_pos (by rw [h]), List.find?_cons_of_pos (by simpa using h)]
      rfl
    · rw [valV_neg (fun z => h (Sum.inl.inj z)), List.find?_cons_of_neg (by simpa using h), valV_cnt k cs]
theorem putK_cnt {cs : List (Int × Nat)} (nd : (cs.map (·.1)).Nodup) (k : Int) :
    putK (dCnt cs) (Sum.inl k) (.int (((valV (dCnt cs) (Sum.inl k)).map fun v => match v with | .int i => i | _ => 0).getD 0 + 1)) = dCnt (cntPut cs k) ∧ (valV (dCnt cs) (Sum.inl k)).getD (.int 0) = .int (((valV (dCnt cs) (Sum.inl k)).map fun v => match v with | .int i => i | _ => 0).getD 0) := by
  have hany : ((dCnt cs).any fun kv => decide (kv.1 = (Sum.inl k : L2.Key))) = true ↔ k ∈ cs.map (·.1) := by
    rw [List.any_eq_true]
    constructor
    · rintro ⟨x, hx, h⟩
      obtain ⟨c, hc, rfl⟩ := List.mem_map.mp hx
      have := Sum.inl.inj (of_decide_eq_true h)
      exact List.mem_map.mpr ⟨c, hc, this⟩
    · intro h
      obtain ⟨c, hc, rfl⟩ := List.mem_map.mp h
      exact ⟨_, List.mem_map.mpr ⟨c, hc, rfl⟩, decide_eq_true rfl⟩
  cases ef : cs.find? fun c => decide (c.1 = k) with
  | none =>
    have hn : k ∉ cs.map (·.1) := fun h => by
      obtain ⟨c, hc, e⟩ := List.mem_map.mp h
      have := List.find?_eq_none.mp ef c hc
      simp at this
      exact this e
    have ev : valV (dCnt cs) (Sum.inl k) = none := by rw [valV_cnt, ef]; rfl
    rw [ev]
    refine ⟨?_, rfl⟩
    unfold putK cntPut
    rw [if_neg (fun z => hn (hany.mp z)), if_neg hn]
    show dCnt cs ++ [(Sum.inl k, V.int (0 + 1))] = dCnt (cs ++ [(k, 1)])
    exact (List.map_append (l₁ := cs) (l₂ := [(k, 1)])).symm
  | some c =>
    have hc := List.mem_of_find?_eq_some ef
    have hk : c.1 = k := by
      have := List.find?_some ef
      simpa using this
    have hin : k ∈ cs.map (·.1) := List.mem_map.mpr ⟨c, hc, hk⟩
    have ev : valV (dCnt cs) (Sum.inl k) = some (.int (c.2 : Nat)) := by rw [valV_cnt, ef]; rfl
    rw [ev]
    refine ⟨?_, rfl⟩
    unfold putK cntPut
    rw [if_pos (hany.mpr hin), if_pos hin]
    show (dCnt cs).map _ = (cs.map _).map _
    rw [List.map_map, List.map_map]
    refine List.map_congr_left fun d hd => ?_
    show (if (Sum.inl d.1 : L2.Key) = Sum.inl k then (Sum.inl d.1, V.int ((c.2 : Nat) + 1)) else (Sum.inl d.1, V.int (d.2 : Nat))) = (Sum.inl (if d.1 = k then (d.1, d.2 + 1) else d).1, V.int ((if d.1 = k then (d.1, d.2 + 1) else d).2 : Nat))
    by_cases h : d.1 = k
    · rw [if_pos h, if_pos (by rw [h])]
      have : d = c := by
        have hp := List.pairwise_map.mp nd
        obtain ⟨i, hi, ei⟩ := List.mem_iff_getElem.mp hd
        obtain ⟨j, hj, ej⟩ := List.mem_iff_getElem.mp hc
        rcases Nat.lt_trichotomy i j with hl | hl | hl
        · have := List.pairwise_iff_getElem.mp hp i j hi hj hl
          rw [ei, ej, h, hk] at this
          exact absurd rfl this
        · subst hl
          rw [← ei, ej]
        · have := List.pairwise_iff_getElem.mp hp j i hj hi hl
          rw [ei, ej, h, hk] at this
          exact absurd rfl this
      subst this
      show (Sum.inl d.1, V.int ((d.2 : Int) + 1)) = (Sum.inl d.1, V.int ((d.2 + 1 : Nat) : Int))
      rw [show ((d.2 + 1 : Nat) : Int) = (d.2 : Int) + 1 by omega]
    · rw [if_neg h, if_neg (fun z => h (Sum.inl.inj z))]
theorem cntPut_len (cs : List (Int × Nat)) (k : Int) : (cntPut cs k).length ≤ cs.length + 1 := by
  unfold cntPut
  split
  · rw [List.length_map]
    omega
  · simp
theorem cnt_len : ∀ l : List Nat, (cnt l).length ≤ l.length := by
  intro l
  induction l using snoc_ind with
  | h0 => simp [cnt]
  | h1 l a ih =>
    rw [cnt_snoc, List.length_append]
    have := cntPut_len (cnt l) (a : Int)
    simp only [List.length_cons, List.length_nil]
    omega
section
variable {P : Program} {w : World} {K : PySem.W.Frag} {mg : Str → Option Value} {base : Heap} {T : List (Addr × Str)}
/-- the rows of the table -/
abbrev tabD (l : List Nat) (ks : List Int) : PyData := .tuple (ks.map fun k => tD [k, ((l.countP fun (x : Nat) => decide ((x : Int) = k) : Nat) : Int)])
def spTable (K : PySem.W.Frag) (T : List (Addr × Str)) : Sp := fun vs H Q _ => ∃ (v : V) (a : Addr) (n : Nat) (ties : List (Nat × Nat)) (hs : List Int) (os : List (List Int)) (δ : List Int → Nat), vs = [v, .ref a] ∧ RA K T H v a n ties hs os δ ∧
  ∀ H' v', Gr T H H' → (∀ ks : List Int, ks.Pairwise (· < ·) → (∀ k, k ∈ ks ↔ ∃ x ∈ os.map δ, (x : Int) = k) → Dp K H' v' (tabD (os.map δ) ks)) → Q v' H'
theorem ok_table {f : Addr} {fd : FuncData} (F : FnP K "steps_table" s_steps_table f fd) (N : Nm mg) (g : mg "steps_table" = some (.ref f)) (CS : Cal P w K mg base 5 "need_start" (spNeedStart K T) []) (CO : Cal P w K mg base 6 "steps_of" (spStepsOf K T) []) :
    Cal P w K mg base 7 "steps_table" (spTable K T) [] := by
  refine ⟨f, fd, _, [], F.ok sc_steps_table (fun vs H Q E h => ?_) (fun cdv A outer s H vs Q E hr h => ?_), g, F.kp, b_steps_table F, .nil⟩
  · obtain ⟨v, a, n, ties, hs, os, δ, rfl, _⟩ := h
    rfl
  · obtain ⟨v, a, n, ties, hs, os, δ, rfl, ra, q⟩ := h
    have nd := sc_steps_table.nd
    refine ⟨_, PSs.nox (pss_cons (ps_expr (pe_c CS hr (by decide) rfl (pa_cons (pv 0) (pa_cons (pv 1) pa_nil)))) (pss_cons (ps_set (i := 2) nd rfl (.inl rfl) pe_dnewK)
      (pss_cons (ps_for PassesOwn.never rfl (pi_valuesT (pe_frz (pe_c CO hr (by decide) rfl (pa_cons (pv 0) (pa_cons (pv 1) pa_nil))))) (pg_name (i := 3) nd rfl (.inl rfl))
        (pss_one (ps_dput (ru1 hr) (pv 2) (pv 3) (pe_op op_add (pe_dget2 (ru1 hr) (pv 2) (pv 3) pe_int ⟨rfl, rfl, rfl, rfl⟩) pe_int) rfl)))
      (pss_one (ps_ret (pe_callTy call_tuple_of rfl N.tuple_ (by decide +kernel) (pa_cons (pe_callB (cr_sortIK rfl (ru65 hr)) rfl N.sorted_ (by decide +kernel) (pa_cons (pe_bm0 PySem.F.plainAttrs_dict PySem.F.slot_dict_items PySem.F.type_dict_items mt_itemsK (pv 2)) pa_nil)) pa_nil))))))), ?_⟩
    refine ⟨v, rfl, .ref a, rfl, v, .ref a, n, ties, hs, rfl, ra.web, ra.wb, ra.dph, ra.len, ra.bd, fun H1 g1 => ?_⟩
    have r1 := ra.gr g1
    refine fun c nc => ?_
    have gc : Gr T H1 (upd H1 c (.dK [])) := Gr.new nc
    have nC : Nw H1 c := Nw.of nc
    have r2 := r1.gr gc
    have few := ra.few
    refine ⟨v, rfl, .ref a, rfl, v, a, n, ties, hs, os, δ, rfl, r2.web, r2.hts, r2.wb, r2.len, r2.tab, r2.wd, fun H2 d g2 nD ed => ?_⟩
    refine ⟨d, _, rfl, ed, fun o => ?_⟩
    have ec2 := g2.at (a := c) upd_same
    have hcd : c ≠ d := nD.ne upd_same
    have g3 : Gr T H1 (upd H2 d (.frz o (.dT (dOut os fun g => .int (δ g))))) := (gc.trans g2).put (Nw.back gc nD) ed
    refine ⟨d, o, _, rfl, upd_same, ?_⟩
    refine for_it walk_valsT (fun i σ H' => Gr T H1 H' ∧ H' d = some (.frz o (.dT (dOut os fun g => .int (δ g)))) ∧ H' c = some (.dK (dCnt (cnt ((os.take i).map δ)))) ∧ ∃ z3, σ = [some v, some (.ref a), some (.ref c), z3]) ⟨g3, upd_same, (upd_ne hcd).trans ec2, none, rfl⟩ (fun i σ H' _ h => h.2.1) (fun i x σ H3 H4 hi h y => ?_) (fun σ H' h => ?_)
    · obtain ⟨g4, ed4, ec4, z3, rfl⟩ := h
      obtain ⟨rfl, k, ek⟩ := y
      rw [List.length_map] at hi
      have eo : os[i]? = some os[i] := List.getElem?_eq_getElem hi
      generalize os[i] = go at eo
      rw [List.getElem?_map, eo] at ek
      cases ek
      have hpk := putK_cnt (cnt_ok ((os.take i).map δ)).nd ((δ go : Nat) : Int)
      have hlen := cnt_len ((os.take i).map δ)
      rw [List.length_map, List.length_take] at hlen
      refine ⟨.ref c, rfl, c, rfl, .inl ⟨_, .inl ec4⟩, .int (δ go : Nat), rfl, _, DGet.k (k := Sum.inl ((δ go : Nat) : Int)) ec4, ?_⟩
      rw [hpk.2]
      refine ⟨_, _, rfl, rfl, .ref c, rfl, .int (δ go : Nat), rfl, c, _, rfl, DPut.k (k := Sum.inl ((δ go : Nat) : Int)) ec4 (by rw [List.length_map]; exact Nat.lt_of_le_of_lt (show _ ≤ 1000 by omega) (by decide)), ?_⟩
      refine ⟨g4.put nC ec4, (upd_ne hcd.symm).trans ed4, ?_, _, rfl⟩
      rw [upd_same]
      show some (HO.dK (putK _ _ (V.int (_ + 1)))) = _
      rw [hpk.1, List.take_add_one, eo, List.map_append]
      exact congrArg (fun z => some (HO.dK (dCnt z))) (cnt_snoc ((os.take i).map δ) (δ go)).symm
    · obtain ⟨g4, ed4, ec4, z3, rfl⟩ := h
      rw [List.length_map, List.take_length] at ec4
      refine ⟨.ref c, rfl, .inr (.inr (.inl ⟨rfl, .inl ⟨_, ec4⟩⟩)), c, _, rfl, rfl, ec4, fun p np => ?_⟩
      have gp := Gr.new (T := T) (o := itemsO p c) np
      refine ⟨p, c, _, rfl, upd_same, gp.at ec4, fun H5 l ys k5 el hys => ?_⟩
      have g5 : Gr T (upd H' p (itemsO p c)) H5 := Gr.of k5
      refine ⟨l, ys, rfl, .inl ⟨SqL.of el, fun t nt => ?_⟩⟩
      have gt := Gr.new (T := T) (o := HO.tup ys) nt
      refine q _ _ ((((g1.trans g4).trans gp).trans g5).trans gt) fun ks hks hkm => ?_
      rw [cnt_sorted _ ks hks hkm] at hys
      have := tq_dp (K := K) (gt.tq hys)
      rw [List.map_map] at this
      exact .tup (SqT.of upd_same) this
end
end So
namespace So
open PySem PySem.Spec PyProof.Rows L2 PySem.W LamX L2.DX
open C8 (Cal pe_c pe_gc)
open RZ StX
section
variable {P : Program} {w : World} {K : PySem.W.Frag} {mg : Str → Option Value} {base : Heap} {T : List (Addr × Str)}
def spCheapest (K : PySem.W.Frag) (T : List (Addr × Str)) : Sp := fun vs H Q _ => ∃ (v x : V) (a : Addr) (n : Nat) (ties : List (Nat × Nat)) (hs : List Int) (os : List (List Int)) (δ : List Int → Nat) (ws : List Int) (st : Nat) (g0 : List Int) (gr : List (List Int)), vs = [v, .ref a, x, .int st] ∧ RA K T H v a n ties hs os δ ∧ Dp K H x (dInts ws) ∧ ws.length = n ∧ (∀ z ∈ ws, -1000 ≤ z ∧ z ≤ 1000) ∧ st ≤ 60 ∧
  (os.filter fun g => decide (δ g ≤ st)) = g0 :: gr ∧ ∀ H' v', Gr T H H' → Dp K H' v' (minD (dVP (worthOf ws g0) g0) (gr.map fun g => dVP (worthOf ws g) g)) → Q v' H'
theorem ok_cheapest {f : Addr} {fd : FuncData} (F : FnP K "cheapest" s_cheapest f fd) (N : Nm mg) (g : mg "cheapest" = some (.ref f)) (CS : Cal P w K mg base 5 "need_start" (spNeedStart K T) []) (CW : Cal P w K mg base 3 "need_weights" (spNeedWs K T) []) (CN : Cal P w K mg base 3 "need_from" spNeedFrom []) (CO : Cal P w K mg base 1 "worth" (spWorth K T) []) (CA : Cal P w K mg base 6 "steps_of" (spStepsOf K T) []) :
    Cal P w K mg base 7 "cheapest" (spCheapest K T) [] := by
  refine ⟨f, fd, _, [], F.ok sc_cheapest (fun vs H Q E h => ?_) (fun cdv A outer s H vs Q E hr h => ?_), g, F.kp, b_cheapest F, .nil⟩
  · obtain ⟨v, x, a, n, ties, hs, os, δ, ws, st, g0, gr, rfl, _⟩ := h
    rfl
  · obtain ⟨v, x, a, n, ties, hs, os, δ, ws, st, g0, gr, rfl, ra, hx, hwl, hwb, hst, ef, q⟩ := h
    have nd := sc_cheapest.nd
    refine ⟨_, PSs.nox (pss_cons (ps_expr (pe_c CS hr (by decide) rfl (pa_cons (pv 0) (pa_cons (pv 1) pa_nil)))) (pss_cons (ps_expr (pe_c CW hr (by decide) rfl (pa_cons (pv 0) (pa_cons (pv 2) pa_nil)))) (pss_cons (ps_expr (pe_c CN hr (by decide) rfl (pa_cons (pv 3) (pa_cons pe_int (pa_cons pe_int pa_nil)))))
      (pss_cons (ps_setLc (i := 4) (own := [("told", 5), ("many", 6)]) (g := gTup K 2 (gCons (gName 5) (gCons (gName 6) gNil))) (tt := tTest (tOp (rI0 fun i j => .bl (decide (i ≤ j))) (tVar 6) (tVar 3))) rfl nd rfl rfl (sw_true rfl rfl rfl (by decide +kernel)) (pi_itemsT (pe_frz (pe_c CA hr (by decide) rfl (pa_cons (pv 0) (pa_cons (pv 1) pa_nil))))) (blkOk_by (own := [("told", 5), ("many", 6)]) (N := ["web", "heights", "weights", "most", "some", "told", "many"]) (sc := defScope s_cheapest) (by decide +kernel))
          (fun _ _ _ _ _ => pg_tup (by rfl) (pgs_cons (pg_name (i := 5) nd rfl (Or.inl rfl)) (pgs_cons (pg_name (i := 6) nd rfl (Or.inl rfl)) pgs_nil))) (fun _ _ _ _ _ => pts_one (pt_cmpR op_le (pv 6) (pv 3) (nomark _))) (fun _ _ _ _ _ => pe_tup (pa_cons (pe_c CO hr (by decide) rfl (pa_cons (pv 2) (pa_cons (pv 5) pa_nil))) (pa_cons (pv 5) pa_nil))))
      (pss_one (ps_ret (pe_callB (cr_minD rfl hr.units) rfl N.min_ (by decide +kernel) (pa_cons (pv 4) pa_nil)))))))), ?_⟩
    refine ⟨v, rfl, .ref a, rfl, v, .ref a, n, ties, hs, rfl, ra.web, ra.wb, ra.dph, ra.len, ra.bd, fun H1 g1 => ?_⟩
    have r1 := ra.gr g1
    refine ⟨v, rfl, x, rfl, v, x, n, ties, ws, rfl, r1.web, g1.dp hx, hwl, ra.wb.le, hwb, fun H2 g2 => ?_⟩
    have r2 := r1.gr g2
    have few := ra.few
    refine ⟨.int st, rfl, st, 0, 60, rfl, by omega, by omega, ?_⟩
    refine ⟨v, rfl, .ref a, rfl, v, a, n, ties, hs, os, δ, rfl, r2.web, r2.hts, r2.wb, r2.len, r2.tab, r2.wd, fun H3 d g3 nD ed => ?_⟩
    refine ⟨d, _, rfl, ed, fun o => ?_⟩
    have g4 : Gr T H2 (upd H3 d (.frz o (.dT (dOut os fun g => .int (δ g))))) := g3.put nD ed
    have g04 := (g1.trans g2).trans g4
    refine ⟨d, o, _, rfl, upd_same, fun D hD => ?_⟩
    refine lcD (T := T) (K := K) os (fun g => if decide (δ g ≤ st) = true then some (dVP (worthOf ws g) g) else none) (fun _ _ e => by split at e <;> cases e; exact noL_VP _ _) walk_itemsT (by rw [List.length_map]) hD (by omega) (fun H' g' => g'.at upd_same) (fun i go y H4 H5 Yes No ex g5 yy hyes hn => ?_) (fun H' ys g' eD hys => ?_)
    · obtain ⟨t, k, u, qa, ek, rfl, nt, hqa, rfl⟩ := yy
      rw [List.getElem?_map, ex] at ek
      cases ek
      rw [kk_kV] at hqa
      have gt := Gr.new (T := T) (o := HO.tup [.ref qa, .int (δ go : Nat)]) nt
      have hgl := ra.glen (List.mem_of_getElem? ex)
      refine ⟨t, _, rfl, SqT.of upd_same, rfl, _, _, rfl, _, _, rfl, rfl, rfl, ?_⟩
      refine ⟨.int (δ go : Nat), rfl, .int st, rfl, _, _, rfl, rfl, _, rfl, ite2 (fun e => ?_) (fun e => ?_)⟩
      · have e : ((δ go : Nat) : Int) ≤ (st : Int) := of_decide_eq_true e
        have hq1 := gt.at hqa
        refine ⟨x, rfl, .ref qa, rfl, x, .ref qa, ws, go, rfl, ((g04.trans g5).trans gt).dp hx, .tup (SqT.of hq1) (int_dpAll _), by rw [hwl]; exact ra.wb.le, by rw [hgl, hwl], hwb, fun H6 g6 => ?_⟩
        refine ⟨.ref qa, rfl, by show 2 ≤ sizeLine; decide, fun t2 nt2 => ?_⟩
        have gt2 := Gr.new (T := T) (o := HO.tup [.int (worthOf ws go), .ref qa]) nt2
        exact hyes _ _ _ (if_pos (decide_eq_true (by omega))) ((gt.trans g6).trans gt2) (.tup (SqT.of upd_same) (.cons (.int _) (.cons (gt2.dp (.tup (SqT.of (g6.at hq1)) (int_dpAll _))) .nil)))
      · refine hn _ (if_neg fun h => e (decide_eq_true ?_)) gt
        have := of_decide_eq_true h
        show ((δ go : Nat) : Int) ≤ (st : Int)
        omega
    · rw [filterMap_if, ef] at hys
      refine ⟨.ref D, rfl, D, ys, dVP (worthOf ws g0) g0, gr.map fun g => dVP (worthOf ws g) g, rfl, SqL.of eD, hys, VP_AA (g0 :: gr) (worthOf ws), VP_dep (g0 :: gr) (worthOf ws), fun y hy => ?_⟩
      exact q _ _ (g04.trans g') hy
def spNearest (K : PySem.W.Frag) (T : List (Addr × Str)) : Sp := fun vs H Q _ => ∃ (v x : V) (a : Addr) (n : Nat) (ties : List (Nat × Nat)) (hs : List Int) (os : List (List Int)) (δ : List Int → Nat) (wi : List Int) (g0 : List Int) (gr : List (List Int)), vs = [v, .ref a, x] ∧ RA K T H v a n ties hs os δ ∧ Dp K H x (dInts wi) ∧ wi.length = n ∧ (∀ z ∈ wi, -1000 ≤ z ∧ z ≤ 1000) ∧
  os = g0 :: gr ∧ ∀ H' v', Gr T H H' → Dp K H' v' (minD (dVP (farOf wi g0) g0) (gr.map fun g => dVP (farOf wi g) g)) → Q v' H'
theorem ok_nearest {f : Addr} {fd : FuncData} (F : FnP K "nearest" s_nearest f fd) (N : Nm mg) (g : mg "nearest" = some (.ref f)) (CS : Cal P w K mg base 5 "need_start" (spNeedStart K T) []) (CH : Cal P w K mg base 4 "need_heights" (spNeedHs K T) []) (CA : Cal P w K mg base 3 "all_of" (spAllOf K T) []) :
    Cal P w K mg base 6 "nearest" (spNearest K T) [] := by
  refine ⟨f, fd, _, [], F.ok sc_nearest (fun vs H Q E h => ?_) (fun cdv A outer s H vs Q E hr h => ?_), g, F.kp, b_nearest F, .nil⟩
  · obtain ⟨v, x, a, n, ties, hs, os, δ, wi, g0, gr, rfl, _⟩ := h
    rfl
  · obtain ⟨v, x, a, n, ties, hs, os, δ, wi, g0, gr, rfl, ra, hx, hwl, hwb, ef, q⟩ := h
    have hx0 := hx
    obtain ⟨b, rfl, hb⟩ := dp_ints hx
    have nd := sc_nearest.nd
    refine ⟨_, PSs.nox (pss_cons (ps_expr (pe_c CS hr (by decide) rfl (pa_cons (pv 0) (pa_cons (pv 1) pa_nil)))) (pss_cons (ps_expr (pe_c CH hr (by decide) rfl (pa_cons (pv 0) (pa_cons (pv 2) pa_nil)))) (pss_cons (ps_set (i := 3) nd rfl (.inl rfl) (pe_lst pa_nil))
      (pss_cons (ps_for PassesOwn.never rfl (pi_list (pe_c CA hr (by decide) rfl (pa_cons (pv 0) (pa_cons (pv 1) pa_nil)))) (pg_name (i := 4) nd rfl (.inl rfl))
        (pss_one (ps_expr (pe_bm PySem.F.plainAttrs_list PySem.F.slot_list_append PySem.F.type_list_append mt_append (pv 3) (pa_cons (pe_tup (pa_cons (pe_callB (cr_sum rfl) rfl N.sum_ (by decide +kernel) (pa_cons
          (pe_lc (own := [("one", 5), ("wish", 6)]) (tt := tYes) rfl nd (pi_zipA rfl N.zip_ (pa_cons (pv 4) (pa_cons (pv 2) pa_nil))) (blkOk_by (own := [("one", 5), ("wish", 6)]) (N := ["web", "heights", "wishes", "some", "told", "one", "wish"]) (sc := defScope s_nearest) (by decide +kernel))
            (g := gTup K 2 (gCons (gName 5) (gCons (gName 6) gNil))) (fun _ _ _ _ _ => pg_tup (by rfl) (pgs_cons (pg_name (i := 5) nd rfl (Or.inl rfl)) (pgs_cons (pg_name (i := 6) nd rfl (Or.inl rfl)) pgs_nil))) (fun _ _ _ _ _ => pts_nil) (fun _ _ _ _ _ => pe_callB call_abs rfl N.abs_ (by decide +kernel) (pa_cons (pe_op op_sub (pv 5) (pv 6)) pa_nil))) pa_nil)) (pa_cons (pv 4) pa_nil))) pa_nil)))))
      (pss_one (ps_ret (pe_callB (cr_minD rfl hr.units) rfl N.min_ (by decide +kernel) (pa_cons (pv 3) pa_nil)))))))), ?_⟩
    refine ⟨v, rfl, .ref a, rfl, v, .ref a, n, ties, hs, rfl, ra.web, ra.wb, ra.dph, ra.len, ra.bd, fun H1 g1 => ?_⟩
    have r1 := ra.gr g1
    refine ⟨v, rfl, .ref b, rfl, v, .ref b, n, ties, wi, rfl, r1.web, g1.dp hx0, hwl, ra.wb.le, hwb, fun H2 g2 => ?_⟩
    have r2 := r1.gr g2
    have few := ra.few
    refine ⟨Nat.zero_le _, fun so ns => ?_⟩
    have gs : Gr T H2 (upd H2 so (.lst [])) := Gr.new ns
    have nS : Nw H2 so := Nw.of ns
    have r3 := r2.gr gs
    refine ⟨v, rfl, .ref a, rfl, v, a, n, ties, hs, rfl, r3.web, r3.hts, r3.wb, r3.len, fun H3 l ys os' g3 nL el hys hpw hnd hmem => ?_⟩
    have eo : os' = os := sorted_eq hpw ra.wd.pw hnd ra.wd.nd fun g => by rw [hmem g, ra.wd.mem g]
    subst eo
    have es3 := g3.at (a := so) upd_same
    have hls : l ≠ so := (nL.ne upd_same).symm
    refine ⟨l, rfl, ⟨_, SqL.of el⟩, ?_⟩
    refine for_it walk_list (fun i σ H' => Gr T H2 H' ∧ H' l = some (.lst ys) ∧ TqAll H' ys os' ∧ (∃ acc, H' so = some (.lst acc) ∧ DpAll K H' acc ((os'.take i).map fun g => dVP (farOf wi g) g)) ∧ ∃ z4 z5 z6, σ = [some v, some (.ref a), some (.ref b), some (.ref so), z4, z5, z6]) ⟨gs.trans g3, el, hys, ⟨[], es3, .nil⟩, none, none, none, rfl⟩ (fun i σ H' _ h => SqL.of h.2.1) (fun i y σ H4 H5 hi h yy => ?_) (fun σ H' h => ?_)
    · obtain ⟨g4, el4, hys4, ⟨acc, es4, hacc⟩, z4, z5, z6, rfl⟩ := h
      obtain ⟨rfl, e2⟩ := yy
      obtain ⟨go, eg, qa, rfl, hqa⟩ := each_at hys4 e2
      have hgo := List.mem_of_getElem? eg
      have hgl := ra.glen hgo
      have la := DpAll.len hacc
      rw [List.length_map, List.length_take] at la
      refine ⟨.ref so, rfl, .inl ⟨rfl, _, SqL.of es4⟩, ?_⟩
      refine ⟨.ref qa, rfl, .ref b, rfl, qa, b, _, _, rfl, .inr ⟨SqT.of hqa, ((g1.trans g2).trans g4).sqT hb, fun D hD => ?_⟩⟩
      refine lcD (T := T) (K := K) (List.zip go wi) (fun p => some (dI (if p.1 - p.2 < 0 then -(p.1 - p.2) else p.1 - p.2))) (fun _ _ e => by cases e; rfl) (walk_zipT rfl) (by rw [List.length_zip, List.length_map, List.length_map]) hD (by rw [List.length_zip]; have := ra.wb.le; omega) (fun H' g' => ⟨g'.sqT (SqT.of hqa), (((g1.trans g2).trans g4).trans g').sqT hb⟩) (fun j p y H6 H7 Yes No ex g6 y3 hyes hn => ?_) (fun H6 zs g6 eD hzs => ?_)
      · obtain ⟨t, x1, x2, rfl, nt, rfl, e3, e4⟩ := y3
        obtain ⟨w1, ew1, rfl⟩ := int_at e3
        obtain ⟨w2, ew2, rfl⟩ := int_at e4
        have ex2 : (List.zip go wi)[j]? = some (w1, w2) := List.getElem?_zip_eq_some.mpr ⟨ew1, ew2⟩
        cases ex2.symm.trans ex
        refine ⟨t, _, rfl, SqT.of upd_same, rfl, _, _, rfl, _, _, rfl, rfl, rfl, ?_⟩
        refine ⟨_, rfl, _, rfl, w1, w2, rfl, rfl, w1 - w2, rfl, ?_⟩
        exact hyes _ _ _ rfl (Gr.new nt) (.int _)
      · rw [filterMap_some'] at hzs
        have e : (List.zip go wi).map (fun p => dI (if p.1 - p.2 < 0 then -(p.1 - p.2) else p.1 - p.2)) = ((List.zip go wi).map fun p => if p.1 - p.2 < 0 then -(p.1 - p.2) else p.1 - p.2).map PyData.int := by
          rw [List.map_map]
          rfl
        rw [e] at hzs
        rw [dpAll_int hzs] at eD
        refine ⟨D, _, rfl, SqL.of eD, .ref qa, rfl, by show 2 ≤ sizeLine; decide, fun t nt => ?_⟩
        have gt := Gr.new (T := T) (o := HO.tup [.int (farOf wi go), .ref qa]) nt
        have g7 := g6.trans gt
        have es7 := g7.at es4
        refine ⟨so, acc, _, rfl, rfl, es7, Nat.lt_of_le_of_lt (show _ ≤ 1000 by omega) (by decide), ?_⟩
        have hyt : Dp K (upd H6 t (.tup [.int (farOf wi go), .ref qa])) (.ref t) (dVP (farOf wi go) go) := .tup (SqT.of upd_same) (.cons (.int _) (.cons (.tup (SqT.of (g7.at hqa)) (int_dpAll _)) .nil))
        refine ⟨(g4.trans g7).put nS es7, ?_, ?_, ⟨_, upd_same, ?_⟩, _, _, _, rfl⟩
        · exact (upd_ne hls).trans (g7.at el4)
        · exact tq_put es7 (g7.tq hys4)
        · rw [List.take_add_one, eg, List.map_append]
          refine dpAll_snoc (dpAll_put es7 (noLs_of fun d hd => ?_) (g7.dpAll hacc)) (dp_put es7 (noL_VP _ _) hyt)
          obtain ⟨g, _, rfl⟩ := List.mem_map.mp hd
          exact noL_VP _ _
    · obtain ⟨g4, el4, hys4, ⟨acc, es4, hacc⟩, z4, z5, z6, rfl⟩ := h
      rw [hys.length, List.take_length, ef] at hacc
      refine ⟨.ref so, rfl, so, acc, dVP (farOf wi g0) g0, gr.map fun g => dVP (farOf wi g) g, rfl, SqL.of es4, hacc, VP_AA (g0 :: gr) (farOf wi), VP_dep (g0 :: gr) (farOf wi), fun y hy => ?_⟩
      exact q _ _ ((g1.trans g2).trans g4) hy
end
end So
namespace So
open PySem PySem.Spec PyProof.Rows L2 PySem.W LamX L2.DX
open C8 (Cal pe_c pe_gc)
open RZ StX
section
variable {T : List (Addr × Str)} {K : PySem.W.Frag} {r : Addr} {H H' H0 H1 H2 : Hp}
/-- all but the tables and what stands at r stays -/
structure GrX (T : List (Addr × Str)) (r : Addr) (H H' : Hp) : Prop where
  ext : ∀ b o, b ≠ r → H b = some o → (∀ ps, o ≠ .tbl ps) → H' b = some o
  tab : Tabs T H → Tabs T H'
theorem GrX.refl : GrX T r H H := ⟨fun _ _ _ h _ => h, id⟩
theorem GrX.trans (a : GrX T r H H1) (b : GrX T r H1 H2) : GrX T r H H2 := ⟨fun c o n h t => b.ext c o n (a.ext c o n h t) t, fun t => b.tab (a.tab t)⟩
theorem GrX.of (g : Gr T H H') : GrX T r H H' := ⟨fun b o _ h n => g.ext b o h n, g.tab⟩
theorem GrX.at {a : Addr} {o : HO} (g : GrX T r H H') (n : a ≠ r) (h : H a = some o) (k : plainO o = true := by rfl) : H' a = some o := g.ext a o n h (plain_tbl k)
theorem GrX.put {a : Addr} {o o' : HO} (g : GrX T r H H') (n : Nw H a) (h : H' a = some o) (k : plainO o = true := by rfl) : GrX T r H (upd H' a o') := by
  refine ⟨fun b x nb e nt => ?_, fun t p hp => ?_⟩
  · have nb : b ≠ a := fun z => by
      subst z
      obtain ⟨ps, z⟩ := n x e
      exact nt ps z
    rw [upd_ne nb]
    exact g.ext b x ‹_› e nt
  · obtain ⟨ps, h1, h2, h3⟩ := g.tab t p hp
    refine ⟨ps, ?_, h2, fun pos cv hc => ?_⟩
    · rw [upd_ne (fun z => by rw [z, h] at h1; cases h1; cases k)]
      exact h1
    · obtain ⟨c, e1, e2⟩ := h3 pos cv hc
      refine ⟨c, e1, ?_⟩
      rw [upd_ne (fun z => by rw [z, h] at e2; cases e2; cases k)]
      exact e2
theorem GrX.putR {o o' : HO} (g : GrX T r H H') (h : H' r = some o) (k : plainO o = true := by rfl) : GrX T r H (upd H' r o') := by
  refine ⟨fun b x nb e nt => ?_, fun t p hp => ?_⟩
  · rw [upd_ne nb]
    exact g.ext b x nb e nt
  · obtain ⟨ps, h1, h2, h3⟩ := g.tab t p hp
    refine ⟨ps, ?_, h2, fun pos cv hc => ?_⟩
    · rw [upd_ne (fun z => by rw [z, h] at h1; cases h1; cases k)]
      exact h1
    · obtain ⟨c, e1, e2⟩ := h3 pos cv hc
      refine ⟨c, e1, ?_⟩
      rw [upd_ne (fun z => by rw [z, h] at e2; cases e2; cases k)]
      exact e2
theorem Nw.backX {a : Addr} (g : GrX T r H H') (n : a ≠ r) (h : Nw H' a) : Nw H a := fun o e => by
  by_cases k : ∃ ps, o = .tbl ps
  · exact k
  · exact h o (g.ext a o n e fun ps z => k ⟨ps, z⟩)
/-- a list that the top has written -/
def KLst (K : PySem.W.Frag) (a : Addr) (xs : List V) : Prop := ∃ (o : Obj) (its : Array Value) (n : Nat), K.lookup a = some o ∧ o.cls = .type "list" ∧ o.dict = none ∧ o.data = .seq its n ∧ its.size ≤ sizeLine ∧ Vals xs its.toList
/-- the law's row: the script, and how far it is read -/
structure RowAt (K : PySem.W.Frag) (H : Hp) (r sc : Addr) (ns : List Int) : Prop where
  row : ∃ i sd rs : Int, H r = some (.lst [.ref sc, .int i, .int sd, .int rs]) ∧ 0 ≤ i ∧ 0 ≤ sd ∧ sd < 2147483647
  scr : SqL K H sc (ns.map V.int)
  ne : KLst K sc (ns.map V.int) ∨ sc ≠ r
theorem RowAt.gr {sc : Addr} {ns : List Int} (w : RowAt K H r sc ns) (g : Gr T H H') : RowAt K H' r sc ns := by
  obtain ⟨⟨i, sd, rs, h, h1, h2, h3⟩, hs, n⟩ := w
  exact ⟨⟨i, sd, rs, g.at h, h1, h2, h3⟩, g.sqL hs, n⟩
theorem RowAt.put {sc a : Addr} {ns : List Int} {o o' : HO} (w : RowAt K H r sc ns) (h : H a = some o) (na : a ≠ r) (ns' : a ≠ sc) : RowAt K (upd H a o') r sc ns := by
  obtain ⟨⟨i, sd, rs, h0, h1, h2, h3⟩, hs, n⟩ := w
  refine ⟨⟨i, sd, rs, (upd_ne na.symm).trans h0, h1, h2, h3⟩, ?_, n⟩
  rcases hs with (q | ⟨z, q⟩) | q
  · exact .inl (.inl ((upd_ne ns'.symm).trans q))
  · exact .inl (.inr ⟨z, (upd_ne ns'.symm).trans q⟩)
  · exact .inr q
theorem RowAt.isL {sc : Addr} {ns : List Int} (w : RowAt K H r sc ns) : ∃ xs, H r = some (.lst xs) := by
  obtain ⟨⟨i, sd, rs, h, _⟩, _⟩ := w
  exact ⟨_, h⟩
theorem GrX.sqT {a : Addr} {xs : List V} (g : GrX T r H H') (hr : ∃ ys, H r = some (.lst ys)) (q : SqT K H a xs) : SqT K H' a xs := by
  obtain ⟨ys, hr⟩ := hr
  rcases q with (q | ⟨z, q⟩) | q
  · exact .inl (.inl (g.at (fun e => by rw [e, hr] at q; cases q) q))
  · exact .inl (.inr ⟨z, g.at (fun e => by rw [e, hr] at q; cases q) q⟩)
  · exact .inr q
theorem GrX.dp {v : V} {d : PyData} (g : GrX T r H H') (hr : ∃ ys, H r = some (.lst ys)) (n : noL d = true) (h : Dp K H v d) : Dp K H' v d := dp_keep (fun _ _ q => g.sqT hr q) d n h
theorem GrX.dpAll {vs : List V} {ds : List PyData} (g : GrX T r H H') (hr : ∃ ys, H r = some (.lst ys)) (n : noLs ds = true) (h : DpAll K H vs ds) : DpAll K H' vs ds := dpAll_keep (fun _ _ q => g.sqT hr q) ds n h
theorem GrX.tq {xs : List V} {gs : List (List Int)} (g : GrX T r H H') (hr : ∃ ys, H r = some (.lst ys)) (h : TqAll H xs gs) : TqAll H' xs gs := by
  obtain ⟨ys, hr⟩ := hr
  exact tq_mono (fun q t e => g.at (fun z => by rw [z, hr] at e; cases e) e) h
end
theorem upd_upd {H : Hp} {a : Addr} {o o' : HO} : upd (upd H a o) a o' = upd H a o' := by
  funext b
  by_cases h : b = a
  · subst h
    rw [upd_same, upd_same]
  · rw [upd_ne h, upd_ne h, upd_ne h]
section
variable {P : Program} {w : World} {K : PySem.W.Frag} {mg : Str → Option Value} {base : Heap} {T : List (Addr × Str)}
def spTaken (K : PySem.W.Frag) (T : List (Addr × Str)) : Sp := fun vs H Q _ => ∃ (r sc : Addr) (ns : List Int) (m : Nat), vs = [.ref r, .int m] ∧ RowAt K H r sc ns ∧ 1 ≤ m ∧ m ≤ 100 ∧
  ∀ H' (k : Nat), k < m → GrX T r H H' → RowAt K H' r sc ns → Q (.int k) H'
theorem mod_nat (x : Int) (m : Nat) (h : 1 ≤ m) : ∃ k : Nat, k < m ∧ x % (m : Int) = (k : Int) := by
  refine ⟨(x % (m : Int)).toNat, ?_, ?_⟩
  · have := Int.emod_lt_of_pos x (show (0 : Int) < m by omega)
    have := Int.emod_nonneg x (show (m : Int) ≠ 0 by omega)
    omega
  · have := Int.emod_nonneg x (show (m : Int) ≠ 0 by omega)
    omega
theorem sqL_ne {H : Hp} {a b : Addr} {o : HO} {xs : List V} (n : KLst K a xs ∨ a ≠ b) (h : SqL K H a xs) : SqL K (upd H b o) a xs := by
  rcases n with n | n
  · exact .inr n
  rcases h with (q | ⟨z, q⟩) | q
  · exact .inl (.inl ((upd_ne n).trans q))
  · exact .inl (.inr ⟨z, (upd_ne n).trans q⟩)
  · exact .inr q
theorem ok_taken {f : Addr} {fd : FuncData} (F : FnP K "_law_taken" s_law_taken f fd) (N : Nm mg) (g : mg "_law_taken" = some (.ref f)) :
    Cal P w K mg base 1 "_law_taken" (spTaken K T) [] := by
  refine ⟨f, fd, _, [], F.ok sc_law_taken (fun vs H Q E h => ?_) (fun cdv A outer s H vs Q E hr h => ?_), g, F.kp, b_law_taken F, .nil⟩
  · obtain ⟨r, sc, ns, m, rfl, _⟩ := h
    rfl
  · obtain ⟨r, sc, ns, m, rfl, ra, hm1, hm2, q⟩ := h
    have nd := sc_law_taken.nd
    have bi : bootBuiltins "int" = some (.type "int") := by decide +kernel
    refine ⟨_, PSs.nox (pss_cons (ps_if (pt_cmpR op_gt (pe_ix ix_list (pv 0) pe_int (fun _ _ => rfl)) pe_int (nomark _))
        (pss_cons (ps_set (i := 2) nd rfl (.inl rfl) (pe_op op_mod (pe_callTy call_int1 rfl N.int_ bi (pa_cons (pe_ix ix_list (pv 0) pe_int (fun _ _ => rfl)) pa_nil)) (pv 1)))
        (pss_cons (ps_asg (pe_op op_fdiv (pe_ix ix_list (pv 0) pe_int (fun _ _ => rfl)) (pv 1)) (pg_sub (pv 0) pe_int set_list (fun _ => rfl)))
        (pss_one (ps_ret (pv 2))))) pss_nil)
      (pss_cons (ps_asg (pe_op op_add (pe_ix ix_list (pv 0) pe_int (fun _ _ => rfl)) pe_int) (pg_sub (pv 0) pe_int set_list (fun _ => rfl)))
      (pss_cons (ps_if (pt_cmpR op_gt (pe_ix ix_list (pv 0) pe_int (fun _ _ => rfl)) (pe_callB call_len_seq rfl N.len_ PySem.boot_len (pa_cons (pe_ix ix_list (pv 0) pe_int (fun _ _ => rfl)) pa_nil)) (nomark _))
        (pss_cons (ps_asg (pe_op op_mod (pe_callTy call_int1 rfl N.int_ bi (pa_cons (pe_op op_add (pe_op op_mul (pe_ix ix_list (pv 0) pe_int (fun _ _ => rfl)) pe_int) pe_int) pa_nil)) pe_int) (pg_sub (pv 0) pe_int set_list (fun _ => rfl)))
        (pss_one (ps_ret (pe_op op_mod (pe_callTy call_int1 rfl N.int_ bi (pa_cons (pe_op op_fdiv (pe_ix ix_list (pv 0) pe_int (fun _ _ => rfl)) pe_int) pa_nil)) (pv 1))))) pss_nil)
      (pss_cons (ps_set (i := 3) nd rfl (.inl rfl) (pe_ix ix_list (pe_ix ix_list (pv 0) pe_int (fun _ _ => rfl)) (pe_op op_sub (pe_ix ix_list (pv 0) pe_int (fun _ _ => rfl)) pe_int) (fun _ _ => rfl)))
      (pss_cons (ps_asg (pe_op op_mod (pe_callTy call_int1 rfl N.int_ bi (pa_cons (pe_op op_add (pe_op op_add (pe_op op_mul (pe_ix ix_list (pv 0) pe_int (fun _ _ => rfl)) pe_int) (pv 3)) pe_int) pa_nil)) pe_int) (pg_sub (pv 0) pe_int set_list (fun _ => rfl)))
      (pss_cons (ps_if (pt_cmpR op_ge (pv 3) (pe_op op_pow pe_int pe_int) (nomark _))
        (pss_one (ps_asg (pe_op op_fdiv (pv 3) (pv 1)) (pg_sub (pv 0) pe_int set_list (fun _ => rfl)))) pss_nil)
      (pss_one (ps_ret (pe_op op_mod (pe_callTy call_int1 rfl N.int_ bi (pa_cons (pv 3) pa_nil)) (pv 1)))))))))), ?_⟩
    obtain ⟨⟨i, sd, rs, hrw, hi, hs1, hs2⟩, hsc, hne⟩ := ra
    have fin : ∀ (i' sd' rs' : Int) (k : Nat), 0 ≤ i' → 0 ≤ sd' → sd' < 2147483647 → k < m → Q (.int k) (upd H r (.lst [.ref sc, .int i', .int sd', .int rs'])) := fun i' sd' rs' k h1 h2 h3 hk =>
      q _ k hk (GrX.refl.putR hrw) ⟨⟨i', sd', rs', upd_same, h1, h2, h3⟩, sqL_ne hne hsc, hne⟩
    refine ⟨_, rfl, _, _, _, _, rfl, rfl, SqL.of hrw, atI_nat (j := 3) rfl, _, _, rfl, rfl, _, rfl, ite2 (fun e => ?_) (fun e => ?_)⟩
    · obtain ⟨k, hk, ek⟩ := mod_nat rs m hm1
      refine ⟨_, rfl, _, _, _, _, rfl, rfl, SqL.of hrw, atI_nat (j := 3) rfl, .inl ⟨rs, rfl, _, rfl, rs, (m : Int), rfl, rfl, by show (0 : Int) < m; omega, ?_⟩⟩
      refine ⟨_, rfl, _, _, _, _, rfl, rfl, SqL.of hrw, atI_nat (j := 3) rfl, _, rfl, rs, (m : Int), rfl, rfl, ⟨by show (0 : Int) < m; omega, by show (m : Int) < 1073741824; omega⟩, ?_⟩
      refine ⟨_, rfl, r, _, 3, 3, rfl, rfl, hrw, rfl, ?_⟩
      refine ⟨.int (rs % (m : Int)), rfl, ?_⟩
      rw [ek]
      exact fin i sd (rs / m) k hi hs1 hs2 hk
    · refine ⟨_, rfl, _, _, _, _, rfl, rfl, SqL.of hrw, atI_nat (j := 1) rfl, i, 1, rfl, rfl, _, rfl, r, _, 1, 1, rfl, rfl, hrw, rfl, ?_⟩
      have hrw1 : (upd H r (.lst ([.ref sc, .int i, .int sd, .int rs].set 1 (.int (i + 1))))) r = some (.lst [.ref sc, .int (i + 1), .int sd, .int rs]) := upd_same
      have hsc1 := sqL_ne (o := .lst ([.ref sc, .int i, .int sd, .int rs].set 1 (.int (i + 1)))) hne hsc
      refine ⟨_, rfl, _, _, _, _, rfl, rfl, SqL.of hrw1, atI_nat (j := 1) rfl, _, rfl, _, _, _, _, rfl, rfl, SqL.of hrw1, atI_nat (j := 0) rfl, sc, _, rfl, .inl hsc1, _, _, rfl, rfl, _, rfl, ite2 (fun e2 => ?_) (fun e2 => ?_)⟩
      · refine ⟨_, rfl, _, _, _, _, rfl, rfl, SqL.of hrw1, atI_nat (j := 2) rfl, sd, 48271, rfl, rfl, .inl ⟨by show -(2 ^ 64) < sd; omega, by show sd < 2 ^ 64; omega⟩, sd * 48271, 11, rfl, rfl, .inl ⟨_, rfl, sd * 48271 + 11, 2147483647, rfl, rfl, by show (0 : Int) < 2147483647; decide, ?_⟩⟩
        refine ⟨_, rfl, r, _, 2, 2, rfl, rfl, hrw1, rfl, ?_⟩
        rw [upd_upd]
        have b1 := Int.emod_nonneg (sd * 48271 + 11) (show (2147483647 : Int) ≠ 0 by decide)
        have b2 := Int.emod_lt_of_pos (sd * 48271 + 11) (show (0 : Int) < 2147483647 by decide)
        obtain ⟨k, hk, ek⟩ := mod_nat ((sd * 48271 + 11) % 2147483647 / 7) m hm1
        have hrw2 : (upd H r (.lst ([.ref sc, .int (i + 1), .int sd, .int rs].set 2 (.int ((sd * 48271 + 11) % 2147483647))))) r = some (.lst [.ref sc, .int (i + 1), .int ((sd * 48271 + 11) % 2147483647), .int rs]) := upd_same
        refine ⟨_, rfl, _, _, _, _, rfl, rfl, SqL.of hrw2, atI_nat (j := 2) rfl, (sd * 48271 + 11) % 2147483647, 7, rfl, rfl, ⟨by show (0 : Int) < 7; decide, by show (7 : Int) < 1073741824; decide⟩, .inl ⟨_, rfl, _, rfl, _, (m : Int), rfl, rfl, by show (0 : Int) < m; omega, ?_⟩⟩
        show Q (.int ((sd * 48271 + 11) % 2147483647 / 7 % (m : Int))) _
        rw [ek]
        exact fin (i + 1) _ rs k (by omega) b1 b2 hk
      · have hlen : i + 1 ≤ (ns.length : Int) := by
          have h : ¬ ((ns.map V.int).length : Int) < i + 1 := fun z => e2 (decide_eq_true z)
          rw [List.length_map] at h
          omega
        obtain ⟨j, rfl⟩ : ∃ j : Nat, i = (j : Int) := ⟨i.toNat, by omega⟩
        have hj : j < ns.length := by omega
        have ej : (ns.map V.int)[j]? = some (.int ns[j]) := by
          rw [List.getElem?_map, List.getElem?_eq_getElem hj]
          rfl
        generalize ns[j] = cell at ej
        refine ⟨_, rfl, _, _, _, _, rfl, rfl, SqL.of hrw1, atI_nat (j := 0) rfl, _, rfl, _, _, _, _, rfl, rfl, SqL.of hrw1, atI_nat (j := 1) rfl, (j : Int) + 1, 1, rfl, rfl, sc, _, (j : Int) + 1 - 1, .int cell, rfl, rfl, hsc1, ?_, ?_⟩
        · rw [show (j : Int) + 1 - 1 = (j : Int) by omega]
          exact atI_nat ej
        · refine ⟨_, rfl, _, _, _, _, rfl, rfl, SqL.of hrw1, atI_nat (j := 2) rfl, sd, 48271, rfl, rfl, .inl ⟨by show -(2 ^ 64) < sd; omega, by show sd < 2 ^ 64; omega⟩, _, rfl, sd * 48271, cell, rfl, rfl, sd * 48271 + cell, 11, rfl, rfl, .inl ⟨_, rfl, sd * 48271 + cell + 11, 2147483647, rfl, rfl, by show (0 : Int) < 2147483647; decide, ?_⟩⟩
          refine ⟨_, rfl, r, _, 2, 2, rfl, rfl, hrw1, rfl, ?_⟩
          rw [upd_upd]
          have b1 := Int.emod_nonneg (sd * 48271 + cell + 11) (show (2147483647 : Int) ≠ 0 by decide)
          have b2 := Int.emod_lt_of_pos (sd * 48271 + cell + 11) (show (0 : Int) < 2147483647 by decide)
          obtain ⟨k, hk, ek⟩ := mod_nat cell m hm1
          have hrw2 : (upd H r (.lst ([.ref sc, .int ((j : Int) + 1), .int sd, .int rs].set 2 (.int ((sd * 48271 + cell + 11) % 2147483647))))) r = some (.lst [.ref sc, .int ((j : Int) + 1), .int ((sd * 48271 + cell + 11) % 2147483647), .int rs]) := upd_same
          refine ⟨.int cell, rfl, 10, 18, rfl, rfl, ⟨by decide, by decide, by decide⟩, _, _, rfl, rfl, _, rfl, ite2 (fun e3 => ?_) (fun e3 => ?_)⟩
          · refine ⟨.int cell, rfl, _, rfl, cell, (m : Int), rfl, rfl, ⟨by show (0 : Int) < m; omega, by show (m : Int) < 1073741824; omega⟩, _, rfl, r, _, 3, 3, rfl, rfl, hrw2, rfl, ?_⟩
            rw [upd_upd]
            refine ⟨.int cell, rfl, .inl ⟨cell, rfl, _, rfl, cell, (m : Int), rfl, rfl, by show (0 : Int) < m; omega, ?_⟩⟩
            show Q (.int (cell % (m : Int))) _
            rw [ek]
            exact fin ((j : Int) + 1) _ _ k (by omega) b1 b2 hk
          · refine ⟨.int cell, rfl, .inl ⟨cell, rfl, _, rfl, cell, (m : Int), rfl, rfl, by show (0 : Int) < m; omega, ?_⟩⟩
            show Q (.int (cell % (m : Int))) _
            rw [ek]
            exact fin ((j : Int) + 1) _ rs k (by omega) b1 b2 hk
end
end So
namespace So
open PySem PySem.Spec PyProof.Rows L2 PySem.W LamX L2.DX
open C8 (Cal pe_c pe_gc)
open RZ StX
section
variable {T : List (Addr × Str)} {K : PySem.W.Frag} {r sc : Addr} {ns : List Int} {H H' H0 H1 H2 H4 : Hp}
theorem GrX.sqL {a : Addr} {xs : List V} (g : GrX T r H H') (n : KLst K a xs ∨ a ≠ r) (q : SqL K H a xs) : SqL K H' a xs := by
  rcases n with n | n
  · exact .inr n
  rcases q with (q | ⟨z, q⟩) | q
  · exact .inl (.inl (g.at n q))
  · exact .inl (.inr ⟨z, g.at n q⟩)
  · exact .inr q
theorem RowAt.of (w1 : RowAt K H1 r sc ns) (w4 : RowAt K H4 r sc ns) (g : GrX T r H1 H') (e : H' r = H4 r) : RowAt K H' r sc ns := by
  obtain ⟨⟨i, sd, rs, h, b⟩, _, _⟩ := w4
  exact ⟨⟨i, sd, rs, e.trans h, b⟩, g.sqL w1.ne w1.scr, w1.ne⟩
variable {J : It} {n : Nat} {G : Hp → Prop} {Y : Nat → Hp → V → Hp → Prop}
theorem lcX (Pz : Int → Prop) (w : Walk J n G Y) {g : TG} {tt : TT} {te : TE} {vs : List Nat} {σ : L2.St} {D : Addr} {Qd : Hp → Prop} (hD : H1 D = none) (hrow : RowAt K H1 r sc ns) (hn : n ≤ 1000) (hG : ∀ H, G H)
    (hs : ∀ (i : Nat) (x : V) (H H' : Hp) (Yes : V → Hp → Prop), i < n → GrX T r H1 H → RowAt K H r sc ns → Y i H x H' → (∀ z H4, Pz z → GrX T r H H4 → RowAt K H4 r sc ns → Yes (.int z) H4) →
      g x (wipe σ vs) H' fun σ2 H2 => wipe σ2 vs = wipe σ vs ∧ tt σ2 H2 fun b H3 => b = true ∧ te σ2 H3 Yes)
    (hd : ∀ (H' : Hp) (zs : List Int), GrX T r H1 H' → RowAt K H' r sc ns → H' D = some (.lst (zs.map V.int)) → zs.length = n → (∀ z ∈ zs, Pz z) → Qd H')
    (mg : ∀ x σ H Q Q', (∀ σ2 H2, Q σ2 H2 → Q' σ2 H2) → g x σ H Q → g x σ H Q') (mt : ∀ σ H Q Q', (∀ b H2, Q b H2 → Q' b H2) → tt σ H Q → tt σ H Q') :
    ∃ W : Nat → Nat → Hp → Prop, (∃ m, W 0 m (upd H1 D (.lst []))) ∧ ∀ i m H, W i m H →
      (J.stop i H ∧ Qd H) ∨ (J.go i H ∧ ∃ Nx : Hp → Prop, (∀ H', Nx H' → ∃ m', m' < m ∧ W (i + 1) m' H') ∧ ∀ x H', J.yld i H x H' → g x (wipe σ vs) H' fun σ2 H2 => wipe σ2 vs = wipe σ vs ∧ tt σ2 H2 fun b H3 =>
        if b = true then te σ2 H3 fun y H4 => ∃ acc, H4 D = some (.lst acc) ∧ acc.length < sizeLine ∧ Nx (upd H4 D (.lst (acc ++ [y]))) else Nx H3) := by
  have nD : Nw H1 D := Nw.of hD
  obtain ⟨rx, hrx⟩ := hrow.isL
  have hDr : D ≠ r := (ne_of_none hrx hD).symm
  refine lc_it w (fun i H => GrX T r H1 H ∧ RowAt K H r sc ns ∧ ∃ zs : List Int, H D = some (.lst (zs.map V.int)) ∧ zs.length = i ∧ ∀ z ∈ zs, Pz z) ?_ (fun _ H _ _ => hG H) ?_ ?_
  · exact ⟨.of (Gr.new hD), hrow.gr (T := T) (Gr.new hD), [], upd_same, rfl, by simp⟩
  · intro i x H H' hi hp y
    obtain ⟨g1, w1, zs, e, hl, hz⟩ := hp
    refine mg _ _ _ _ _ (fun σ2 H2 h => ⟨h.1, mt _ _ _ _ (fun b H3 h => ?_) h.2⟩) (hs i x H H' (fun y H4 => ∃ acc, H4 D = some (.lst acc) ∧ acc.length < sizeLine ∧ (GrX T r H1 (upd H4 D (.lst (acc ++ [y]))) ∧ RowAt K (upd H4 D (.lst (acc ++ [y]))) r sc ns ∧ ∃ zs : List Int, (upd H4 D (.lst (acc ++ [y]))) D = some (.lst (zs.map V.int)) ∧ zs.length = i + 1 ∧ ∀ z ∈ zs, Pz z)) hi g1 w1 y (fun z H4 hpz g4 w4 => ?_))
    · rw [if_pos h.1]
      exact h.2
    · have e4 := g4.at hDr e
      have gg := (g1.trans g4).put nD e4 (o' := .lst (zs.map V.int ++ [.int z]))
      refine ⟨_, e4, by rw [List.length_map, hl]; exact Nat.lt_of_lt_of_le hi (Nat.le_trans hn (by decide)), gg, hrow.of w4 gg (upd_ne hDr.symm), zs ++ [z], ?_, by rw [List.length_append, hl]; rfl, fun x hx => ?_⟩
      · rw [upd_same, List.map_append]
        rfl
      · rcases List.mem_append.mp hx with hx | hx
        · exact hz x hx
        · rw [List.mem_singleton.mp hx]
          exact hpz
  · intro H hp
    obtain ⟨g1, w1, zs, e, hl, hz⟩ := hp
    exact hd H zs g1 w1 e hl hz
end
section
variable {P : Program} {w : World} {K : PySem.W.Frag} {mg : Str → Option Value} {base : Heap} {T : List (Addr × Str)}
def spHeights (K : PySem.W.Frag) (T : List (Addr × Str)) : Sp := fun vs H Q _ => ∃ (r sc : Addr) (ns : List Int) (n : Nat), vs = [.ref r, .int n, .int 6] ∧ RowAt K H r sc ns ∧ n ≤ 4 ∧
  ∀ (H' : Hp) (l : Addr) (hs : List Int), GrX T r H H' → RowAt K H' r sc ns → Nw H l → H' l = some (.tup (hs.map V.int)) → hs.length = n → (∀ x ∈ hs, -2 ≤ x ∧ x ≤ 3) → Q (.ref l) H'
theorem ok_heights {f : Addr} {fd : FuncData} (F : FnP K "_law_heights" s_law_heights f fd) (N : Nm mg) (g : mg "_law_heights" = some (.ref f)) (CT : Cal P w K mg base 1 "_law_taken" (spTaken K T) []) :
    Cal P w K mg base 2 "_law_heights" (spHeights K T) [] := by
  refine ⟨f, fd, _, [], F.ok sc_law_heights (fun vs H Q E h => ?_) (fun cdv A outer s H vs Q E hr h => ?_), g, F.kp, b_law_heights F, .nil⟩
  · obtain ⟨r, sc, ns, n, rfl, _⟩ := h
    rfl
  · obtain ⟨r, sc, ns, n, rfl, ra, hn, q⟩ := h
    have nd := sc_law_heights.nd
    refine ⟨_, PSs.nox (pss_one (ps_ret (pe_callTy call_tuple_of rfl N.tuple_ (by decide +kernel) (pa_cons
      (pe_lc (own := [("_law_one", 3)]) (g := gName 3) (tt := tYes) rfl nd (pi_range1 rfl N.range_ (pa_cons (pv 1) pa_nil)) (blkOk_by (own := [("_law_one", 3)]) (N := ["_law_row", "_law_many", "_law_high", "_law_one"]) (sc := defScope s_law_heights) (by decide +kernel)) (fun _ _ _ _ _ => pg_name (i := 3) nd rfl (Or.inl rfl)) (fun _ _ _ _ _ => pts_nil)
        (fun _ _ _ _ _ => pe_op op_sub (pe_c CT hr (by decide) rfl (pa_cons (pv 0) (pa_cons (pv 2) pa_nil))) (pe_op op_fdiv (pv 2) pe_int))) pa_nil)))), ?_⟩
    refine ⟨.int n, rfl, n, rfl, by omega, by omega, fun D hD => ?_⟩
    refine lcX (T := T) (K := K) (r := r) (sc := sc) (ns := ns) (fun z => -2 ≤ z ∧ z ≤ 3) (walk_rg0 (Int.toNat_natCast n)) hD ra (by omega) (fun _ => True.intro) (fun i x H2 H3 Yes hi g2 w2 y hy => ?_) (fun H' zs g' w' eD hzl hz => ?_) ?_ ?_
    · obtain ⟨rfl, rfl⟩ := y
      refine ⟨rfl, rfl, ?_⟩
      refine ⟨.ref r, rfl, .int 6, rfl, r, sc, ns, 6, rfl, w2, by decide, by decide, fun H4 k hk g4 w4 => ?_⟩
      refine ⟨.int 6, rfl, 6, 3, rfl, rfl, ⟨by decide, by decide⟩, (k : Int), 6 / 3, rfl, rfl, ?_⟩
      exact hy _ _ ⟨by show (-2 : Int) ≤ (k : Int) - 6 / 3; omega, by show (k : Int) - 6 / 3 ≤ 3; omega⟩ g4 w4
    · obtain ⟨rx, hrx⟩ := ra.isL
      refine ⟨D, _, rfl, .inl ⟨SqL.of eD, fun l nl => ?_⟩⟩
      have gl := Gr.new (T := T) (o := HO.tup (zs.map V.int)) nl
      have w'' := w'.gr (T := T) gl
      obtain ⟨ry, hry⟩ := w'.isL
      exact q _ l zs (g'.trans (.of gl)) w'' (Nw.backX g' (ne_of_none hry nl).symm (Nw.of nl)) upd_same hzl hz
    · intro x σ H Q Q' h hq
      exact h _ _ hq
    · intro σ H Q Q' h hq
      exact h _ _ hq
end
end So
namespace So
open PySem PySem.Spec PyProof.Rows L2 PySem.W LamX L2.DX
open C8 (Cal pe_c pe_gc)
open RZ StX
/-! ### plain: the made web -/
def ins (found : List (List Int)) (g : List Int) : List (List Int) := if g ∈ found then found else found ++ [g]
theorem putK_ins (found : List (List Int)) (g : List Int) (f : List Int → V) : putK (dOut found f) (kk g) (f g) = dOut (ins found g) f := by
  unfold ins
  by_cases h : g ∈ found
  · rw [if_pos h]
    unfold putK
    rw [if_pos]
    · rw [List.map_map]
      refine List.map_congr_left fun x _ => ?_
      show (if kk x = kk g then (kk x, f g) else (kk x, f x)) = (kk x, f x)
      by_cases hx : kk x = kk g
      · rw [if_pos hx, kk_inj hx]
      · rw [if_neg hx]
    · rw [valV_any, valV_out, if_pos h]
      rfl
  · rw [if_neg h]
    exact putK_out h
structure TieL (n c : Nat) (found : List (List Int)) : Prop where
  nd : found.Nodup
  ok : ∀ g ∈ found, ∃ a b : Nat, g = [(a : Int), (b : Int)] ∧ a < b ∧ b < n
  len : found.length ≤ c
theorem TieL.ins {n c : Nat} {found : List (List Int)} (t : TieL n c found) {a b : Nat} (h1 : a < b) (h2 : b < n) : TieL n (c + 1) (ins found [(a : Int), (b : Int)]) := by
  unfold So.ins
  by_cases h : [(a : Int), (b : Int)] ∈ found
  · rw [if_pos h]
    exact ⟨t.nd, t.ok, Nat.le_succ_of_le t.len⟩
  · rw [if_neg h]
    refine ⟨?_, fun g hg => ?_, ?_⟩
    · rw [List.nodup_append]
      refine ⟨t.nd, by simp, fun x hx y hy e => ?_⟩
      rw [List.mem_singleton] at hy
      subst e hy
      exact h hx
    · rcases List.mem_append.mp hg with hg | hg
      · exact t.ok g hg
      · rw [List.mem_singleton.mp hg]
        exact ⟨a, b, rfl, h1, h2⟩
    · rw [List.length_append]
      have := t.len
      simp only [List.length_cons, List.length_nil]
      omega
def tieOf (g : List Int) : Nat × Nat := ((g.getD 0 0).toNat, (g.getD 1 0).toNat)
theorem tie_web {n c : Nat} {found : List (List Int)} (t : TieL n c found) (hc : c ≤ 16) (hn : 1 ≤ n) (hn4 : n ≤ 4) :
    Wb n ((found.mergeSort leL).map tieOf) ∧ ((found.mergeSort leL).map tD) = ((found.mergeSort leL).map tieOf).map dPair := by
  have hp := sortL_pw found
  have hnd : (found.mergeSort leL).Nodup := (List.mergeSort_perm found leL).nodup_iff.mpr t.nd
  have hmem : ∀ g ∈ found.mergeSort leL, ∃ a b : Nat, g = [(a : Int), (b : Int)] ∧ a < b ∧ b < n := fun g hg => t.ok g ((List.mergeSort_perm found leL).mem_iff.mp hg)
  have hlen : (found.mergeSort leL).length ≤ c := by
    rw [(List.mergeSort_perm found leL).length_eq]
    exact t.len
  generalize found.mergeSort leL = gs at hp hnd hmem hlen
  refine ⟨⟨hn, hn4, by rw [List.length_map]; omega, fun x hx => ?_, fun i s u hs hu => ?_⟩, ?_⟩
  · obtain ⟨g, hg, rfl⟩ := List.mem_map.mp hx
    obtain ⟨a, b, rfl, h1, h2⟩ := hmem g hg
    exact ⟨h1, h2⟩
  · rw [List.getElem?_map] at hs hu
    obtain ⟨g1, e1, rfl⟩ := Option.map_eq_some_iff.mp hs
    obtain ⟨g2, e2, rfl⟩ := Option.map_eq_some_iff.mp hu
    obtain ⟨l1, e1'⟩ := List.getElem?_eq_some_iff.mp e1
    obtain ⟨l2, e2'⟩ := List.getElem?_eq_some_iff.mp e2
    have hle := List.pairwise_iff_getElem.mp hp i (i + 1) l1 l2 (by omega)
    have hne := List.pairwise_iff_getElem.mp hnd i (i + 1) l1 l2 (by omega)
    rw [e1', e2'] at hle hne
    obtain ⟨a, b, rfl, h1, h2⟩ := hmem g1 (List.mem_of_getElem? e1)
    obtain ⟨c', d, rfl, h3, h4⟩ := hmem g2 (List.mem_of_getElem? e2)
    have hle : ¬ [(c' : Int), (d : Int)] < [(a : Int), (b : Int)] := hle
    simp only [List.cons_lt_cons_iff] at hle
    show a < c' ∨ (a = c' ∧ b < d)
    by_cases hac : a = c'
    · right
      refine ⟨hac, ?_⟩
      subst hac
      rcases Nat.lt_trichotomy b d with h | h | h
      · exact h
      · subst h
        exact absurd rfl hne
      · exact absurd (.inr ⟨rfl, .inl (by omega)⟩) hle
    · left
      rcases Nat.lt_or_gt_of_ne hac with h | h
      · exact h
      · exact absurd (.inl (by omega)) hle
  · rw [List.map_map]
    refine List.map_congr_left fun g hg => ?_
    obtain ⟨a, b, rfl, _, _⟩ := hmem g hg
    rfl
section
variable {P : Program} {w : World} {K : PySem.W.Frag} {mg : Str → Option Value} {base : Heap} {T : List (Addr × Str)}
theorem keys_tq {H : Hp} {f : List Int → V} : ∀ {gs : List (List Int)} {bs : List Addr}, IsKeys H (dOut gs f) bs → TqAll H (bs.map V.ref) gs
  | [], bs, h => by
    cases h
    exact .nil
  | g :: gs, bs, h => by
    cases h with
    | cons h1 h2 =>
      refine .cons ⟨_, rfl, ?_⟩ (keys_tq h2)
      have h1 := h1
      simp only [kk_kV] at h1
      exact h1
def spWeb (K : PySem.W.Frag) (T : List (Addr × Str)) : Sp := fun vs H Q _ => ∃ (r sc : Addr) (ns : List Int), vs = [.ref r, .int 4, .int 3] ∧ RowAt K H r sc ns ∧
  ∀ (H' : Hp) (v : V) (n : Nat) (ties : List (Nat × Nat)), GrX T r H H' → RowAt K H' r sc ns → Wb n ties → Dp K H' v (dWeb n ties) → Q v H'
theorem ok_law_web {f : Addr} {fd : FuncData} (F : FnP K "_law_web" s_law_web f fd) (N : Nm mg) (g : mg "_law_web" = some (.ref f)) (CT : Cal P w K mg base 1 "_law_taken" (spTaken K T) []) :
    Cal P w K mg base 2 "_law_web" (spWeb K T) [] := by
  refine ⟨f, fd, _, [], F.ok sc_law_web (fun vs H Q E h => ?_) (fun cdv A outer s H vs Q E hr h => ?_), g, F.kp, b_law_web F, .nil⟩
  · obtain ⟨r, sc, ns, rfl, _⟩ := h
    rfl
  · obtain ⟨r, sc, ns, rfl, ra, q⟩ := h
    have nd := sc_law_web.nd
    refine ⟨_, PSs.nox (pss_cons (ps_set (i := 3) nd rfl (.inl rfl) (pe_op op_add pe_int (pe_c CT hr (by decide) rfl (pa_cons (pv 0) (pa_cons (pv 1) pa_nil)))))
      (pss_cons (ps_set (i := 4) nd rfl (.inl rfl) pe_dnewT)
      (pss_cons (ps_for PassesOwn.never rfl (pi_range2 rfl N.range_ (pa_cons pe_int (pa_cons (pv 3) pa_nil))) (pg_name (i := 5) nd rfl (.inl rfl))
        (pss_one (ps_if (pt_cmpR op_gt (pe_c CT hr (by decide) rfl (pa_cons (pv 0) (pa_cons pe_int pa_nil))) pe_int (nomark _)) (pss_one (ps_dput (ru1 hr) (pv 4) (pe_tup (pa_cons (pe_c CT hr (by decide) rfl (pa_cons (pv 0) (pa_cons (pv 5) pa_nil))) (pa_cons (pv 5) pa_nil))) pe_bl rfl)) pss_nil)))
      (pss_cons (ps_for PassesOwn.never rfl (pi_range1 rfl N.range_ (pa_cons (pe_ifExp (pt_cmpR op_gt (pv 3) pe_int (nomark _)) (pe_c CT hr (by decide) rfl (pa_cons (pv 0) (pa_cons (pe_op op_add (pv 2) pe_int) pa_nil))) pe_int) pa_nil)) (pg_name (i := 6) nd rfl (.inl rfl))
        (pss_cons (ps_set (i := 7) nd rfl (.inl rfl) (pe_c CT hr (by decide) rfl (pa_cons (pv 0) (pa_cons (pe_op op_sub (pv 3) pe_int) pa_nil))))
        (pss_one (ps_dput (ru1 hr) (pv 4) (pe_tup (pa_cons (pv 7) (pa_cons (pe_op op_add (pe_op op_add (pv 7) pe_int) (pe_c CT hr (by decide) rfl (pa_cons (pv 0) (pa_cons (pe_op op_sub (pe_op op_sub (pv 3) pe_int) (pv 7)) pa_nil)))) pa_nil))) pe_bl rfl))))
      (pss_one (ps_ret (pe_tup (pa_cons (pv 3) (pa_cons (pe_callTy call_tuple_of rfl N.tuple_ (by decide +kernel) (pa_cons (pe_callB (cr_sortTT hr.units) rfl N.sorted_ (by decide +kernel) (pa_cons (pe_callTy (call_list_dT rfl) rfl N.list_ (by decide +kernel) (pa_cons (pv 4) pa_nil)) pa_nil)) pa_nil)) pa_nil))))))))), ?_⟩
    refine ⟨.ref r, rfl, .int 4, rfl, r, sc, ns, 4, rfl, ra, by decide, by decide, fun H1 k0 hk0 g1 w1 => ?_⟩
    refine ⟨1, (k0 : Int), rfl, rfl, ?_⟩
    obtain ⟨n, hn, hn1, hn4⟩ : ∃ n : Nat, (1 : Int) + (k0 : Int) = (n : Int) ∧ 1 ≤ n ∧ n ≤ 4 := ⟨1 + k0, by omega, by omega, by omega⟩
    show ∀ p, H1 p = none → _
    intro d nd1
    obtain ⟨rx, hrx⟩ := w1.isL
    have hdr : d ≠ r := (ne_of_none hrx nd1).symm
    have nD : Nw H d := Nw.backX g1 hdr (Nw.of nd1)
    have g2 : GrX T r H (upd H1 d (.dT [])) := g1.trans (.of (Gr.new nd1))
    have w2 : RowAt K (upd H1 d (.dT [])) r sc ns := w1.gr (T := T) (Gr.new nd1)
    simp only [hn]
    -- a store into the dict
    have store : ∀ {H' : Hp} {found : List (List Int)} {c a b : Nat} {t : Addr}, GrX T r H H' → RowAt K H' r sc ns → H' d = some (.dT (dOut found fun _ => .bl true)) → TieL n c found → c ≤ 16 → a < b → b < n → H' t = some (.tup [.int a, .int b]) →
        ∃ H4, DPut H' d (.ref t) (.bl true) H4 ∧ GrX T r H H4 ∧ RowAt K H4 r sc ns ∧ H4 d = some (.dT (dOut (ins found [(a : Int), (b : Int)]) fun _ => .bl true)) ∧ TieL n (c + 1) (ins found [(a : Int), (b : Int)]) := by
      intro H' found c a b t g' w' ed tl hc h1 h2 ht
      have gg := g'.put nD ed (o' := .dT (dOut (ins found [(a : Int), (b : Int)]) fun _ => .bl true))
      refine ⟨upd H' d (.dT (dOut (ins found [(a : Int), (b : Int)]) fun _ => .bl true)), ?_, gg, ra.of w' gg (upd_ne hdr.symm), upd_same, tl.ins h1 h2⟩
      have := DPut.t (k := kk [(a : Int), (b : Int)]) (v := .bl true) ed (b := t) ht (by rw [List.length_map]; have := tl.len; exact Nat.lt_of_le_of_lt (show _ ≤ 1000 by omega) (by decide))
      rw [putK_ins found [(a : Int), (b : Int)] fun _ => V.bl true] at this
      exact this
    -- the first loop
    refine ⟨.int n, rfl, 1, (n : Int), rfl, ⟨by omega, by omega, by omega, by omega⟩, ?_⟩
    refine for_range (lo := 1) (n := ((n : Int) - 1).toNat) (fun i σ H' => GrX T r H H' ∧ RowAt K H' r sc ns ∧ ∃ found z5 z6 z7, σ = [some (.ref r), some (.int 4), some (.int 3), some (.int n), some (.ref d), z5, z6, z7] ∧ H' d = some (.dT (dOut found fun _ => .bl true)) ∧ TieL n i found) ⟨g2, w2, [], none, none, none, rfl, upd_same, ⟨by simp, by simp, by simp⟩⟩ (fun i σ H3 hi h => ?_) (fun σ H3 h => ?_)
    · obtain ⟨g3, w3, found, z5, z6, z7, rfl, ed, tl⟩ := h
      obtain ⟨p, hp⟩ : ∃ p : Nat, (1 : Int) + (i : Int) = (p : Int) := ⟨1 + i, by omega⟩
      simp only [hp]
      refine ⟨.ref r, rfl, r, sc, ns, 7, rfl, w3, by decide, by decide, fun H4 k hk g4 w4 => ?_⟩
      have ed4 := g4.at hdr ed
      refine ⟨_, _, rfl, rfl, _, rfl, ite2 (fun e => ?_) (fun e => ?_)⟩
      · refine ⟨.ref d, rfl, .ref r, rfl, .int p, rfl, r, sc, ns, p, rfl, w4, by omega, by omega, fun H5 k5 hk5 g5 w5 => ?_⟩
        refine ⟨.int p, rfl, by show 2 ≤ sizeLine; decide, fun t nt => ?_⟩
        have gt := Gr.new (T := T) (o := HO.tup [.int k5, .int p]) nt
        obtain ⟨H6, hput, g6, w6, ed6, tl6⟩ := store (a := k5) (b := p) (t := t) (((g3.trans g4).trans g5).trans (.of gt)) (w5.gr gt) (gt.at (g5.at hdr ed4)) tl (by omega) hk5 (by omega) upd_same
        refine ⟨d, H6, rfl, hput, ?_⟩
        exact ⟨g6, w6, _, _, _, _, rfl, ed6, tl6⟩
      · exact ⟨g3.trans g4, w4, found, _, _, _, rfl, ed4, ⟨tl.nd, tl.ok, Nat.le_succ_of_le tl.len⟩⟩
    · obtain ⟨g3, w3, found, z5, z6, z7, rfl, ed, tl⟩ := h
      -- the second loop, its number of turns
      have hcont : ∀ Q : VK, (∀ (m : Nat) (H4 : Hp), m ≤ 3 → (0 < m → 2 ≤ n) → GrX T r H3 H4 → RowAt K H4 r sc ns → Q (.int m) H4) → tIf (tTest (tOp (rI0 fun i j => V.bl (decide (j < i))) (tVar 3) (tC (V.int 1)))) (tCall (spTaken K T) [] C8.E0 (tCons (tVar 0) (tCons (tOp (rI0 fun i j => V.int (i + j)) (tVar 2) (tC (V.int 1))) tNil))) (tC (V.int 0))
          [some (.ref r), some (.int 4), some (.int 3), some (.int n), some (.ref d), z5, z6, z7] H3 Q := by
        intro Q hQ
        refine ⟨.int n, rfl, (n : Int), 1, rfl, rfl, _, rfl, ite2 (fun e => ?_) (fun e => ?_)⟩
        · have e : (1 : Int) < (n : Int) := of_decide_eq_true e
          refine ⟨.ref r, rfl, .int 3, rfl, 3, 1, rfl, rfl, r, sc, ns, 4, rfl, w3, by decide, by decide, fun H4 k hk g4 w4 => ?_⟩
          exact hQ k H4 (by omega) (fun _ => by omega) g4 w4
        · exact hQ 0 H3 (by omega) (fun h => by omega) .refl w3
      refine hcont _ fun m H4 hm hm2 g4 w4 => ?_
      refine ⟨(m : Int), rfl, by omega, by omega, ?_⟩
      have ed4 := g4.at hdr ed
      have hc0 : TieL n 3 found := ⟨tl.nd, tl.ok, by have := tl.len; omega⟩
      refine for_range (lo := 0) (n := (m : Int).toNat) (fun i σ H' => GrX T r H H' ∧ RowAt K H' r sc ns ∧ ∃ found z5 z6 z7, σ = [some (.ref r), some (.int 4), some (.int 3), some (.int n), some (.ref d), z5, z6, z7] ∧ H' d = some (.dT (dOut found fun _ => .bl true)) ∧ TieL n (3 + i) found) ⟨g3.trans g4, w4, found, _, _, _, rfl, ed4, hc0⟩ (fun i σ H5 hi h => ?_) (fun σ H5 h => ?_)
      · obtain ⟨g5, w5, found', y5, y6, y7, rfl, ed5, tl5⟩ := h
        have hn2 : 2 ≤ n := hm2 (by omega)
        refine ⟨.ref r, rfl, .int n, rfl, (n : Int), 1, rfl, rfl, ?_⟩
        obtain ⟨n1, hn1'⟩ : ∃ n1 : Nat, (n : Int) - 1 = (n1 : Int) := ⟨n - 1, by omega⟩
        simp only [hn1']
        refine ⟨r, sc, ns, n1, rfl, w5, by omega, by omega, fun H6 a ha g6 w6 => ?_⟩
        refine ⟨.ref d, rfl, .int a, rfl, .int a, rfl, (a : Int), 1, rfl, rfl, .ref r, rfl, .int n, rfl, (n : Int), 1, rfl, rfl, .int a, rfl, (n : Int) - 1, (a : Int), rfl, rfl, ?_⟩
        obtain ⟨n2, hn2'⟩ : ∃ n2 : Nat, (n : Int) - 1 - (a : Int) = (n2 : Int) := ⟨n - 1 - a, by omega⟩
        simp only [hn2']
        refine ⟨r, sc, ns, n2, rfl, w6, by omega, by omega, fun H7 b hb g7 w7 => ?_⟩
        refine ⟨(a : Int) + 1, (b : Int), rfl, rfl, ?_⟩
        obtain ⟨b2, hb2⟩ : ∃ b2 : Nat, (a : Int) + 1 + (b : Int) = (b2 : Int) := ⟨a + 1 + b, by omega⟩
        simp only [hb2]
        refine ⟨by show 2 ≤ sizeLine; decide, fun t nt => ?_⟩
        have gt := Gr.new (T := T) (o := HO.tup [.int a, .int b2]) nt
        obtain ⟨H8, hput, g8, w8, ed8, tl8⟩ := store (a := a) (b := b2) (t := t) (((g5.trans g6).trans g7).trans (.of gt)) (w7.gr gt) (gt.at (g7.at hdr (g6.at hdr ed5))) tl5 (by omega) (by omega) (by omega) upd_same
        refine ⟨d, H8, rfl, hput, ?_⟩
        exact ⟨g8, w8, _, _, _, _, rfl, ed8, tl8⟩
      · obtain ⟨g5, w5, found', y5, y6, y7, rfl, ed5, tl5⟩ := h
        refine ⟨.int n, rfl, .ref d, rfl, d, _, rfl, .inl ed5, fun p bs np hks => ?_⟩
        have tq := keys_tq hks
        have gp := Gr.new (T := T) (o := HO.lst (bs.map V.ref)) np
        have hneg : ∀ g ∈ found', g ≠ [] := fun g hg e => by
          obtain ⟨a, b, e2, _⟩ := tl5.ok g hg
          rw [e] at e2
          cases e2
        refine ⟨p, _, found', rfl, SqL.of upd_same, gp.tq tq, hneg, fun ys p2 hys np2 => ?_⟩
        have gp2 := Gr.new (T := T) (o := HO.lst ys) np2
        refine ⟨p2, ys, rfl, .inl ⟨SqL.of upd_same, fun t nt => ?_⟩⟩
        have gt := Gr.new (T := T) (o := HO.tup ys) nt
        refine ⟨by show 2 ≤ sizeLine; decide, fun t2 nt2 => ?_⟩
        have gt2 := Gr.new (T := T) (o := HO.tup [.int n, .ref t]) nt2
        have gg := ((gp.trans gp2).trans gt).trans gt2
        obtain ⟨wb, eD⟩ := tie_web tl5 (by omega) hn1 hn4
        refine q _ _ n ((found'.mergeSort leL).map tieOf) (g5.trans (.of gg)) (w5.gr gg) wb ?_
        have hyd := tq_dp (K := K) (gt2.tq (gt.tq (gp2.tq hys)))
        rw [eD] at hyd
        exact .tup (SqT.of upd_same) (.cons (.int _) (.cons (.tup (SqT.of (gt2.at upd_same)) hyd) .nil))
end
end So
namespace So
open PySem PySem.Spec PyProof.Rows L2 PySem.W LamX L2.DX
open C8 (Cal pe_c pe_gc)
open RZ StX
section
variable {P : Program} {w : World} {K : PySem.W.Frag} {mg : Str → Option Value} {base : Heap} {T : List (Addr × Str)}
theorem ok_law_ties {f : Addr} {fd : FuncData} (F : FnP K "_law_ties" s_law_ties f fd) (N : Nm mg) (g : mg "_law_ties" = some (.ref f)) :
    Cal P w K mg base 1 "_law_ties" (spTied K T) [] := by
  refine ⟨f, fd, _, [], F.ok sc_law_ties (fun vs H Q E h => ?_) (fun cdv A outer s H vs Q E hr h => ?_), g, F.kp, b_law_ties F, .nil⟩
  · obtain ⟨v, n, ties, p, rfl, _⟩ := h
    rfl
  · obtain ⟨v, n, ties, p, rfl, hv, hl, q⟩ := h
    obtain ⟨a, b, xs, rfl, ha, hb, hx⟩ := dp_web hv
    have nd := sc_law_ties.nd
    refine ⟨_, PSs.nox (pss_one (ps_ret (pe_callB cr_sortedI rfl N.sorted_ (by decide +kernel) (pa_cons
      (pe_lc (own := [("_law_one", 2), ("_law_other", 3)]) (g := gTup K 2 (gCons (gName 2) (gCons (gName 3) gNil))) (tt := tTest (tOp (rIn K false) (tVar 1) (tTup (tCons (tVar 2) (tCons (tVar 3) tNil))))) rfl nd (pi_tup (pe_ix ix_tup (pv 0) pe_int (fun _ _ => rfl))) (blkOk_by (own := [("_law_one", 2), ("_law_other", 3)]) (N := ["_law_web_here", "_law_person", "_law_one", "_law_other"]) (sc := defScope s_law_ties) (by decide +kernel))
        (fun _ _ _ _ _ => pg_tup (by rfl) (pgs_cons (pg_name (i := 2) nd rfl (Or.inl rfl)) (pgs_cons (pg_name (i := 3) nd rfl (Or.inl rfl)) pgs_nil))) (fun _ _ _ _ _ => pts_one (pt_cmpR op_in_seq (pv 1) (pe_tup (pa_cons (pv 2) (pa_cons (pv 3) pa_nil))) (by rfl))) (fun _ _ _ _ _ => pe_op op_sub (pe_op op_add (pv 2) (pv 3)) (pv 1))) pa_nil)))), ?_⟩
    refine ⟨.ref a, rfl, a, _, _, .ref b, rfl, rfl, ha, atI_nat (j := 1) rfl, b, rfl, ⟨_, hb⟩, fun D hD => ?_⟩
    refine lcD (T := T) (K := K) ties (fun t => (if t.1 = p ∨ t.2 = p then some (t.1 + t.2 - p) else none).map dN) (fun t d e => by split at e <;> cases e; rfl) walk_tup (by rw [DpAll.len hx, List.length_map]) hD (by omega) (fun H' g' => g'.sqT hb) (fun i t x H1 H2 Yes No ex g1 y hy hn => ?_) (fun H' ys g' eD hys => ?_)
    · obtain ⟨rfl, e2⟩ := y
      obtain ⟨t', ta, et, rfl, hta⟩ := pair_at (g1.dpAll hx) e2
      cases et.symm.trans ex
      refine ⟨ta, _, rfl, hta, rfl, _, _, rfl, _, _, rfl, rfl, rfl, ?_⟩
      refine ⟨_, rfl, _, rfl, _, rfl, by show 2 ≤ sizeLine; decide, fun c nc => ?_⟩
      have gc := Gr.new (T := T) (o := HO.tup [.int t.1, .int t.2]) nc
      refine ⟨c, _, rfl, .inr (SqT.of upd_same), rfl, rfl, _, rfl, ?_⟩
      show (if sIn p t.1 t.2 = true then _ else _)
      rw [sIn_eq]
      refine ite2 (fun e => ?_) (fun e => ?_)
      · have e : t.1 = p ∨ t.2 = p := of_decide_eq_true e
        refine ⟨_, rfl, _, rfl, _, _, rfl, rfl, _, rfl, _, _, rfl, rfl, ?_⟩
        have ec : ((t.1 : Int) + t.2 - p) = ((t.1 + t.2 - p : Nat) : Int) := by omega
        refine hy _ _ (dN (t.1 + t.2 - p)) (by rw [if_pos e]; rfl) gc ?_
        show Dp K _ (.int ((t.1 : Int) + t.2 - p)) _
        rw [ec]
        exact .int _
      · have e : ¬ (t.1 = p ∨ t.2 = p) := fun z => e (decide_eq_true z)
        exact hn _ (by rw [if_neg e]; rfl) gc
    · have ef : ties.filterMap (fun t => (if t.1 = p ∨ t.2 = p then some (t.1 + t.2 - p) else none).map dN) = dNs (endsAt ties p) := by
        unfold endsAt dNs
        rw [List.map_filterMap]
      rw [ef] at hys
      rw [dpAll_ns hys] at eD
      refine ⟨D, (endsAt ties p).map fun (n : Nat) => (n : Int), rfl, ?_, fun ns' c hp hs nc => ?_⟩
      · rw [List.map_map]
        exact SqL.of eD
      · refine q _ c (g'.new2 nc) (Nw.back g' (Nw.of nc)) ?_
        rw [upd_same, sortN_int hp hs, List.map_map]
        rfl
def spLawAfter (K : PySem.W.Frag) (T : List (Addr × Str)) : Sp := fun vs H Q _ => ∃ (v u : V) (hs : List Int) (p : Nat × Nat), vs = [v, u] ∧ Dp K H v (dInts hs) ∧ Dp K H u (dPair p) ∧ p.1 < hs.length ∧ p.2 < hs.length ∧ hs.length ≤ 4 ∧ ∀ H' l, Gr T H H' → H' l = some (.tup ((stoop hs p.1 p.2).map V.int)) → Q (.ref l) H'
theorem ok_law_after {f : Addr} {fd : FuncData} (F : FnP K "_law_after" s_law_after f fd) (g : mg "_law_after" = some (.ref f)) :
    Cal P w K mg base 1 "_law_after" (spLawAfter K T) [] := by
  refine ⟨f, fd, _, [], F.ok sc_law_after (fun vs H Q E h => ?_) (fun cdv A outer s H vs Q E hr h => ?_), g, F.kp, b_law_after F, .nil⟩
  · obtain ⟨v, u, hs, p, rfl, _⟩ := h
    rfl
  · obtain ⟨v, u, hs, ⟨p, o⟩, rfl, hv, hu, hp, ho, hl, q⟩ := h
    obtain ⟨a, rfl, ha⟩ := dp_ints hv
    obtain ⟨b, rfl, hb⟩ := dp_pair hu
    have hp : p < hs.length := hp
    have ho : o < hs.length := ho
    refine ⟨_, PSs.nox (pss_one (ps_ret (pe_op op_catA (pe_op op_catA (pe_slice sl_tupA (pv 0) po_none (po_some (pe_ix ix_tup (pv 1) pe_int (fun _ _ => rfl)))) (pe_tup (pa_cons (pe_ix ix_tup (pv 0) (pe_ix ix_tup (pv 1) pe_int (fun _ _ => rfl)) (fun _ _ => rfl)) pa_nil)))
      (pe_slice sl_tupA (pv 0) (po_some (pe_op op_add (pe_ix ix_tup (pv 1) pe_int (fun _ _ => rfl)) pe_int)) po_none)))), ?_⟩
    refine ⟨.ref a, rfl, .ref b, rfl, _, _, _, _, rfl, rfl, hb, atI_nat (j := 0) rfl, p, rfl, ?_⟩
    refine slA_of (T := T) ha fun H1 c g1 hc => ?_
    rw [cut_to] at hc
    refine ⟨.ref a, rfl, .ref b, rfl, _, _, _, _, rfl, rfl, g1.sqT hb, atI_nat (j := 1) rfl, a, _, (o : Nat), _, rfl, rfl, g1.sqT ha, atI_nat (int_get ho), by show 1 ≤ sizeLine; decide, fun d nd => ?_⟩
    have gd := Gr.new (T := T) (o := HO.tup [.int (hs.getD o 0)]) nd
    -- the left part
    have left : ∀ Q : VK, (∀ H' e, Gr T (upd H1 d (.tup [.int (hs.getD o 0)])) H' → H' e = some (.tup ((hs.map V.int).take p ++ [.int (hs.getD o 0)])) → Q (.ref e) H') → rCatA K (.ref c) (.ref d) (upd H1 d (.tup [.int (hs.getD o 0)])) Q := by
      intro Q hQ
      refine ⟨c, d, _, _, rfl, rfl, gd.sqT hc, SqT.of upd_same, ?_, fun e => ?_, fun _ e => (by cases e), fun _ _ e ne => ?_⟩
      · refine Nat.le_trans (?_ : _ ≤ 100000) (by decide)
        rw [List.length_take, List.length_map]
        simp only [List.length_cons, List.length_nil]
        omega
      · exact hQ _ d Gr.refl (by rw [upd_same, e]; rfl)
      · exact hQ _ e (Gr.new ne) upd_same
    refine left _ fun H2 e g2 he => ?_
    have g02 := (g1.trans gd).trans g2
    refine ⟨.ref a, rfl, .ref b, rfl, _, _, _, _, rfl, rfl, g02.sqT hb, atI_nat (j := 0) rfl, (p : Int), 1, rfl, rfl, (p : Int) + 1, rfl, ?_⟩
    dsimp only [tNoPart]
    refine slA_of (T := T) (g02.sqT ha) fun H3 k g3 hk => ?_
    rw [show (p : Int) + 1 = ((p + 1 : Nat) : Int) by omega, cut_from] at hk
    have he3 := g3.at he
    have fin : (hs.map V.int).take p ++ [.int (hs.getD o 0)] ++ (hs.map V.int).drop (p + 1) = (stoop hs p o).map V.int := by
      rw [List.append_assoc]
      exact stoop_cut hs p o hp
    refine ⟨e, k, _, _, rfl, rfl, SqT.of he3, hk, ?_, fun z => ?_, fun _ z => ?_, fun _ _ t nt => ?_⟩
    · refine Nat.le_trans (?_ : _ ≤ 100000) (by decide)
      simp only [List.length_append, List.length_take, List.length_map, List.length_drop, List.length_cons, List.length_nil]
      omega
    · exact absurd z (by simp)
    · refine q _ e (g02.trans g3) ?_
      rw [z, List.append_nil] at fin
      rw [he3, fin]
    · refine q _ t ((g02.trans g3).trans (Gr.new nt)) ?_
      rw [upd_same, fin]
def spStoops (K : PySem.W.Frag) (T : List (Addr × Str)) : Sp := fun vs H Q _ => ∃ (v u : V) (n : Nat) (ties : List (Nat × Nat)) (hs : List Int), vs = [v, u] ∧ Dp K H v (dWeb n ties) ∧ Dp K H u (dInts hs) ∧ Wb n ties ∧ hs.length = n ∧ ∀ H' l ys, Gr T H H' → Nw H l → H' l = some (.lst ys) → DpAll K H' ys ((nexts n ties hs).map dPair) → Q (.ref l) H'
theorem ok_law_stoops {f : Addr} {fd : FuncData} (F : FnP K "_law_stoops" s_law_stoops f fd) (N : Nm mg) (g : mg "_law_stoops" = some (.ref f)) (CT : Cal P w K mg base 1 "_law_ties" (spTied K T) []) :
    Cal P w K mg base 2 "_law_stoops" (spStoops K T) [] := by
  refine ⟨f, fd, _, [], F.ok sc_law_stoops (fun vs H Q E h => ?_) (fun cdv A outer s H vs Q E hr h => ?_), g, F.kp, b_law_stoops F, .nil⟩
  · obtain ⟨v, u, n, ties, hs, rfl, _⟩ := h
    rfl
  · obtain ⟨v, u, n, ties, hs, rfl, hv, hu, wb, hl, q⟩ := h
    have hv0 := hv
    obtain ⟨wa, wt, wxs, rfl, hwa, _, _⟩ := dp_web hv
    obtain ⟨a, rfl, ha⟩ := dp_ints hu
    have nd := sc_law_stoops.nd
    refine ⟨_, PSs.nox (pss_cons (ps_set (i := 2) nd rfl (.inl rfl) (pe_lst pa_nil))
      (pss_cons (ps_for PassesOwn.never rfl (pi_range1 rfl N.range_ (pa_cons (pe_ix ix_tup (pv 0) pe_int (fun _ _ => rfl)) pa_nil)) (pg_name (i := 3) nd rfl (.inr rfl))
        (pss_one (ps_set (i := 2) nd rfl (.inl rfl) (pe_op op_cat (pv 2)
          (pe_lc (own := [("_law_one", 4)]) (g := gName 4) (tt := tTest (tOp (rI0 fun i j => .bl (decide (i < j))) (tOp (rIxT K) (tVar 1) (tVar 4)) (tOp (rIxT K) (tVar 1) (tVar 3)))) rfl nd (pi_list (pe_c CT hr (by decide) rfl (pa_cons (pv 0) (pa_cons (pv 3) pa_nil)))) (blkOk_by (own := [("_law_one", 4)]) (N := ["_law_web_here", "_law_heights_here", "_law_found", "_law_person", "_law_one"]) (sc := defScope s_law_stoops) (by decide +kernel)) (fun _ _ _ _ _ => pg_name (i := 4) nd rfl (Or.inl rfl))
            (fun _ _ _ _ _ => pts_one (pt_cmpR op_lt (pe_ix ix_tup (pv 1) (pv 4) (fun _ _ => rfl)) (pe_ix ix_tup (pv 1) (pv 3) (fun _ _ => rfl)) (nomark _))) (fun _ _ _ _ _ => pe_tup (pa_cons (pv 3) (pa_cons (pv 4) pa_nil))))))))
      (pss_one (ps_ret (pv 2))))), ?_⟩
    refine ⟨Nat.zero_le _, fun o no => ?_⟩
    have g0 : Gr T H (upd H o (.lst [])) := Gr.new no
    refine ⟨_, rfl, _, _, _, _, rfl, rfl, g0.sqT hwa, atI_nat (j := 0) rfl, (n : Int), rfl, by have := wb.le; omega, by have := wb.le; omega, ?_⟩
    refine for_it (walk_rg0 (Int.toNat_natCast n)) (fun i σ H' => Gr T H H' ∧ ∃ o acc z3 z4, σ = [some (.ref wa), some (.ref a), some (.ref o), z3, z4] ∧ Nw H o ∧ H' o = some (.lst acc) ∧ DpAll K H' acc ((((List.range n).take i).flatMap (nextsAt ties hs)).map dPair)) ⟨g0, o, [], none, none, rfl, Nw.of no, upd_same, .nil⟩ (fun i σ H' _ h => True.intro) (fun i x σ H1 H2 hi h y => ?_) (fun σ H' h => ?_)
    · obtain ⟨g3, o1, acc, z3, z4, rfl, nO, eo, dacc⟩ := h
      obtain ⟨rfl, rfl⟩ := y
      refine ⟨.ref o1, rfl, ?_⟩
      refine ⟨.ref wa, rfl, .int i, rfl, .ref wa, n, ties, i, rfl, g3.dp hv0, wb.len, fun H3 c g4 _ ec => ?_⟩
      refine ⟨c, rfl, ⟨_, SqL.of ec⟩, fun D hD => ?_⟩
      refine lcD (T := T) (K := K) (tiedTo ties i) (fun o => if decide (hs.getD o 0 < hs.getD i 0) = true then some (dPair (i, o)) else none) (fun _ _ e => by split at e <;> cases e; rfl) walk_list (by rw [List.length_map]) hD (by have := tiedTo_len ties i; have := wb.len; omega) (fun H' g' => SqL.of (g'.at ec)) (fun j b x H5 H6 Yes No ex g5 y hy hn => ?_) (fun H' ys g' eD hys => ?_)
      · obtain ⟨rfl, e3⟩ := y
        rw [List.getElem?_map, ex] at e3
        cases e3
        have hb := tiedTo_lt wb (List.mem_of_getElem? ex)
        have gg := (g3.trans g4).trans g5
        refine ⟨rfl, ?_⟩
        refine ⟨.ref a, rfl, .int b, rfl, a, _, (b : Nat), _, rfl, rfl, gg.sqT ha, atI_nat (int_get (by omega)), .ref a, rfl, .int i, rfl, a, _, (i : Nat), _, rfl, rfl, gg.sqT ha, atI_nat (int_get (by omega)), _, _, rfl, rfl, _, rfl, ite2 (fun e1 => ?_) (fun e1 => ?_)⟩
        · refine ⟨.int i, rfl, .int b, rfl, by show 2 ≤ sizeLine; decide, fun t nt => ?_⟩
          exact hy _ _ _ (if_pos e1) (Gr.new nt) (.tup (SqT.of upd_same) (.cons (.int _) (.cons (.int _) .nil)))
        · exact hn _ (if_neg e1) Gr.refl
      · rw [filterMap_if] at hys
        have gg := g4.trans g'
        have eo3 := gg.at eo
        have la := DpAll.len dacc
        have ly := DpAll.len hys
        refine ⟨o1, D, acc, ys, rfl, rfl, eo3, eD, ?_, fun p np => ?_⟩
        · rw [la, ly, List.length_map, List.length_map]
          have h1 := nexts_take_len n hs i wb.len wb.le (ties := ties)
          have h2 := List.length_filter_le (fun o => decide (hs.getD o 0 < hs.getD i 0)) (tiedTo ties i)
          have h3 := tiedTo_len ties i
          have h4 := wb.len
          exact Nat.le_trans (show _ ≤ 100000 by omega) (by decide)
        · have gp := Gr.new (T := T) (o := HO.lst (acc ++ ys)) np
          refine ⟨(g3.trans gg).trans gp, p, acc ++ ys, _, _, rfl, Nw.back (g3.trans gg) (Nw.of np), upd_same, ?_⟩
          rw [take_flat _ _ (range_at hi), List.map_append]
          have e : (nextsAt ties hs i).map dPair = ((tiedTo ties i).filter fun o => decide (hs.getD o 0 < hs.getD i 0)).map fun o => dPair (i, o) := by
            unfold nextsAt
            rw [List.map_map]
            rfl
          rw [e]
          exact gp.dpAll (dpAll_app (gg.dpAll dacc) hys)
    · obtain ⟨g3, o1, acc, z3, z4, rfl, nO, eo, dacc⟩ := h
      rw [List.take_of_length_le (by rw [List.length_range]; omega)] at dacc
      exact ⟨.ref o1, rfl, q _ o1 acc g3 nO eo dacc⟩
end
end So
/-! plain: the least number of stoops; the walk level by level -/
namespace So
theorem exists_least {P : Nat → Prop} (h : ∃ k, P k) : ∃ k, P k ∧ ∀ j, P j → k ≤ j := by
  have go : ∀ n k, P k → k ≤ n → ∃ k, P k ∧ ∀ j, P j → k ≤ j := by
    intro n
    induction n with
    | zero =>
      intro k hk hle
      exact ⟨k, hk, fun j _ => by omega⟩
    | succ n ih =>
      intro k hk hle
      by_cases h : ∃ j, P j ∧ j < k
      · obtain ⟨j, hj, hl⟩ := h
        exact ih j hj (by omega)
      · exact ⟨k, hk, fun j hj => Nat.le_of_not_lt fun hl => h ⟨j, hj, hl⟩⟩
  obtain ⟨k, hk⟩ := h
  exact go k k hk (Nat.le_refl _)
open Classical in
noncomputable def lv (n : Nat) (ties : List (Nat × Nat)) (h g : List Int) : Nat := if e : Out n ties h g then (exists_least e).choose else 0
section
variable {n : Nat} {ties : List (Nat × Nat)} {h : List Int}
theorem lv_spec {g : List Int} (e : Out n ties h g) : Rch n ties h (lv n ties h g) g ∧ ∀ k, Rch n ties h k g → lv n ties h g ≤ k := by
  unfold lv
  rw [dif_pos e]
  exact (exists_least e).choose_spec
theorem lv_zero : lv n ties h h = 0 := Nat.le_zero.mp ((lv_spec ⟨0, .zero⟩).2 0 .zero)
theorem rch_zero {g : List Int} (r : Rch n ties h 0 g) : g = h := by
  cases r
  rfl
theorem rch_succ {k : Nat} {g : List Int} (r : Rch n ties h (k + 1) g) : ∃ g' p, Rch n ties h k g' ∧ p ∈ nexts n ties g' ∧ g = stoop g' p.1 p.2 := by
  cases r with
  | succ r hp => exact ⟨_, _, r, hp, rfl⟩
theorem lv_step {g : List Int} (e : Out n ties h g) {p : Nat × Nat} (hp : p ∈ nexts n ties g) : Out n ties h (stoop g p.1 p.2) ∧ lv n ties h (stoop g p.1 p.2) ≤ lv n ties h g + 1 := by
  have r := (lv_spec e).1.succ hp
  exact ⟨⟨_, r⟩, (lv_spec ⟨_, r⟩).2 _ r⟩
/-- all outcomes up to level s -/
structure BInv (n : Nat) (ties : List (Nat × Nat)) (h : List Int) (s : Nat) (found edge : List (List Int)) : Prop where
  nd : found.Nodup
  lev : ∀ g ∈ found, Out n ties h g ∧ lv n ties h g ≤ s
  all : ∀ g, Out n ties h g → lv n ties h g ≤ s → g ∈ found
  ed : ∀ g, g ∈ edge ↔ g ∈ found ∧ lv n ties h g = s
theorem binv_start : BInv n ties h 0 [h] [h] where
  nd := by simp
  lev := fun g hg => by
    rw [List.mem_singleton.mp hg, lv_zero]
    exact ⟨⟨0, .zero⟩, Nat.le_refl _⟩
  all := fun g e hl => by
    have r := (lv_spec e).1
    rw [Nat.le_zero.mp hl] at r
    rw [rch_zero r]
    exact List.mem_singleton.mpr rfl
  ed := fun g => by
    rw [List.mem_singleton]
    exact ⟨fun e => ⟨e, by rw [e, lv_zero]⟩, fun e => e.1⟩
/-- the next level under way -/
structure SInv (n : Nat) (ties : List (Nat × Nat)) (h : List Int) (s : Nat) (found found' later : List (List Int)) : Prop where
  nd : found'.Nodup
  old : ∀ g ∈ found, g ∈ found'
  new : ∀ g ∈ found', g ∈ found ∨ g ∈ later
  lat : ∀ g ∈ later, g ∈ found' ∧ Out n ties h g ∧ lv n ties h g = s + 1
  len : found'.length = found.length + later.length
theorem SInv.start {s : Nat} {found : List (List Int)} (nd : found.Nodup) : SInv n ties h s found found [] := ⟨nd, fun _ h => h, fun _ h => .inl h, by simp, rfl⟩
theorem SInv.grow {s : Nat} {found edge found' later : List (List Int)} (b : BInv n ties h s found edge) (c : SInv n ties h s found found' later) {g : List Int} {p : Nat × Nat} (hg : g ∈ edge) (hp : p ∈ nexts n ties g) (hn : stoop g p.1 p.2 ∉ found') :
    SInv n ties h s found (found' ++ [stoop g p.1 p.2]) (later ++ [stoop g p.1 p.2]) ∧ lv n ties h (stoop g p.1 p.2) = s + 1 ∧ Out n ties h (stoop g p.1 p.2) := by
  obtain ⟨hgf, hgl⟩ := (b.ed g).mp hg
  obtain ⟨ho, hl⟩ := lv_step (b.lev g hgf).1 hp
  have e : lv n ties h (stoop g p.1 p.2) = s + 1 := by
    rcases Nat.lt_or_ge s (lv n ties h (stoop g p.1 p.2)) with h1 | h1
    · omega
    · exact absurd (c.old _ (b.all _ ho h1)) hn
  refine ⟨⟨?_, fun x hx => List.mem_append_left _ (c.old x hx), fun x hx => ?_, fun x hx => ?_, ?_⟩, e, ho⟩
  · rw [List.nodup_append]
    refine ⟨c.nd, by simp, fun x hx y hy z => ?_⟩
    rw [List.mem_singleton] at hy
    subst z hy
    exact hn hx
  · rcases List.mem_append.mp hx with hx | hx
    · rcases c.new x hx with h | h
      · exact .inl h
      · exact .inr (List.mem_append_left _ h)
    · exact .inr (List.mem_append_right _ hx)
  · rcases List.mem_append.mp hx with hx | hx
    · obtain ⟨h1, h2⟩ := c.lat x hx
      exact ⟨List.mem_append_left _ h1, h2⟩
    · rw [List.mem_singleton.mp hx]
      exact ⟨List.mem_append_right _ (List.mem_singleton.mpr rfl), ho, e⟩
  · rw [List.length_append, List.length_append, c.len]
    simp only [List.length_cons, List.length_nil]
    omega
theorem SInv.next {s : Nat} {found edge found' later : List (List Int)} (b : BInv n ties h s found edge) (c : SInv n ties h s found found' later) (hall : ∀ g ∈ edge, ∀ p ∈ nexts n ties g, stoop g p.1 p.2 ∈ found') : BInv n ties h (s + 1) found' later where
  nd := c.nd
  lev := fun g hg => by
    rcases c.new g hg with h1 | h1
    · obtain ⟨h2, h3⟩ := b.lev g h1
      exact ⟨h2, by omega⟩
    · obtain ⟨_, h2, h3⟩ := c.lat g h1
      exact ⟨h2, by omega⟩
  all := fun g ho hl => by
    rcases Nat.lt_or_ge s (lv n ties h g) with h1 | h1
    · have e : lv n ties h g = s + 1 := by omega
      have r := (lv_spec ho).1
      rw [e] at r
      obtain ⟨g', p, r', hp, rfl⟩ := rch_succ r
      have ho' : Out n ties h g' := ⟨_, r'⟩
      have hl' := (lv_spec ho').2 _ r'
      have hs := (lv_step ho' hp).2
      have e' : lv n ties h g' = s := by omega
      exact hall g' ((b.ed g').mpr ⟨b.all g' ho' (by omega), e'⟩) p hp
    · exact c.old g (b.all g ho h1)
  ed := fun g => by
    constructor
    · intro hg
      obtain ⟨h1, _, h3⟩ := c.lat g hg
      exact ⟨h1, h3⟩
    · rintro ⟨h1, h2⟩
      rcases c.new g h1 with h3 | h3
      · have := (b.lev g h3).2
        omega
      · exact h3
/-- no outcome at level s: all are found -/
theorem BInv.done {s : Nat} {found : List (List Int)} (b : BInv n ties h s found []) (g : List Int) : g ∈ found ↔ Out n ties h g := by
  refine ⟨fun hg => (b.lev g hg).1, fun ho => ?_⟩
  have go : ∀ k g, Rch n ties h k g → g ∈ found := by
    intro k
    induction k with
    | zero =>
      intro g r
      have e := rch_zero r
      subst e
      exact b.all _ ⟨0, .zero⟩ (by rw [lv_zero]; omega)
    | succ k ih =>
      intro g r
      obtain ⟨g', p, r', hp, rfl⟩ := rch_succ r
      have hg' := ih g' r'
      obtain ⟨ho', hl'⟩ := b.lev g' hg'
      have hne : lv n ties h g' ≠ s := fun e => by
        have := (b.ed g').mpr ⟨hg', e⟩
        cases this
      obtain ⟨h1, h2⟩ := lv_step ho' hp
      exact b.all _ h1 (by omega)
  obtain ⟨k, r⟩ := ho
  exact go k g r
end
end So
namespace So
open PySem PySem.Spec PyProof.Rows L2 PySem.W LamX L2.DX
open C8 (Cal pe_c pe_gc)
open RZ StX
section
variable {P : Program} {w : World} {K : PySem.W.Frag} {mg : Str → Option Value} {base : Heap} {T : List (Addr × Str)}
/-- the dict of the outcomes' levels -/
noncomputable abbrev dLv (n : Nat) (ties : List (Nat × Nat)) (hs : List Int) (found : List (List Int)) : List (List L2.Key × V) := dOut found fun g => .int (lv n ties hs g)
def spLawSteps (K : PySem.W.Frag) (T : List (Addr × Str)) : Sp := fun vs H Q _ => ∃ (v : V) (a : Addr) (n : Nat) (ties : List (Nat × Nat)) (hs : List Int), vs = [v, .ref a] ∧ Dp K H v (dWeb n ties) ∧ H a = some (.tup (hs.map V.int)) ∧ Wb n ties ∧ hs.length = n ∧
  ∀ (H' : Hp) (d : Addr) (found : List (List Int)), Gr T H H' → Nw H d → H' d = some (.dT (dLv n ties hs found)) → found.Nodup → (∀ g, g ∈ found ↔ Out n ties hs g) → Q (.ref d) H'
theorem ok_law_steps {f : Addr} {fd : FuncData} (F : FnP K "_law_steps" s_law_steps f fd) (N : Nm mg) (g : mg "_law_steps" = some (.ref f)) (CS : Cal P w K mg base 2 "_law_stoops" (spStoops K T) []) (CA : Cal P w K mg base 1 "_law_after" (spLawAfter K T) []) :
    Cal P w K mg base 3 "_law_steps" (spLawSteps K T) [] := by
  refine ⟨f, fd, _, [], F.ok sc_law_steps (fun vs H Q E h => ?_) (fun cdv A outer s H vs Q E hr h => ?_), g, F.kp, b_law_steps F, .nil⟩
  · obtain ⟨v, a, n, ties, hs, rfl, _⟩ := h
    rfl
  · obtain ⟨v, a, n, ties, hs, rfl, hv, ha, wb, hl, q⟩ := h
    have nd := sc_law_steps.nd
    refine ⟨_, PSs.nox (pss_cons (So.ps_par3 (i := 2) (j := 3) (k := 4) (by rfl) nd rfl rfl rfl rfl rfl rfl (pa_cons (pe_disp1 hr.units (pv 1) pe_int) (pa_cons (pe_lst (pa_cons (pv 1) pa_nil)) (pa_cons pe_int pa_nil))) (by rfl))
      (pss_cons (ps_while PassesOwn.never (pt_cmpR (op_neD hr.units) (pv 3) (pe_lst pa_nil) (nomark _))
        (pss_cons (ps_par (i := 5) (j := 4) (by rfl) nd rfl rfl (by decide) rfl rfl (pa_cons (pe_lst pa_nil) (pa_cons (pe_op op_add (pv 4) pe_int) pa_nil)) (by rfl))
        (pss_cons (ps_for PassesOwn.never rfl (pi_list (pv 3)) (pg_name (i := 6) nd rfl (.inl rfl))
          (pss_one (ps_for PassesOwn.never rfl (pi_list (pe_c CS hr (by decide) rfl (pa_cons (pv 0) (pa_cons (pv 6) pa_nil)))) (pg_name (i := 7) nd rfl (.inl rfl))
            (pss_cons (ps_set (i := 8) nd rfl (.inl rfl) (pe_c CA hr (by decide) rfl (pa_cons (pv 6) (pa_cons (pv 7) pa_nil))))
            (pss_one (ps_if (pt_cmp (pc_dnotin (ru1 hr) (pv 8) (pv 2)))
              (pss_cons (ps_dput (ru1 hr) (pv 2) (pv 8) (pv 4) rfl)
              (pss_one (ps_expr (pe_bm PySem.F.plainAttrs_list PySem.F.slot_list_append PySem.F.type_list_append mt_append (pv 5) (pa_cons (pv 8) pa_nil))))) pss_nil))))))
        (pss_one (ps_set (i := 3) nd rfl (.inl rfl) (pv 5))))))
      (pss_one (ps_ret (pv 2))))), ?_⟩
    refine fun dk nk => ⟨_, rfl, upd_same, a, kk hs, rfl, ?_, _, rfl, by show 1 ≤ sizeLine; decide, fun le ne => ⟨_, _, _, rfl, ?_⟩⟩
    · rw [upd_ne (ne_of_none ha nk), kk_kV]
      exact ha
    have nK : Nw H dk := Nw.of nk
    have g0 : Gr T H (upd (upd H dk (.dT [])) dk (.dT [(kk hs, .int 0)])) := (Gr.new nk).put nK upd_same
    have g1 : Gr T H (upd (upd (upd H dk (.dT [])) dk (.dT [(kk hs, .int 0)])) le (.lst [.ref a])) := g0.new2 ne
    have hkl : dk ≠ le := ne_of_none upd_same ne
    have e0 : ([(kk hs, V.int 0)] : List (List L2.Key × V)) = dLv n ties hs [hs] := by
      show _ = [(kk hs, V.int ((lv n ties hs hs : Nat) : Int))]
      rw [lv_zero]
      rfl
    refine ⟨fun m σ H' => ∃ (found edge : List (List Int)) (es : List V) (le : Addr) (s : Nat) (z5 z6 z7 z8 : Option V), m = 2 * (256 - found.length) + (if edge = [] then 0 else 1) ∧ σ = [some v, some (.ref a), some (.ref dk), some (.ref le), some (.int s), z5, z6, z7, z8] ∧ Gr T H H' ∧ H' dk = some (.dT (dLv n ties hs found)) ∧ H' le = some (.lst es) ∧ TqAll H' es edge ∧ BInv n ties hs s found edge,
      ⟨_, [hs], [hs], [.ref a], le, 0, none, none, none, none, rfl, rfl, g1, (upd_ne hkl).trans (upd_same.trans (by rw [e0])), upd_same, .cons ⟨a, rfl, g1.at ha⟩ .nil, binv_start⟩, ?_⟩
    clear hkl ne e0 g1
    rintro m σ H1 ⟨found, edge, es, le, s, z5, z6, z7, z8, rfl, rfl, g2, ed, ee, hes, hb⟩
    have few : ∀ {f : List (List Int)}, f.Nodup → (∀ g ∈ f, Out n ties hs g) → f.length ≤ 256 := fun h1 h2 => out_few wb hl h1 h2
    refine ⟨.ref le, rfl, by show 0 ≤ sizeLine; decide, fun t nt => ?_⟩
    have gt := Gr.new (T := T) (o := HO.lst []) nt
    have ee1 := gt.at ee
    have ed1 := gt.at ed
    have hes1 := gt.tq hes
    refine ⟨.list (edge.map tD), .list [], .lst (SqL.of ee1) (tq_dp hes1), .lst (SqL.of upd_same) .nil, shaped_rows edge, shaped_nil, _, rfl, ?_⟩
    rw [eqv_nil]
    by_cases hed : edge = []
    · subst hed
      refine iteF ?_
      exact ⟨.ref dk, rfl, q _ dk found (g2.trans gt) nK ed1 hb.nd hb.done⟩
    · have hemp : (edge.map tD).isEmpty = false := by
        cases edge with
        | nil => exact absurd rfl hed
        | cons a b => rfl
      rw [hemp]
      refine iteT ?_
      refine ⟨fun σ' H' => ∃ (found' edge' : List (List Int)) (es' : List V) (le' : Addr) (s' : Nat) (z5 z6 z7 z8 : Option V), 2 * (256 - found'.length) + (if edge' = [] then 0 else 1) < 2 * (256 - found.length) + (if edge = [] then 0 else 1) ∧ σ' = [some v, some (.ref a), some (.ref dk), some (.ref le'), some (.int s'), z5, z6, z7, z8] ∧ Gr T H H' ∧ H' dk = some (.dT (dLv n ties hs found')) ∧ H' le' = some (.lst es') ∧ TqAll H' es' edge' ∧ BInv n ties hs s' found' edge',
        fun σ' H' ⟨f', e', es', le', s', y5, y6, y7, y8, hm', h2, h3, h4, h5, h6, h7⟩ => ⟨_, hm', f', e', es', le', s', y5, y6, y7, y8, rfl, h2, h3, h4, h5, h6, h7⟩, ?_⟩
      -- later, steps
      refine ⟨Nat.zero_le _, fun ll nl => ⟨.int s, rfl, (s : Int), 1, rfl, rfl, _, _, rfl, ?_⟩⟩
      have g3 := g2.trans gt
      have nL : Nw H ll := Nw.back g3 (Nw.of nl)
      have hle : le ≠ ll := ne_of_none ee1 nl
      have hdl : dk ≠ ll := ne_of_none ed1 nl
      have hdle : dk ≠ le := ne_of ed1 ee1 (by intro z; cases z)
      have gl := Gr.new (T := T) (o := HO.lst []) nl
      have esteps : ((s : Int) + 1) = ((s + 1 : Nat) : Int) := by omega
      simp only [esteps]
      refine ⟨.ref le, rfl, le, rfl, ⟨_, SqL.of (gl.at ee1)⟩, ?_⟩
      refine for_it walk_list (fun i σ' H' => Gr T H H' ∧ H' le = some (.lst es) ∧ TqAll H' es edge ∧ ∃ (found' later : List (List Int)) (las : List V) (z6 z7 z8 : Option V), σ' = [some v, some (.ref a), some (.ref dk), some (.ref le), some (.int (s + 1 : Nat)), some (.ref ll), z6, z7, z8] ∧ H' dk = some (.dT (dLv n ties hs found')) ∧ H' ll = some (.lst las) ∧ TqAll H' las later ∧ SInv n ties hs s found found' later ∧ ∀ g ∈ edge.take i, ∀ p ∈ nexts n ties g, stoop g p.1 p.2 ∈ found')
        ⟨g3.trans gl, gl.at ee1, gl.tq hes1, found, [], [], _, _, _, rfl, gl.at ed1, upd_same, .nil, SInv.start hb.nd, by simp⟩ (fun i σ' H' _ h => SqL.of h.2.1) (fun i x σ' H4 H5 hlt h y => ?_) (fun σ' H' h => ?_)
      · obtain ⟨g4, ee4, hes4, found', later, las, y6, y7, y8, rfl, ed4, el4, hla4, hs4, hall4⟩ := h
        obtain ⟨rfl, e2⟩ := y
        obtain ⟨now, en, qa, rfl, hqa⟩ := each_at hes4 e2
        have hnow := List.mem_of_getElem? en
        have hnowf := ((hb.ed now).mp hnow).1
        have hnl : now.length = n := by
          obtain ⟨k, r⟩ := (hb.lev now hnowf).1
          rw [r.len, hl]
        refine ⟨v, rfl, .ref qa, rfl, v, .ref qa, n, ties, now, rfl, g4.dp hv, .tup (SqT.of hqa) (int_dpAll _), wb, hnl, fun H6 c ys g6 nc ec hys => ?_⟩
        have hcd : c ≠ dk := (nc.ne ed4).symm
        have hcl : c ≠ ll := (nc.ne el4).symm
        have hylen := DpAll.len hys
        rw [List.length_map] at hylen
        refine ⟨c, rfl, ⟨_, SqL.of ec⟩, ?_⟩
        refine for_it walk_list (fun j σ' H' => H' c = some (.lst ys) ∧ DpAll K H' ys ((nexts n ties now).map dPair) ∧ H' qa = some (.tup (now.map V.int)) ∧ Gr T H H' ∧ H' le = some (.lst es) ∧ TqAll H' es edge ∧ ∃ (found' later : List (List Int)) (las : List V) (z7 z8 : Option V), σ' = [some v, some (.ref a), some (.ref dk), some (.ref le), some (.int (s + 1 : Nat)), some (.ref ll), some (.ref qa), z7, z8] ∧ H' dk = some (.dT (dLv n ties hs found')) ∧ H' ll = some (.lst las) ∧ TqAll H' las later ∧ SInv n ties hs s found found' later ∧ (∀ g ∈ edge.take i, ∀ p ∈ nexts n ties g, stoop g p.1 p.2 ∈ found') ∧ ∀ p ∈ (nexts n ties now).take j, stoop now p.1 p.2 ∈ found')
          ⟨ec, hys, g6.at hqa, g4.trans g6, g6.at ee4, g6.tq hes4, found', later, las, _, _, rfl, g6.at ed4, g6.at el4, g6.tq hla4, hs4, hall4, by simp⟩ (fun j σ' H' _ h => SqL.of h.1) (fun j x σ' H7 H8 hlt2 h y => ?_) (fun σ' H' h => ?_)
        · obtain ⟨ec7, hys7, hqa7, g7, ee7, hes7, found', later, las, y7, y8, rfl, ed7, el7, hla7, hs7, hall7, hp7⟩ := h
          obtain ⟨rfl, e3⟩ := y
          obtain ⟨p, pa, ep, rfl, hpa⟩ := pair_at hys7 e3
          have hpn := List.mem_of_getElem? ep
          have hplt := nexts_lt wb hpn
          have etk : (nexts n ties now).take (j + 1) = (nexts n ties now).take j ++ [p] := by
            rw [List.take_add_one, ep]
            rfl
          refine ⟨.ref qa, rfl, .ref pa, rfl, .ref qa, .ref pa, now, p, rfl, .tup (SqT.of hqa7) (int_dpAll _), .tup hpa (.cons (.int _) (.cons (.int _) .nil)), by rw [hnl]; exact hplt.1, by rw [hnl]; exact hplt.2.1, by have := wb.le; omega, fun H9 l g9 hlq => ?_⟩
          have ed9 := g9.at ed7
          have el9 := g9.at el7
          refine ⟨.ref l, rfl, .ref dk, rfl, dk, _, rfl, DGet.t (k := kk (stoop now p.1 p.2)) ed9 (by rw [kk_kV]; exact hlq), _, rfl, ?_⟩
          rw [valV_out]
          by_cases hin : stoop now p.1 p.2 ∈ found'
          · rw [if_pos hin]
            refine iteF ?_
            refine ⟨g9.at ec7, g9.dpAll hys7, g9.at hqa7, g7.trans g9, g9.at ee7, g9.tq hes7, found', later, las, _, _, rfl, ed9, el9, g9.tq hla7, hs7, hall7, ?_⟩
            rw [etk]
            intro p' hp'
            rcases List.mem_append.mp hp' with hp' | hp'
            · exact hp7 p' hp'
            · rw [List.mem_singleton.mp hp']
              exact hin
          · rw [if_neg hin]
            refine iteT ?_
            obtain ⟨hs9, hlv, hout⟩ := hs7.grow hb hnow hpn hin
            have houts : ∀ g ∈ found' ++ [stoop now p.1 p.2], Out n ties hs g := fun g hg => by
              rcases hs9.new g hg with h1 | h1
              · exact (hb.lev g h1).1
              · exact (hs9.lat g h1).2.1
            have l9 := few hs9.nd houts
            have l9' := hs9.len
            rw [List.length_append] at l9
            have l9 : found'.length + 1 ≤ 256 := l9
            have hll := hs7.len
            refine ⟨.int (s + 1 : Nat), rfl, .ref dk, rfl, .ref l, rfl, dk, _, rfl, DPut.t (k := kk (stoop now p.1 p.2)) ed9 (by rw [kk_kV]; exact hlq) (by rw [List.length_map]; exact Nat.lt_of_le_of_lt (show _ ≤ 1000 by omega) (by decide)), ?_⟩
            have eput : putK (dLv n ties hs found') (kk (stoop now p.1 p.2)) (.int (s + 1 : Nat)) = dLv n ties hs (found' ++ [stoop now p.1 p.2]) := by
              have := putK_out (f := fun g => V.int (lv n ties hs g : Nat)) hin
              rw [hlv] at this
              exact this
            rw [eput]
            have el10 : (upd H9 dk (.dT (dLv n ties hs (found' ++ [stoop now p.1 p.2])))) ll = some (.lst las) := (upd_ne hdl.symm).trans el9
            refine ⟨.ref ll, rfl, .inl ⟨rfl, _, SqL.of el10⟩, .ref l, rfl, ll, _, _, rfl, rfl, el10, by rw [(hla7).length]; exact Nat.lt_of_le_of_lt (show _ ≤ 1000 by omega) (by decide), ?_⟩
            have g10 := ((g7.trans g9).put nK ed9 (o' := .dT (dLv n ties hs (found' ++ [stoop now p.1 p.2])))).put nL el10 (o' := .lst (las ++ [.ref l]))
            have hlq10 : (upd H9 dk (.dT (dLv n ties hs (found' ++ [stoop now p.1 p.2])))) l = _ := tup_put ed9 rfl hlq
            refine ⟨?_, dpAll_put el10 (noL_pairs _) (dpAll_put ed9 (noL_pairs _) (g9.dpAll hys7)), tup_put el10 rfl (tup_put ed9 rfl (g9.at hqa7)), g10, ?_, tq_put el10 (tq_put ed9 (g9.tq hes7)), found' ++ [stoop now p.1 p.2], later ++ [stoop now p.1 p.2], las ++ [.ref l], _, _, rfl, (upd_ne hdl).trans upd_same, upd_same, each_snoc ⟨l, rfl, tup_put el10 rfl hlq10⟩ (tq_put el10 (tq_put ed9 (g9.tq hla7))), hs9, fun g hg p' hp' => List.mem_append_left _ (hall7 g hg p' hp'), ?_⟩
            · rw [upd_ne hcl, upd_ne hcd]
              exact g9.at ec7
            · rw [upd_ne hle, upd_ne hdle.symm]
              exact g9.at ee7
            · rw [etk]
              intro p' hp'
              rcases List.mem_append.mp hp' with hp' | hp'
              · exact List.mem_append_left _ (hp7 p' hp')
              · rw [List.mem_singleton.mp hp']
                exact List.mem_append_right _ (List.mem_singleton.mpr rfl)
        · obtain ⟨ec7, hys7, hqa7, g7, ee7, hes7, found', later, las, y7, y8, rfl, ed7, el7, hla7, hs7, hall7, hp7⟩ := h
          rw [hylen, List.take_length] at hp7
          refine ⟨g7, ee7, hes7, found', later, las, _, _, _, rfl, ed7, el7, hla7, hs7, ?_⟩
          intro g hg p hp
          rw [List.take_add_one, en] at hg
          rcases List.mem_append.mp hg with hg | hg
          · exact hall7 g hg p hp
          · have : g = now := by simpa using hg
            subst this
            exact hp7 p hp
      · obtain ⟨g4, ee4, hes4, found', later, las, y6, y7, y8, rfl, ed4, el4, hla4, hs4, hall4⟩ := h
        rw [hes.length, List.take_length] at hall4
        refine ⟨.ref ll, rfl, found', later, las, ll, s + 1, _, _, _, _, ?_, rfl, g4, ed4, el4, hla4, hs4.next hb hall4⟩
        have hlen := hs4.len
        have houts : ∀ g ∈ found', Out n ties hs g := fun g hg => by
          rcases hs4.new g hg with h1 | h1
          · exact (hb.lev g h1).1
          · exact (hs4.lat g h1).2.1
        have l4 := few hs4.nd houts
        rw [if_neg hed]
        by_cases hlt : later = []
        · subst hlt
          rw [if_pos rfl]
          simp only [List.length_nil] at hlen
          omega
        · rw [if_neg hlt]
          have : 1 ≤ later.length := List.length_pos_iff.mpr hlt
          omega
end
end So
namespace So
open PySem PySem.Spec PyProof.Rows L2 PySem.W LamX L2.DX
open C8 (Cal pe_c pe_gc)
open RZ StX
mutual
/-- whole numbers, lists and tuples of such -/
def okD : PyData → Bool
  | .int _ => true
  | .list ds => okDs ds
  | .tuple ds => okDs ds
  | _ => false
def okDs : List PyData → Bool
  | [] => true
  | d :: ds => okD d && okDs ds
end
theorem okDs_at : ∀ {ds : List PyData}, okDs ds = true → ∀ {i : Nat} {d : PyData}, ds[i]? = some d → okD d = true
  | [], _, _, _, h => by simp at h
  | x :: xs, ok, 0, d, h => by
    have ok : (okD x && okDs xs) = true := ok
    rw [Bool.and_eq_true] at ok
    cases Option.some.inj h
    exact ok.1
  | x :: xs, ok, i + 1, d, h => by
    have ok : (okD x && okDs xs) = true := ok
    rw [Bool.and_eq_true] at ok
    exact okDs_at ok.2 (i := i) h
theorem depth_at : ∀ {ds : List PyData} {i : Nat} {d : PyData}, ds[i]? = some d → d.depth ≤ PyData.depthAll ds
  | [], _, _, h => by simp at h
  | x :: xs, 0, d, h => by
    cases Option.some.inj h
    rw [PyData.depthAll]
    omega
  | x :: xs, i + 1, d, h => by
    have := depth_at (ds := xs) (i := i) h
    rw [PyData.depthAll]
    omega
mutual
/-- no list or tuple is too long -/
def smallD : PyData → Bool
  | .list ds => decide (ds.length ≤ 100000) && smallDs ds
  | .tuple ds => decide (ds.length ≤ 100000) && smallDs ds
  | _ => true
def smallDs : List PyData → Bool
  | [] => true
  | d :: ds => smallD d && smallDs ds
end
theorem smallDs_at : ∀ {ds : List PyData}, smallDs ds = true → ∀ {i : Nat} {d : PyData}, ds[i]? = some d → smallD d = true
  | [], _, _, _, h => by simp at h
  | x :: xs, ok, 0, d, h => by
    have ok : (smallD x && smallDs xs) = true := ok
    rw [Bool.and_eq_true] at ok
    cases Option.some.inj h
    exact ok.1
  | x :: xs, ok, i + 1, d, h => by
    have ok : (smallD x && smallDs xs) = true := ok
    rw [Bool.and_eq_true] at ok
    exact smallDs_at ok.2 (i := i) h
section
variable {P : Program} {w : World} {K : PySem.W.Frag} {mg : Str → Option Value} {base : Heap} {T : List (Addr × Str)}
def spAlike (K : PySem.W.Frag) (T : List (Addr × Str)) (dep : Nat) : Sp := fun vs H Q _ => ∃ (x y : V) (d : PyData), vs = [x, y] ∧ Dp K H x d ∧ Dp K H y d ∧ okD d = true ∧ d.depth ≤ dep ∧ smallD d = true ∧ ∀ H', Gr T H H' → Q (.bl true) H'
theorem kit_seq {t : String} (h : t = "tuple" ∨ t = "list") : PySem.W.kitAny K (.type t) [.type "tuple", .type "list"] = some true := by
  rcases h with rfl | rfl
  · exact kitAny_cons (b := true) (kit_ty (by decide +kernel)) (fun h => by cases h) (fun _ => rfl)
  · exact kitAny_cons (b := false) (kit_ty (by decide +kernel)) (fun _ => kitAny_cons (b := true) (kit_ty (by decide +kernel)) (fun h => by cases h) (fun _ => rfl)) (fun h => by cases h)
theorem kit_int : PySem.W.kitAny K (.type "int") [.type "tuple", .type "list"] = some false :=
  kitAny_cons (b := false) (kit_ty (by decide +kernel)) (fun _ => kitAny_cons (b := false) (kit_ty (by decide +kernel)) (fun _ => kitAny_nil) (fun h => by cases h)) (fun h => by cases h)
theorem pcls : Paired ClsV [V.ty "tuple", V.ty "list"] [Value.type "tuple", Value.type "list"] := .cons (.ty _) (.cons (.ty _) .nil)
/-- the answer at a whole number -/
theorem alike_int {f : Addr} {A : Around} {outer : List Env} {s : Shared} {H : Hp} {Q : VK} {E : XK} {cdv : Value} (N : Nm mg) (i : Int) (q : ∀ H', Gr T H H' → Q (.bl true) H') :
    ∃ t, PSs (cxOf C8.CX0 P w K mg base ["_law_found", "_law_due", "_law_k"] "_law_alike" (defScope s_law_alike) f cdv A outer s H E) (defBody s_law_alike) t ∧ t { nx := fun _ H' => Q .non H', rt := Q } (L2.start ["_law_found", "_law_due", "_law_k"] [.int i, .int i]) H := by
  refine ⟨_, PSs.nox (pss_cons (ps_if (pt_val (pe_callB call_isiT rfl N.isinstance_ bb_isinstance (pa_cons (pv 1) (pa_cons (pe_tup (pa_cons (ty_tuple rfl N.tuple_) (pa_cons (ty_list rfl N.list_) pa_nil))) pa_nil)))) pss_never pss_nil)
      (pss_cons (ps_if (PW.pt (pw_or (pt_cmpR op_isN (pv 1) pe_non (nomark _)) (pw_or1 (pt_val (pe_callB call_isi rfl N.isinstance_ bb_isinstance (pa_cons (pv 1) (pa_cons (ty_str rfl N.str_) pa_nil))))))) pss_never pss_nil)
      (pss_one (ps_ret (pe_and (pe_callB call_isi rfl N.isinstance_ bb_isinstance (pa_cons (pv 0) (pa_cons (ty_int rfl N.int_) pa_nil))) (pe_and (pe_cmpR op_eq (pe_callB call_isi rfl N.isinstance_ bb_isinstance (pa_cons (pv 0) (pa_cons (ty_bool rfl N.bool_) pa_nil))) (pe_callB call_isi rfl N.isinstance_ bb_isinstance (pa_cons (pv 1) (pa_cons (ty_bool rfl N.bool_) pa_nil))) (nomark _)) (pe_one (pe_cmpR op_eq (pv 0) (pv 1) (nomark _))))))))), ?_⟩
  refine ⟨.int i, rfl, by show 2 ≤ sizeLine; decide, fun t nt => ?_⟩
  have gt := Gr.new (T := T) (o := HO.tup [V.ty "tuple", V.ty "list"]) nt
  refine ⟨_, t, _, .type "int", _, false, rfl, upd_same, pcls, .base (.int i), kit_int, _, rfl, iteF ?_⟩
  refine ⟨.int i, rfl, rfl, _, rfl, iteF ?_⟩
  refine ⟨.int i, rfl, _, _, _, _, false, rfl, .ty _, .base (.int i), kit_ty (by decide +kernel), false, rfl, iteF ?_⟩
  refine ⟨.int i, rfl, _, _, _, _, true, rfl, .ty _, .base (.int i), kit_ty (by decide +kernel), true, rfl, ?_⟩
  refine ⟨.int i, rfl, _, _, _, _, false, rfl, .ty _, .base (.int i), kit_ty (by decide +kernel), .int i, rfl, _, _, _, _, false, rfl, .ty _, .base (.int i), kit_ty (by decide +kernel), rfl, true, rfl, ?_⟩
  refine ⟨.int i, rfl, .int i, rfl, rfl, ?_⟩
  show Q (.bl (decide (V.int i = V.int i))) _
  rw [decide_eq_true rfl]
  exact q _ gt
theorem alike_tup {f : Addr} {A : Around} {outer : List Env} {s : Shared} {H : Hp} {Q : VK} {E : XK} {cdv : Value} {dep j k : Nat} (N : Nm mg) (C : Cal P w K mg base k "_law_alike" (spAlike K T dep) []) (hk : k ≤ j) (hr : Room j (A.deeper (envOfC "_law_alike" (defScope s_law_alike) s.heap.objs.size f cdv))) {a b : Addr} {xs ys : List V} {ds : List PyData}
    (ha : SqT K H a xs) (hb : SqT K H b ys) (hx : DpAll K H xs ds) (hy : DpAll K H ys ds) (ok : okDs ds = true) (hd : PyData.depthAll ds ≤ dep) (hn : ds.length ≤ 100000) (hsm : smallDs ds = true) (q : ∀ H', Gr T H H' → Q (.bl true) H') :
    ∃ t, PSs (cxOf C8.CX0 P w K mg base ["_law_found", "_law_due", "_law_k"] "_law_alike" (defScope s_law_alike) f cdv A outer s H E) (defBody s_law_alike) t ∧ t { nx := fun _ H' => Q .non H', rt := Q } (L2.start ["_law_found", "_law_due", "_law_k"] [.ref a, .ref b]) H := by
  refine ⟨_, PSs.nox (pss_cons (ps_if (pt_val (pe_callB call_isiT rfl N.isinstance_ bb_isinstance (pa_cons (pv 1) (pa_cons (pe_tup (pa_cons (ty_tuple rfl N.tuple_) (pa_cons (ty_list rfl N.list_) pa_nil))) pa_nil))))
      (pss_cons (ps_if (PW.pt (pw_or (pt_not (pt_val (pe_callB call_isiT rfl N.isinstance_ bb_isinstance (pa_cons (pv 0) (pa_cons (pe_tup (pa_cons (ty_tuple rfl N.tuple_) (pa_cons (ty_list rfl N.list_) pa_nil))) pa_nil))))) (pw_or1 (pt_cmpR op_ne (pe_callB call_isi rfl N.isinstance_ bb_isinstance (pa_cons (pv 0) (pa_cons (ty_list rfl N.list_) pa_nil))) (pe_callB call_isi rfl N.isinstance_ bb_isinstance (pa_cons (pv 1) (pa_cons (ty_list rfl N.list_) pa_nil))) (nomark _))))) pss_never pss_nil)
      (pss_cons (ps_if (pt_cmpR op_ne (pe_callB call_len_seq rfl N.len_ PySem.boot_len (pa_cons (pv 0) pa_nil)) (pe_callB call_len_seq rfl N.len_ PySem.boot_len (pa_cons (pv 1) pa_nil)) (nomark _)) pss_never pss_nil)
      (pss_one (ps_ret (pe_cmpR (op_eqD hr.units) (pe_lc (own := [("_law_k", 2)]) (g := gName 2) (tt := tNot (tB (tCall (spAlike K T dep) [] C8.E0 (tCons (tOp (rIxT K) (tVar 0) (tVar 2)) (tCons (tOp (rIxT K) (tVar 1) (tVar 2)) tNil))))) rfl sc_law_alike.nd (pi_range1 rfl N.range_ (pa_cons (pe_callB call_len_seq rfl N.len_ PySem.boot_len (pa_cons (pv 1) pa_nil)) pa_nil)) (blkOk_by (own := [("_law_k", 2)]) (N := ["_law_found", "_law_due", "_law_k"]) (sc := defScope s_law_alike) (by decide +kernel)) (fun _ _ _ _ _ => pg_name (i := 2) sc_law_alike.nd rfl (Or.inl rfl))
        (fun _ _ _ _ _ => pts_one (pt_not (pt_val (pe_c C hr hk rfl (pa_cons (pe_ix ix_tup (pv 0) (pv 2) (fun _ _ => rfl)) (pa_cons (pe_ix ix_tup (pv 1) (pv 2) (fun _ _ => rfl)) pa_nil)))))) (fun _ _ _ _ _ => pv 2)) (pe_lst pa_nil) (nomark _)))))) pss_nil)
      pss_never), ?_⟩
  have lx := DpAll.len hx
  have ly := DpAll.len hy
  refine ⟨.ref b, rfl, by show 2 ≤ sizeLine; decide, fun t nt => ?_⟩
  have g1 := Gr.new (T := T) (o := HO.tup [V.ty "tuple", V.ty "list"]) nt
  refine ⟨_, t, _, .type "tuple", _, true, rfl, upd_same, pcls, tx_tup (g1.sqT hb), kit_seq (by simp), _, rfl, iteT ?_⟩
  refine ⟨.ref a, rfl, by show 2 ≤ sizeLine; decide, fun t2 nt2 => ?_⟩
  have g2 := g1.trans (Gr.new (T := T) (o := HO.tup [V.ty "tuple", V.ty "list"]) nt2)
  refine ⟨_, t2, _, .type "tuple", _, true, rfl, upd_same, pcls, tx_tup (g2.sqT ha), kit_seq (by simp), _, rfl, iteF ?_⟩
  refine ⟨.ref a, rfl, _, _, _, _, false, rfl, .ty _, tx_tup (g2.sqT ha), kit_ty (by decide +kernel), .ref b, rfl, _, _, _, _, false, rfl, .ty _, tx_tup (g2.sqT hb), kit_ty (by decide +kernel), rfl, _, rfl, iteF ?_⟩
  refine ⟨.ref a, rfl, _, _, rfl, .inr (g2.sqT ha), .ref b, rfl, _, _, rfl, .inr (g2.sqT hb), rfl, _, rfl, ?_⟩
  refine iteNS (by rw [lx, ly]) ?_
  refine ⟨.ref b, rfl, _, _, rfl, .inr (g2.sqT hb), (ds.length : Nat), by rw [ly], by omega, by omega, fun D hD => ?_⟩
  refine lcD (T := T) (K := K) (List.range ds.length) (fun _ => none) (fun _ _ e => by cases e) (walk_rg0 (Int.toNat_natCast _)) (by rw [List.length_range]) hD (by rw [List.length_range]; exact hn) (fun _ _ => True.intro) (fun i k' x H3 H4 Yes No ex g3 yy hyes hno => ?_) (fun H' zs g' eD hzs => ?_)
  · obtain ⟨rfl, rfl⟩ := yy
    have hi : i < ds.length := by
      have := (List.getElem?_eq_some_iff.mp ex).1
      rwa [List.length_range] at this
    have ed : ds[i]? = some ds[i] := List.getElem?_eq_getElem hi
    generalize ds[i] = d at ed
    have gg := g2.trans g3
    obtain ⟨x, e1, h1⟩ := dpAll_at (gg.dpAll hx) ed
    obtain ⟨y, e2, h2⟩ := dpAll_at (gg.dpAll hy) ed
    refine ⟨rfl, ?_⟩
    refine ⟨.ref a, rfl, .int i, rfl, a, _, (i : Nat), x, rfl, rfl, gg.sqT ha, atI_nat e1, .ref b, rfl, .int i, rfl, b, _, (i : Nat), y, rfl, rfl, gg.sqT hb, atI_nat e2, x, y, d, rfl, h1, h2, okDs_at ok ed, Nat.le_trans (depth_at ed) hd, smallDs_at hsm ed, fun H5 g5 => ?_⟩
    exact ⟨true, rfl, hno _ rfl g5⟩
  · have e : (List.range ds.length).filterMap (fun _ => (none : Option PyData)) = [] := by
      induction List.range ds.length with
      | nil => rfl
      | cons a l ih => rw [List.filterMap_cons_none rfl, ih]
    rw [e] at hzs
    refine ⟨by show 0 ≤ sizeLine; decide, fun t3 nt3 => ?_⟩
    have g4 := Gr.new (T := T) (o := HO.lst []) nt3
    refine ⟨.list [], .list [], g4.dp (.lst (SqL.of eD) hzs), .lst (SqL.of upd_same) .nil, shaped_nil, shaped_nil, ?_⟩
    rw [eqv_nil]
    exact q _ ((g2.trans g').trans g4)
theorem alike_list {f : Addr} {A : Around} {outer : List Env} {s : Shared} {H : Hp} {Q : VK} {E : XK} {cdv : Value} {dep j k : Nat} (N : Nm mg) (C : Cal P w K mg base k "_law_alike" (spAlike K T dep) []) (hk : k ≤ j) (hr : Room j (A.deeper (envOfC "_law_alike" (defScope s_law_alike) s.heap.objs.size f cdv))) {a b : Addr} {xs ys : List V} {ds : List PyData}
    (ha : SqL K H a xs) (hb : SqL K H b ys) (hx : DpAll K H xs ds) (hy : DpAll K H ys ds) (ok : okDs ds = true) (hd : PyData.depthAll ds ≤ dep) (hn : ds.length ≤ 100000) (hsm : smallDs ds = true) (q : ∀ H', Gr T H H' → Q (.bl true) H') :
    ∃ t, PSs (cxOf C8.CX0 P w K mg base ["_law_found", "_law_due", "_law_k"] "_law_alike" (defScope s_law_alike) f cdv A outer s H E) (defBody s_law_alike) t ∧ t { nx := fun _ H' => Q .non H', rt := Q } (L2.start ["_law_found", "_law_due", "_law_k"] [.ref a, .ref b]) H := by
  refine ⟨_, PSs.nox (pss_cons (ps_if (pt_val (pe_callB call_isiT rfl N.isinstance_ bb_isinstance (pa_cons (pv 1) (pa_cons (pe_tup (pa_cons (ty_tuple rfl N.tuple_) (pa_cons (ty_list rfl N.list_) pa_nil))) pa_nil))))
      (pss_cons (ps_if (PW.pt (pw_or (pt_not (pt_val (pe_callB call_isiT rfl N.isinstance_ bb_isinstance (pa_cons (pv 0) (pa_cons (pe_tup (pa_cons (ty_tuple rfl N.tuple_) (pa_cons (ty_list rfl N.list_) pa_nil))) pa_nil))))) (pw_or1 (pt_cmpR op_ne (pe_callB call_isi rfl N.isinstance_ bb_isinstance (pa_cons (pv 0) (pa_cons (ty_list rfl N.list_) pa_nil))) (pe_callB call_isi rfl N.isinstance_ bb_isinstance (pa_cons (pv 1) (pa_cons (ty_list rfl N.list_) pa_nil))) (nomark _))))) pss_never pss_nil)
      (pss_cons (ps_if (pt_cmpR op_ne (pe_callB call_len_seq rfl N.len_ PySem.boot_len (pa_cons (pv 0) pa_nil)) (pe_callB call_len_seq rfl N.len_ PySem.boot_len (pa_cons (pv 1) pa_nil)) (nomark _)) pss_never pss_nil)
      (pss_one (ps_ret (pe_cmpR (op_eqD hr.units) (pe_lc (own := [("_law_k", 2)]) (g := gName 2) (tt := tNot (tB (tCall (spAlike K T dep) [] C8.E0 (tCons (tOp (rIxL K) (tVar 0) (tVar 2)) (tCons (tOp (rIxL K) (tVar 1) (tVar 2)) tNil))))) rfl sc_law_alike.nd (pi_range1 rfl N.range_ (pa_cons (pe_callB call_len_seq rfl N.len_ PySem.boot_len (pa_cons (pv 1) pa_nil)) pa_nil)) (blkOk_by (own := [("_law_k", 2)]) (N := ["_law_found", "_law_due", "_law_k"]) (sc := defScope s_law_alike) (by decide +kernel)) (fun _ _ _ _ _ => pg_name (i := 2) sc_law_alike.nd rfl (Or.inl rfl))
        (fun _ _ _ _ _ => pts_one (pt_not (pt_val (pe_c C hr hk rfl (pa_cons (pe_ix ix_list (pv 0) (pv 2) (fun _ _ => rfl)) (pa_cons (pe_ix ix_list (pv 1) (pv 2) (fun _ _ => rfl)) pa_nil)))))) (fun _ _ _ _ _ => pv 2)) (pe_lst pa_nil) (nomark _)))))) pss_nil)
      pss_never), ?_⟩
  have lx := DpAll.len hx
  have ly := DpAll.len hy
  refine ⟨.ref b, rfl, by show 2 ≤ sizeLine; decide, fun t nt => ?_⟩
  have g1 := Gr.new (T := T) (o := HO.tup [V.ty "tuple", V.ty "list"]) nt
  refine ⟨_, t, _, .type "list", _, true, rfl, upd_same, pcls, tx_lst (g1.sqL hb), kit_seq (by simp), _, rfl, iteT ?_⟩
  refine ⟨.ref a, rfl, by show 2 ≤ sizeLine; decide, fun t2 nt2 => ?_⟩
  have g2 := g1.trans (Gr.new (T := T) (o := HO.tup [V.ty "tuple", V.ty "list"]) nt2)
  refine ⟨_, t2, _, .type "list", _, true, rfl, upd_same, pcls, tx_lst (g2.sqL ha), kit_seq (by simp), _, rfl, iteF ?_⟩
  refine ⟨.ref a, rfl, _, _, _, _, true, rfl, .ty _, tx_lst (g2.sqL ha), kit_ty (by decide +kernel), .ref b, rfl, _, _, _, _, true, rfl, .ty _, tx_lst (g2.sqL hb), kit_ty (by decide +kernel), rfl, _, rfl, iteF ?_⟩
  refine ⟨.ref a, rfl, _, _, rfl, .inl (g2.sqL ha), .ref b, rfl, _, _, rfl, .inl (g2.sqL hb), rfl, _, rfl, ?_⟩
  refine iteNS (by rw [lx, ly]) ?_
  refine ⟨.ref b, rfl, _, _, rfl, .inl (g2.sqL hb), (ds.length : Nat), by rw [ly], by omega, by omega, fun D hD => ?_⟩
  refine lcD (T := T) (K := K) (List.range ds.length) (fun _ => none) (fun _ _ e => by cases e) (walk_rg0 (Int.toNat_natCast _)) (by rw [List.length_range]) hD (by rw [List.length_range]; exact hn) (fun _ _ => True.intro) (fun i k' x H3 H4 Yes No ex g3 yy hyes hno => ?_) (fun H' zs g' eD hzs => ?_)
  · obtain ⟨rfl, rfl⟩ := yy
    have hi : i < ds.length := by
      have := (List.getElem?_eq_some_iff.mp ex).1
      rwa [List.length_range] at this
    have ed : ds[i]? = some ds[i] := List.getElem?_eq_getElem hi
    generalize ds[i] = d at ed
    have gg := g2.trans g3
    obtain ⟨x, e1, h1⟩ := dpAll_at (gg.dpAll hx) ed
    obtain ⟨y, e2, h2⟩ := dpAll_at (gg.dpAll hy) ed
    refine ⟨rfl, ?_⟩
    refine ⟨.ref a, rfl, .int i, rfl, a, _, (i : Nat), x, rfl, rfl, gg.sqL ha, atI_nat e1, .ref b, rfl, .int i, rfl, b, _, (i : Nat), y, rfl, rfl, gg.sqL hb, atI_nat e2, x, y, d, rfl, h1, h2, okDs_at ok ed, Nat.le_trans (depth_at ed) hd, smallDs_at hsm ed, fun H5 g5 => ?_⟩
    exact ⟨true, rfl, hno _ rfl g5⟩
  · have e : (List.range ds.length).filterMap (fun _ => (none : Option PyData)) = [] := by
      induction List.range ds.length with
      | nil => rfl
      | cons a l ih => rw [List.filterMap_cons_none rfl, ih]
    rw [e] at hzs
    refine ⟨by show 0 ≤ sizeLine; decide, fun t3 nt3 => ?_⟩
    have g4 := Gr.new (T := T) (o := HO.lst []) nt3
    refine ⟨.list [], .list [], g4.dp (.lst (SqL.of eD) hzs), .lst (SqL.of upd_same) .nil, shaped_nil, shaped_nil, ?_⟩
    rw [eqv_nil]
    exact q _ ((g2.trans g').trans g4)
theorem ok_alike {f : Addr} {fd : FuncData} (F : FnP K "_law_alike" s_law_alike f fd) (N : Nm mg) (g : mg "_law_alike" = some (.ref f)) :
    ∀ dep : Nat, Cal P w K mg base (dep + 1) "_law_alike" (spAlike K T dep) []
  | 0 => by
    refine ⟨f, fd, _, [], F.ok sc_law_alike (fun vs H Q E h => ?_) (fun cdv A outer s H vs Q E hr h => ?_), g, F.kp, b_law_alike F, .nil⟩
    · obtain ⟨x, y, d, rfl, _⟩ := h
      rfl
    · obtain ⟨x, y, d, rfl, hx, hy, ok, hd, _, q⟩ := h
      cases d with
      | int i =>
        rw [dp_int hx, dp_int hy]
        exact alike_int N i q
      | list ds => rw [PyData.depth] at hd; omega
      | tuple ds => rw [PyData.depth] at hd; omega
      | none => cases ok
      | bool b => cases ok
      | str s => cases ok
      | dict l => cases ok
  | dep + 1 => by
    have C := ok_alike F N g dep
    refine ⟨f, fd, _, [], F.ok sc_law_alike (fun vs H Q E h => ?_) (fun cdv A outer s H vs Q E hr h => ?_), g, F.kp, b_law_alike F, .nil⟩
    · obtain ⟨x, y, d, rfl, _⟩ := h
      rfl
    · obtain ⟨x, y, d, rfl, hx, hy, ok, hd, sm, q⟩ := h
      cases d with
      | int i =>
        rw [dp_int hx, dp_int hy]
        exact alike_int N i q
      | list ds =>
        obtain ⟨a, xs, rfl, ha, hxs⟩ := dp_lst hx
        obtain ⟨b, ys, rfl, hb, hys⟩ := dp_lst hy
        have sm : (decide (ds.length ≤ 100000) && smallDs ds) = true := sm
        rw [Bool.and_eq_true, decide_eq_true_eq] at sm
        rw [PyData.depth] at hd
        exact alike_list N C (Nat.le_refl _) hr ha hb hxs hys ok (by omega) sm.1 sm.2 q
      | tuple ds =>
        obtain ⟨a, xs, rfl, ha, hxs⟩ := dp_tup hx
        obtain ⟨b, ys, rfl, hb, hys⟩ := dp_tup hy
        have sm : (decide (ds.length ≤ 100000) && smallDs ds) = true := sm
        rw [Bool.and_eq_true, decide_eq_true_eq] at sm
        rw [PyData.depth] at hd
        exact alike_tup N C (Nat.le_refl _) hr ha hb hxs hys ok (by omega) sm.1 sm.2 q
      | none => cases ok
      | bool b => cases ok
      | str s => cases ok
      | dict l => cases ok
end
end So
/-! plain: the fewest stoops, by lots of persons who stoop to the same height -/
namespace So
theorem mem_open {hs gs : List Int} {z : Int} {i : Nat} : i ∈ openAt hs gs z ↔ i < hs.length ∧ z ≤ hs.getD i 0 ∧ gs.getD i 0 ≤ z := by
  unfold openAt
  rw [List.mem_filter, List.mem_range, decide_eq_true_eq]
theorem mem_src {hs gs : List Int} {z : Int} {i : Nat} : i ∈ srcAt hs gs z ↔ i < hs.length ∧ gs.getD i 0 ≤ z ∧ hs.getD i 0 = z := by
  unfold srcAt
  rw [List.mem_filter, mem_open, decide_eq_true_eq]
  constructor
  · rintro ⟨⟨h1, h2, h3⟩, h4⟩
    exact ⟨h1, h3, h4⟩
  · rintro ⟨h1, h3, h4⟩
    exact ⟨⟨h1, by omega, h3⟩, h4⟩
theorem mem_due {hs gs : List Int} {z : Int} {i : Nat} : i ∈ dueAt hs gs z ↔ i < hs.length ∧ z ≤ hs.getD i 0 ∧ gs.getD i 0 = z ∧ hs.getD i 0 ≠ z := by
  unfold dueAt
  rw [List.mem_filter, mem_open, decide_eq_true_eq]
  constructor
  · rintro ⟨⟨h1, h2, h3⟩, h4, h5⟩
    exact ⟨h1, h2, h4, h5⟩
  · rintro ⟨h1, h2, h4, h5⟩
    exact ⟨⟨h1, h2, by omega⟩, h4, h5⟩
theorem mem_free {hs gs : List Int} {z : Int} {i : Nat} : i ∈ freeAt hs gs z ↔ i < hs.length ∧ gs.getD i 0 ≤ z ∧ z < hs.getD i 0 := by
  unfold freeAt
  rw [List.mem_filter, mem_open, decide_eq_true_eq]
  constructor
  · rintro ⟨⟨h1, h2, h3⟩, h4⟩
    exact ⟨h1, h3, by omega⟩
  · rintro ⟨h1, h3, h4⟩
    exact ⟨⟨h1, by omega, h3⟩, by omega⟩
theorem free_nodup (hs gs : List Int) (z : Int) : (freeAt hs gs z).Nodup := by
  unfold freeAt openAt
  exact List.Nodup.sublist List.filter_sublist (List.Nodup.sublist List.filter_sublist List.nodup_range)
theorem stoop_same {g : List Int} {a b : Nat} (h : a < g.length) : (stoop g a b).getD a 0 = g.getD b 0 := by
  unfold stoop
  rw [List.getD_eq_getElem?_getD, List.getElem?_set_self h]
  rfl
theorem stoop_ne {g : List Int} {a b i : Nat} (h : i ≠ a) : (stoop g a b).getD i 0 = g.getD i 0 := by
  unfold stoop
  rw [List.getD_eq_getElem?_getD, List.getElem?_set_ne (fun e => h e.symm), ← List.getD_eq_getElem?_getD]
theorem Hang.mono {ties : List (Nat × Nat)} {lot lot' : List Nat} (h : ∀ x ∈ lot, x ∈ lot') {p x : Nat} (hp : Hang ties lot p x) : Hang ties lot' p x := by
  induction hp with
  | base => exact .base
  | step _ h1 h2 ih => exact .step ih h1 (h _ h2)
theorem Hang.trans {ties : List (Nat × Nat)} {lot : List Nat} {p y x : Nat} (h1 : Hang ties lot p y) (h2 : Hang ties lot y x) : Hang ties lot p x := by
  induction h2 with
  | base => exact h1
  | step _ h3 h4 ih => exact .step ih h3 h4
section
variable {n : Nat} {ties : List (Nat × Nat)} {h : List Int}
theorem Rch.down (wb : Wb n ties) (hl : h.length = n) {k : Nat} {g : List Int} (r : Rch n ties h k g) (i : Nat) : g.getD i 0 ≤ h.getD i 0 := by
  induction r with
  | zero => exact Int.le_refl _
  | @succ k g p r hp ih =>
    obtain ⟨h1, _, h3⟩ := nexts_mem.mp hp
    by_cases e : i = p.1
    · subst e
      rw [stoop_same (by rw [r.len, hl]; exact h1)]
      omega
    · rw [stoop_ne e]
      exact ih
/-- the lot of those who stooped to z in a row that is told by R -/
def lotOf (h : List Int) (R : List (Nat × Int)) (g : List Int) (z : Int) : List Nat := (freeAt h g z).filter fun p => decide ((p, z) ∈ R)
theorem mem_lot {R : List (Nat × Int)} {g : List Int} {z : Int} {p : Nat} : p ∈ lotOf h R g z ↔ p ∈ freeAt h g z ∧ (p, z) ∈ R := by
  unfold lotOf
  rw [List.mem_filter, decide_eq_true_eq]
structure Rec (n : Nat) (ties : List (Nat × Nat)) (h : List Int) (k : Nat) (g : List Int) (R : List (Nat × Int)) : Prop where
  len : R.length = k
  free : ∀ q ∈ R, q.1 ∈ freeAt h g q.2
  all : ∀ p, p < n → g.getD p 0 ≠ h.getD p 0 → (p, g.getD p 0) ∈ R
  join : ∀ q ∈ R, ∃ x ∈ srcAt h g q.2, Hang ties (lotOf h R g q.2 ++ srcAt h g q.2) q.1 x
theorem rch_rec (wb : Wb n ties) (hl : h.length = n) {k : Nat} {g : List Int} (r : Rch n ties h k g) : ∃ R, Rec n ties h k g R := by
  induction r with
  | zero => exact ⟨[], rfl, fun q hq => (by cases hq), fun p _ e => absurd rfl e, fun q hq => (by cases hq)⟩
  | @succ k g p r hp ih =>
    obtain ⟨R, hR⟩ := ih
    obtain ⟨a, b⟩ := p
    obtain ⟨h1, h2, h3⟩ := nexts_mem.mp hp
    obtain ⟨_, hbn, hba⟩ := nexts_lt wb hp
    have h1 : a < n := h1
    have h2 : b ∈ tiedTo ties a := h2
    have h3 : g.getD b 0 < g.getD a 0 := h3
    have hbn : b < n := hbn
    have hba : b ≠ a := hba
    have hgl : g.length = n := by rw [r.len, hl]
    have da := r.down wb hl a
    have db := r.down wb hl b
    have ea : (stoop g a b).getD a 0 = g.getD b 0 := stoop_same (by rw [hgl]; exact h1)
    have eb : (stoop g a b).getD b 0 = g.getD b 0 := stoop_ne hba
    have dn : ∀ i, (stoop g a b).getD i 0 ≤ g.getD i 0 := fun i => by
      by_cases e : i = a
      · rw [e, ea]
        omega
      · rw [stoop_ne e]
        exact Int.le_refl _
    show ∃ R, Rec n ties h (k + 1) (stoop g a b) R
    have fr : ∀ {p : Nat} {z : Int}, p ∈ freeAt h g z → p ∈ freeAt h (stoop g a b) z := fun {p z} hf => by
      obtain ⟨f1, f2, f3⟩ := mem_free.mp hf
      exact mem_free.mpr ⟨f1, Int.le_trans (dn p) f2, f3⟩
    have sr : ∀ {p : Nat} {z : Int}, p ∈ srcAt h g z → p ∈ srcAt h (stoop g a b) z := fun {p z} hf => by
      obtain ⟨f1, f2, f3⟩ := mem_src.mp hf
      exact mem_src.mpr ⟨f1, Int.le_trans (dn p) f2, f3⟩
    have mono : ∀ z : Int, ∀ x ∈ lotOf h R g z ++ srcAt h g z, x ∈ lotOf h (R ++ [(a, g.getD b 0)]) (stoop g a b) z ++ srcAt h (stoop g a b) z := fun z x hx => by
      rcases List.mem_append.mp hx with hx | hx
      · obtain ⟨f1, f2⟩ := mem_lot.mp hx
        exact List.mem_append_left _ (mem_lot.mpr ⟨fr f1, List.mem_append_left _ f2⟩)
      · exact List.mem_append_right _ (sr hx)
    refine ⟨R ++ [(a, g.getD b 0)], by rw [List.length_append, hR.len]; rfl, fun q hq => ?_, fun p hp' e => ?_, fun q hq => ?_⟩
    · rcases List.mem_append.mp hq with hq | hq
      · exact fr (hR.free q hq)
      · rw [List.mem_singleton.mp hq]
        exact mem_free.mpr ⟨by rw [hl]; exact h1, by show (stoop g a b).getD a 0 ≤ g.getD b 0; rw [ea]; exact Int.le_refl _, by show g.getD b 0 < h.getD a 0; omega⟩
    · by_cases ep : p = a
      · subst ep
        rw [ea]
        exact List.mem_append_right _ (List.mem_singleton.mpr rfl)
      · rw [stoop_ne ep] at e ⊢
        exact List.mem_append_left _ (hR.all p hp' e)
    · rcases List.mem_append.mp hq with hq | hq
      · obtain ⟨x, hx, hh⟩ := hR.join q hq
        exact ⟨x, sr hx, hh.mono (mono q.2)⟩
      · rw [List.mem_singleton.mp hq]
        show ∃ x ∈ srcAt h (stoop g a b) (g.getD b 0), Hang ties (lotOf h (R ++ [(a, g.getD b 0)]) (stoop g a b) (g.getD b 0) ++ srcAt h (stoop g a b) (g.getD b 0)) a x
        by_cases ebh : h.getD b 0 = g.getD b 0
        · have hbs : b ∈ srcAt h (stoop g a b) (g.getD b 0) := mem_src.mpr ⟨by rw [hl]; exact hbn, by rw [eb]; exact Int.le_refl _, ebh⟩
          exact ⟨b, hbs, .step .base h2 (List.mem_append_right _ hbs)⟩
        · have hin := hR.all b hbn (fun z => ebh z.symm)
          obtain ⟨x, hx, hh⟩ := hR.join _ hin
          have hbf : b ∈ lotOf h (R ++ [(a, g.getD b 0)]) (stoop g a b) (g.getD b 0) := mem_lot.mpr ⟨mem_free.mpr ⟨by rw [hl]; exact hbn, by rw [eb]; exact Int.le_refl _, by omega⟩, List.mem_append_left _ hin⟩
          exact ⟨x, sr hx, (Hang.step .base h2 (List.mem_append_left _ hbf)).trans (hh.mono (mono _))⟩
/-- the persons who stooped to z: a lot that will do -/
theorem Rec.valid {k : Nat} {g : List Int} {R : List (Nat × Int)} (hl : h.length = n) (c : Rec n ties h k g R) (z : Int) : Valid ties h g z (lotOf h R g z) where
  sub := List.filter_sublist
  due := fun x hx => by
    obtain ⟨h1, h2, h3, h4⟩ := mem_due.mp hx
    have := c.all x (by rw [← hl]; exact h1) (by rw [h3]; exact fun e => h4 e.symm)
    rw [h3] at this
    exact mem_lot.mpr ⟨mem_free.mpr ⟨h1, by omega, by omega⟩, this⟩
  joins := fun p hp => c.join (p, z) (mem_lot.mp hp).2
theorem lot_count {R : List (Nat × Int)} {g : List Int} (z : Int) : (lotOf h R g z).length ≤ (R.filter fun q => decide (q.2 = z)).length := by
  have h1 : ((lotOf h R g z).map fun p => (p, z)).Nodup := by
    refine List.pairwise_map.mpr ?_
    have : (lotOf h R g z).Nodup := List.Nodup.sublist List.filter_sublist (free_nodup h g z)
    exact this.imp fun h1 h2 => h1 (Prod.mk.inj h2).1
  have h2 := List.Nodup.length_le_of_subset (l₂ := R.filter fun q => decide (q.2 = z)) h1 (fun q hq => by
    obtain ⟨p, hp, rfl⟩ := List.mem_map.mp hq
    exact List.mem_filter.mpr ⟨(mem_lot.mp hp).2, decide_eq_true rfl⟩)
  rw [List.length_map] at h2
  exact h2
theorem count_sum (R : List (Nat × Int)) : ∀ ks : List Int, ks.Nodup → (ks.map fun z => (R.filter fun q => decide (q.2 = z)).length).sum ≤ R.length := by
  induction R with
  | nil =>
    intro ks _
    have z : ∀ l : List Int, (l.map fun _ => 0).sum = 0 := by
      intro l
      induction l with
      | nil => rfl
      | cons a l ih => rw [List.map_cons, List.sum_cons, ih]
    show (ks.map fun _ => 0).sum ≤ 0
    rw [z]
    exact Nat.le_refl _
  | cons q R ih =>
    intro ks nd
    have key : ∀ l : List Int, l.Nodup → (l.map fun z => ((q :: R).filter fun q => decide (q.2 = z)).length).sum ≤ (l.map fun z => (R.filter fun q => decide (q.2 = z)).length).sum + (if q.2 ∈ l then 1 else 0) := by
      intro l
      induction l with
      | nil => intro _; simp
      | cons z l ihl =>
        intro ndl
        obtain ⟨n1, n2⟩ := List.nodup_cons.mp ndl
        have := ihl n2
        rw [List.map_cons, List.map_cons, List.sum_cons, List.sum_cons]
        by_cases e : q.2 = z
        · subst e
          rw [if_neg n1] at this
          rw [if_pos (List.mem_cons_self ..), List.filter_cons_of_pos (by simp), List.length_cons]
          omega
        · rw [List.filter_cons_of_neg (by simpa using e)]
          by_cases hm : q.2 ∈ l
          · rw [if_pos hm] at this
            rw [if_pos (List.mem_cons_of_mem _ hm)]
            omega
          · rw [if_neg hm] at this
            rw [if_neg (fun z' => by
              rcases List.mem_cons.mp z' with z' | z'
              · exact e z'
              · exact hm z')]
            omega
    have h1 := key ks nd
    have h2 := ih ks nd
    rw [List.length_cons]
    have h3 : (if q.2 ∈ ks then 1 else 0) ≤ 1 := by split <;> omega
    omega
theorem sum_le {ks : List Int} {f g : Int → Nat} (h : ∀ z ∈ ks, f z ≤ g z) : (ks.map f).sum ≤ (ks.map g).sum := by
  induction ks with
  | nil => exact Nat.le_refl _
  | cons a l ih =>
    rw [List.map_cons, List.map_cons, List.sum_cons, List.sum_cons]
    have := h a (List.mem_cons_self ..)
    have := ih fun z hz => h z (List.mem_cons_of_mem _ hz)
    omega
end
end So
/-! plain: so many stoops are enough; both together -/
namespace So
theorem hang_exit {ties : List (Nat × Nat)} {lot R : List Nat} {p x : Nat} (hh : Hang ties lot p x) (hp : p ∈ R) (hx : x ∉ R) : ∃ y ∈ R, ∃ z ∈ tiedTo ties y, z ∉ R ∧ z ∈ lot := by
  induction hh with
  | base => exact absurd hp hx
  | @step x' x _ h1 h2 ih =>
    by_cases hr : x' ∈ R
    · exact ⟨x', hr, x, h1, hx, h2⟩
    · exact ih hr
section
variable {n : Nat} {ties : List (Nat × Nat)} {h : List Int}
theorem spread_go (wb : Wb n ties) (hl : h.length = n) {v : Int} {L src : List Nat} (hj : Joins ties L src) : ∀ (m : Nat) (R : List Nat) (k : Nat) (c : List Int), R.length = m → R.Nodup → Rch n ties h k c → (∀ i ∈ R, i ∈ L ∧ i < n ∧ v < c.getD i 0) → (∀ i ∈ L ++ src, i ∉ R → c.getD i 0 = v) → (∀ x ∈ src, x ∉ R) →
    ∃ c', Rch n ties h (k + m) c' ∧ (∀ i ∈ R, c'.getD i 0 = v) ∧ ∀ i, i ∉ R → c'.getD i 0 = c.getD i 0
  | 0, R, k, c, hm, _, r, _, _, _ => by
    rw [List.length_eq_zero_iff.mp hm]
    exact ⟨c, r, fun i hi => (by cases hi), fun i _ => rfl⟩
  | m + 1, R, k, c, hm, nd, r, hR, hD, hS => by
    cases hRe : R with
    | nil => rw [hRe] at hm; cases hm
    | cons p R0 =>
      rw [← hRe]
      have hp : p ∈ R := by rw [hRe]; exact List.mem_cons_self ..
      obtain ⟨x, hx, hh⟩ := hj p (hR p hp).1
      obtain ⟨y, hy, z, hz, hzR, hzl⟩ := hang_exit hh hp (hS x hx)
      obtain ⟨hyL, hyn, hyc⟩ := hR y hy
      have hcz := hD z hzl hzR
      have hnx : (y, z) ∈ nexts n ties c := nexts_mem.mpr ⟨hyn, hz, by show c.getD z 0 < c.getD y 0; omega⟩
      have r1 := r.succ hnx
      have hcl : c.length = n := by rw [r.len, hl]
      have ey : (stoop c y z).getD y 0 = v := by rw [stoop_same (by rw [hcl]; exact hyn), hcz]
      have hmem : ∀ i, i ∈ R.erase y ↔ i ≠ y ∧ i ∈ R := fun i => nd.mem_erase_iff
      obtain ⟨c', h1, h2, h3⟩ := spread_go wb hl hj m (R.erase y) (k + 1) (stoop c y z) (by rw [List.length_erase_of_mem hy, hm]; rfl) (nd.erase y) r1
        (fun i hi => by
          obtain ⟨hne, hiR⟩ := (hmem i).mp hi
          obtain ⟨a, b, c'⟩ := hR i hiR
          exact ⟨a, b, by rw [stoop_ne hne]; exact c'⟩)
        (fun i hi hn => by
          by_cases e : i = y
          · rw [e]
            exact ey
          · rw [stoop_ne e]
            exact hD i hi fun hiR => hn ((hmem i).mpr ⟨e, hiR⟩))
        (fun x hx hn => hS x hx ((hmem x).mp hn).2)
      refine ⟨c', by rw [show k + (m + 1) = k + 1 + m by omega]; exact h1, fun i hi => ?_, fun i hi => ?_⟩
      · by_cases e : i = y
        · subst e
          rw [h3 i (fun z => ((hmem i).mp z).1 rfl)]
          exact ey
        · exact h2 i ((hmem i).mpr ⟨e, hi⟩)
      · have e : i ≠ y := fun e => hi (e ▸ hy)
        rw [h3 i (fun z => hi ((hmem i).mp z).2), stoop_ne e]
theorem build (wb : Wb n ties) (hl : h.length = n) {g : List Int} (L : Int → List Nat) (hL : ∀ z ∈ g, Valid ties h g z (L z)) : ∀ ks : List Int, ks.Pairwise (· < ·) → (∀ k ∈ ks, k ∈ g) →
    ∃ c, Rch n ties h ((ks.map fun z => (L z).length).sum) c ∧ ∀ i, i < n → (c.getD i 0 = h.getD i 0 ∨ (c.getD i 0 ∈ ks ∧ i ∈ L (c.getD i 0))) ∧ ∀ w ∈ ks, i ∈ L w → c.getD i 0 ≤ w
  | [], _, _ => ⟨h, .zero, fun i _ => ⟨.inl rfl, fun w hw => (by cases hw)⟩⟩
  | v :: ks, hp, hk => by
    obtain ⟨hv, hp'⟩ := List.pairwise_cons.mp hp
    obtain ⟨c, r, hc⟩ := build wb hl L hL ks hp' fun k hk' => hk k (List.mem_cons_of_mem _ hk')
    have V := hL v (hk v (List.mem_cons_self ..))
    have hfree : ∀ i ∈ L v, i < n ∧ g.getD i 0 ≤ v ∧ v < h.getD i 0 := fun i hi => by
      obtain ⟨a, b, c⟩ := mem_free.mp (V.sub.subset hi)
      exact ⟨by rw [← hl]; exact a, b, c⟩
    obtain ⟨c', r', h2, h3⟩ := spread_go wb hl V.joins (L v).length (L v) _ c rfl (List.Nodup.sublist V.sub (free_nodup h g v)) r
      (fun i hi => by
        obtain ⟨a, b, d⟩ := hfree i hi
        refine ⟨hi, a, ?_⟩
        rcases (hc i a).1 with e | ⟨e, _⟩
        · rw [e]
          exact d
        · exact hv _ e)
      (fun i hi hn => by
        rcases List.mem_append.mp hi with hi | hi
        · exact absurd hi hn
        · obtain ⟨a, b, d⟩ := mem_src.mp hi
          rcases (hc i (by rw [← hl]; exact a)).1 with e | ⟨e, e2⟩
          · rw [e]
            exact d
          · have hf := mem_free.mp ((hL _ (hk _ (List.mem_cons_of_mem _ e))).sub.subset e2)
            have := hv _ e
            omega)
      (fun x hx hn => by
        obtain ⟨a, b, d⟩ := mem_src.mp hx
        have := (hfree x hn).2.2
        omega)
    refine ⟨c', ?_, fun i hi => ?_⟩
    · rw [List.map_cons, List.sum_cons, Nat.add_comm]
      exact r'
    · by_cases hiL : i ∈ L v
      · rw [h2 i hiL]
        refine ⟨.inr ⟨List.mem_cons_self .., hiL⟩, fun w hw _ => ?_⟩
        rcases List.mem_cons.mp hw with e | hw
        · rw [e]
          exact Int.le_refl _
        · exact Int.le_of_lt (hv w hw)
      · rw [h3 i hiL]
        obtain ⟨h4, h5⟩ := hc i hi
        refine ⟨?_, fun w hw hiw => ?_⟩
        · rcases h4 with e | ⟨e, e2⟩
          · exact .inl e
          · exact .inr ⟨List.mem_cons_of_mem _ e, e2⟩
        · rcases List.mem_cons.mp hw with e | hw
          · rw [e] at hiw
            exact absurd hiw hiL
          · exact h5 w hw hiw
theorem ext_getD {a b : List Int} (hlen : a.length = b.length) (he : ∀ i, i < a.length → a.getD i 0 = b.getD i 0) : a = b := by
  refine List.ext_getElem hlen fun i h1 h2 => ?_
  have := he i h1
  rw [getD_at (List.getElem?_eq_getElem h1), getD_at (List.getElem?_eq_getElem h2)] at this
  exact this
/-- lots that will do: so many stoops lead to g -/
theorem lots_reach (wb : Wb n ties) (hl : h.length = n) {g : List Int} (ho : Out n ties h g) (L : Int → List Nat) (hL : ∀ z ∈ g, Valid ties h g z (L z)) (ks : List Int) (hp : ks.Pairwise (· < ·)) (hm : ∀ k, k ∈ ks ↔ k ∈ g) :
    Rch n ties h ((ks.map fun z => (L z).length).sum) g := by
  obtain ⟨c, r, hc⟩ := build wb hl L hL ks hp fun k hk => (hm k).mp hk
  obtain ⟨k0, r0⟩ := ho
  have e : c = g := by
    refine ext_getD (by rw [r.len, r0.len]) fun i hi => ?_
    have hin : i < n := by rw [r.len, hl] at hi; exact hi
    have hd := r0.down wb hl i
    obtain ⟨h1, h2⟩ := hc i hin
    by_cases e : h.getD i 0 = g.getD i 0
    · rcases h1 with e1 | ⟨e1, e2⟩
      · rw [e1, e]
      · obtain ⟨_, b, d⟩ := mem_free.mp ((hL _ ((hm _).mp e1)).sub.subset e2)
        omega
    · have hgi : g.getD i 0 ∈ g := getD_mem (by rw [r0.len, hl]; exact hin)
      have hdue : i ∈ L (g.getD i 0) := (hL _ hgi).due i (mem_due.mpr ⟨by rw [hl]; exact hin, by omega, rfl, e⟩)
      have hle := h2 _ ((hm _).mpr hgi) hdue
      rcases h1 with e1 | ⟨e1, e2⟩
      · omega
      · obtain ⟨_, b, d⟩ := mem_free.mp ((hL _ ((hm _).mp e1)).sub.subset e2)
        omega
  rw [e] at r
  exact r
open Classical in
noncomputable def minOf (ties : List (Nat × Nat)) (h g : List Int) (z : Int) : Nat := if e : ∃ m, MinLot ties h g z m then e.choose else 0
theorem min_lot {g : List Int} {z : Int} (e : ∃ lot, Valid ties h g z lot) : MinLot ties h g z (minOf ties h g z) := by
  have h1 : ∃ m, MinLot ties h g z m := by
    obtain ⟨lot, hv⟩ := e
    obtain ⟨m, ⟨l, hl1, hl2⟩, h2⟩ := exists_least (P := fun m => ∃ lot, Valid ties h g z lot ∧ lot.length = m) ⟨_, lot, hv, rfl⟩
    exact ⟨m, ⟨l, hl1, hl2⟩, fun l hv => h2 _ ⟨l, hv, rfl⟩⟩
  unfold minOf
  rw [dif_pos h1]
  exact h1.choose_spec
/-- the fewest stoops are the least lots together -/
theorem fewest_main (wb : Wb n ties) (hl : h.length = n) {g : List Int} (ho : Out n ties h g) :
    ∃ m : Int → Nat, (∀ z ∈ g, MinLot ties h g z (m z)) ∧ ∀ ks : List Int, ks.Pairwise (· < ·) → (∀ k, k ∈ ks ↔ k ∈ g) → (ks.map m).sum = lv n ties h g := by
  obtain ⟨r, hmin⟩ := lv_spec ho
  obtain ⟨R, hR⟩ := rch_rec wb hl r
  have hval : ∀ z, Valid ties h g z (lotOf h R g z) := hR.valid hl
  have hml : ∀ z, MinLot ties h g z (minOf ties h g z) := fun z => min_lot ⟨_, hval z⟩
  refine ⟨minOf ties h g, fun z _ => hml z, fun ks hp hm => Nat.le_antisymm ?_ ?_⟩
  · have h1 := sum_le (ks := ks) (f := minOf ties h g) (g := fun z => (lotOf h R g z).length) fun z _ => (hml z).le _ (hval z)
    have h2 := sum_le (ks := ks) (f := fun z => (lotOf h R g z).length) (g := fun z => (R.filter fun q => decide (q.2 = z)).length) fun z _ => lot_count z
    have h3 := count_sum R ks (hp.imp fun h => by omega)
    rw [hR.len] at h3
    omega
  · have key : ∀ z, ∃ lot, Valid ties h g z lot ∧ lot.length = minOf ties h g z := fun z => (hml z).ex
    have := lots_reach wb hl ho (fun z => (key z).choose) (fun z _ => (key z).choose_spec.1) ks hp hm
    have e : (ks.map fun z => ((key z).choose).length) = ks.map (minOf ties h g) := List.map_congr_left fun z _ => (key z).choose_spec.2
    rw [e] at this
    exact hmin _ this
/-- the members in order, each once -/
theorem distinct_list : ∀ g : List Int, ∃ ks : List Int, ks.Pairwise (· < ·) ∧ ∀ k, k ∈ ks ↔ k ∈ g
  | [] => ⟨[], .nil, fun _ => Iff.rfl⟩
  | a :: g => by
    obtain ⟨ks, h1, h2⟩ := distinct_list g
    have key : ∀ l : List Int, l.Pairwise (· < ·) → ∃ l' : List Int, l'.Pairwise (· < ·) ∧ ∀ k, k ∈ l' ↔ k = a ∨ k ∈ l := by
      intro l
      induction l with
      | nil => exact fun _ => ⟨[a], List.pairwise_singleton _ _, fun k => by simp⟩
      | cons x l ih =>
        intro hp
        obtain ⟨hx, hp'⟩ := List.pairwise_cons.mp hp
        rcases Int.lt_trichotomy a x with hl | hl | hl
        · refine ⟨a :: x :: l, List.pairwise_cons.mpr ⟨fun y hy => ?_, hp⟩, fun k => List.mem_cons⟩
          rcases List.mem_cons.mp hy with e | hy
          · rw [e]
            exact hl
          · exact Int.lt_trans hl (hx y hy)
        · refine ⟨x :: l, hp, fun k => ?_⟩
          rw [List.mem_cons, hl]
          constructor
          · rintro (h | h)
            · exact .inl h
            · exact .inr (.inr h)
          · rintro (h | h | h)
            · exact .inl h
            · exact .inl h
            · exact .inr h
        · obtain ⟨l', h3, h4⟩ := ih hp'
          refine ⟨x :: l', List.pairwise_cons.mpr ⟨fun y hy => ?_, h3⟩, fun k => ?_⟩
          · rcases (h4 y).mp hy with e | hy
            · rw [e]
              exact hl
            · exact hx y hy
          · rw [List.mem_cons, h4, List.mem_cons]
            constructor
            · rintro (h | h | h)
              · exact .inr (.inl h)
              · exact .inl h
              · exact .inr (.inr h)
            · rintro (h | h | h)
              · exact .inr (.inl h)
              · exact .inl h
              · exact .inr (.inr h)
    obtain ⟨l', h3, h4⟩ := key ks h1
    refine ⟨l', h3, fun k => ?_⟩
    rw [h4, h2, List.mem_cons]
/-- no outcome is far -/
theorem lv_small (wb : Wb n ties) (hl : h.length = n) {g : List Int} (ho : Out n ties h g) : lv n ties h g ≤ 16 := by
  obtain ⟨m, hm1, hm2⟩ := fewest_main wb hl ho
  obtain ⟨ks, h1, h2⟩ := distinct_list g
  have e := hm2 ks h1 h2
  have hg : g.length = n := by
    obtain ⟨k, r⟩ := ho
    rw [r.len, hl]
  have hk : ks.length ≤ 4 := by
    have := List.Nodup.length_le_of_subset (l₂ := g) (h1.imp fun h => by omega) (fun k hk => (h2 k).mp hk)
    have := wb.le
    omega
  have hb : ∀ z ∈ ks, m z ≤ 4 := fun z hz => by
    obtain ⟨lot, hv, hlen⟩ := (hm1 z ((h2 z).mp hz)).ex
    have h3 := hv.sub.length_le
    have h4 := filter_len' (fun i => decide (h.getD i 0 ≠ z)) (openAt h g z)
    have h5 := openAt_len h g z
    have h6 : (freeAt h g z).length ≤ (openAt h g z).length := h4
    have := wb.le
    omega
  have hs : ∀ l : List Int, (∀ z ∈ l, m z ≤ 4) → (l.map m).sum ≤ 4 * l.length := by
    intro l
    induction l with
    | nil => intro _; exact Nat.le_refl _
    | cons a l ih =>
      intro hz
      rw [List.map_cons, List.sum_cons, List.length_cons]
      have := hz a (List.mem_cons_self ..)
      have := ih fun z hz' => hz z (List.mem_cons_of_mem _ hz')
      omega
  have := hs ks hb
  omega
end
end So
/-! set(xs) of ints: no more than the distinct ones -/
namespace So
open PySem PySem.Spec PyProof.Rows L2 PySem.W
theorem setR_le {w : World} {h : Heap} {a : Addr} {S : Int → Bool} {n : Nat} (R : SetR w h a S n) (L : List Int) (hL : ∀ k, S k = true → k ∈ L) : n ≤ L.length := by
  obtain ⟨o, es, ep, t, _, _, _, _, nd, hm, _, _, hn, _⟩ := R
  have := List.Nodup.length_le_of_subset (l₂ := L) nd (fun k hk => hL k ((hm k).mpr hk))
  rw [List.length_map, Array.length_toList] at this
  omega
section
variable {X : Cx}
def rSetJ (K : PySem.W.Frag) (w : World) : List V → Hp → VK → Prop := fun vs H Q => ∃ (a : Addr) (ns : List Int), vs = [.ref a] ∧ SqL K H a (ns.map V.int) ∧ ns.length ≤ 1000 ∧
  ∀ (p : Addr) (c : Nat), H p = none → (∀ L : List Int, (∀ k ∈ ns, k ∈ L) → c ≤ L.length) → Q (.ref p) (upd H p (SetO w p (fun j => decide (j ∈ ns)) c))
theorem cr_setJ (hc : X.calm = true) : CallR X (.type "set") (rSetJ X.K X.w) := by
  intro pins s σ H vs us Q I r h
  obtain ⟨a, ns, rfl, hs, hl, q⟩ := h
  obtain rfl := Vals.ref1 r
  have hb : ns.length + 1 < scanBound := by unfold scanBound; omega
  have hn := I.hok.fresh (Nat.le_refl s.heap.objs.size)
  obtain ⟨its, rv, pl, hz⟩ := I.list hs
  refine call_set_lstI ns (I.ok.hd hc) pl.isList (ints_of_vals rv) hb fun h' tk c R1 hcn k => ?_
  exact ⟨.ref s.heap.objs.size, upd H s.heap.objs.size (SetO X.w s.heap.objs.size (fun j => decide (j ∈ ns)) c), I.laid (t' := tk) k (Nat.le_refl _) (setO_new R1), rfl, q _ c hn fun L hL => setR_le R1 L fun k hk => hL k (of_decide_eq_true hk)⟩
end
end So
namespace So
open PySem PySem.Spec PyProof.Rows L2 PySem.W LamX L2.DX
open C8 (Cal pe_c pe_gc)
open RZ StX
/-! ### data of outcomes: whole numbers only, small -/
theorem ok_ints : ∀ g : List Int, okDs (g.map .int) = true
  | [] => rfl
  | x :: g => by
    show (true && okDs (g.map .int)) = true
    rw [ok_ints g]
    rfl
theorem sm_ints : ∀ g : List Int, smallDs (g.map .int) = true
  | [] => rfl
  | x :: g => by
    show (true && smallDs (g.map .int)) = true
    rw [sm_ints g]
    rfl
theorem ok_tD (g : List Int) : okD (tD g) = true := ok_ints g
theorem sm_tD {g : List Int} (h : g.length ≤ 100) : smallD (tD g) = true := by
  show (decide ((g.map PyData.int).length ≤ 100000) && smallDs (g.map .int)) = true
  rw [sm_ints, List.length_map, decide_eq_true (by omega)]
  rfl
theorem ok_rows : ∀ l : List (List Int), okDs (l.map tD) = true
  | [] => rfl
  | g :: l => by
    show (okD (tD g) && okDs (l.map tD)) = true
    rw [ok_tD, ok_rows l]
    rfl
theorem sm_rows : ∀ l : List (List Int), (∀ g ∈ l, g.length ≤ 100) → smallDs (l.map tD) = true
  | [], _ => rfl
  | g :: l, h => by
    show (smallD (tD g) && smallDs (l.map tD)) = true
    rw [sm_tD (h g (List.mem_cons_self ..)), sm_rows l fun x hx => h x (List.mem_cons_of_mem _ hx)]
    rfl
theorem dp_rows (l : List (List Int)) : PyData.depthAll (l.map tD) ≤ 1 := depthAll_le fun d hd => by
  obtain ⟨a, _, rfl⟩ := List.mem_map.mp hd
  rw [tD_depth]
  exact Nat.le_refl _
section
variable {P : Program} {w : World} {K : PySem.W.Frag} {mg : Str → Option Value} {base : Heap} {T : List (Addr × Str)}
structure AllC (P : Program) (w : World) (K : PySem.W.Frag) (mg : Str → Option Value) (base : Heap) (T : List (Addr × Str)) : Prop where
  taken : Cal P w K mg base 1 "_law_taken" (spTaken K T) []
  web : Cal P w K mg base 2 "_law_web" (spWeb K T) []
  hts : Cal P w K mg base 2 "_law_heights" (spHeights K T) []
  steps : Cal P w K mg base 3 "_law_steps" (spLawSteps K T) []
  alike : Cal P w K mg base 4 "_law_alike" (spAlike K T 3) []
  within : Cal P w K mg base 7 "within" (spWithin K T) []
  table : Cal P w K mg base 7 "steps_table" (spTable K T) []
  far : Cal P w K mg base 7 "farthest" (spFarthest K T) []
  great : Cal P w K mg base 6 "greatest_worth" (spGreatest K T) []
  cheap : Cal P w K mg base 7 "cheapest" (spCheapest K T) []
  near : Cal P w K mg base 6 "nearest" (spNearest K T) []
/-- what the law knows once the outcomes are found -/
structure LS (K : PySem.W.Frag) (T : List (Addr × Str)) (H : Hp) (r sc : Addr) (ns : List Int) (v : V) (a : Addr) (n : Nat) (ties : List (Nat × Nat)) (hs : List Int) (os : List (List Int)) (d so : Addr) (ys : List V) : Prop where
  ra : RA K T H v a n ties hs os (lv n ties hs)
  row : RowAt K H r sc ns
  kn : ∃ found, H d = some (.dT (dLv n ties hs found)) ∧ ∀ g, g ∈ found ↔ g ∈ os
  so_ : H so = some (.lst ys)
  tq : TqAll H ys os
  ne : so ≠ r
variable {H H' : Hp} {r sc : Addr} {ns : List Int} {v : V} {a : Addr} {n : Nat} {ties : List (Nat × Nat)} {hs : List Int} {os : List (List Int)} {d so : Addr} {ys : List V}
theorem LS.gr (l : LS K T H r sc ns v a n ties hs os d so ys) (g : Gr T H H') : LS K T H' r sc ns v a n ties hs os d so ys := by
  obtain ⟨h1, h2, ⟨f, h3, h4⟩, h5, h6, h7⟩ := l
  exact ⟨h1.gr g, h2.gr g, ⟨f, g.at h3, h4⟩, g.at h5, g.tq h6, h7⟩
theorem noL_web (n : Nat) (ties : List (Nat × Nat)) : noL (dWeb n ties) = true := by
  show (true && (noLs (ties.map dPair) && true)) = true
  rw [noL_pairs]
  rfl
theorem LS.grx (l : LS K T H r sc ns v a n ties hs os d so ys) (g : GrX T r H H') (w' : RowAt K H' r sc ns) : LS K T H' r sc ns v a n ties hs os d so ys := by
  obtain ⟨h1, h2, ⟨f, h3, h4⟩, h5, h6, h7⟩ := l
  have hr := h2.isL
  obtain ⟨rx, hrx⟩ := hr
  exact ⟨⟨g.dp ⟨_, hrx⟩ (noL_web n ties) h1.web, g.at (ne_of h1.hts hrx (by intro z; cases z)) h1.hts, h1.wb, h1.len, h1.bd, g.tab h1.tab, h1.wd⟩, w', ⟨f, g.at (ne_of h3 hrx (by intro z; cases z)) h3, h4⟩, g.at h7 h5, g.tq ⟨_, hrx⟩ h6, h7⟩
theorem LS.look (l : LS K T H r sc ns v a n ties hs os d so ys) {g : List Int} (hg : g ∈ os) {qa : Addr} (hq : H qa = some (.tup (g.map V.int))) : DGet H d (.ref qa) (some (.int (lv n ties hs g : Nat))) := by
  obtain ⟨f, h3, h4⟩ := l.kn
  have := DGet.t (k := kk g) h3 (b := qa) (by rw [kk_kV]; exact hq)
  rw [valV_out, if_pos ((h4 g).mpr hg)] at this
  exact this
/-- the law's slots -/
abbrev nL : List Str := ["_law_script", "_law_row", "_law_web_here", "_law_many", "_law_heights_here", "_law_steps_here", "_law_known", "_law_some", "_law_told", "_law_counts", "_law_one", "_law_top", "_law_weights", "_law_sums", "_law_at", "_law_pairs", "_law_wishes", "_law_far"]
abbrev sg (sc r : Addr) (v : V) (n : Nat) (a : Addr) (st : Nat) (d so : Addr) (z8 z9 z10 z11 z12 z13 z14 z15 z16 z17 : Option V) : L2.St := [some (.ref sc), some (.ref r), some v, some (.int n), some (.ref a), some (.int st), some (.ref d), some (.ref so), z8, z9, z10, z11, z12, z13, z14, z15, z16, z17]
def stL (i : Nat) : Stmt := (defBody s_law).getD i (.Pass ⟨0, 0, 0, 0⟩)
abbrev LX (P : Program) (w : World) (K : PySem.W.Frag) (mg : Str → Option Value) (base : Heap) (f : Addr) (cdv : Value) (A : Around) (outer : List Env) (s : Shared) (H0 : Hp) (E : XK) : Cx := (cxOf C8.CX0 P w K mg base nL "law" (defScope s_law) f cdv A outer s H0 E).nox
variable {f : Addr} {cdv : Value} {A : Around} {outer : List Env} {s : Shared} {H0 : Hp} {E : XK}
theorem part6 (C : AllC P w K mg base T) (N : Nm mg) (hr : Room 7 (A.deeper (envOfC "law" (defScope s_law) s.heap.objs.size f cdv))) :
    ∃ t, PS (LX P w K mg base f cdv A outer s H0 E) (stL 6) t ∧ ∀ {r sc : Addr} {ns : List Int} {v : V} {a : Addr} {n : Nat} {ties : List (Nat × Nat)} {hs : List Int} {os : List (List Int)} {d so : Addr} {ys : List V} (D : Ends) (H : Hp) (st : Nat) (z8 z9 z10 z11 z12 z13 z14 z15 z16 z17 : Option V), LS K T H r sc ns v a n ties hs os d so ys → st ≤ 60 →
      (∀ H', Gr T H H' → D.nx (sg sc r v n a st d so z8 z9 z10 z11 z12 z13 z14 z15 z16 z17) H') → t D (sg sc r v n a st d so z8 z9 z10 z11 z12 z13 z14 z15 z16 z17) H := by
  have nd := sc_law.nd
  refine ⟨_, ps_if (pt_not (pt_val (pe_c C.alike hr (by decide) rfl (pa_cons (pe_c C.within hr (by decide) rfl (pa_cons (pv 2) (pa_cons (pv 4) (pa_cons (pv 5) pa_nil)))) (pa_cons
    (pe_lc (own := [("_law_told", 8)]) (g := gName 8) (tt := tTest (tOp (rI0 fun i j => .bl (decide (i ≤ j))) (tDGet (tVar 6) (tVar 8)) (tVar 5))) rfl nd (pi_list (pv 7)) (blkOk_by (own := [("_law_told", 8)]) (N := nL) (sc := defScope s_law) (by decide +kernel)) (fun _ _ _ _ _ => pg_name (i := 8) nd rfl (Or.inl rfl))
      (fun _ _ _ _ _ => pts_one (pt_cmpR op_le (pe_dget (ru1 hr) (pv 6) (pv 8) (fun _ _ => rfl)) (pv 5) (nomark _))) (fun _ _ _ _ _ => pv 8)) pa_nil))))) pss_never pss_nil, ?_⟩
  intro r sc ns v a n ties hs os d so ys D H st z8 z9 z10 z11 z12 z13 z14 z15 z16 z17 l hst q
  have few := l.ra.few
  refine ⟨v, rfl, .ref a, rfl, .int st, rfl, v, a, n, ties, hs, os, lv n ties hs, st, rfl, l.ra, hst, fun H1 x1 g1 hx1 => ?_⟩
  have l1 := l.gr g1
  refine ⟨.ref so, rfl, so, rfl, ⟨_, SqL.of l1.so_⟩, fun D2 hD2 => ?_⟩
  refine lcD (T := T) (K := K) os (fun g => if decide (lv n ties hs g ≤ st) = true then some (tD g) else none) (fun _ _ e => by split at e <;> cases e; exact noL_tD _) walk_list l1.tq.length hD2 (by omega) (fun H' g' => SqL.of (g'.at l1.so_)) (fun i go x H3 H4 Yes No ex g3 yy hyes hn => ?_) (fun H' zs g' eD hzs => ?_)
  · obtain ⟨rfl, e2⟩ := yy
    have l3 := l1.gr g3
    obtain ⟨go', eg', qa, rfl, hqa⟩ := each_at l3.tq e2
    cases eg'.symm.trans ex
    have hgo := List.mem_of_getElem? ex
    refine ⟨rfl, ?_⟩
    refine ⟨.ref d, rfl, .ref qa, rfl, d, _, rfl, l3.look hgo hqa, .int st, rfl, _, _, rfl, rfl, _, rfl, ite2 (fun e => ?_) (fun e => ?_)⟩
    · have e : ((lv n ties hs go : Nat) : Int) ≤ (st : Int) := of_decide_eq_true e
      exact ⟨.ref qa, rfl, hyes _ _ _ (if_pos (decide_eq_true (by omega))) Gr.refl (.tup (SqT.of hqa) (int_dpAll _))⟩
    · refine hn _ (if_neg fun h => e (decide_eq_true ?_)) Gr.refl
      have := of_decide_eq_true h
      show ((lv n ties hs go : Nat) : Int) ≤ (st : Int)
      omega
  · rw [filterMap_if] at hzs
    refine ⟨x1, .ref D2, .list ((os.filter fun g => decide (lv n ties hs g ≤ st)).map tD), rfl, g'.dp hx1, .lst (SqL.of eD) hzs, ok_rows _, ?_, ?_, fun H5 g5 => ?_⟩
    · rw [PyData.depth]
      have := dp_rows (os.filter fun g => decide (lv n ties hs g ≤ st))
      omega
    · show (decide (((os.filter fun g => decide (lv n ties hs g ≤ st)).map tD).length ≤ 100000) && smallDs _) = true
      rw [sm_rows _ fun g hg => by
        have := l.ra.glen (List.mem_filter.mp hg).1
        have := l.ra.wb.le
        omega]
      have := List.length_filter_le (fun g => decide (lv n ties hs g ≤ st)) os
      rw [List.length_map, decide_eq_true (by omega)]
      rfl
    · refine ⟨true, rfl, iteF ?_⟩
      exact q _ ((g1.trans g').trans g5)
end
end So
namespace So
open PySem PySem.Spec PyProof.Rows L2 PySem.W LamX L2.DX
open C8 (Cal pe_c pe_gc)
open RZ StX
/-- how often, by whole numbers -/
theorem count_int (l : List Nat) (k : Int) : ((l.map fun (x : Nat) => (x : Int)).count k) = l.countP fun (x : Nat) => decide ((x : Int) = k) := by
  induction l with
  | nil => rfl
  | cons a l ih =>
    rw [List.map_cons, List.count_cons, List.countP_cons, ih]
    by_cases h : (a : Int) = k
    · simp [h]
    · simp [h]
section
variable {P : Program} {w : World} {K : PySem.W.Frag} {mg : Str → Option Value} {base : Heap} {T : List (Addr × Str)}
variable {H H' : Hp} {r sc : Addr} {ns : List Int} {v : V} {a : Addr} {n : Nat} {ties : List (Nat × Nat)} {hs : List Int} {os : List (List Int)} {d so : Addr} {ys : List V}
variable {f : Addr} {cdv : Value} {A : Around} {outer : List Env} {s : Shared} {H0 : Hp} {E : XK}
/-- the outcomes' levels in their order -/
noncomputable abbrev lvs (n : Nat) (ties : List (Nat × Nat)) (hs : List Int) (os : List (List Int)) : List Int := os.map fun g => ((lv n ties hs g : Nat) : Int)
theorem part7 (C : AllC P w K mg base T) (N : Nm mg) (hr : Room 7 (A.deeper (envOfC "law" (defScope s_law) s.heap.objs.size f cdv))) :
    ∃ t, PS (LX P w K mg base f cdv A outer s H0 E) (stL 7) t ∧ ∀ {r sc : Addr} {ns : List Int} {v : V} {a : Addr} {n : Nat} {ties : List (Nat × Nat)} {hs : List Int} {os : List (List Int)} {d so : Addr} {ys : List V} (D : Ends) (H : Hp) (st : Nat) (z8 z9 z10 z11 z12 z13 z14 z15 z16 z17 : Option V), LS K T H r sc ns v a n ties hs os d so ys →
      (∀ H' ca, Gr T H H' → H' ca = some (.lst ((lvs n ties hs os).map V.int)) → ca ≠ r → D.nx (sg sc r v n a st d so z8 (some (.ref ca)) z10 z11 z12 z13 z14 z15 z16 z17) H') → t D (sg sc r v n a st d so z8 z9 z10 z11 z12 z13 z14 z15 z16 z17) H := by
  have nd := sc_law.nd
  refine ⟨_, ps_set (i := 9) nd rfl (.inr rfl) (pe_lc (own := [("_law_told", 8)]) (g := gName 8) (tt := tYes) rfl nd (pi_list (pv 7)) (blkOk_by (own := [("_law_told", 8)]) (N := nL) (sc := defScope s_law) (by decide +kernel)) (fun _ _ _ _ _ => pg_name (i := 8) nd rfl (Or.inl rfl))
      (fun _ _ _ _ _ => pts_nil) (te := tDGet (tVar 6) (tVar 8)) (fun _ _ _ _ _ => pe_dget (ru1 hr) (pv 6) (pv 8) (fun _ _ => rfl))), ?_⟩
  intro r sc ns v a n ties hs os d so ys D H st z8 z9 z10 z11 z12 z13 z14 z15 z16 z17 l q
  have few := l.ra.few
  refine ⟨.ref so, rfl, so, rfl, ⟨_, SqL.of l.so_⟩, fun D2 hD2 => ?_⟩
  refine lcD (T := T) (K := K) os (fun g => some (dI (lv n ties hs g : Nat))) (fun _ _ e => by cases e; rfl) walk_list l.tq.length hD2 (by omega) (fun H' g' => SqL.of (g'.at l.so_)) (fun i go x H3 H4 Yes No ex g3 yy hyes hn => ?_) (fun H' zs g' eD hzs => ?_)
  · obtain ⟨rfl, e2⟩ := yy
    have l3 := l.gr g3
    obtain ⟨go', eg', qa, rfl, hqa⟩ := each_at l3.tq e2
    cases eg'.symm.trans ex
    refine ⟨rfl, ?_⟩
    exact ⟨.ref d, rfl, .ref qa, rfl, d, _, rfl, l3.look (List.mem_of_getElem? ex) hqa, hyes _ _ _ rfl Gr.refl (.int _)⟩
  · rw [filterMap_some'] at hzs
    have e : os.map (fun g => dI (lv n ties hs g : Nat)) = (lvs n ties hs os).map PyData.int := by
      rw [List.map_map]
      rfl
    rw [e] at hzs
    rw [dpAll_int hzs] at eD
    obtain ⟨rx, hrx⟩ := l.row.isL
    exact q _ D2 g' eD (ne_of_none hrx hD2).symm
theorem part8 (C : AllC P w K mg base T) (N : Nm mg) (hr : Room 7 (A.deeper (envOfC "law" (defScope s_law) s.heap.objs.size f cdv))) :
    ∃ t, PS (LX P w K mg base f cdv A outer s H0 E) (stL 8) t ∧ ∀ {r sc : Addr} {ns : List Int} {v : V} {a : Addr} {n : Nat} {ties : List (Nat × Nat)} {hs : List Int} {os : List (List Int)} {d so : Addr} {ys : List V} (D : Ends) (H : Hp) (st : Nat) (ca : Addr) (z8 z10 z11 z12 z13 z14 z15 z16 z17 : Option V), LS K T H r sc ns v a n ties hs os d so ys → H ca = some (.lst ((lvs n ties hs os).map V.int)) →
      (∀ H', Gr T H H' → D.nx (sg sc r v n a st d so z8 (some (.ref ca)) z10 z11 z12 z13 z14 z15 z16 z17) H') → t D (sg sc r v n a st d so z8 (some (.ref ca)) z10 z11 z12 z13 z14 z15 z16 z17) H := by
  have nd := sc_law.nd
  refine ⟨_, ps_if (pt_not (pt_val (pe_c C.alike hr (by decide) rfl (pa_cons (pe_c C.table hr (by decide) rfl (pa_cons (pv 2) (pa_cons (pv 4) pa_nil))) (pa_cons
    (pe_callTy call_tuple_of rfl N.tuple_ (by decide +kernel) (pa_cons (pe_lc (own := [("_law_one", 10)]) (g := gName 10) (tt := tYes) rfl nd (pi_list (pe_callB (cr_sortedSet rfl) rfl N.sorted_ (by decide +kernel) (pa_cons (pe_callTy (cr_setJ rfl) rfl N.set_ (by decide +kernel) (pa_cons (pv 9) pa_nil)) pa_nil))) (blkOk_by (own := [("_law_one", 10)]) (N := nL) (sc := defScope s_law) (by decide +kernel)) (fun _ _ _ _ _ => pg_name (i := 10) nd rfl (Or.inl rfl))
      (fun _ _ _ _ _ => pts_nil) (te := tTup (tCons (tVar 10) (tCons (tBM K "list" (rCntI K) (tVar 9) (tCons (tVar 10) tNil)) tNil))) (fun _ _ _ _ _ => pe_tup (pa_cons (pv 10) (pa_cons (pe_bm PySem.F.plainAttrs_list PySem.F.slot_list_count PySem.F.type_list_count mt_lcount (pv 9) (pa_cons (pv 10) pa_nil)) pa_nil)))) pa_nil)) pa_nil))))) pss_never pss_nil, ?_⟩
  intro r sc ns v a n ties hs os d so ys D H st ca z8 z10 z11 z12 z13 z14 z15 z16 z17 l hca q
  have few := l.ra.few
  refine ⟨v, rfl, .ref a, rfl, v, a, n, ties, hs, os, lv n ties hs, rfl, l.ra, fun H1 x1 g1 hx1 => ?_⟩
  refine ⟨.ref ca, rfl, ca, lvs n ties hs os, rfl, SqL.of (g1.at hca), by rw [List.length_map]; omega, fun p c np hc => ?_⟩
  have hc17 : c ≤ 17 := by
    have := hc ((List.range 17).map fun (x : Nat) => (x : Int)) (fun k hk => by
      obtain ⟨g, hg, rfl⟩ := List.mem_map.mp hk
      have := lv_small l.ra.wb l.ra.len ((l.ra.wd.mem g).mp hg)
      exact List.mem_map.mpr ⟨lv n ties hs g, List.mem_range.mpr (by omega), rfl⟩)
    rw [List.length_map, List.length_range] at this
    exact this
  have gp := Gr.new (T := T) (o := SetO w p (fun j => decide (j ∈ lvs n ties hs os)) c) np
  refine ⟨p, _, c, rfl, upd_same, by omega, fun ks l2 hks hkm hkl nl2 => ?_⟩
  have gl := Gr.new (T := T) (o := HO.lst (ks.map V.int)) nl2
  have g2 := (g1.trans gp).trans gl
  have hca2 := g2.at hca
  have hkm' : ∀ k, k ∈ ks ↔ ∃ x ∈ os.map (lv n ties hs), ((x : Nat) : Int) = k := fun k => by
    rw [hkm k]
    constructor
    · intro h
      obtain ⟨g, hg, e⟩ := List.mem_map.mp (of_decide_eq_true h)
      exact ⟨_, List.mem_map.mpr ⟨g, hg, rfl⟩, e⟩
    · rintro ⟨x, hx, e⟩
      obtain ⟨g, hg, rfl⟩ := List.mem_map.mp hx
      exact decide_eq_true (List.mem_map.mpr ⟨g, hg, e⟩)
  have el : lvs n ties hs os = (os.map (lv n ties hs)).map fun (x : Nat) => (x : Int) := by
    rw [List.map_map]
    rfl
  refine ⟨l2, rfl, ⟨_, SqL.of upd_same⟩, fun D2 hD2 => ?_⟩
  refine lcD (T := T) (K := K) ks (fun k => some (tD [k, ((os.map (lv n ties hs)).countP fun (x : Nat) => decide ((x : Int) = k) : Nat)])) (fun _ _ e => by cases e; exact noL_tD _) walk_list (by rw [List.length_map]) hD2 (by omega) (fun H' g' => SqL.of (g'.at upd_same)) (fun i k x H3 H4 Yes No ex g3 yy hyes hn => ?_) (fun H' zs g' eD hzs => ?_)
  · obtain ⟨rfl, e2⟩ := yy
    rw [List.getElem?_map, ex] at e2
    cases e2
    refine ⟨rfl, ?_⟩
    have hca3 := g3.at hca2
    refine ⟨.int k, rfl, .ref ca, rfl, .inl ⟨rfl, _, SqL.of hca3⟩, .int k, rfl, ca, lvs n ties hs os, k, rfl, rfl, SqL.of hca3, by show 2 ≤ sizeLine; decide, fun t nt => ?_⟩
    have gt := Gr.new (T := T) (o := HO.tup [.int k, .int ((lvs n ties hs os).count k : Nat)]) nt
    refine hyes _ _ _ rfl gt (.tup (SqT.of upd_same) ?_)
    rw [el, count_int]
    exact int_dpAll [k, _]
  · rw [filterMap_some'] at hzs
    refine ⟨D2, zs, rfl, .inl ⟨SqL.of eD, fun t nt => ?_⟩⟩
    have gt := Gr.new (T := T) (o := HO.tup zs) nt
    have hzd := (gt.dpAll hzs)
    have em : ks.map (fun k => tD [k, ((os.map (lv n ties hs)).countP fun (x : Nat) => decide ((x : Int) = k) : Nat)]) = (ks.map fun k => [k, (((os.map (lv n ties hs)).countP fun (x : Nat) => decide ((x : Int) = k) : Nat) : Int)]).map tD := by
      rw [List.map_map]
      rfl
    have hx2 := ((gp.trans gl).trans g').trans gt |>.dp (hx1 ks hks hkm')
    refine ⟨x1, .ref t, tabD (os.map (lv n ties hs)) ks, rfl, hx2, .tup (SqT.of upd_same) hzd, ?_, ?_, ?_, fun H5 g5 => ?_⟩
    · show okDs (ks.map fun k => tD [k, _]) = true
      rw [em]
      exact ok_rows _
    · unfold tabD
      rw [PyData.depth, em]
      have := dp_rows (ks.map fun k => [k, (((os.map (lv n ties hs)).countP fun (x : Nat) => decide ((x : Int) = k) : Nat) : Int)])
      omega
    · show (decide ((ks.map fun k => tD [k, _]).length ≤ 100000) && smallDs (ks.map fun k => tD [k, _])) = true
      rw [List.length_map, decide_eq_true (by omega), em, sm_rows _ fun g hg => by
        obtain ⟨k, _, rfl⟩ := List.mem_map.mp hg
        exact (by decide : 2 ≤ 100)]
      rfl
    · refine ⟨true, rfl, iteF ?_⟩
      exact q _ (((g2.trans g').trans gt).trans g5)
end
end So
namespace So
open PySem PySem.Spec PyProof.Rows L2 PySem.W LamX L2.DX
open C8 (Cal pe_c pe_gc)
open RZ StX
section
variable {P : Program} {w : World} {K : PySem.W.Frag} {mg : Str → Option Value} {base : Heap} {T : List (Addr × Str)}
variable {H H' : Hp} {r sc : Addr} {ns : List Int} {v : V} {a : Addr} {n : Nat} {ties : List (Nat × Nat)} {hs : List Int} {os : List (List Int)} {d so : Addr} {ys : List V}
variable {f : Addr} {cdv : Value} {A : Around} {outer : List Env} {s : Shared} {H0 : Hp} {E : XK}
theorem part9 (N : Nm mg) :
    ∃ t, PS (LX P w K mg base f cdv A outer s H0 E) (stL 9) t ∧ ∀ {r sc : Addr} {ns : List Int} {v : V} {a : Addr} {n : Nat} {ties : List (Nat × Nat)} {hs : List Int} {os : List (List Int)} {d so : Addr} {ys : List V} (D : Ends) (H : Hp) (st : Nat) (ca : Addr) (z8 z10 z11 z12 z13 z14 z15 z16 z17 : Option V), LS K T H r sc ns v a n ties hs os d so ys → H ca = some (.lst ((lvs n ties hs os).map V.int)) →
      (∀ m : Nat, m ∈ os.map (lv n ties hs) → (∀ g ∈ os, lv n ties hs g ≤ m) → D.nx (sg sc r v n a st d so z8 (some (.ref ca)) z10 (some (.int m)) z12 z13 z14 z15 z16 z17) H) → t D (sg sc r v n a st d so z8 (some (.ref ca)) z10 z11 z12 z13 z14 z15 z16 z17) H := by
  have nd := sc_law.nd
  refine ⟨_, ps_set (i := 11) nd rfl (.inr rfl) (pe_callB (cr_max rfl) rfl N.max_ (by decide +kernel) (pa_cons (pv 9) pa_nil)), ?_⟩
  intro r sc ns v a n ties hs os d so ys D H st ca z8 z10 z11 z12 z13 z14 z15 z16 z17 l hca q
  refine ⟨.ref ca, rfl, ca, lvs n ties hs os, rfl, SqL.of hca, ?_, fun m hm hmax => ?_⟩
  · rw [List.length_map]
    exact List.length_pos_of_mem l.ra.wd.ne
  · obtain ⟨g, hg, rfl⟩ := List.mem_map.mp hm
    exact q (lv n ties hs g) (List.mem_map.mpr ⟨g, hg, rfl⟩) fun g' hg' => by
      have := hmax _ (List.mem_map.mpr ⟨g', hg', rfl⟩)
      omega
theorem part10 (C : AllC P w K mg base T) (N : Nm mg) (hr : Room 7 (A.deeper (envOfC "law" (defScope s_law) s.heap.objs.size f cdv))) :
    ∃ t, PS (LX P w K mg base f cdv A outer s H0 E) (stL 10) t ∧ ∀ {r sc : Addr} {ns : List Int} {v : V} {a : Addr} {n : Nat} {ties : List (Nat × Nat)} {hs : List Int} {os : List (List Int)} {d so : Addr} {ys : List V} (D : Ends) (H : Hp) (st m : Nat) (z8 z9 z10 z12 z13 z14 z15 z16 z17 : Option V), LS K T H r sc ns v a n ties hs os d so ys → m ∈ os.map (lv n ties hs) → (∀ g ∈ os, lv n ties hs g ≤ m) →
      (∀ H', Gr T H H' → D.nx (sg sc r v n a st d so z8 z9 z10 (some (.int m)) z12 z13 z14 z15 z16 z17) H') → t D (sg sc r v n a st d so z8 z9 z10 (some (.int m)) z12 z13 z14 z15 z16 z17) H := by
  have nd := sc_law.nd
  refine ⟨_, ps_if (pt_not (pt_val (pe_c C.alike hr (by decide) rfl (pa_cons (pe_c C.far hr (by decide) rfl (pa_cons (pv 2) (pa_cons (pv 4) pa_nil))) (pa_cons (pe_tup (pa_cons (pv 11) (pa_cons
    (pe_lc (own := [("_law_told", 8)]) (g := gName 8) (tt := tTest (tOp rEq (tDGet (tVar 6) (tVar 8)) (tVar 11))) rfl nd (pi_list (pv 7)) (blkOk_by (own := [("_law_told", 8)]) (N := nL) (sc := defScope s_law) (by decide +kernel)) (fun _ _ _ _ _ => pg_name (i := 8) nd rfl (Or.inl rfl))
      (fun _ _ _ _ _ => pts_one (pt_cmpR op_eq (pe_dget (ru1 hr) (pv 6) (pv 8) (fun _ _ => rfl)) (pv 11) (nomark _))) (fun _ _ _ _ _ => pv 8)) pa_nil))) pa_nil))))) pss_never pss_nil, ?_⟩
  intro r sc ns v a n ties hs os d so ys D H st m z8 z9 z10 z12 z13 z14 z15 z16 z17 l hm hmax q
  have few := l.ra.few
  refine ⟨v, rfl, .ref a, rfl, v, a, n, ties, hs, os, lv n ties hs, rfl, l.ra, fun H1 x1 m1 hm1 hmax1 g1 hx1 => ?_⟩
  have em : m1 = m := by
    obtain ⟨g, hg, rfl⟩ := List.mem_map.mp hm
    obtain ⟨g', hg', rfl⟩ := List.mem_map.mp hm1
    exact Nat.le_antisymm (hmax _ hg') (hmax1 _ hg)
  subst em
  have l1 := l.gr g1
  refine ⟨.int m1, rfl, .ref so, rfl, so, rfl, ⟨_, SqL.of l1.so_⟩, fun D2 hD2 => ?_⟩
  refine lcD (T := T) (K := K) os (fun g => if decide (lv n ties hs g = m1) = true then some (tD g) else none) (fun _ _ e => by split at e <;> cases e; exact noL_tD _) walk_list l1.tq.length hD2 (by omega) (fun H' g' => SqL.of (g'.at l1.so_)) (fun i go x H3 H4 Yes No ex g3 yy hyes hn => ?_) (fun H' zs g' eD hzs => ?_)
  · obtain ⟨rfl, e2⟩ := yy
    have l3 := l1.gr g3
    obtain ⟨go', eg', qa, rfl, hqa⟩ := each_at l3.tq e2
    cases eg'.symm.trans ex
    have hgo := List.mem_of_getElem? ex
    refine ⟨rfl, ?_⟩
    refine ⟨.ref d, rfl, .ref qa, rfl, d, _, rfl, l3.look hgo hqa, .int m1, rfl, rfl, _, rfl, ite2 (fun e => ?_) (fun e => ?_)⟩
    · have e : V.int ((lv n ties hs go : Nat) : Int) = V.int (m1 : Int) := of_decide_eq_true e
      have e := V.int.inj e
      exact ⟨.ref qa, rfl, hyes _ _ _ (if_pos (decide_eq_true (by omega))) Gr.refl (.tup (SqT.of hqa) (int_dpAll _))⟩
    · refine hn _ (if_neg fun h => e (decide_eq_true ?_)) Gr.refl
      rw [of_decide_eq_true h]
  · rw [filterMap_if] at hzs
    refine ⟨by show 2 ≤ sizeLine; decide, fun t nt => ?_⟩
    have gt := Gr.new (T := T) (o := HO.tup [.int m1, .ref D2]) nt
    have hl := List.length_filter_le (fun g => decide (lv n ties hs g = m1)) os
    refine ⟨x1, .ref t, .tuple [dN m1, .list ((os.filter fun g => decide (lv n ties hs g = m1)).map tD)], rfl, (g'.trans gt).dp hx1, .tup (SqT.of upd_same) (.cons (.int _) (.cons (gt.dp (.lst (SqL.of eD) hzs)) .nil)), ?_, ?_, ?_, fun H5 g5 => ?_⟩
    · show (true && (okDs _ && true)) = true
      rw [ok_rows]
      rfl
    · have := dp_rows (os.filter fun g => decide (lv n ties hs g = m1))
      simp only [PyData.depth, PyData.depthAll]
      omega
    · show (decide (2 ≤ 100000) && (true && ((decide (((os.filter fun g => decide (lv n ties hs g = m1)).map tD).length ≤ 100000) && smallDs _) && true))) = true
      rw [sm_rows _ fun g hg => by
        have := l.ra.glen (List.mem_filter.mp hg).1
        have := l.ra.wb.le
        omega]
      rw [List.length_map, decide_eq_true (show (os.filter fun g => decide (lv n ties hs g = m1)).length ≤ 100000 by omega)]
      rfl
    · refine ⟨true, rfl, iteF ?_⟩
      exact q _ (((g1.trans g').trans gt).trans g5)
end
end So
namespace So
open PySem PySem.Spec PyProof.Rows L2 PySem.W LamX L2.DX
open C8 (Cal pe_c pe_gc)
open RZ StX
theorem zip_range {n : Nat} {a b : List Int} (ha : a.length = n) (hb : b.length = n) (f : Int × Int → Int) : (List.zip a b).map f = (List.range n).map fun i => f (a.getD i 0, b.getD i 0) := by
  refine List.ext_getElem (by rw [List.length_map, List.length_map, List.length_zip, List.length_range]; omega) fun i h1 h2 => ?_
  rw [List.length_map, List.length_range] at h2
  have ea := getD_at (List.getElem?_eq_getElem (show i < a.length by omega))
  have eb := getD_at (List.getElem?_eq_getElem (show i < b.length by omega))
  simp only [List.getElem_map, List.getElem_zip, List.getElem_range, ea, eb]
theorem filter_head {α : Type} (p : α → Bool) : ∀ (l : List α) (g : α), (l.filter p).head? = some g → ∃ j : Nat, l[j]? = some g ∧ p g = true ∧ ∀ (i : Nat) (x : α), i < j → l[i]? = some x → p x = false
  | [], g, h => by simp at h
  | a :: l, g, h => by
    by_cases ha : p a = true
    · rw [List.filter_cons_of_pos ha] at h
      cases Option.some.inj h
      exact ⟨0, rfl, ha, fun i x hi => absurd hi (Nat.not_lt_zero _)⟩
    · rw [List.filter_cons_of_neg ha] at h
      obtain ⟨j, h1, h2, h3⟩ := filter_head p l g h
      refine ⟨j + 1, h1, h2, fun i x hi hx => ?_⟩
      cases i with
      | zero =>
        cases Option.some.inj hx
        cases e : p a with
        | false => rfl
        | true => exact absurd e ha
      | succ i => exact h3 i x (by omega) hx
section
variable {P : Program} {w : World} {K : PySem.W.Frag} {mg : Str → Option Value} {base : Heap} {T : List (Addr × Str)}
variable {H H' : Hp} {r sc : Addr} {ns : List Int} {v : V} {a : Addr} {n : Nat} {ties : List (Nat × Nat)} {hs : List Int} {os : List (List Int)} {d so : Addr} {ys : List V}
variable {f : Addr} {cdv : Value} {A : Around} {outer : List Env} {s : Shared} {H0 : Hp} {E : XK}
theorem part11 (C : AllC P w K mg base T) (N : Nm mg) (hr : Room 7 (A.deeper (envOfC "law" (defScope s_law) s.heap.objs.size f cdv))) :
    ∃ t, PS (LX P w K mg base f cdv A outer s H0 E) (stL 11) t ∧ ∀ {r sc : Addr} {ns : List Int} {v : V} {a : Addr} {n : Nat} {ties : List (Nat × Nat)} {hs : List Int} {os : List (List Int)} {d so : Addr} {ys : List V} (D : Ends) (H : Hp) (st : Nat) (z8 z9 z10 z11 z12 z13 z14 z15 z16 z17 : Option V), LS K T H r sc ns v a n ties hs os d so ys →
      (∀ (H' : Hp) (wa : Addr) (ws : List Int), LS K T H' r sc ns v a n ties hs os d so ys → H' wa = some (.tup (ws.map V.int)) → ws.length = n → (∀ z ∈ ws, -4 ≤ z ∧ z ≤ 4) → D.nx (sg sc r v n a st d so z8 z9 z10 z11 (some (.ref wa)) z13 z14 z15 z16 z17) H') → t D (sg sc r v n a st d so z8 z9 z10 z11 z12 z13 z14 z15 z16 z17) H := by
  have nd := sc_law.nd
  refine ⟨_, ps_set (i := 12) nd rfl (.inr rfl) (pe_callTy call_tuple_of rfl N.tuple_ (by decide +kernel) (pa_cons
      (pe_lc (own := [("_law_one", 10)]) (g := gName 10) (tt := tYes) rfl nd (pi_range1 rfl N.range_ (pa_cons (pv 3) pa_nil)) (blkOk_by (own := [("_law_one", 10)]) (N := nL) (sc := defScope s_law) (by decide +kernel)) (fun _ _ _ _ _ => pg_name (i := 10) nd rfl (Or.inl rfl)) (fun _ _ _ _ _ => pts_nil)
        (fun _ _ _ _ _ => pe_op op_sub (pe_c C.taken hr (by decide) rfl (pa_cons (pv 1) (pa_cons pe_int pa_nil))) pe_int)) pa_nil)), ?_⟩
  intro r sc ns v a n ties hs os d so ys D H st z8 z9 z10 z11 z12 z13 z14 z15 z16 z17 l q
  have n4 := l.ra.wb.le
  refine ⟨.int n, rfl, n, rfl, by omega, by omega, fun D2 hD2 => ?_⟩
  refine lcX (T := T) (K := K) (r := r) (sc := sc) (ns := ns) (fun z => -4 ≤ z ∧ z ≤ 4) (walk_rg0 (Int.toNat_natCast n)) hD2 l.row (by omega) (fun _ => True.intro) (fun i x H2 H3 Yes hi g2 w2 y hy => ?_) (fun H' zs g' w' eD hzl hz => ?_) ?_ ?_
  · obtain ⟨rfl, rfl⟩ := y
    refine ⟨rfl, rfl, ?_⟩
    refine ⟨.ref r, rfl, r, sc, ns, 9, rfl, w2, by decide, by decide, fun H4 k hk g4 w4 => ?_⟩
    refine ⟨(k : Int), 4, rfl, rfl, ?_⟩
    exact hy _ _ ⟨by show (-4 : Int) ≤ (k : Int) - 4; omega, by show (k : Int) - 4 ≤ 4; omega⟩ g4 w4
  · have l' := l.grx g' w'
    refine ⟨D2, _, rfl, .inl ⟨SqL.of eD, fun t nt => ?_⟩⟩
    have gt := Gr.new (T := T) (o := HO.tup (zs.map V.int)) nt
    exact q _ t zs (l'.gr gt) upd_same hzl hz
  · intro x σ H Q Q' h hq
    exact h _ _ hq
  · intro σ H Q Q' h hq
    exact h _ _ hq
theorem part12 (N : Nm mg) :
    ∃ t, PS (LX P w K mg base f cdv A outer s H0 E) (stL 12) t ∧ ∀ {r sc : Addr} {ns : List Int} {v : V} {a : Addr} {n : Nat} {ties : List (Nat × Nat)} {hs : List Int} {os : List (List Int)} {d so : Addr} {ys : List V} (D : Ends) (H : Hp) (st : Nat) (wa : Addr) (ws : List Int) (z8 z9 z10 z11 z13 z14 z15 z16 z17 : Option V), LS K T H r sc ns v a n ties hs os d so ys → H wa = some (.tup (ws.map V.int)) → ws.length = n → (∀ z ∈ ws, -4 ≤ z ∧ z ≤ 4) →
      (∀ (H' : Hp) (sa : Addr), Gr T H H' → H' sa = some (.lst ((os.map (worthOf ws)).map V.int)) → sa ≠ r → D.nx (sg sc r v n a st d so z8 z9 z10 z11 (some (.ref wa)) (some (.ref sa)) z14 z15 z16 z17) H') → t D (sg sc r v n a st d so z8 z9 z10 z11 (some (.ref wa)) z13 z14 z15 z16 z17) H := by
  have nd := sc_law.nd
  refine ⟨_, ps_set (i := 13) nd rfl (.inr rfl) (pe_lc (own := [("_law_told", 8)]) (g := gName 8) (tt := tYes) rfl nd (pi_list (pv 7)) (blkOk_by (own := [("_law_told", 8)]) (N := nL) (sc := defScope s_law) (by decide +kernel)) (fun _ _ _ _ _ => pg_name (i := 8) nd rfl (Or.inr rfl)) (fun _ _ _ _ _ => pts_nil)
      (te := tCB (rSum K) (tCons (tLc (iRng1 (tCons (tVar 3) tNil)) (gName 14) tYes (tOp (rI CMul fun i j => .int (i * j)) (tOp (rIxT K) (tVar 12) (tVar 14)) (tOp (rIxT K) (tVar 8) (tVar 14))) [14]) tNil))
      (fun _ _ _ _ _ => pe_callB (cr_sum rfl) rfl N.sum_ (by decide +kernel) (pa_cons
        (pe_lc (own := [("_law_at", 14)]) (g := gName 14) (tt := tYes) rfl nd (pi_range1 rfl N.range_ (pa_cons (pv 3) pa_nil)) (blkOk_by (own := [("_law_at", 14)]) (N := nL) (by rfl)) (fun _ _ _ _ _ => pg_name (i := 14) nd rfl (Or.inl rfl)) (fun _ _ _ _ _ => pts_nil)
          (fun _ _ _ _ _ => pe_op op_mul (pe_ix ix_tup (pv 12) (pv 14) (fun _ _ => rfl)) (pe_ix ix_tup (pv 8) (pv 14) (fun _ _ => rfl)))) pa_nil))), ?_⟩
  intro r sc ns v a n ties hs os d so ys D H st wa ws z8 z9 z10 z11 z13 z14 z15 z16 z17 l hwa hwl hwb q
  have few := l.ra.few
  have n4 := l.ra.wb.le
  refine ⟨.ref so, rfl, so, rfl, ⟨_, SqL.of l.so_⟩, fun D2 hD2 => ?_⟩
  refine lcD (T := T) (K := K) os (fun g => some (dI (worthOf ws g))) (fun _ _ e => by cases e; rfl) walk_list l.tq.length hD2 (by omega) (fun H' g' => SqL.of (g'.at l.so_)) (fun i go x H3 H4 Yes No ex g3 yy hyes hn => ?_) (fun H' zs g' eD hzs => ?_)
  · obtain ⟨rfl, e2⟩ := yy
    have l3 := l.gr g3
    obtain ⟨go', eg', qa, rfl, hqa⟩ := each_at l3.tq e2
    cases eg'.symm.trans ex
    have hgl := l.ra.glen (List.mem_of_getElem? ex)
    refine ⟨rfl, ?_⟩
    refine ⟨.int n, rfl, n, rfl, by omega, by omega, fun D3 hD3 => ?_⟩
    refine lcD (T := T) (K := K) (List.range n) (fun i => some (dI (ws.getD i 0 * go.getD i 0))) (fun _ _ e => by cases e; rfl) (walk_rg0 (Int.toNat_natCast n)) (by rw [List.length_range]) hD3 (by rw [List.length_range]; omega) (fun _ _ => True.intro) (fun j j' x H5 H6 Yes2 No2 ex2 g5 yy2 hyes2 hn2 => ?_) (fun H5 us g5 eD3 hus => ?_)
    · obtain ⟨rfl, rfl⟩ := yy2
      have hj : j < n := by
        have := (List.getElem?_eq_some_iff.mp ex2).1
        rwa [List.length_range] at this
      rw [range_at hj] at ex2
      cases ex2
      have hb := hwb _ (getD_mem (show j < ws.length by omega))
      refine ⟨rfl, ?_⟩
      refine ⟨.ref wa, rfl, .int j, rfl, wa, _, (j : Nat), _, rfl, rfl, SqT.of ((g3.trans g5).at hwa), atI_nat (int_get (by omega)), .ref qa, rfl, .int j, rfl, qa, _, (j : Nat), _, rfl, rfl, SqT.of (g5.at hqa), atI_nat (int_get (by omega)), ws.getD j 0, go.getD j 0, rfl, rfl, .inl ⟨?_, ?_⟩, ?_⟩
      · show -(2 ^ 64) < ws.getD j 0
        omega
      · show ws.getD j 0 < 2 ^ 64
        omega
      · exact hyes2 _ _ _ rfl Gr.refl (.int _)
    · rw [filterMap_some'] at hus
      have e : (List.range n).map (fun i => dI (ws.getD i 0 * go.getD i 0)) = ((List.range n).map fun i => ws.getD i 0 * go.getD i 0).map PyData.int := by
        rw [List.map_map]
        rfl
      rw [e] at hus
      rw [dpAll_int hus] at eD3
      refine ⟨D3, _, rfl, SqL.of eD3, ?_⟩
      have ew : ((List.range n).map fun i => ws.getD i 0 * go.getD i 0).sum = worthOf ws go := by
        unfold worthOf
        rw [zip_range hwl hgl fun p => p.1 * p.2]
      rw [ew]
      exact hyes _ _ _ rfl g5 (.int _)
  · rw [filterMap_some'] at hzs
    have e : os.map (fun g => dI (worthOf ws g)) = (os.map (worthOf ws)).map PyData.int := by
      rw [List.map_map]
      rfl
    rw [e] at hzs
    rw [dpAll_int hzs] at eD
    obtain ⟨rx, hrx⟩ := l.row.isL
    exact q _ D2 g' eD (ne_of_none hrx hD2).symm
theorem part13 (C : AllC P w K mg base T) (N : Nm mg) (hr : Room 7 (A.deeper (envOfC "law" (defScope s_law) s.heap.objs.size f cdv))) :
    ∃ t, PS (LX P w K mg base f cdv A outer s H0 E) (stL 13) t ∧ ∀ {r sc : Addr} {ns : List Int} {v : V} {a : Addr} {n : Nat} {ties : List (Nat × Nat)} {hs : List Int} {os : List (List Int)} {d so : Addr} {ys : List V} (D : Ends) (H : Hp) (st : Nat) (wa sa : Addr) (ws : List Int) (z8 z9 z10 z11 z14 z15 z16 z17 : Option V), LS K T H r sc ns v a n ties hs os d so ys → H wa = some (.tup (ws.map V.int)) → ws.length = n → (∀ z ∈ ws, -4 ≤ z ∧ z ≤ 4) → H sa = some (.lst ((os.map (worthOf ws)).map V.int)) →
      (∀ H', Gr T H H' → D.nx (sg sc r v n a st d so z8 z9 z10 z11 (some (.ref wa)) (some (.ref sa)) z14 z15 z16 z17) H') → t D (sg sc r v n a st d so z8 z9 z10 z11 (some (.ref wa)) (some (.ref sa)) z14 z15 z16 z17) H := by
  have nd := sc_law.nd
  refine ⟨_, ps_if (pt_not (pt_val (pe_c C.alike hr (by decide) rfl (pa_cons (pe_c C.great hr (by decide) rfl (pa_cons (pv 2) (pa_cons (pv 4) (pa_cons (pv 12) pa_nil)))) (pa_cons (pe_tup (pa_cons (pe_callB (cr_max rfl) rfl N.max_ (by decide +kernel) (pa_cons (pv 13) pa_nil)) (pa_cons
    (pe_ix ix_list (pv 7) (pe_bm PySem.F.plainAttrs_list PySem.F.slot_list_index PySem.F.type_list_index mt_index (pv 13) (pa_cons (pe_callB (cr_max rfl) rfl N.max_ (by decide +kernel) (pa_cons (pv 13) pa_nil)) pa_nil)) (fun _ _ => rfl)) pa_nil))) pa_nil))))) pss_never pss_nil, ?_⟩
  intro r sc ns v a n ties hs os d so ys D H st wa sa ws z8 z9 z10 z11 z14 z15 z16 z17 l hwa hwl hwb hsa q
  refine ⟨v, rfl, .ref a, rfl, .ref wa, rfl, v, .ref wa, a, n, ties, hs, os, lv n ties hs, ws, rfl, l.ra, .tup (SqT.of hwa) (int_dpAll _), hwl, fun z hz => by have := hwb z hz; omega, fun H1 x1 m g0 hm hmax hhead g1 hx1 => ?_⟩
  have l1 := l.gr g1
  have hsa1 := g1.at hsa
  have hpos : 0 < (os.map (worthOf ws)).length := by
    rw [List.length_map]
    exact List.length_pos_of_mem l.ra.wd.ne
  have emax : ∀ m' : Int, m' ∈ os.map (worthOf ws) → (∀ y, y ∈ os.map (worthOf ws) → y ≤ m') → m' = m := fun m' h1 h2 => by
    obtain ⟨g', hg', rfl⟩ := List.mem_map.mp h1
    exact Int.le_antisymm (hmax _ hg') (h2 _ hm)
  refine ⟨.ref sa, rfl, sa, os.map (worthOf ws), rfl, SqL.of hsa1, hpos, fun m1 h1 h2 => ?_⟩
  rw [emax m1 h1 h2]
  refine ⟨.ref so, rfl, .ref sa, rfl, .inl ⟨rfl, _, SqL.of hsa1⟩, .ref sa, rfl, sa, os.map (worthOf ws), rfl, SqL.of hsa1, hpos, fun m2 h3 h4 => ?_⟩
  rw [emax m2 h3 h4]
  obtain ⟨j, hj, hpj, hno⟩ := filter_head _ os g0 hhead
  have hw0 : worthOf ws g0 = m := of_decide_eq_true hpj
  have hyj : ∃ x, ys[j]? = some x ∧ Tq H1 x g0 := by
    have hlj := (List.getElem?_eq_some_iff.mp hj).1
    have hly : j < ys.length := by rw [l1.tq.length]; exact hlj
    obtain ⟨g', e', hq⟩ := each_at l1.tq (List.getElem?_eq_getElem hly)
    cases e'.symm.trans hj
    exact ⟨_, List.getElem?_eq_getElem hly, hq⟩
  obtain ⟨x, exj, qa, rfl, hqa⟩ := hyj
  refine ⟨sa, (os.map (worthOf ws)).map V.int, .int m, j, .int m, rfl, rfl, SqL.of hsa1, rfl, ?_, ?_, by simp [eqV], fun i z hi hz => ?_, ?_⟩
  · rw [List.all_map, List.all_eq_true]
    intro z _
    rfl
  · rw [List.getElem?_map, List.getElem?_map, hj, ← hw0]
    rfl
  · rw [List.getElem?_map, List.getElem?_map] at hz
    cases eo : os[i]? with
    | none => rw [eo] at hz; cases hz
    | some gi =>
      rw [eo] at hz
      cases hz
      have := hno i gi hi eo
      have hne : worthOf ws gi ≠ m := fun e => by
        rw [decide_eq_true e] at this
        cases this
      simpa [eqV] using hne
  · refine ⟨so, ys, (j : Int), .ref qa, rfl, rfl, SqL.of l1.so_, atI_nat exj, by show 2 ≤ sizeLine; decide, fun t nt => ?_⟩
    have gt := Gr.new (T := T) (o := HO.tup [.int m, .ref qa]) nt
    have hgl := l.ra.glen (List.mem_of_getElem? hj)
    have n4 := l.ra.wb.le
    refine ⟨x1, .ref t, dVP m g0, rfl, gt.dp hx1, .tup (SqT.of upd_same) (.cons (.int _) (.cons (.tup (SqT.of (gt.at hqa)) (int_dpAll _)) .nil)), ?_, ?_, ?_, fun H5 g5 => ?_⟩
    · show (true && (okD (tD g0) && true)) = true
      rw [ok_tD]
      rfl
    · rw [depth_VP]
      decide
    · show (decide (2 ≤ 100000) && (true && (smallD (tD g0) && true))) = true
      rw [sm_tD (by omega)]
      rfl
    · refine ⟨true, rfl, iteF ?_⟩
      exact q _ ((g1.trans gt).trans g5)
end
end So
namespace So
open PySem PySem.Spec PyProof.Rows L2 PySem.W LamX L2.DX
open C8 (Cal pe_c pe_gc)
open RZ StX
section
variable {P : Program} {w : World} {K : PySem.W.Frag} {mg : Str → Option Value} {base : Heap} {T : List (Addr × Str)}
variable {H H' : Hp} {r sc : Addr} {ns : List Int} {v : V} {a : Addr} {n : Nat} {ties : List (Nat × Nat)} {hs : List Int} {os : List (List Int)} {d so : Addr} {ys : List V}
variable {f : Addr} {cdv : Value} {A : Around} {outer : List Env} {s : Shared} {H0 : Hp} {E : XK}
/-- the outcomes that are not too far, with their worths -/
noncomputable abbrev nearL (n : Nat) (ties : List (Nat × Nat)) (hs : List Int) (os : List (List Int)) (st : Nat) : List (List Int) := os.filter fun g => decide (lv n ties hs g ≤ st)
theorem part14 (N : Nm mg) (hr : Room 7 (A.deeper (envOfC "law" (defScope s_law) s.heap.objs.size f cdv))) :
    ∃ t, PS (LX P w K mg base f cdv A outer s H0 E) (stL 14) t ∧ ∀ {r sc : Addr} {ns : List Int} {v : V} {a : Addr} {n : Nat} {ties : List (Nat × Nat)} {hs : List Int} {os : List (List Int)} {d so : Addr} {ys : List V} (D : Ends) (H : Hp) (st : Nat) (sa : Addr) (ws : List Int) (z8 z9 z10 z11 z12 z14 z15 z16 z17 : Option V), LS K T H r sc ns v a n ties hs os d so ys → H sa = some (.lst ((os.map (worthOf ws)).map V.int)) →
      (∀ (H' : Hp) (pa : Addr) (zs : List V), Gr T H H' → H' pa = some (.lst zs) → DpAll K H' zs ((nearL n ties hs os st).map fun g => dVP (worthOf ws g) g) → D.nx (sg sc r v n a st d so z8 z9 z10 z11 z12 (some (.ref sa)) z14 (some (.ref pa)) z16 z17) H') → t D (sg sc r v n a st d so z8 z9 z10 z11 z12 (some (.ref sa)) z14 z15 z16 z17) H := by
  have nd := sc_law.nd
  refine ⟨_, ps_setLc (i := 15) (own := [("_law_at", 14)]) (g := gName 14) (tt := tTest (tOp (rI0 fun i j => .bl (decide (i ≤ j))) (tDGet (tVar 6) (tOp (rIxL K) (tVar 7) (tVar 14))) (tVar 5))) rfl nd rfl rfl (sw_true rfl rfl rfl (by decide +kernel)) (pi_range1 rfl N.range_ (pa_cons (pe_callB call_len_seq rfl N.len_ PySem.boot_len (pa_cons (pv 7) pa_nil)) pa_nil)) (blkOk_by (own := [("_law_at", 14)]) (N := nL) (sc := defScope s_law) (by decide +kernel)) (fun _ _ _ _ _ => pg_name (i := 14) nd rfl (Or.inl rfl))
      (fun _ _ _ _ _ => pts_one (pt_cmpR op_le (pe_dget (ru1 hr) (pv 6) (pe_ix ix_list (pv 7) (pv 14) (fun _ _ => rfl)) (fun _ _ => rfl)) (pv 5) (nomark _)))
      (te := tTup (tCons (tOp (rIxL K) (tVar 13) (tVar 14)) (tCons (tOp (rIxL K) (tVar 7) (tVar 14)) tNil))) (fun _ _ _ _ _ => pe_tup (pa_cons (pe_ix ix_list (pv 13) (pv 14) (fun _ _ => rfl)) (pa_cons (pe_ix ix_list (pv 7) (pv 14) (fun _ _ => rfl)) pa_nil))), ?_⟩
  intro r sc ns v a n ties hs os d so ys D H st sa ws z8 z9 z10 z11 z12 z14 z15 z16 z17 l hsa q
  have few := l.ra.few
  have hyl := l.tq.length
  refine ⟨.ref so, rfl, so, ys, rfl, .inl (SqL.of l.so_), (ys.length : Nat), rfl, by omega, by omega, fun D2 hD2 => ?_⟩
  refine lcD (T := T) (K := K) os (fun g => if decide (lv n ties hs g ≤ st) = true then some (dVP (worthOf ws g) g) else none) (fun _ _ e => by split at e <;> cases e; exact noL_VP _ _) (walk_rg0 (n := ys.length) (Int.toNat_natCast _)) hyl hD2 (by omega) (fun _ _ => True.intro) (fun i go x H3 H4 Yes No ex g3 yy hyes hn => ?_) (fun H' zs g' eD hzs => ?_)
  · obtain ⟨rfl, rfl⟩ := yy
    have l3 := l.gr g3
    have hi := (List.getElem?_eq_some_iff.mp ex).1
    have hiy : i < ys.length := by rw [hyl]; exact hi
    have ey : ys[i]? = some ys[i] := List.getElem?_eq_getElem hiy
    obtain ⟨go', eg', qa, hxq, hqa⟩ := each_at l3.tq ey
    cases eg'.symm.trans ex
    rw [hxq] at ey
    have es : ((os.map (worthOf ws)).map V.int)[i]? = some (.int (worthOf ws go)) := by
      rw [List.getElem?_map, List.getElem?_map, ex]
      rfl
    refine ⟨rfl, ?_⟩
    refine ⟨.ref d, rfl, .ref so, rfl, .int i, rfl, so, ys, (i : Nat), .ref qa, rfl, rfl, SqL.of l3.so_, atI_nat ey, d, _, rfl, l3.look (List.mem_of_getElem? ex) hqa, .int st, rfl, _, _, rfl, rfl, _, rfl, ite2 (fun e => ?_) (fun e => ?_)⟩
    · have e : ((lv n ties hs go : Nat) : Int) ≤ (st : Int) := of_decide_eq_true e
      refine ⟨.ref sa, rfl, .int i, rfl, sa, _, (i : Nat), .int (worthOf ws go), rfl, rfl, SqL.of (g3.at hsa), atI_nat es, .ref so, rfl, .int i, rfl, so, ys, (i : Nat), .ref qa, rfl, rfl, SqL.of l3.so_, atI_nat ey, by show 2 ≤ sizeLine; decide, fun t nt => ?_⟩
      have gt := Gr.new (T := T) (o := HO.tup [.int (worthOf ws go), .ref qa]) nt
      exact hyes _ _ _ (if_pos (decide_eq_true (by omega))) gt (.tup (SqT.of upd_same) (.cons (.int _) (.cons (.tup (SqT.of (gt.at hqa)) (int_dpAll _)) .nil)))
    · refine hn _ (if_neg fun h => e (decide_eq_true ?_)) Gr.refl
      have := of_decide_eq_true h
      show ((lv n ties hs go : Nat) : Int) ≤ (st : Int)
      omega
  · rw [filterMap_if] at hzs
    exact q _ D2 zs g' eD hzs
theorem okVP (x : Int) (g : List Int) : okD (dVP x g) = true := by
  show (true && (okD (tD g) && true)) = true
  rw [ok_tD]
  rfl
theorem smVP (x : Int) {g : List Int} (h : g.length ≤ 100) : smallD (dVP x g) = true := by
  show (decide (2 ≤ 100000) && (true && (smallD (tD g) && true))) = true
  rw [sm_tD h]
  rfl
/-- the least of a list is one of it -/
theorem minD_mem : ∀ (x : PyData) (xs : List PyData), minD x xs ∈ x :: xs := by
  intro x xs
  unfold minD
  induction xs generalizing x with
  | nil => exact List.mem_cons_self ..
  | cons y xs ih =>
    rw [List.foldl_cons]
    have := ih (if dataLt y x = true then y else x)
    rcases List.mem_cons.mp this with e | e
    · rw [e]
      split
      · exact List.mem_cons_of_mem _ (List.mem_cons_self ..)
      · exact List.mem_cons_self ..
    · exact List.mem_cons_of_mem _ (List.mem_cons_of_mem _ e)
theorem minVP (F : List Int → Int) (g0 : List Int) (gr : List (List Int)) : ∃ g ∈ g0 :: gr, minD (dVP (F g0) g0) (gr.map fun g => dVP (F g) g) = dVP (F g) g := by
  have h := minD_mem (dVP (F g0) g0) (gr.map fun g => dVP (F g) g)
  have h2 : minD (dVP (F g0) g0) (gr.map fun g => dVP (F g) g) ∈ (g0 :: gr).map fun g => dVP (F g) g := h
  obtain ⟨g, hg, e⟩ := List.mem_map.mp h2
  exact ⟨g, hg, e.symm⟩
theorem part15 (C : AllC P w K mg base T) (N : Nm mg) (hr : Room 7 (A.deeper (envOfC "law" (defScope s_law) s.heap.objs.size f cdv))) :
    ∃ t, PS (LX P w K mg base f cdv A outer s H0 E) (stL 15) t ∧ ∀ {r sc : Addr} {ns : List Int} {v : V} {a : Addr} {n : Nat} {ties : List (Nat × Nat)} {hs : List Int} {os : List (List Int)} {d so : Addr} {ys : List V} (D : Ends) (H : Hp) (st : Nat) (wa pa : Addr) (ws : List Int) (zs : List V) (z8 z9 z10 z11 z13 z14 z16 z17 : Option V), LS K T H r sc ns v a n ties hs os d so ys → st ≤ 60 → H wa = some (.tup (ws.map V.int)) → ws.length = n → (∀ z ∈ ws, -4 ≤ z ∧ z ≤ 4) → H pa = some (.lst zs) → DpAll K H zs ((nearL n ties hs os st).map fun g => dVP (worthOf ws g) g) →
      (∀ H', Gr T H H' → D.nx (sg sc r v n a st d so z8 z9 z10 z11 (some (.ref wa)) z13 z14 (some (.ref pa)) z16 z17) H') → t D (sg sc r v n a st d so z8 z9 z10 z11 (some (.ref wa)) z13 z14 (some (.ref pa)) z16 z17) H := by
  have nd := sc_law.nd
  refine ⟨_, ps_if (pt_not (pt_val (pe_c C.alike hr (by decide) rfl (pa_cons (pe_c C.cheap hr (by decide) rfl (pa_cons (pv 2) (pa_cons (pv 4) (pa_cons (pv 12) (pa_cons (pv 5) pa_nil))))) (pa_cons (pe_callB (cr_minD rfl hr.units) rfl N.min_ (by decide +kernel) (pa_cons (pv 15) pa_nil)) pa_nil))))) pss_never pss_nil, ?_⟩
  intro r sc ns v a n ties hs os d so ys D H st wa pa ws zs z8 z9 z10 z11 z13 z14 z16 z17 l hst hwa hwl hwb hpa hzs q
  have hin : hs ∈ nearL n ties hs os st := List.mem_filter.mpr ⟨l.ra.wd.ne, decide_eq_true (by rw [lv_zero]; omega)⟩
  cases ef : nearL n ties hs os st with
  | nil => rw [ef] at hin; cases hin
  | cons g0 gr =>
    refine ⟨v, rfl, .ref a, rfl, .ref wa, rfl, .int st, rfl, v, .ref wa, a, n, ties, hs, os, lv n ties hs, ws, st, g0, gr, rfl, l.ra, .tup (SqT.of hwa) (int_dpAll _), hwl, fun z hz => by have := hwb z hz; omega, hst, ef, fun H1 x1 g1 hx1 => ?_⟩
    rw [ef] at hzs
    refine ⟨.ref pa, rfl, pa, zs, dVP (worthOf ws g0) g0, gr.map fun g => dVP (worthOf ws g) g, rfl, SqL.of (g1.at hpa), g1.dpAll hzs, VP_AA (g0 :: gr) (worthOf ws), VP_dep (g0 :: gr) (worthOf ws), fun y hy => ?_⟩
    obtain ⟨gm, hgm, em⟩ := minVP (worthOf ws) g0 gr
    rw [em] at hx1 hy
    have hgl : gm.length = n := l.ra.glen (List.mem_filter.mp (by rw [← ef] at hgm; exact hgm)).1
    have n4 := l.ra.wb.le
    refine ⟨x1, y, dVP (worthOf ws gm) gm, rfl, hx1, hy, okVP _ _, by rw [depth_VP]; decide, smVP _ (by omega), fun H5 g5 => ?_⟩
    refine ⟨true, rfl, iteF ?_⟩
    exact q _ (g1.trans g5)
theorem part16 (C : AllC P w K mg base T) (hr : Room 7 (A.deeper (envOfC "law" (defScope s_law) s.heap.objs.size f cdv))) :
    ∃ t, PS (LX P w K mg base f cdv A outer s H0 E) (stL 16) t ∧ ∀ {r sc : Addr} {ns : List Int} {v : V} {a : Addr} {n : Nat} {ties : List (Nat × Nat)} {hs : List Int} {os : List (List Int)} {d so : Addr} {ys : List V} (D : Ends) (H : Hp) (st : Nat) (z8 z9 z10 z11 z12 z13 z14 z15 z16 z17 : Option V), LS K T H r sc ns v a n ties hs os d so ys →
      (∀ (H' : Hp) (wi : Addr) (ws : List Int), LS K T H' r sc ns v a n ties hs os d so ys → H' wi = some (.tup (ws.map V.int)) → ws.length = n → (∀ z ∈ ws, -2 ≤ z ∧ z ≤ 3) → D.nx (sg sc r v n a st d so z8 z9 z10 z11 z12 z13 z14 z15 (some (.ref wi)) z17) H') → t D (sg sc r v n a st d so z8 z9 z10 z11 z12 z13 z14 z15 z16 z17) H := by
  have nd := sc_law.nd
  refine ⟨_, ps_set (i := 16) nd rfl (.inr rfl) (pe_c C.hts hr (by decide) rfl (pa_cons (pv 1) (pa_cons (pv 3) (pa_cons pe_int pa_nil)))), ?_⟩
  intro r sc ns v a n ties hs os d so ys D H st z8 z9 z10 z11 z12 z13 z14 z15 z16 z17 l q
  exact ⟨.ref r, rfl, .int n, rfl, r, sc, ns, n, rfl, l.row, l.ra.wb.le, fun H1 wi ws g1 w1 _ e hl hb => q H1 wi ws (l.grx g1 w1) e hl hb⟩
end
end So
namespace So
open PySem PySem.Spec PyProof.Rows L2 PySem.W LamX L2.DX
open C8 (Cal pe_c pe_gc)
open RZ StX
section
variable {P : Program} {w : World} {K : PySem.W.Frag} {mg : Str → Option Value} {base : Heap} {T : List (Addr × Str)}
variable {H H' : Hp} {r sc : Addr} {ns : List Int} {v : V} {a : Addr} {n : Nat} {ties : List (Nat × Nat)} {hs : List Int} {os : List (List Int)} {d so : Addr} {ys : List V}
variable {f : Addr} {cdv : Value} {A : Around} {outer : List Env} {s : Shared} {H0 : Hp} {E : XK}
def rMx2 : List V → Hp → VK → Prop := fun xs H Q => ∃ i j, xs = [.int i, .int j] ∧ Q (.int (if j > i then j else i)) H
def rMn2 : List V → Hp → VK → Prop := fun xs H Q => ∃ i j, xs = [.int i, .int j] ∧ Q (.int (if j < i then j else i)) H
theorem mm_abs (i j : Int) : (if j > i then j else i) - (if j < i then j else i) = if i - j < 0 then -(i - j) else i - j := by
  rcases Int.lt_trichotomy i j with h | h | h
  · rw [if_pos (by omega), if_neg (by omega), if_pos (by omega)]
    omega
  · subst h
    simp
  · rw [if_neg (by omega), if_pos (by omega), if_neg (by omega)]
theorem partT (C : AllC P w K mg base T) (N : Nm mg) (hr : Room 7 (A.deeper (envOfC "law" (defScope s_law) s.heap.objs.size f cdv))) :
    ∃ t, PSs (LX P w K mg base f cdv A outer s H0 E) [stL 17, stL 18, stL 19] t ∧ ∀ {r sc : Addr} {ns : List Int} {v : V} {a : Addr} {n : Nat} {ties : List (Nat × Nat)} {hs : List Int} {os : List (List Int)} {d so : Addr} {ys : List V} (D : Ends) (H : Hp) (st : Nat) (wi : Addr) (ws : List Int) (z9 z10 z11 z12 z13 z14 z15 z17 : Option V), LS K T H r sc ns v a n ties hs os d so ys → H wi = some (.tup (ws.map V.int)) → ws.length = n → (∀ z ∈ ws, -2 ≤ z ∧ z ≤ 3) →
      (∀ H', D.rt (.bl true) H') → t D (sg sc r v n a st d so none z9 z10 z11 z12 z13 z14 z15 (some (.ref wi)) z17) H := by
  have nd := sc_law.nd
  refine ⟨_, pss_cons (ps_set (i := 17) nd rfl (.inl rfl) (pe_lst pa_nil))
    (pss_cons (ps_for PassesOwn.never rfl (pi_list (pv 7)) (pg_name (i := 8) nd rfl (.inr rfl))
      (pss_one (ps_expr (pe_bm PySem.F.plainAttrs_list PySem.F.slot_list_append PySem.F.type_list_append mt_append (pv 17) (pa_cons (pe_tup (pa_cons (pe_callB (cr_sum rfl) rfl N.sum_ (by decide +kernel) (pa_cons
        (pe_lc (own := [("_law_at", 14)]) (g := gName 14) (tt := tYes) rfl nd (pi_range1 rfl N.range_ (pa_cons (pv 3) pa_nil)) (blkOk_by (own := [("_law_at", 14)]) (N := nL) (sc := defScope s_law) (by decide +kernel)) (fun _ _ _ _ _ => pg_name (i := 14) nd rfl (Or.inl rfl)) (fun _ _ _ _ _ => pts_nil)
          (te := tOp (rI0 fun i j => .int (i - j)) (tCB rMx2 (tCons (tOp (rIxT K) (tVar 8) (tVar 14)) (tCons (tOp (rIxT K) (tVar 16) (tVar 14)) tNil))) (tCB rMn2 (tCons (tOp (rIxT K) (tVar 8) (tVar 14)) (tCons (tOp (rIxT K) (tVar 16) (tVar 14)) tNil))))
          (fun _ _ _ _ _ => pe_op op_sub (pe_callB (r := rMx2) (call_max2 rfl) rfl N.max_ (by decide +kernel) (pa_cons (pe_ix ix_tup (pv 8) (pv 14) (fun _ _ => rfl)) (pa_cons (pe_ix ix_tup (pv 16) (pv 14) (fun _ _ => rfl)) pa_nil))) (pe_callB (r := rMn2) (call_min2 rfl) rfl N.min_ (by decide +kernel) (pa_cons (pe_ix ix_tup (pv 8) (pv 14) (fun _ _ => rfl)) (pa_cons (pe_ix ix_tup (pv 16) (pv 14) (fun _ _ => rfl)) pa_nil))))) pa_nil)) (pa_cons (pv 8) pa_nil))) pa_nil)))))
    (pss_one (ps_ret (pe_c C.alike hr (by decide) rfl (pa_cons (pe_c C.near hr (by decide) rfl (pa_cons (pv 2) (pa_cons (pv 4) (pa_cons (pv 16) pa_nil)))) (pa_cons (pe_callB (cr_minD rfl hr.units) rfl N.min_ (by decide +kernel) (pa_cons (pv 17) pa_nil)) pa_nil)))))), ?_⟩
  intro r sc ns v a n ties hs os d so ys D H st wi ws z9 z10 z11 z12 z13 z14 z15 z17 l hwi hwl hwb q
  have few := l.ra.few
  have n4 := l.ra.wb.le
  refine ⟨Nat.zero_le _, fun fa nf => ?_⟩
  have g0 := Gr.new (T := T) (o := HO.lst []) nf
  have nF : Nw H fa := Nw.of nf
  have hsf : so ≠ fa := ne_of_none l.so_ nf
  refine ⟨.ref so, rfl, so, rfl, ⟨_, SqL.of (g0.at l.so_)⟩, ?_⟩
  refine for_it walk_list (fun i σ H' => Gr T H H' ∧ (∃ acc, H' fa = some (.lst acc) ∧ DpAll K H' acc ((os.take i).map fun g => dVP (farOf ws g) g)) ∧ ∃ z8, σ = sg sc r v n a st d so z8 z9 z10 z11 z12 z13 z14 z15 (some (.ref wi)) (some (.ref fa))) ⟨g0, ⟨[], upd_same, .nil⟩, _, rfl⟩ (fun i σ H' _ h => SqL.of (h.1.at l.so_)) (fun i x σ H1 H2 hi h y => ?_) (fun σ H' h => ?_)
  · obtain ⟨g1, ⟨acc, ef, hacc⟩, z8, rfl⟩ := h
    obtain ⟨rfl, e2⟩ := y
    have l1 := l.gr g1
    obtain ⟨go, eg, qa, rfl, hqa⟩ := each_at l1.tq e2
    have hgl := l.ra.glen (List.mem_of_getElem? eg)
    have la := DpAll.len hacc
    rw [List.length_map, List.length_take] at la
    refine ⟨.ref fa, rfl, .inl ⟨rfl, _, SqL.of ef⟩, ?_⟩
    refine ⟨.int n, rfl, n, rfl, by omega, by omega, fun D2 hD2 => ?_⟩
    refine lcD (T := T) (K := K) (List.range n) (fun i => some (dI (if go.getD i 0 - ws.getD i 0 < 0 then -(go.getD i 0 - ws.getD i 0) else go.getD i 0 - ws.getD i 0))) (fun _ _ e => by cases e; rfl) (walk_rg0 (Int.toNat_natCast n)) (by rw [List.length_range]) hD2 (by rw [List.length_range]; omega) (fun _ _ => True.intro) (fun j j' x H5 H6 Yes2 No2 ex2 g5 yy2 hyes2 hn2 => ?_) (fun H5 us g5 eD3 hus => ?_)
    · obtain ⟨rfl, rfl⟩ := yy2
      have hj : j < n := by
        have := (List.getElem?_eq_some_iff.mp ex2).1
        rwa [List.length_range] at this
      rw [range_at hj] at ex2
      cases ex2
      have hq5 := SqT.of (K := K) (g5.at hqa)
      have hw5 := SqT.of (K := K) ((g1.trans g5).at hwi)
      refine ⟨rfl, ?_⟩
      refine ⟨.ref qa, rfl, .int j, rfl, qa, _, (j : Nat), _, rfl, rfl, hq5, atI_nat (int_get (by omega)), .ref wi, rfl, .int j, rfl, wi, _, (j : Nat), _, rfl, rfl, hw5, atI_nat (int_get (by omega)), go.getD j 0, ws.getD j 0, rfl, ?_⟩
      refine ⟨.ref qa, rfl, .int j, rfl, qa, _, (j : Nat), _, rfl, rfl, hq5, atI_nat (int_get (by omega)), .ref wi, rfl, .int j, rfl, wi, _, (j : Nat), _, rfl, rfl, hw5, atI_nat (int_get (by omega)), go.getD j 0, ws.getD j 0, rfl, _, _, rfl, rfl, ?_⟩
      refine hyes2 _ _ _ rfl Gr.refl ?_
      show Dp K _ (.int ((if ws.getD j 0 > go.getD j 0 then ws.getD j 0 else go.getD j 0) - (if ws.getD j 0 < go.getD j 0 then ws.getD j 0 else go.getD j 0))) _
      rw [mm_abs]
      exact .int _
    · rw [filterMap_some'] at hus
      have e : (List.range n).map (fun i => dI (if go.getD i 0 - ws.getD i 0 < 0 then -(go.getD i 0 - ws.getD i 0) else go.getD i 0 - ws.getD i 0)) = ((List.range n).map fun i => if go.getD i 0 - ws.getD i 0 < 0 then -(go.getD i 0 - ws.getD i 0) else go.getD i 0 - ws.getD i 0).map PyData.int := by
        rw [List.map_map]
        rfl
      rw [e] at hus
      rw [dpAll_int hus] at eD3
      have ew : ((List.range n).map fun i => if go.getD i 0 - ws.getD i 0 < 0 then -(go.getD i 0 - ws.getD i 0) else go.getD i 0 - ws.getD i 0).sum = farOf ws go := by
        unfold farOf
        rw [zip_range hgl hwl fun p => if p.1 - p.2 < 0 then -(p.1 - p.2) else p.1 - p.2]
      refine ⟨D2, _, rfl, SqL.of eD3, ?_⟩
      rw [ew]
      refine ⟨.ref qa, rfl, by show 2 ≤ sizeLine; decide, fun t nt => ?_⟩
      have gt := Gr.new (T := T) (o := HO.tup [.int (farOf ws go), .ref qa]) nt
      have g7 := g5.trans gt
      have ef7 := g7.at ef
      refine ⟨fa, acc, _, rfl, rfl, ef7, Nat.lt_of_le_of_lt (show _ ≤ 1000 by omega) (by decide), ?_⟩
      have hyt : Dp K (upd H5 t (.tup [.int (farOf ws go), .ref qa])) (.ref t) (dVP (farOf ws go) go) := .tup (SqT.of upd_same) (.cons (.int _) (.cons (.tup (SqT.of (g7.at hqa)) (int_dpAll _)) .nil))
      refine ⟨(g1.trans g7).put nF ef7, ⟨_, upd_same, ?_⟩, _, rfl⟩
      rw [List.take_add_one, eg, List.map_append]
      refine dpAll_snoc (dpAll_put ef7 (noLs_of fun d hd => ?_) (g7.dpAll hacc)) (dp_put ef7 (noL_VP _ _) hyt)
      obtain ⟨g, _, rfl⟩ := List.mem_map.mp hd
      exact noL_VP _ _
  · obtain ⟨g1, ⟨acc, ef, hacc⟩, z8, rfl⟩ := h
    have l1 := l.gr g1
    rw [l.tq.length, List.take_length] at hacc
    cases eo : os with
    | nil =>
      have := l.ra.wd.ne
      rw [eo] at this
      cases this
    | cons g0 gr =>
      rw [eo] at hacc
      refine ⟨v, rfl, .ref a, rfl, .ref wi, rfl, v, .ref wi, a, n, ties, hs, os, lv n ties hs, ws, g0, gr, rfl, l1.ra, .tup (SqT.of (g1.at hwi)) (int_dpAll _), hwl, fun z hz => by have := hwb z hz; omega, eo, fun H2 x1 g2 hx1 => ?_⟩
      refine ⟨.ref fa, rfl, fa, acc, dVP (farOf ws g0) g0, gr.map fun g => dVP (farOf ws g) g, rfl, SqL.of (g2.at ef), g2.dpAll hacc, VP_AA (g0 :: gr) (farOf ws), VP_dep (g0 :: gr) (farOf ws), fun y hy => ?_⟩
      obtain ⟨gm, hgm, em⟩ := minVP (farOf ws) g0 gr
      rw [em] at hx1 hy
      have hgl : gm.length = n := l.ra.glen (by rw [eo]; exact hgm)
      exact ⟨x1, y, dVP (farOf ws gm) gm, rfl, hx1, hy, okVP _ _, by rw [depth_VP]; decide, smVP _ (by omega), fun H5 g5 => q _⟩
end
end So
namespace So
open PySem PySem.Spec PyProof.Rows L2 PySem.W LamX L2.DX
open C8 (Cal pe_c pe_gc)
open RZ StX
section
variable {P : Program} {w : World} {K : PySem.W.Frag} {mg : Str → Option Value} {base : Heap} {T : List (Addr × Str)}
variable {f : Addr} {cdv : Value} {A : Around} {outer : List Env} {s : Shared} {H0 : Hp} {E : XK}
theorem partS (C : AllC P w K mg base T) (N : Nm mg) (hr : Room 7 (A.deeper (envOfC "law" (defScope s_law) s.heap.objs.size f cdv))) {rest : List Stmt} {u : TS} (hu : PSs (LX P w K mg base f cdv A outer s H0 E) rest u) :
    ∃ t, PSs (LX P w K mg base f cdv A outer s H0 E) (stL 0 :: stL 1 :: stL 2 :: stL 3 :: stL 4 :: stL 5 :: rest) t ∧ ∀ (D : Ends) (H : Hp) (sc : Addr) (ns : List Int), SqL K H sc (ns.map V.int) → Tabs T H →
      (∀ (H' : Hp) (r : Addr) (v : V) (a : Addr) (n : Nat) (ties : List (Nat × Nat)) (hs : List Int) (os : List (List Int)) (d so : Addr) (ys : List V) (st : Nat), LS K T H' r sc ns v a n ties hs os d so ys → st ≤ 6 → u D (sg sc r v n a st d so none none none none none none none none none none) H') → t D (L2.start nL [.ref sc]) H := by
  have nd := sc_law.nd
  refine ⟨_, pss_cons (ps_set (i := 1) nd rfl (.inr rfl) (pe_lst (pa_cons (pv 0) (pa_cons pe_int (pa_cons pe_int (pa_cons pe_int pa_nil))))))
    (pss_cons (ps_set (i := 2) nd rfl (.inl rfl) (pe_c C.web hr (by decide) rfl (pa_cons (pv 1) (pa_cons pe_int (pa_cons pe_int pa_nil)))))
    (pss_cons (ps_set (i := 3) nd rfl (.inr rfl) (pe_ix ix_tup (pv 2) pe_int (fun _ _ => rfl)))
    (pss_cons (ps_asg (pe_tup (pa_cons (pe_c C.hts hr (by decide) rfl (pa_cons (pv 1) (pa_cons (pv 3) (pa_cons pe_int pa_nil)))) (pa_cons (pe_c C.taken hr (by decide) rfl (pa_cons (pv 1) (pa_cons pe_int pa_nil))) pa_nil))) (pg_tup (by rfl) (pgs_cons (pg_name (i := 4) nd rfl (.inl rfl)) (pgs_cons (pg_name (i := 5) nd rfl (.inr rfl)) pgs_nil))))
    (pss_cons (ps_set (i := 6) nd rfl (.inr rfl) (pe_c C.steps hr (by decide) rfl (pa_cons (pv 2) (pa_cons (pv 4) pa_nil))))
    (pss_cons (ps_set (i := 7) nd rfl (.inr rfl) (pe_callB (cr_sortTT hr.units) rfl N.sorted_ (by decide +kernel) (pa_cons (pe_callTy (call_list_dT rfl) rfl N.list_ (by decide +kernel) (pa_cons (pv 6) pa_nil)) pa_nil))) hu))))), ?_⟩
  intro D H sc ns hsc hT q
  refine ⟨.ref sc, rfl, by show 4 ≤ sizeLine; decide, fun r nr => ?_⟩
  have gr := Gr.new (T := T) (o := HO.lst [.ref sc, .int 0, .int 4923, .int 0]) nr
  have hne : KLst K sc (ns.map V.int) ∨ sc ≠ r := by
    rcases hsc with (h | ⟨o, h⟩) | h
    · exact .inr (ne_of_none h nr)
    · exact .inr (ne_of_none h nr)
    · exact .inl h
  have w0 : RowAt K (upd H r (.lst [.ref sc, .int 0, .int 4923, .int 0])) r sc ns := ⟨⟨0, 4923, 0, upd_same, by decide, by decide, by decide⟩, gr.sqL hsc, hne⟩
  refine ⟨.ref r, rfl, r, sc, ns, rfl, w0, fun H1 v n ties g1 w1 wb hv => ?_⟩
  obtain ⟨wa, wt, wxs, rfl, hwa, _, _⟩ := dp_web hv
  refine ⟨.ref wa, rfl, wa, _, _, .int n, rfl, rfl, hwa, atI_nat (j := 0) rfl, ?_⟩
  refine ⟨.ref r, rfl, .int n, rfl, r, sc, ns, n, rfl, w1, wb.le, fun H2 a hs g2 w2 _ ea hl hb => ?_⟩
  refine ⟨.ref r, rfl, r, sc, ns, 7, rfl, w2, by decide, by decide, fun H3 st hst g3 w3 => ?_⟩
  refine ⟨by show 2 ≤ sizeLine; decide, fun t nt => ?_⟩
  have gt := Gr.new (T := T) (o := HO.tup [.ref a, .int st]) nt
  obtain ⟨x1, hx1⟩ := w1.isL
  obtain ⟨x2, hx2⟩ := w2.isL
  have hv3 : Dp K (upd H3 t (.tup [.ref a, .int st])) (.ref wa) (dWeb n ties) := gt.dp (g3.dp ⟨_, hx2⟩ (noL_web n ties) (g2.dp ⟨_, hx1⟩ (noL_web n ties) hv))
  have ea3 : (upd H3 t (.tup [.ref a, .int st])) a = some (.tup (hs.map V.int)) := gt.at (g3.at (ne_of ea hx2 (by intro z; cases z)) ea)
  have w4 := w3.gr gt
  have tab4 := gt.tab (g3.tab (g2.tab (g1.tab (gr.tab hT))))
  refine ⟨t, _, rfl, SqT.of upd_same, rfl, _, _, rfl, _, _, rfl, rfl, ?_⟩
  refine ⟨.ref wa, rfl, .ref a, rfl, .ref wa, a, n, ties, hs, rfl, hv3, ea3, wb, hl, fun H5 d found g5 nD ed fnd fmem => ?_⟩
  refine ⟨.ref d, rfl, d, _, rfl, .inl ed, fun p bs np hks => ?_⟩
  have tq := keys_tq hks
  have gp := Gr.new (T := T) (o := HO.lst (bs.map V.ref)) np
  have hneg : ∀ g ∈ found, g ≠ [] := fun g hg e => by
    obtain ⟨k, rr⟩ := (fmem g).mp hg
    have := rr.len
    rw [e, hl] at this
    have := wb.pos
    simp at *
    omega
  refine ⟨p, _, found, rfl, SqL.of upd_same, gp.tq tq, hneg, fun ys so hys nso => ?_⟩
  have gs := Gr.new (T := T) (o := HO.lst ys) nso
  have w5 := ((w4.gr g5).gr gp).gr gs
  obtain ⟨x5, hx5⟩ := (((w4.gr g5).gr (T := T) gp)).isL
  have pm := List.mergeSort_perm found leL
  have W : Wd n ties hs (found.mergeSort leL) (lv n ties hs) := ⟨sortL_pw found, pm.nodup_iff.mpr fnd, fun g => by rw [pm.mem_iff, fmem g], fun g hg => fewest_main wb hl ((fmem g).mp (pm.mem_iff.mp hg))⟩
  have ra4 : RA K T (upd H3 t (.tup [.ref a, .int st])) (.ref wa) a n ties hs (found.mergeSort leL) (lv n ties hs) := ⟨hv3, ea3, wb, hl, fun x hx => by have := hb x hx; omega, tab4, W⟩
  refine q _ r (.ref wa) a n ties hs (found.mergeSort leL) d so ys st ⟨((ra4.gr g5).gr gp).gr gs, w5, ⟨found, gs.at (gp.at ed), fun g => pm.mem_iff.symm⟩, upd_same, gs.tq hys, (ne_of_none hx5 nso).symm⟩ (by omega)
def spLaw (K : PySem.W.Frag) (T : List (Addr × Str)) : Sp := fun vs H Q _ => ∃ (sc : Addr) (ns : List Int), vs = [.ref sc] ∧ SqL K H sc (ns.map V.int) ∧ Tabs T H ∧ ∀ H', Q (.bl true) H'
theorem body_eq : defBody s_law = stL 0 :: stL 1 :: stL 2 :: stL 3 :: stL 4 :: stL 5 :: stL 6 :: stL 7 :: stL 8 :: stL 9 :: stL 10 :: stL 11 :: stL 12 :: stL 13 :: stL 14 :: stL 15 :: stL 16 :: [stL 17, stL 18, stL 19] := rfl
theorem ok_law {f : Addr} {fd : FuncData} (F : FnP K "law" s_law f fd) (N : Nm mg) (C : AllC P w K mg base T) : FnOk P w K mg base C8.CX0 8 f fd ["_law_script"] (spLaw K T) := by
  refine F.ok sc_law (fun vs H Q E h => ?_) (fun cdv A outer s H vs Q E hr h => ?_)
  · obtain ⟨sc, ns, rfl, _⟩ := h
    rfl
  · obtain ⟨sc, ns, rfl, hsc, hT, q⟩ := h
    obtain ⟨t6, p6, q6⟩ := part6 (K := K) (H0 := H) (E := E) (s := s) (outer := outer) C N hr
    obtain ⟨t7, p7, q7⟩ := part7 (K := K) (H0 := H) (E := E) (s := s) (outer := outer) C N hr
    obtain ⟨t8, p8, q8⟩ := part8 (K := K) (H0 := H) (E := E) (s := s) (outer := outer) C N hr
    obtain ⟨t9, p9, q9⟩ := part9 (P := P) (w := w) (K := K) (base := base) (T := T) (f := f) (cdv := cdv) (A := A) (H0 := H) (E := E) (s := s) (outer := outer) N
    obtain ⟨t10, p10, q10⟩ := part10 (K := K) (H0 := H) (E := E) (s := s) (outer := outer) C N hr
    obtain ⟨t11, p11, q11⟩ := part11 (K := K) (H0 := H) (E := E) (s := s) (outer := outer) C N hr
    obtain ⟨t12, p12, q12⟩ := part12 (P := P) (w := w) (K := K) (base := base) (T := T) (f := f) (cdv := cdv) (A := A) (H0 := H) (E := E) (s := s) (outer := outer) N
    obtain ⟨t13, p13, q13⟩ := part13 (K := K) (H0 := H) (E := E) (s := s) (outer := outer) C N hr
    obtain ⟨t14, p14, q14⟩ := part14 (P := P) (w := w) (K := K) (base := base) (T := T) (H0 := H) (E := E) (outer := outer) N hr
    obtain ⟨t15, p15, q15⟩ := part15 (K := K) (H0 := H) (E := E) (s := s) (outer := outer) C N hr
    obtain ⟨t16, p16, q16⟩ := part16 (K := K) (H0 := H) (E := E) (s := s) (outer := outer) C hr
    obtain ⟨tT, pT, qT⟩ := partT (K := K) (H0 := H) (E := E) (s := s) (outer := outer) C N hr
    obtain ⟨tS, pS, qS⟩ := partS (K := K) (H0 := H) (E := E) (s := s) (outer := outer) C N hr (pss_cons p6 (pss_cons p7 (pss_cons p8 (pss_cons p9 (pss_cons p10 (pss_cons p11 (pss_cons p12 (pss_cons p13 (pss_cons p14 (pss_cons p15 (pss_cons p16 pT)))))))))))
    refine ⟨tS, ?_, ?_⟩
    · show PSs _ (defBody s_law) tS
      rw [body_eq]
      exact PSs.nox pS
    · refine qS _ H sc ns hsc hT fun H1 r v a n ties hs os d so ys st l1 hst => ?_
      refine q6 _ H1 st _ _ _ _ _ _ _ _ _ _ l1 (by omega) fun H2 g2 => ?_
      have l2 := l1.gr g2
      refine q7 _ H2 st _ _ _ _ _ _ _ _ _ _ l2 fun H3 ca g3 eca _ => ?_
      have l3 := l2.gr g3
      refine q8 _ H3 st ca _ _ _ _ _ _ _ _ _ l3 eca fun H4 g4 => ?_
      have l4 := l3.gr g4
      refine q9 _ H4 st ca _ _ _ _ _ _ _ _ _ l4 (g4.at eca) fun m hm hmax => ?_
      refine q10 _ H4 st m _ _ _ _ _ _ _ _ _ l4 hm hmax fun H5 g5 => ?_
      have l5 := l4.gr g5
      refine q11 _ H5 st _ _ _ _ _ _ _ _ _ _ l5 fun H6 wa ws l6 ewa hwl hwb => ?_
      refine q12 _ H6 st wa ws _ _ _ _ _ _ _ _ _ l6 ewa hwl hwb fun H7 sa g7 esa _ => ?_
      have l7 := l6.gr g7
      refine q13 _ H7 st wa sa ws _ _ _ _ _ _ _ _ l7 (g7.at ewa) hwl hwb esa fun H8 g8 => ?_
      have l8 := l7.gr g8
      refine q14 _ H8 st sa ws _ _ _ _ _ _ _ _ _ l8 (g8.at esa) fun H9 pa zs g9 epa hzs => ?_
      have l9 := l8.gr g9
      refine q15 _ H9 st wa pa ws zs _ _ _ _ _ _ _ _ l9 (by omega) (g9.at (g8.at (g7.at ewa))) hwl hwb epa hzs fun H10 g10 => ?_
      have l10 := l9.gr g10
      refine q16 _ H10 st _ _ _ _ _ _ _ _ _ _ l10 fun H11 wi wis l11 ewi hil hib => ?_
      exact qT _ H11 st wi wis _ _ _ _ _ _ _ _ l11 ewi hil hib fun H' => q H'
end
end So
set_option maxHeartbeats 0
namespace So
open PySem PySem.Spec PyProof.Rows L2 PySem.W LamX
open C8 (Cal pe_c pe_gc)
def d_is_int : He.DefD := ⟨("is_int", none), "is_int", "is_int", defArgs s_is_int, defBody s_is_int, defScope s_is_int, [], []⟩
def d_is_from : He.DefD := ⟨("is_from", none), "is_from", "is_from", defArgs s_is_from, defBody s_is_from, defScope s_is_from, [], []⟩
def d_need_from : He.DefD := ⟨("need_from", none), "need_from", "need_from", defArgs s_need_from, defBody s_need_from, defScope s_need_from, [], []⟩
def d_is_height : He.DefD := ⟨("is_height", none), "is_height", "is_height", defArgs s_is_height, defBody s_is_height, defScope s_is_height, [], []⟩
def d_is_tie : He.DefD := ⟨("is_tie", none), "is_tie", "is_tie", defArgs s_is_tie, defBody s_is_tie, defScope s_is_tie, [], []⟩
def d_need_web : He.DefD := ⟨("need_web", none), "need_web", "need_web", defArgs s_need_web, defBody s_need_web, defScope s_need_web, [], []⟩
def d_need_heights : He.DefD := ⟨("need_heights", none), "need_heights", "need_heights", defArgs s_need_heights, defBody s_need_heights, defScope s_need_heights, [], []⟩
def d_tied_to : He.DefD := ⟨("tied_to", none), "tied_to", "tied_to", defArgs s_tied_to, defBody s_tied_to, defScope s_tied_to, [], []⟩
def d_hanging : He.DefD := ⟨("hanging", none), "hanging", "hanging", defArgs s_hanging, defBody s_hanging, defScope s_hanging, [], []⟩
def d_everybody : He.DefD := ⟨("everybody", none), "everybody", "everybody", defArgs s_everybody, defBody s_everybody, defScope s_everybody, [], []⟩
def d_lots_of : He.DefD := ⟨("lots_of", none), "lots_of", "lots_of", defArgs s_lots_of, defBody s_lots_of, defScope s_lots_of, [], []⟩
def d_open_at : He.DefD := ⟨("open_at", none), "open_at", "open_at", defArgs s_open_at, defBody s_open_at, defScope s_open_at, [], []⟩
def d_joins : He.DefD := ⟨("joins", none), "joins", "joins", defArgs s_joins, defBody s_joins, defScope s_joins, [], []⟩
def d_join_of : He.DefD := ⟨("join_of", none), "join_of", "join_of", defArgs s_join_of, defBody s_join_of, defScope s_join_of, [], []⟩
def d_fewest_of : He.DefD := ⟨("fewest_of", none), "fewest_of", "fewest_of", defArgs s_fewest_of, defBody s_fewest_of, defScope s_fewest_of, [], []⟩
def d_next_of : He.DefD := ⟨("next_of", none), "next_of", "next_of", defArgs s_next_of, defBody s_next_of, defScope s_next_of, [], []⟩
def d_after : He.DefD := ⟨("after", none), "after", "after", defArgs s_after, defBody s_after, defScope s_after, [], []⟩
def d_all_of : He.DefD := ⟨("all_of", none), "all_of", "all_of", defArgs s_all_of, defBody s_all_of, defScope s_all_of, [], []⟩
def d_need_start : He.DefD := ⟨("need_start", none), "need_start", "need_start", defArgs s_need_start, defBody s_need_start, defScope s_need_start, [], []⟩
def d_steps_of : He.DefD := ⟨("steps_of", none), "steps_of", "steps_of", defArgs s_steps_of, defBody s_steps_of, defScope s_steps_of, [], []⟩
def d_within : He.DefD := ⟨("within", none), "within", "within", defArgs s_within, defBody s_within, defScope s_within, [], []⟩
def d_steps_table : He.DefD := ⟨("steps_table", none), "steps_table", "steps_table", defArgs s_steps_table, defBody s_steps_table, defScope s_steps_table, [], []⟩
def d_farthest : He.DefD := ⟨("farthest", none), "farthest", "farthest", defArgs s_farthest, defBody s_farthest, defScope s_farthest, [], []⟩
def d_need_weights : He.DefD := ⟨("need_weights", none), "need_weights", "need_weights", defArgs s_need_weights, defBody s_need_weights, defScope s_need_weights, [], []⟩
def d_worth : He.DefD := ⟨("worth", none), "worth", "worth", defArgs s_worth, defBody s_worth, defScope s_worth, [], []⟩
def d_greatest_worth : He.DefD := ⟨("greatest_worth", none), "greatest_worth", "greatest_worth", defArgs s_greatest_worth, defBody s_greatest_worth, defScope s_greatest_worth, [], []⟩
def d_nearest : He.DefD := ⟨("nearest", none), "nearest", "nearest", defArgs s_nearest, defBody s_nearest, defScope s_nearest, [], []⟩
def d_cheapest : He.DefD := ⟨("cheapest", none), "cheapest", "cheapest", defArgs s_cheapest, defBody s_cheapest, defScope s_cheapest, [], []⟩
def d_law_taken : He.DefD := ⟨("_law_taken", none), "_law_taken", "_law_taken", defArgs s_law_taken, defBody s_law_taken, defScope s_law_taken, [], []⟩
def d_law_alike : He.DefD := ⟨("_law_alike", none), "_law_alike", "_law_alike", defArgs s_law_alike, defBody s_law_alike, defScope s_law_alike, [], []⟩
def d_law_web : He.DefD := ⟨("_law_web", none), "_law_web", "_law_web", defArgs s_law_web, defBody s_law_web, defScope s_law_web, [], []⟩
def d_law_heights : He.DefD := ⟨("_law_heights", none), "_law_heights", "_law_heights", defArgs s_law_heights, defBody s_law_heights, defScope s_law_heights, [], []⟩
def d_law_ties : He.DefD := ⟨("_law_ties", none), "_law_ties", "_law_ties", defArgs s_law_ties, defBody s_law_ties, defScope s_law_ties, [], []⟩
def d_law_stoops : He.DefD := ⟨("_law_stoops", none), "_law_stoops", "_law_stoops", defArgs s_law_stoops, defBody s_law_stoops, defScope s_law_stoops, [], []⟩
def d_law_after : He.DefD := ⟨("_law_after", none), "_law_after", "_law_after", defArgs s_law_after, defBody s_law_after, defScope s_law_after, [], []⟩
def d_law_steps : He.DefD := ⟨("_law_steps", none), "_law_steps", "_law_steps", defArgs s_law_steps, defBody s_law_steps, defScope s_law_steps, [], []⟩
def d_law : He.DefD := ⟨("law", none), "law", "law", defArgs s_law, defBody s_law, defScope s_law, [], []⟩
def fn : List He.DefD := [d_is_int, d_is_from, d_need_from, d_is_height, d_is_tie, d_need_web, d_need_heights, d_tied_to, d_hanging, d_everybody, d_lots_of, d_open_at, d_joins, d_join_of, d_fewest_of, d_next_of, d_after, d_all_of, d_need_start, d_steps_of, d_within, d_steps_table, d_farthest, d_need_weights, d_worth, d_greatest_worth, d_nearest, d_cheapest, d_law_taken, d_law_alike, d_law_web, d_law_heights, d_law_ties, d_law_stoops, d_law_after, d_law_steps, d_law]
def fa1 : List He.Fa := [.glo "is_int", .glo "is_from", .glo "need_from", .glo "is_height", .glo "is_tie", .glo "need_web", .glo "need_heights", .glo "tied_to", .glo "hanging", .glo "everybody", .glo "lots_of", .glo "open_at", .glo "joins", .glo "join_of", .glo "fewest_of", .glo "next_of", .glo "after", .glo "all_of", .glo "need_start", .glo "steps_of", .glo "within", .glo "steps_table", .glo "farthest", .glo "need_weights", .glo "worth", .glo "greatest_worth", .glo "nearest", .glo "cheapest", .glo "_law_taken", .glo "_law_alike"]
def fa2 : List He.Fa := [.glo "_law_web", .glo "_law_heights", .glo "_law_ties", .glo "_law_stoops", .glo "_law_after", .glo "_law_steps", .glo "law", .free "isinstance", .free "len", .free "all", .free "any", .free "sum", .free "sorted", .free "set", .free "tuple", .free "range", .free "max", .free "min", .free "dict", .free "zip", .free "abs", .free "int", .free "list", .free "enumerate", .free "bool", .free "str", .int "MOST_PERSONS" 8, .int "MOST_HEIGHT" 1000, .int "MOST_OUTCOMES" 5000]
def fa : List He.Fa := fa1 ++ fa2
def loose1 : List PySem.Str := ["StoopError", "BadWeb", "BadHeights", "BadNumber", "TooMany", "MOST_PERSONS", "MOST_HEIGHT", "MOST_OUTCOMES", "is_int", "is_from", "need_from", "is_height", "is_tie", "need_web", "need_heights", "tied_to", "hanging", "everybody", "lots_of", "open_at", "joins", "join_of", "fewest_of", "next_of", "after", "all_of", "need_start", "steps_of", "within", "steps_table"]
def loose2 : List PySem.Str := ["farthest", "need_weights", "worth", "greatest_worth", "nearest", "cheapest", "_law_taken", "_law_alike", "_law_web", "_law_heights", "_law_ties", "_law_stoops", "_law_after", "_law_steps"]
def loose : List PySem.Str := loose1 ++ loose2
def tf : List He.Defn := [("lots_of", none)]
abbrev ex0 : PySem.W.Frag → Bool := fun _ => true
abbrev R : PySem.W.OpenRow := PySem.W.OpenLaw.row PySem.Challenge.rw_stoopers_k23_whole_reaches
abbrev hk : PySem.W.Hook := He.hookX 4 fa fn [] tf ex0
def ob (s : PySem.W.SharedT) : He.AlX := He.obsX 4 fa fn [] tf ex0 (HandSHeadRun.getT s)
theorem ob_eq (s : PySem.W.SharedT) : ob s = hk.obs s.abs := He.obsX_eq (HandSHeadRun.getT_eq s)
theorem run (w : World) : HandSHeadRun.RunEq R (PySem.W.view R.prog [51]) hk ob 8000 loose w := by
  intro os
  kernel_rfl
theorem facts {P : Program} {w : World} {K : PySem.W.Frag} {h base : Heap} {mg : Str → Option Value} (X : K.In h) (G : h.Ns mainGlobals mg) (c : He.SaysX fa fn [] tf ex0 w h K) (hT : ∀ p ∈ [He.cT K ("lots_of", none)], TabB base mg p.1 p.2) :
    ∃ fd : FuncData, FnP K "law" s_law (He.fAd K ("law", none)) fd ∧ FnOk P w K mg base C8.CX0 8 (He.fAd K ("law", none)) fd ["_law_script"] (spLaw K [((He.cT K ("lots_of", none)).2, lamQ)]) := by
  have D := c.t.d
  obtain ⟨fd_is_int, F_is_int⟩ := D.def_ 0 (d := d_is_int) rfl
  obtain ⟨fd_is_from, F_is_from⟩ := D.def_ 1 (d := d_is_from) rfl
  obtain ⟨fd_need_from, F_need_from⟩ := D.def_ 2 (d := d_need_from) rfl
  obtain ⟨fd_is_height, F_is_height⟩ := D.def_ 3 (d := d_is_height) rfl
  obtain ⟨fd_is_tie, F_is_tie⟩ := D.def_ 4 (d := d_is_tie) rfl
  obtain ⟨fd_need_web, F_need_web⟩ := D.def_ 5 (d := d_need_web) rfl
  obtain ⟨fd_need_heights, F_need_heights⟩ := D.def_ 6 (d := d_need_heights) rfl
  obtain ⟨fd_tied_to, F_tied_to⟩ := D.def_ 7 (d := d_tied_to) rfl
  obtain ⟨fd_hanging, F_hanging⟩ := D.def_ 8 (d := d_hanging) rfl
  obtain ⟨fd_everybody, F_everybody⟩ := D.def_ 9 (d := d_everybody) rfl
  obtain ⟨fd_lots_of, F_lots_of⟩ := D.def_ 10 (d := d_lots_of) rfl
  obtain ⟨fd_open_at, F_open_at⟩ := D.def_ 11 (d := d_open_at) rfl
  obtain ⟨fd_joins, F_joins⟩ := D.def_ 12 (d := d_joins) rfl
  obtain ⟨fd_join_of, F_join_of⟩ := D.def_ 13 (d := d_join_of) rfl
  obtain ⟨fd_fewest_of, F_fewest_of⟩ := D.def_ 14 (d := d_fewest_of) rfl
  obtain ⟨fd_next_of, F_next_of⟩ := D.def_ 15 (d := d_next_of) rfl
  obtain ⟨fd_after, F_after⟩ := D.def_ 16 (d := d_after) rfl
  obtain ⟨fd_all_of, F_all_of⟩ := D.def_ 17 (d := d_all_of) rfl
  obtain ⟨fd_need_start, F_need_start⟩ := D.def_ 18 (d := d_need_start) rfl
  obtain ⟨fd_steps_of, F_steps_of⟩ := D.def_ 19 (d := d_steps_of) rfl
  obtain ⟨fd_within, F_within⟩ := D.def_ 20 (d := d_within) rfl
  obtain ⟨fd_steps_table, F_steps_table⟩ := D.def_ 21 (d := d_steps_table) rfl
  obtain ⟨fd_farthest, F_farthest⟩ := D.def_ 22 (d := d_farthest) rfl
  obtain ⟨fd_need_weights, F_need_weights⟩ := D.def_ 23 (d := d_need_weights) rfl
  obtain ⟨fd_worth, F_worth⟩ := D.def_ 24 (d := d_worth) rfl
  obtain ⟨fd_greatest_worth, F_greatest_worth⟩ := D.def_ 25 (d := d_greatest_worth) rfl
  obtain ⟨fd_nearest, F_nearest⟩ := D.def_ 26 (d := d_nearest) rfl
  obtain ⟨fd_cheapest, F_cheapest⟩ := D.def_ 27 (d := d_cheapest) rfl
  obtain ⟨fd_law_taken, F_law_taken⟩ := D.def_ 28 (d := d_law_taken) rfl
  obtain ⟨fd_law_alike, F_law_alike⟩ := D.def_ 29 (d := d_law_alike) rfl
  obtain ⟨fd_law_web, F_law_web⟩ := D.def_ 30 (d := d_law_web) rfl
  obtain ⟨fd_law_heights, F_law_heights⟩ := D.def_ 31 (d := d_law_heights) rfl
  obtain ⟨fd_law_ties, F_law_ties⟩ := D.def_ 32 (d := d_law_ties) rfl
  obtain ⟨fd_law_stoops, F_law_stoops⟩ := D.def_ 33 (d := d_law_stoops) rfl
  obtain ⟨fd_law_after, F_law_after⟩ := D.def_ 34 (d := d_law_after) rfl
  obtain ⟨fd_law_steps, F_law_steps⟩ := D.def_ 35 (d := d_law_steps) rfl
  obtain ⟨fd_law, F_law⟩ := D.def_ 36 (d := d_law) rfl
  have g_is_int := He.glo_ok X G (D.fact 0 (f := .glo "is_int") rfl)
  have g_is_from := He.glo_ok X G (D.fact 1 (f := .glo "is_from") rfl)
  have g_need_from := He.glo_ok X G (D.fact 2 (f := .glo "need_from") rfl)
  have g_is_height := He.glo_ok X G (D.fact 3 (f := .glo "is_height") rfl)
  have g_is_tie := He.glo_ok X G (D.fact 4 (f := .glo "is_tie") rfl)
  have g_need_web := He.glo_ok X G (D.fact 5 (f := .glo "need_web") rfl)
  have g_need_heights := He.glo_ok X G (D.fact 6 (f := .glo "need_heights") rfl)
  have g_tied_to := He.glo_ok X G (D.fact 7 (f := .glo "tied_to") rfl)
  have g_hanging := He.glo_ok X G (D.fact 8 (f := .glo "hanging") rfl)
  have g_everybody := He.glo_ok X G (D.fact 9 (f := .glo "everybody") rfl)
  have g_lots_of := He.glo_ok X G (D.fact 10 (f := .glo "lots_of") rfl)
  have g_open_at := He.glo_ok X G (D.fact 11 (f := .glo "open_at") rfl)
  have g_joins := He.glo_ok X G (D.fact 12 (f := .glo "joins") rfl)
  have g_join_of := He.glo_ok X G (D.fact 13 (f := .glo "join_of") rfl)
  have g_fewest_of := He.glo_ok X G (D.fact 14 (f := .glo "fewest_of") rfl)
  have g_next_of := He.glo_ok X G (D.fact 15 (f := .glo "next_of") rfl)
  have g_after := He.glo_ok X G (D.fact 16 (f := .glo "after") rfl)
  have g_all_of := He.glo_ok X G (D.fact 17 (f := .glo "all_of") rfl)
  have g_need_start := He.glo_ok X G (D.fact 18 (f := .glo "need_start") rfl)
  have g_steps_of := He.glo_ok X G (D.fact 19 (f := .glo "steps_of") rfl)
  have g_within := He.glo_ok X G (D.fact 20 (f := .glo "within") rfl)
  have g_steps_table := He.glo_ok X G (D.fact 21 (f := .glo "steps_table") rfl)
  have g_farthest := He.glo_ok X G (D.fact 22 (f := .glo "farthest") rfl)
  have g_need_weights := He.glo_ok X G (D.fact 23 (f := .glo "need_weights") rfl)
  have g_worth := He.glo_ok X G (D.fact 24 (f := .glo "worth") rfl)
  have g_greatest_worth := He.glo_ok X G (D.fact 25 (f := .glo "greatest_worth") rfl)
  have g_nearest := He.glo_ok X G (D.fact 26 (f := .glo "nearest") rfl)
  have g_cheapest := He.glo_ok X G (D.fact 27 (f := .glo "cheapest") rfl)
  have g_law_taken := He.glo_ok X G (D.fact 28 (f := .glo "_law_taken") rfl)
  have g_law_alike := He.glo_ok X G (D.fact 29 (f := .glo "_law_alike") rfl)
  have g_law_web := He.glo_ok X G (D.fact 30 (f := .glo "_law_web") rfl)
  have g_law_heights := He.glo_ok X G (D.fact 31 (f := .glo "_law_heights") rfl)
  have g_law_ties := He.glo_ok X G (D.fact 32 (f := .glo "_law_ties") rfl)
  have g_law_stoops := He.glo_ok X G (D.fact 33 (f := .glo "_law_stoops") rfl)
  have g_law_after := He.glo_ok X G (D.fact 34 (f := .glo "_law_after") rfl)
  have g_law_steps := He.glo_ok X G (D.fact 35 (f := .glo "_law_steps") rfl)
  have g_law := He.glo_ok X G (D.fact 36 (f := .glo "law") rfl)
  have i_MOST_PERSONS : ∃ u, mg "MOST_PERSONS" = some u ∧ L2.RelV (V.int 8) u := by
    obtain ⟨t, e⟩ := He.int_ok X G (D.fact 56 (f := .int "MOST_PERSONS" 8) rfl)
    exact ⟨_, e, t, rfl⟩
  have i_MOST_HEIGHT : ∃ u, mg "MOST_HEIGHT" = some u ∧ L2.RelV (V.int 1000) u := by
    obtain ⟨t, e⟩ := He.int_ok X G (D.fact 57 (f := .int "MOST_HEIGHT" 1000) rfl)
    exact ⟨_, e, t, rfl⟩
  have i_MOST_OUTCOMES : ∃ u, mg "MOST_OUTCOMES" = some u ∧ L2.RelV (V.int 5000) u := by
    obtain ⟨t, e⟩ := He.int_ok X G (D.fact 58 (f := .int "MOST_OUTCOMES" 5000) rfl)
    exact ⟨_, e, t, rfl⟩
  have N : Nm mg := ⟨He.free_ok X G (D.fact 37 (f := .free "isinstance") rfl), He.free_ok X G (D.fact 38 (f := .free "len") rfl), He.free_ok X G (D.fact 39 (f := .free "all") rfl), He.free_ok X G (D.fact 40 (f := .free "any") rfl), He.free_ok X G (D.fact 41 (f := .free "sum") rfl), He.free_ok X G (D.fact 42 (f := .free "sorted") rfl), He.free_ok X G (D.fact 43 (f := .free "set") rfl), He.free_ok X G (D.fact 44 (f := .free "tuple") rfl), He.free_ok X G (D.fact 45 (f := .free "range") rfl), He.free_ok X G (D.fact 46 (f := .free "max") rfl), He.free_ok X G (D.fact 47 (f := .free "min") rfl), He.free_ok X G (D.fact 48 (f := .free "dict") rfl), He.free_ok X G (D.fact 49 (f := .free "zip") rfl), He.free_ok X G (D.fact 50 (f := .free "abs") rfl), He.free_ok X G (D.fact 51 (f := .free "int") rfl), He.free_ok X G (D.fact 52 (f := .free "list") rfl), He.free_ok X G (D.fact 53 (f := .free "enumerate") rfl), He.free_ok X G (D.fact 54 (f := .free "bool") rfl), He.free_ok X G (D.fact 55 (f := .free "str") rfl)⟩
  have TB := hT _ (List.mem_singleton.mpr rfl)
  have hc : fd_lots_of.code = .ref (He.codeOf K ("lots_of", none)) := by
    obtain ⟨oc, od, dV, kV, doc, pm, an, cdv, ct, osl, e, lk, hcd, _, _⟩ := F_lots_of.ex
    obtain ⟨c0, e0⟩ := He.codeIn_ref hcd
    have e1 : fd_lots_of.code = .ref c0 := by rw [e]; exact e0
    have e2 : He.codeOf K ("lots_of", none) = c0 := He.codeOf_eq (p := ("lots_of", none)) lk e1
    rw [e2]
    exact e1
  have C_is_int : Cal P w K mg base 1 "is_int" spIsInt [] := ok_is_int F_is_int N g_is_int
  have C_is_from : Cal P w K mg base 2 "is_from" spIsFrom [] := ok_is_from F_is_from N g_is_from C_is_int
  have C_need_from : Cal P w K mg base 3 "need_from" spNeedFrom [] := ok_need_from F_need_from g_need_from C_is_from
  have C_is_height : Cal P w K mg base 3 "is_height" spIsHeight [] := ok_is_height F_is_height g_is_height i_MOST_HEIGHT C_is_from
  have C_is_tie : Cal P w K mg base 3 "is_tie" (spIsTie K) [] := ok_is_tie F_is_tie N g_is_tie C_is_from
  have C_need_web : Cal P w K mg base 4 "need_web" (spNeedWeb K [((He.cT K ("lots_of", none)).2, lamQ)]) [] := ok_need_web F_need_web N g_need_web i_MOST_PERSONS C_is_from C_is_tie
  have C_need_heights : Cal P w K mg base 4 "need_heights" (spNeedHs K [((He.cT K ("lots_of", none)).2, lamQ)]) [] := ok_need_heights F_need_heights N g_need_heights C_is_height
  have C_need_start := ok_need_start F_need_start g_need_start C_need_web C_need_heights
  have C_need_weights : Cal P w K mg base 3 "need_weights" (spNeedWs K [((He.cT K ("lots_of", none)).2, lamQ)]) [] := ok_need_weights F_need_weights N g_need_weights C_is_from
  have C_tied_to : Cal P w K mg base 1 "tied_to" (spTied K [((He.cT K ("lots_of", none)).2, lamQ)]) [] := ok_tied_to F_tied_to N g_tied_to
  have C_hanging := ok_hanging F_hanging N g_hanging C_tied_to
  have C_everybody : Cal P w K mg base 1 "everybody" (spEverybody K [((He.cT K ("lots_of", none)).2, lamQ)]) [] := ok_everybody F_everybody N g_everybody
  have C_lots_of : Cal P w K mg base 3 "lots_of" (spLots K [((He.cT K ("lots_of", none)).2, lamQ)]) [] := ok_lots_of F_lots_of N g_lots_of hc TB rfl
  have C_open_at : Cal P w K mg base 1 "open_at" (spOpenAt K [((He.cT K ("lots_of", none)).2, lamQ)]) [] := ok_open_at F_open_at N g_open_at
  have C_joins := ok_joins F_joins N g_joins C_hanging
  have C_join_of := ok_join_of F_join_of N g_join_of C_open_at C_lots_of C_joins
  have C_fewest_of := ok_fewest_of F_fewest_of N g_fewest_of C_join_of
  have C_next_of := ok_next_of F_next_of N g_next_of C_everybody C_tied_to
  have C_after : Cal P w K mg base 1 "after" (spAfter K [((He.cT K ("lots_of", none)).2, lamQ)]) [] := ok_after F_after g_after
  have C_all_of := ok_all_of F_all_of N g_all_of i_MOST_OUTCOMES C_next_of C_after
  have C_steps_of := ok_steps_of F_steps_of N g_steps_of C_all_of C_fewest_of
  have C_within := ok_within F_within g_within C_need_start C_need_from C_steps_of
  have C_table := ok_table F_steps_table N g_steps_table C_need_start C_steps_of
  have C_farthest := ok_farthest F_farthest N g_farthest C_need_start C_steps_of
  have C_worth : Cal P w K mg base 1 "worth" (spWorth K [((He.cT K ("lots_of", none)).2, lamQ)]) [] := ok_worth F_worth N g_worth
  have C_greatest := ok_greatest F_greatest_worth N g_greatest_worth C_need_start C_need_weights C_worth C_all_of
  have C_nearest := ok_nearest F_nearest N g_nearest C_need_start C_need_heights C_all_of
  have C_cheapest := ok_cheapest F_cheapest N g_cheapest C_need_start C_need_weights C_need_from C_worth C_steps_of
  have C_taken : Cal P w K mg base 1 "_law_taken" (spTaken K [((He.cT K ("lots_of", none)).2, lamQ)]) [] := ok_taken F_law_taken N g_law_taken
  have C_alike : Cal P w K mg base 4 "_law_alike" (spAlike K [((He.cT K ("lots_of", none)).2, lamQ)] 3) [] := ok_alike F_law_alike N g_law_alike 3
  have C_web := ok_law_web F_law_web N g_law_web C_taken
  have C_hts := ok_heights F_law_heights N g_law_heights C_taken
  have C_ties : Cal P w K mg base 1 "_law_ties" (spTied K [((He.cT K ("lots_of", none)).2, lamQ)]) [] := ok_law_ties F_law_ties N g_law_ties
  have C_stoops := ok_law_stoops F_law_stoops N g_law_stoops C_ties
  have C_lafter : Cal P w K mg base 1 "_law_after" (spLawAfter K [((He.cT K ("lots_of", none)).2, lamQ)]) [] := ok_law_after F_law_after g_law_after
  have C_steps := ok_law_steps F_law_steps N g_law_steps C_stoops C_lafter
  have C : AllC P w K mg base [((He.cT K ("lots_of", none)).2, lamQ)] := ⟨C_taken, C_web, C_hts, C_steps, C_alike, C_within, C_table, C_farthest, C_greatest, C_cheapest, C_nearest⟩
  exact ⟨fd_law, F_law, ok_law F_law N C⟩
abbrev qV : Program := PySem.W.view R.prog [51]
abbrev dL : DefRec := HandSHeadRun.topDef R.prog 51
theorem h_open : opening R.prog = plainProg R.prog.main.scope.names := by kernel_rfl
theorem h_fence (s : Shared) : fenceModules? R.prog s = some s := by kernel_rfl
theorem h_def : PySem.W.defOf qV R.name = some (dL, []) := by kernel_rfl
theorem h_the : R.prog.theDef R.name = some (dL.params, dL.body, dL.scope) := by kernel_rfl
theorem h_kw : PySem.W.kwWritten? dL.params.kwonlyargs dL.params.kw_defaults = some [] := by kernel_rfl
theorem h_wr : (!R.writes || R.records.isEmpty) = true := by rfl
theorem h_said : R.wellSaid = true := by decide +kernel
theorem h_ok : (PySem.W.chainsOk qV && PySem.W.opensWell R.prog && (PySem.W.frees R.toRowW && R.within.isEmpty)) = true := by decide +kernel
theorem h_bare : R.prog.bare := ⟨rfl, rfl, rfl, rfl, rfl, by decide +kernel⟩
theorem h_prom : R.toRowW.promised := by w_witness2
theorem h_name : dL.name = ("law" : PySem.Str) := by kernel_rfl
theorem h_dflt : dL.params.defaults = [] := by kernel_rfl
theorem h_call : PySem.W.WalkO qV loose (PySem.W.XL qV []) hk.says R.toRowW dL [] fun f vs => PySem.call f vs := by
  refine LamX.walk_ofTsE (l := PySem.Challenge.rw_stoopers_k23_whole_reaches) (n := 63) (k := 8) (x := "_law_script") (CX := fun _ => L2.CX0) rfl (by decide) h_dflt ⟨rfl, by decide, by decide⟩ ?F (fun _ _ _ _ _ z => z)
  intro w mg fa h Y G hmg0
  obtain ⟨K, KX, c⟩ := Y
  have hmg : mg ("law" : PySem.Str) = some (.ref fa) := by
    rw [← h_name]
    exact hmg0
  have e := hmg.symm.trans (He.glo_ok KX G (c.t.d.fact 36 (f := .glo "law") rfl))
  cases e
  obtain ⟨fd, F⟩ := c.t.d.def_ 36 (d := So.d_law) rfl
  refine ⟨K, KX, fd, [He.cT K ("lots_of", none)], So.spLaw K [((He.cT K ("lots_of", none)).2, So.lamQ)], fun p hp => ?_, fun p hp => ?_, fun p hp => ?_, ?_, fun H a ns _ _ hH hS => ?_, fun base hK hG hT => ?_⟩
  · rw [List.mem_singleton.mp hp]
    exact c.empty _ (List.mem_singleton.mpr rfl)
  · rw [List.mem_singleton.mp hp]
    exact c.out _ (List.mem_singleton.mpr rfl)
  · rw [List.mem_singleton.mp hp]
    exact PySem.W.codeHd_of_K KX (c.hd _ (List.mem_singleton.mpr rfl))
  · have b := L2.FunD.bindsA (ps := ["_law_script"]) F fun _ _ _ _ _ _ us hl => match us, hl with | [_], _ => rfl
    exact fun s v => b s [v] rfl
  · refine ⟨a, ns, rfl, hS, fun p hp => ?_, fun _ => rfl⟩
    rw [List.mem_singleton.mp hp]
    exact LamX.TabS.nil (hH _ (List.mem_singleton.mpr rfl))
  · obtain ⟨fd', F', ok⟩ := So.facts (P := (PySem.Challenge.rw_stoopers_k23_whole_reaches).prog) (w := w) (base := base) KX G c hT
    obtain ⟨oc, od, dV, kV, doc, pm, an, cdv, ct, osl, e1, lk, _⟩ := F.ex
    obtain ⟨oc', od', dV', kV', doc', pm', an', cdv', ct', osl', e1', lk', _⟩ := F'.ex
    have hfd : fd' = fd := by
      have := lk'.symm.trans lk
      injection this with this
      injection this with _ _ this _
      injection this
    rw [← hfd]
    exact ok
end So
open PySem PySem.W PySem.Calls PyProof.Rows
theorem PySem.Challenge.cw_stoopers_k23_whole_reaches_holds : PySem.Challenge.rw_stoopers_k23_whole_reaches.Holds := by
  w_on; o_law
  exact HandSHeadRun.head_any (r := OpenLaw.row PySem.Challenge.rw_stoopers_k23_whole_reaches) (q := So.qV) (H := So.hk) (ob := So.ob) (M := 8000) (loose := So.loose) (d := So.dL) (kwd := []) So.ob_eq So.h_open So.h_fence So.run So.h_def So.h_the So.h_kw So.h_wr So.h_said So.h_ok So.h_bare So.h_prom So.h_call
