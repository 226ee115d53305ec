import PyProof.Rows.All
import Wide.All
import OpenK.AllK
import Wide.FinOn
import HandS.ForMost
import HandS.Exc
import HandS.TryOnly
import HandS.TryMany
import HandS.ExcOwn
import HandS.WordsExc
import HandS.Evl
import HandS.Codes
import HandS.IsInst
import HandS.DictComp
import HandS.FStr
import HandS.Style
import HandS.Defaults
import HandS.ExcField
import HandS.ExcInit
import HandS.HeadEnd
import HandS.Walk
import KE.DataMinMax
import KE.SortData
import KE.KExcInit
import KE.GoesMore
import HandS.HeadHook1
import HandS.HeadHook2
import PySem.Challenge.RW_everygrain_k25_whole_old_windows_stay
import KE.KStateDown
import HandS.Head0
import HandS.Head1
import HandS.Head2
import HandS.Ends
section
set_option Elab.async false
set_option linter.all false
set_option maxRecDepth 100000
set_option maxHeartbeats 4000000
/-! rules of our own over the hand layer -/
namespace Eg
open PySem PySem.Spec PyProof.Rows L2 Evl

/-! ### a value that stands for data; N: where its lists may lie -/
mutual
def DA (N : Addr → Prop) (H : Hp) : PyData → V → Prop
  | .none, v => v = .non
  | .bool b, v => v = .bl b
  | .int i, v => v = .int i
  | .str x, v => v = .str x
  | .list ds, v => ∃ a xs, v = .ref a ∧ N a ∧ H a = some (.lst xs) ∧ DAs N H ds xs
  | .tuple ds, v => ∃ a xs, v = .ref a ∧ H a = some (.tup xs) ∧ DAs N H ds xs
  | .dict _, _ => False
def DAs (N : Addr → Prop) (H : Hp) : List PyData → List V → Prop
  | [], xs => xs = []
  | d :: ds, xs => ∃ v vs, xs = v :: vs ∧ DA N H d v ∧ DAs N H ds vs
end
section
variable {N N' : Addr → Prop} {H H' : Hp} {K : PySem.W.Frag}
mutual
theorem DA.dp : ∀ (d : PyData) (v : V), DA N H d v → Dp K H v d
  | .none, v, h => by
    simp only [DA] at h
    subst h
    exact .non
  | .bool b, v, h => by
    simp only [DA] at h
    subst h
    exact .bl b
  | .int i, v, h => by
    simp only [DA] at h
    subst h
    exact .int i
  | .str x, v, h => by
    simp only [DA] at h
    subst h
    exact .str x
  | .list ds, v, h => by
    simp only [DA] at h
    obtain ⟨a, xs, e, _, ha, hs⟩ := h
    subst e
    exact .lst (.inl (.inl ha)) (DAs.dp ds xs hs)
  | .tuple ds, v, h => by
    simp only [DA] at h
    obtain ⟨a, xs, e, ha, hs⟩ := h
    subst e
    exact .tup (.inl (.inl ha)) (DAs.dp ds xs hs)
  | .dict _, v, h => by
    simp only [DA] at h
theorem DAs.dp : ∀ (ds : List PyData) (vs : List V), DAs N H ds vs → DpAll K H vs ds
  | [], vs, h => by
    simp only [DAs] at h
    subst h
    exact .nil
  | d :: ds, vs, h => by
    simp only [DAs] at h
    obtain ⟨v, ws, e, hd, hs⟩ := h
    subst e
    exact .cons (DA.dp d v hd) (DAs.dp ds ws hs)
end
mutual
/-- what stands goes on standing -/
theorem DA.imp (hl : ∀ a xs, N a → H a = some (.lst xs) → N' a ∧ H' a = some (.lst xs)) (ht : ∀ a xs, H a = some (.tup xs) → H' a = some (.tup xs)) : ∀ (d : PyData) (v : V), DA N H d v → DA N' H' d v
  | .none, v, h => by
    simp only [DA] at h ⊢
    exact h
  | .bool b, v, h => by
    simp only [DA] at h ⊢
    exact h
  | .int i, v, h => by
    simp only [DA] at h ⊢
    exact h
  | .str x, v, h => by
    simp only [DA] at h ⊢
    exact h
  | .list ds, v, h => by
    simp only [DA] at h ⊢
    obtain ⟨a, xs, e, n, ha, hs⟩ := h
    exact ⟨a, xs, e, (hl a xs n ha).1, (hl a xs n ha).2, DAs.imp hl ht ds xs hs⟩
  | .tuple ds, v, h => by
    simp only [DA] at h ⊢
    obtain ⟨a, xs, e, ha, hs⟩ := h
    exact ⟨a, xs, e, ht a xs ha, DAs.imp hl ht ds xs hs⟩
  | .dict _, v, h => by
    simp only [DA] at h
theorem DAs.imp (hl : ∀ a xs, N a → H a = some (.lst xs) → N' a ∧ H' a = some (.lst xs)) (ht : ∀ a xs, H a = some (.tup xs) → H' a = some (.tup xs)) : ∀ (ds : List PyData) (vs : List V), DAs N H ds vs → DAs N' H' ds vs
  | [], vs, h => by
    simp only [DAs] at h ⊢
    exact h
  | d :: ds, vs, h => by
    simp only [DAs] at h ⊢
    obtain ⟨v, ws, e, hd, hs⟩ := h
    exact ⟨v, ws, e, DA.imp hl ht d v hd, DAs.imp hl ht ds ws hs⟩
end
theorem DA.ex {d : PyData} {v : V} (e : Ex H H') (h : DA N H d v) : DA N H' d v := DA.imp (fun a xs n z => ⟨n, e a _ z⟩) (fun a xs z => e a _ z) d v h
theorem DAs.ex {d : List PyData} {v : List V} (e : Ex H H') (h : DAs N H d v) : DAs N H' d v := DAs.imp (fun a xs n z => ⟨n, e a _ z⟩) (fun a xs z => e a _ z) d v h
theorem DA.to {d : PyData} {v : V} (e : ∀ a, N a → N' a) (h : DA N H d v) : DA N' H d v := DA.imp (fun a xs n z => ⟨e a n, z⟩) (fun a xs z => z) d v h
theorem DAs.to {d : List PyData} {v : List V} (e : ∀ a, N a → N' a) (h : DAs N H d v) : DAs N' H d v := DAs.imp (fun a xs n z => ⟨e a n, z⟩) (fun a xs z => z) d v h
mutual
theorem DA.noDict : ∀ (d : PyData) (v : V), DA N H d v → d.hasDict = false
  | .none, _, _ => by simp only [PyData.hasDict]
  | .bool _, _, _ => by simp only [PyData.hasDict]
  | .int _, _, _ => by simp only [PyData.hasDict]
  | .str _, _, _ => by simp only [PyData.hasDict]
  | .list ds, v, h => by
    simp only [DA] at h
    obtain ⟨a, xs, _, _, _, hs⟩ := h
    simp only [PyData.hasDict]
    exact DAs.noDict ds xs hs
  | .tuple ds, v, h => by
    simp only [DA] at h
    obtain ⟨a, xs, _, _, hs⟩ := h
    simp only [PyData.hasDict]
    exact DAs.noDict ds xs hs
  | .dict _, v, h => by
    simp only [DA] at h
theorem DAs.noDict : ∀ (ds : List PyData) (vs : List V), DAs N H ds vs → PyData.hasDictAll ds = false
  | [], _, _ => by simp only [PyData.hasDictAll]
  | d :: ds, vs, h => by
    simp only [DAs] at h
    obtain ⟨v, ws, _, hd, hs⟩ := h
    simp only [PyData.hasDictAll, DA.noDict d v hd, DAs.noDict ds ws hs, Bool.or_self]
end
theorem DAs.length : ∀ {ds : List PyData} {vs : List V}, DAs N H ds vs → vs.length = ds.length
  | [], vs, h => by
    simp only [DAs] at h
    rw [h]
    rfl
  | d :: ds, vs, h => by
    simp only [DAs] at h
    obtain ⟨v, ws, e, _, hs⟩ := h
    rw [e, List.length_cons, List.length_cons, DAs.length hs]
theorem DAs.get : ∀ {ds : List PyData} {vs : List V} {i : Nat} {d : PyData}, DAs N H ds vs → ds[i]? = some d → ∃ v, vs[i]? = some v ∧ DA N H d v
  | [], vs, i, d, h, e => by simp at e
  | d' :: ds, vs, 0, d, h, e => by
    simp only [DAs] at h
    obtain ⟨v, ws, e2, hd, _⟩ := h
    have e3 : d' = d := Option.some.inj e
    subst e3
    exact ⟨v, by rw [e2]; rfl, hd⟩
  | d' :: ds, vs, i + 1, d, h, e => by
    simp only [DAs] at h
    obtain ⟨v, ws, e2, _, hs⟩ := h
    obtain ⟨u, h1, h2⟩ := DAs.get (i := i) (d := d) hs (by simpa using e)
    exact ⟨u, by rw [e2]; simpa using h1, h2⟩
theorem DAs.append : ∀ {ds es : List PyData} {vs ws : List V}, DAs N H ds vs → DAs N H es ws → DAs N H (ds ++ es) (vs ++ ws)
  | [], es, vs, ws, h, g => by
    simp only [DAs] at h
    rw [h]
    exact g
  | d :: ds, es, vs, ws, h, g => by
    simp only [DAs] at h
    obtain ⟨v, us, e, hd, hs⟩ := h
    rw [e, List.cons_append, List.cons_append]
    simp only [DAs]
    exact ⟨v, us ++ ws, rfl, hd, DAs.append hs g⟩
theorem DAs.take : ∀ (n : Nat) {ds : List PyData} {vs : List V}, DAs N H ds vs → DAs N H (ds.take n) (vs.take n)
  | 0, ds, vs, _ => by
    rw [List.take_zero, List.take_zero]
    simp only [DAs]
  | n + 1, [], vs, h => by
    simp only [DAs] at h
    rw [h]
    simp only [List.take_nil, DAs]
  | n + 1, d :: ds, vs, h => by
    simp only [DAs] at h
    obtain ⟨v, us, e, hd, hs⟩ := h
    rw [e, List.take_succ_cons, List.take_succ_cons]
    simp only [DAs]
    exact ⟨v, us.take n, rfl, hd, DAs.take n hs⟩
theorem DAs.nil : DAs N H [] [] := by simp only [DAs]
theorem DAs.cons {d : PyData} {ds : List PyData} {v : V} {vs : List V} (h : DA N H d v) (hs : DAs N H ds vs) : DAs N H (d :: ds) (v :: vs) := by
  simp only [DAs]
  exact ⟨v, vs, rfl, h, hs⟩
theorem DAs.snoc {d : PyData} {ds : List PyData} {v : V} {vs : List V} (hs : DAs N H ds vs) (h : DA N H d v) : DAs N H (ds ++ [d]) (vs ++ [v]) := hs.append (DAs.cons h DAs.nil)
theorem da_int {i : Int} : DA N H (.int i) (.int i) := by simp only [DA]
theorem da_non : DA N H .none .non := by simp only [DA]
theorem da_str {x : Str} : DA N H (.str x) (.str x) := by simp only [DA]
theorem da_bool {b : Bool} : DA N H (.bool b) (.bl b) := by simp only [DA]
theorem da_tup {a : Addr} {xs : List V} {ds : List PyData} (h : H a = some (.tup xs)) (hs : DAs N H ds xs) : DA N H (.tuple ds) (.ref a) := by
  simp only [DA]
  exact ⟨a, xs, rfl, h, hs⟩
theorem da_lst {a : Addr} {xs : List V} {ds : List PyData} (n : N a) (h : H a = some (.lst xs)) (hs : DAs N H ds xs) : DA N H (.list ds) (.ref a) := by
  simp only [DA]
  exact ⟨a, xs, rfl, n, h, hs⟩
end

/-! ### repr of data -/
def rRepr : List V → Hp → VK → Prop := fun xs H Q => ∃ (a : Addr) (d : PyData), xs = [.ref a] ∧ DA (fun _ => True) H d (.ref a) ∧ d.showable = true ∧ d.depth ≤ 60 ∧ d.shown.length ≤ sizeLine ∧ Q (.str d.shown) H
theorem call_repr {X : Cx} (hg : X.A.guards = some []) (hu : X.A.units + 64 < cLine) : CallR X (.builtin "repr") rRepr := by
  intro pins s σ H xs us Q I r h
  obtain ⟨a, d, rfl, hd, hs, hdp, hz, q⟩ := h
  obtain ⟨u, rfl, ru⟩ := vals1 r
  obtain ⟨as, rd⟩ := Dp.reads I d (.ref a) u hd.dp ru
  have eu : u = Value.ref a := ru
  subst eu
  have nd := DA.noDict d _ hd
  exact repr_of_reads' rd hs (fun z => by rw [nd] at z; cases z) hg (by omega) (fun _ _ e => e) (fun h' u tk k => ⟨.str d.shown, H, I.kept k, ⟨u, rfl⟩, q⟩) hz

/-! ### min, max, sorted of data -/
section
variable {X : Cx} {pins : List (Addr × Obj)} {σ : L2.St} {H : Hp} {s : Shared}
theorem reads_each {β : Type} {enc : β → PyData} (I : Inv X pins σ H s) : ∀ (bs : List β) (xs : List V) (us : List Value), DAs (fun _ => True) H (bs.map enc) xs → Vals xs us →
    PySem.W.EachIs (fun v b => ∃ as, Reads s.heap v (enc b) as) us bs ∧ PySem.W.EachIs (fun v b => ∃ x : V, RelV x v ∧ DA (fun _ => True) H (enc b) x) us bs
  | [], xs, us, h, r => by
    simp only [List.map_nil, DAs] at h
    subst h
    cases r
    exact ⟨.nil, .nil⟩
  | b :: bs, xs, us, h, r => by
    simp only [List.map_cons, DAs] at h
    obtain ⟨v, vs, e, hd, hs⟩ := h
    subst e
    cases r with
    | cons r1 r2 =>
      obtain ⟨e1, e2⟩ := reads_each I bs vs _ hs r2
      exact ⟨.cons (Dp.reads I (enc b) v _ hd.dp r1) e1, .cons ⟨v, r1, hd⟩ e2⟩
theorem each_vals {β : Type} {enc : β → PyData} : ∀ {us : List Value} {bs : List β}, PySem.W.EachIs (fun v b => ∃ x : V, RelV x v ∧ DA (fun _ => True) H (enc b) x) us bs → ∃ xs, Vals xs us ∧ DAs (fun _ => True) H (bs.map enc) xs
  | _, _, .nil => ⟨[], .nil, DAs.nil⟩
  | _, _, .cons h t => by
    obtain ⟨x, r, d⟩ := h
    obtain ⟨xs, rs, ds⟩ := each_vals t
    exact ⟨x :: xs, .cons r rs, by rw [List.map_cons]; exact DAs.cons d ds⟩
/-- sorted(xs), xs a list of data: bs, each as enc tells -/
def rSortD (K : PySem.W.Frag) {β : Type} (enc : β → PyData) : List V → Hp → VK → Prop := fun vs H Q => ∃ (a : Addr) (xs : List V) (bs : List β), vs = [.ref a] ∧ SqL K H a xs ∧ DAs (fun _ => True) H (bs.map enc) xs ∧ PySem.W.AllAlike (bs.map enc) ∧ PySem.W.Sortable (bs.map enc) ∧
  (∀ b ∈ bs, (enc b).depth ≤ 60) ∧ ∀ (ys : List V) (p : Addr), H p = none → DAs (fun _ => True) H ((bs.mergeSort (PySem.W.dataLe false enc)).map enc) ys → Q (.ref p) (upd H p (.lst ys))
theorem cr_sortD {β : Type} (enc : β → PyData) (hu : X.A.units + 64 < cLine) : CallR X (.builtin "sorted") (rSortD X.K enc) := by
  intro pins s σ H vs us Q I r h
  obtain ⟨a, xs, bs, rfl, hs, hd, ha, hk, hdp, q⟩ := h
  obtain ⟨its, rv, hl, hz⟩ := I.list hs
  obtain ⟨u, rfl, ru⟩ := vals1 r
  have eu : u = Value.ref a := ru
  subst eu
  obtain ⟨e1, e2⟩ := reads_each I bs xs its hd rv
  have hlen : bs.length ≤ sizeLine := by
    have z := hd.length
    rw [List.length_map] at z
    rw [← z]
    exact hz
  refine PySem.W.sorted_data (vs := its) (bs := bs) (enc := enc) hl.isList e2 e1 ha hk hlen (fun b hb => by have := hdp b hb; omega) fun out ho eo => ?_
  obtain ⟨ys, ry, dy⟩ := each_vals eo
  obtain ⟨n, hn⟩ := sortedAll_at s.heap its out.toArray
  have hnew : s.heap.objs.size ≤ s.heap.objs.size + 1 := Nat.le_succ _
  refine ⟨.ref (s.heap.objs.size + 1), upd H (s.heap.objs.size + 1) (.lst ys), I.laid (t' := s.toks) (fun b o e => sortedAll_old e) hnew ⟨?_, out, n, ry, hn⟩, rfl, q ys _ (I.hok.fresh hnew) dy⟩
  rw [ry.length, ho]
  exact hlen
/-- min(xs), max(xs) of data -/
def rMinD (K : PySem.W.Frag) (f : PyData → List PyData → PyData) : List V → Hp → VK → Prop := fun vs H Q => ∃ (a : Addr) (xs : List V) (d : PyData) (ds : List PyData), vs = [.ref a] ∧ SqL K H a xs ∧ DAs (fun _ => True) H (d :: ds) xs ∧ PySem.W.AlikeAll (d :: ds) ∧
  PyData.depthAll (d :: ds) ≤ 60 ∧ ∀ (i : Nat) (x : V), xs[i]? = some x → (d :: ds)[i]? = some (f d ds) → Q x H
end
end Eg
end

section
set_option Elab.async false
set_option linter.all false
set_option maxRecDepth 100000
set_option maxHeartbeats 4000000
namespace Eg
open PySem PySem.Spec PyProof.Rows L2 Evl
section
variable {X : Cx} {pins : List (Addr × Obj)} {σ : L2.St} {H : Hp} {s : Shared}
theorem best_at {xs : List V} {its : List Value} {d : PyData} {ds : List PyData} {as bs : List Addr} {h' : Heap} {m : PyData} {i : Nat} {v : Value} (rv : Vals xs its) (hr : ReadsAll s.heap its.toArray.toList (d :: ds) as)
    (hv : its.toArray[i]? = some v) (r : Reads h' v m bs) (k : ∀ b o, s.heap.get? b = some o → h'.get? b = some o) : ∃ x, xs[i]? = some x ∧ RelV x v ∧ (d :: ds)[i]? = some m := by
  have hv2 : its[i]? = some v := by simpa using hv
  have hi : i < its.length := (List.getElem?_eq_some_iff.mp hv2).1
  have hi2 : i < xs.length := by rw [rv.length]; exact hi
  obtain ⟨u, e1, e2⟩ := rv.get (i := i) (x := xs[i]) (List.getElem?_eq_getElem hi2)
  rw [hv2] at e1
  have ev := Option.some.inj e1
  rw [← ev] at e2
  obtain ⟨cs, r2, hlt, _, _⟩ := PySem.W.readsAll_at hr i v (by simpa using hv2)
  obtain ⟨e3, _⟩ := PyProof.Rows.reads_det (fun _ _ e _ => e) (PyProof.Rows.Reads.keeps k r2) r
  refine ⟨xs[i], List.getElem?_eq_getElem hi2, e2, ?_⟩
  rw [e3, List.getD_eq_getElem?_getD, List.getElem?_eq_getElem hlt]
  rfl
theorem cr_minD (hc : X.calm = true) (hu : X.A.units + 64 < cLine) : CallR X (.builtin "min") (rMinD X.K PySem.W.minD) := by
  intro pins s σ H vs us Q I r h
  obtain ⟨a, xs, d, ds, rfl, hs, hd, ha, hdp, q⟩ := h
  obtain ⟨its, rv, hl, hz⟩ := I.list hs
  obtain ⟨u, rfl, ru⟩ := vals1 r
  have eu : u = Value.ref a := ru
  subst eu
  obtain ⟨as, hr⟩ := Dp.readsAll I (d :: ds) xs its hd.dp rv
  have hr2 : ReadsAll s.heap its.toArray.toList (d :: ds) as := hr
  refine PySem.W.min_list_data (I.ok.hd hc) hl.isList hr2 ha (by omega) fun i v h' tk bs hv rd k => ?_
  obtain ⟨x, e1, e2, e3⟩ := best_at rv hr2 hv rd k
  exact ⟨x, H, I.kept k, e2, q i x e1 e3⟩
theorem cr_maxD (hc : X.calm = true) (hu : X.A.units + 64 < cLine) : CallR X (.builtin "max") (rMinD X.K PySem.W.maxD) := by
  intro pins s σ H vs us Q I r h
  obtain ⟨a, xs, d, ds, rfl, hs, hd, ha, hdp, q⟩ := h
  obtain ⟨its, rv, hl, hz⟩ := I.list hs
  obtain ⟨u, rfl, ru⟩ := vals1 r
  have eu : u = Value.ref a := ru
  subst eu
  obtain ⟨as, hr⟩ := Dp.readsAll I (d :: ds) xs its hd.dp rv
  have hr2 : ReadsAll s.heap its.toArray.toList (d :: ds) as := hr
  refine PySem.W.max_list_data (I.ok.hd hc) hl.isList hr2 ha (by omega) fun i v h' tk bs hv rd k => ?_
  obtain ⟨x, e1, e2, e3⟩ := best_at rv hr2 hv rd k
  exact ⟨x, H, I.kept k, e2, q i x e1 e3⟩
end

/-! ### o.m(k = v, ..): by names alone -/
section
variable {X : Cx} {CX : CXT} {k : Nat} {C f : Addr} {fd : FuncData} {ps ks : List Str} {sp : Sp} {E : XK} {m : Str} {pos apos : Pos} {o : Expr} {kws : List Keyword} {ta : TE} {tk : TA} {g : List Value → List Value → List Value} {gV : List V → List V → List V}
def tMethKw (C : Addr) (m : Str) (sp : Sp) (gV : List V → List V → List V) (E : XK) (ta : TE) (tk : TA) : TE := fun σ H Q => ta σ H fun x H1 => ∃ (a dx : Addr) (fs : List (Str × V)), x = .ref a ∧ H1 a = some (.ins C dx fs) ∧ fs.lookup m = none ∧
  tk σ H1 fun zs H2 => sp (gV [x] zs) H2 Q E
theorem pe_methKw {pl : Sem Bool} (he : PE X o ta) (c : Cls X.K C) (hm : Meth X.K C m f) (F : FnOk X.prog X.w X.K X.mg X.base CX k f fd ps sp) (hr : Room k X.A) (hb : KBinds X.K fd ps ks g gV) (hx : Passes CX X E) (hkw : PK X kws tk)
    (hall : (backToKw pos (keywordEach kws X.env)).all (·.1.isSome) = true := by rfl) (hks : (backToKw pos (keywordEach kws X.env)).filterMap (·.1) = ks := by rfl)
    (hpl : ((backTo pos (starEach [] X.env)).any (·.1) || (backToKw pos (keywordEach kws X.env)).any (·.1.isNone)) = false := by rfl)
    (ht : eval (.Call (.Attribute o m apos) [] kws pos) X.env = (do
      let ov ← eval o X.env
      standAt apos.atName
      let (f, first) ← holding [ov] (getMethod ov m pl)
      callWith pos f first (backTo pos (starEach [] X.env)) (backToKw pos (keywordEach kws X.env))) := by rfl) :
    PE X (.Call (.Attribute o m apos) [] kws pos) (tMethKw C m sp gV E ta tk) := by
  refine ⟨fun pins s σ H Q I h => ?_⟩
  refine PySem.W.methodCall_KW (pl := pl) (thn (he.run pins s σ H _ I h) fun u s1 hh => ?_) ht
  obtain ⟨x, H1, I1, rx, a, dx, fs, ex, ea, l, q⟩ := hh
  subst ex
  have eu : u = Value.ref a := rx
  subst eu
  refine getmeth_ok I1 ea c hm l ?_
  refine PySem.W.callWith_KW0 (first := [.ref a]) (h₀ := X.base) I.ok.mod.kin hm.kp hall ?_ hpl
  refine thn (hkw.run pos pins s1 σ H1 _ I1 q) fun ws s2 hh => ?_
  obtain ⟨zs, H2, I2, rz, q2⟩ := hh
  refine ⟨I2.kIn, ?_⟩
  rw [hks]
  exact run_fnk (us := [.ref a]) (vs := [.ref a]) F hr hb hx I2 (.cons rfl .nil) rz q2
end

/-! ### defs above repr: nothing is being shown while they run -/
structure FnG (P : Program) (w : World) (K : PySem.W.Frag) (mg : Str → Option Value) (base : Heap) (k : Nat) (f : Addr) (fd : FuncData) (ps : List Str) (sp : Sp) : Prop where
  len : ∀ vs H Q E, sp vs H Q E → vs.length = ps.length
  run : ∀ (A : Around) (outer : List Env) (s : Shared) (H : Hp) (args : Args) (us : List Value) (vs : List V) (Q : VK), A.guards = some [] → Room k A → Env0 P w K mg base A outer s H → BindsTo s fd args (ps.zip us) → Vals vs us → sp vs H Q E0 →
    codeAny (model P w) A (.call (.ref f) args) (CR CX0 outer P w H s Q E0) s
section
variable {P : Program} {w : World} {K : PySem.W.Frag} {mg : Str → Option Value} {base : Heap} {x qual : Str} {params : Arguments} {body : List Stmt} {scope : Scope} {f : Addr} {fd : FuncData} {N ps : List Str} {k : Nat} {sp : Sp}
theorem fn_ofG (F : FunD K x qual params body scope [] [] f fd) (S : FnScope N ps scope) (len : ∀ vs H Q E, sp vs H Q E → vs.length = ps.length)
    (hbody : ∀ (cdv : Value) (A : Around) (outer : List Env) (s : Shared) (H : Hp) (vs : List V) (Q : VK), (A.deeper (envOfC qual scope s.heap.objs.size f cdv)).guards = some [] → Room k (A.deeper (envOfC qual scope s.heap.objs.size f cdv)) → sp vs H Q E0 →
      ∃ t, PSs (cxOf CX0 P w K mg base N qual scope f cdv A outer s H E0).nox body t ∧ t { nx := fun _ H' => Q .non H', rt := Q } (start N vs) H) : FnG P w K mg base (k + 1) f fd ps sp := by
  obtain ⟨oc, od, dV, kV, doc, pm, an, cdv, ct, osl, rfl, lk, hcd, _, _⟩ := F.ex
  refine ⟨len, ?_⟩
  intro A outer s H args us vs Q hg hr e0 hb r hsp
  have hl := len _ _ _ _ hsp
  have bk : ∀ b o, base.get? b = some o → s.heap.get? b = some o := fun b o e => (e0.bs b o e).1
  have KX : K.In s.heap := e0.mod.kin.keeps bk
  have lim : s.heap.NoLimit := e0.mod.nolimit.keeps bk
  have hkind : ∀ y ∈ ps.zip us, scope.names.lookup y.1 = some .local ∨ (scope.names.lookup y.1 = some .cell ∧ ((cellsFrom (s.heap.objs.size + 1) scope.names []).lookup y.1).isSome = true) := by
    intro y hy
    obtain ⟨n, v⟩ := y
    rcases S.par n (List.of_mem_zip hy).1 with q | q
    · exact .inl q
    · exact .inr ⟨q, PySem.W.cellsFrom_some _ _ _ (.inl q)⟩
  refine codeAny_call_function hr.depth (KX _ _ lk) rfl S.co S.gen rfl (PySem.W.codeRec_of KX hcd) (hb _ _ _ _ ?_)
  refine wpAny_newFunctionEnv_cells S.kind hkind fun env he s1 x => ?_
  subst he
  refine ⟨lim.keeps x.toInCall.keep, codeAny_func ?_⟩
  obtain ⟨t, ht, hq⟩ := hbody cdv A outer s H vs Q hg (hr.deeper _) hsp
  have I : Inv (cxOf CX0 P w K mg base N qual scope f cdv A outer s H E0) [] (start N vs) H s1 := inv_start S hr.hd e0 hl r x
  refine wpAny_mono (ht.nox.run [] s1 (start N vs) H _ I hq) ?_ fun e s' hs => hs
  intro fl s' hs
  cases fl with
  | ret u =>
    obtain ⟨v, σ', H', J, rv, q⟩ := hs
    exact ⟨v, H', J.os, J.bare, J.base, J.hok, rv, q⟩
  | next =>
    obtain ⟨σ', H', J, q⟩ := hs
    exact ⟨.non, H', J.os, J.bare, J.base, J.hok, rfl, q⟩
  | brk =>
    obtain ⟨_, _, _, q⟩ := hs
    exact q.elim
  | cont =>
    obtain ⟨_, _, _, q⟩ := hs
    exact q.elim
end
section
variable {X : Cx} {k : Nat} {f : Addr} {fd : FuncData} {ps : List Str} {sp : Sp} {x : Str} {p pos : Pos} {e : Expr} {es : List Expr} {t : TA}
theorem pe_callG (F : FnG X.prog X.w X.K X.mg X.base k f fd ps sp) (hgd : X.A.guards = some []) (hr : Room k X.A) (hg : Gl X x) (hm : X.mg x = some (.ref f)) (hk : PySem.W.keepIn X.K (.ref f) = true) (hb : Binds X.K fd ps []) (ha : PA X (e :: es) t)
    (hdb : (x == ("__debug__" : Str)) = false := by decide) (he : starEach (e :: es) X.env = (false, eval e X.env) :: starEach es X.env := by rfl) (hpl : (backTo pos (starEach es X.env)).any (·.1) = false := by rfl) :
    PE X (.Call (.Name x p) (e :: es) [] pos) (tCall sp [] E0 t) := by
  refine ⟨fun pins s σ H Q I h => ?_⟩
  refine wpAny_Call_Name_kw (ld_glob I hg hm ?_ hdb)
  refine PySem.W.callWith_K (h₀ := X.base) I.ok.mod.kin hk (thn (ha.run pos pins s σ H _ I h) fun us s1 hh => ?_) he hpl
  obtain ⟨vs, H1, I1, r, q⟩ := hh
  refine ⟨I1.kIn, ?_⟩
  have q' : sp vs H1 Q E0 := by
    have z : sp (vs ++ []) H1 Q E0 := q
    rw [List.append_nil] at z
    exact z
  have hl : us.length = ps.length := by rw [← r.length]; exact F.len _ _ _ _ q'
  have hb2 := hb s1 us I1.kIn (by rw [List.append_nil]; exact hl)
  rw [List.append_nil] at hb2
  refine wpAny_call (codeAny_mono (F.run X.A X.stack s1 H1 ⟨us, []⟩ us vs Q hgd hr I1.env0 hb2 r q') fun r s' hq => ?_)
  cases r with
  | error e => exact hq.elim
  | ok fl =>
    cases fl with
    | ret u => exact I1.after hq
    | next => exact hq.elim
    | brk => exact hq.elim
    | cont => exact hq.elim
end
end Eg
end

section
set_option Elab.async false
set_option linter.all false
set_option maxRecDepth 100000
set_option maxHeartbeats 4000000
/-! exceptions of own classes over Exception, with fields -/
namespace PySem
namespace EgX
open PySem.W PySem.Calls PyProof.Rows PySem.HandSPX Builtin Builtin.ObjectAttr
/-- where an own class's row of classes ends -/
abbrev exT : List Value := [.type "Exception", .type "BaseException", .type "object"]
theorem pass_ex (self : Value) {l : List Value} (h : excTail exT l = true) : refuseLoop self "__setattr__" l = pure () := excTail_pass self (F.store_Exception.passes self) l h
theorem has_ex (Y : String) {l : List Value} (h : excTail exT l = true) : l.contains (.type Y) = exT.contains (.type Y) := excTail_contains Y l h
section
variable {prog : Program} {w : World} {A : Around} {E : Value → Shared → Prop} {R : Result → Shared → Prop} {hp : Heap} {g : Array GenState} {d : Drawn} {t : Nat} {os : OsState}
/-- self.name = v, up to the own dict -/
theorem osa_way {K : W.Frag} {name : Str} {tk : Tok} {v : Value} {x C : Addr} {ox : Obj} {od : Option Obj} {cd : ClassData} {bm : List Value} (X : K.In hp) (I : W.InstAt hp x ox C od) (hcd : W.clsIn K C = some cd) (hm : cd.mro = .ref C :: bm)
    (hb : excTail exT bm = true) (ha : W.findIn K (.ref C) name = some none)
    (hq : wpAny (model prog w) A.in1 (storeInOwnDict (.ref x) (.ref C) (.str name tk) name v false)
      (fun r s' => match r with | .done f => R (.ok f) s' | .again c' => c'.quiet = true ∧ codeAny (model prog w) A c' R s') (fun e s' => R (.error e) s') ⟨hp, g, d, t, os⟩) :
    codeAny (model prog w) A (.call (.builtin "object.__setattr__") ⟨[.ref x, .str name tk, v], []⟩) R ⟨hp, g, d, t, os⟩ := by
  have SF := F.store_object
  have hall : excTail exT (.ref C :: bm) = true := hb
  have hob : W.mroIn K C (.type "object") = some true := by
    unfold W.mroIn
    rw [hcd, Option.bind_some, hm, if_neg (show ¬ (List.isEmpty (Value.ref C :: bm) = true) from Bool.false_ne_true), has_ex "object" hall]
    exact congrArg some (by decide +kernel)
  have hin : W.Looks (model prog w) hp (isInstance (.ref x) (.type "object")) true := I.type.andThen (W.looks_mroIn X hob)
  have hmr : W.Looks (model prog w) hp (mroOf (.ref C)) cd.mro := (W.looks_clsIn X hcd).andThen .now
  have htk : W.Looks (model prog w) hp (storeTaker? none) none := .now
  have hps : refuseLoop (.ref x) "__setattr__" cd.mro = pure () := by
    rw [hm]
    exact pass_ex (.ref x) hall
  refine codeAny_call_builtin SF.slot.plain SF.entry ?_
  refine @W.check_slot (model prog w) _ _ ⟨hp, g, d, t, os⟩ "object.__setattr__" "object" "__setattr__" (.ref x) [.str name tk, v] [] _ SF.kind SF.split hin (SF.args (.ref x) (.str name tk) v) ?_
  rw [W.osa_eq, refuse_eq]
  refine wpAny_bind (wpAny_bind (I.type.at (wpAny_bind (hmr.at ?_))))
  rw [hps]
  exact wpAny_pure (wpAny_bind (I.type.at (wpAny_bind ((W.looks_findIn X ha).at (wpAny_bind (htk.at hq))))))
theorem osa_first {K : W.Frag} {name : Str} {tk : Tok} {v : Value} {x C : Addr} {fv : Array Value} {cd : ClassData} {bm : List Value} (X : K.In hp) (hx : hp.get? x = some { cls := .ref C, data := .fields fv }) (hcd : W.clsIn K C = some cd)
    (hm : cd.mro = .ref C :: bm) (hb : excTail exT bm = true) (hh : cd.hasDict = true) (ha : W.findIn K (.ref C) name = some none)
    (hq : ∀ h' tk' dx, (∀ b o, b ≠ x → hp.get? b = some o → h'.get? b = some o) → hp.objs.size ≤ dx → dx ≠ x → h'.get? x = some { cls := .ref C, dict := some dx, data := .fields fv } → h'.Ns1 dx (fun y => if y = name then some v else none) →
      R (.ok (.ret .none)) ⟨h', g, d, tk', os⟩) :
    codeAny (model prog w) A (.call (.builtin "object.__setattr__") ⟨[.ref x, .str name tk, v], []⟩) R ⟨hp, g, d, t, os⟩ := by
  have hxs : x ≠ hp.objs.size := Nat.ne_of_lt (Heap.lt_size hx)
  refine osa_way (od := none) X ⟨hx, rfl, rfl, trivial⟩ hcd hm hb ha ?_
  have hcls : W.Looks (model prog w) hp (classData C) cd := W.looks_clsIn X hcd
  obtain ⟨c1, c2, c3, c4, c5, c6, c7, c8, c9, c10, c11⟩ := cd
  dsimp only at hh
  subst hh
  unfold storeInOwnDict ownDictForStores
  repeat (first | with_reducible refine store_in_new ?_ ?_ | with_reducible refine wpAny_loadPart_at hx ?_ | with_reducible refine hcls.at ?_ | wp_step)
  · exact ⟨_, #[], _, (Heap.get?_update_ne _ _ _ _ hxs.symm).trans (Heap.get?_push_at rfl rfl), rfl, fun e he => absurd he (by simp), fun _ => rfl⟩
  · intro h' tk' hn' hs
    have hx1 : (hp.push { cls := .type "dict", data := .dict #[] }).get? x = some { cls := .ref C, data := .fields fv } := Heap.get?_push_of_some _ hx
    refine hq h' tk' hp.objs.size ?_ (Nat.le_refl _) hxs.symm ?_ hn'
    · intro b o hbx ho
      exact (hs.2 b (Nat.ne_of_lt (Heap.lt_size ho))).trans ((Heap.get?_update_ne _ _ _ _ hbx).trans (Heap.get?_push_of_some _ ho))
    · exact (hs.2 x hxs).trans (Heap.get?_update_self _ hx1 rfl)
theorem osa_more {K : W.Frag} {name : Str} {tk : Tok} {v : Value} {x C dx : Addr} {fv : Array Value} {cd : ClassData} {bm : List Value} {m0 : Str → Option Value} {nl : List Str} (X : K.In hp)
    (hx : hp.get? x = some { cls := .ref C, dict := some dx, data := .fields fv }) (hns : hp.Ns1 dx m0) (hw : Within m0 nl) (hz : nl.length ≤ 1000) (hcd : W.clsIn K C = some cd) (hm : cd.mro = .ref C :: bm) (hb : excTail exT bm = true)
    (hh : cd.hasDict = true) (ha : W.findIn K (.ref C) name = some none)
    (hq : ∀ h' tk', (∀ b o, b ≠ dx → hp.get? b = some o → h'.get? b = some o) → h'.Ns1 dx (fun y => if y = name then some v else m0 y) → R (.ok (.ret .none)) ⟨h', g, d, tk', os⟩) :
    codeAny (model prog w) A (.call (.builtin "object.__setattr__") ⟨[.ref x, .str name tk, v], []⟩) R ⟨hp, g, d, t, os⟩ := by
  obtain ⟨oD, esD, epD, hoD, hdD, _⟩ := hns.count hw
  refine osa_way (od := some oD) X ⟨hx, rfl, rfl, hoD⟩ hcd hm hb ha ?_
  have hcls : W.Looks (model prog w) hp (classData C) cd := W.looks_clsIn X hcd
  obtain ⟨c1, c2, c3, c4, c5, c6, c7, c8, c9, c10, c11⟩ := cd
  dsimp only at hh
  subst hh
  unfold storeInOwnDict ownDictForStores
  repeat (first | with_reducible refine OEX.store_in_old hns hw hz ?_ | with_reducible refine wpAny_loadPart_at hx ?_ | with_reducible refine hcls.at ?_ | wp_step)
  intro h' tk' hn' hs
  exact hq h' tk' (fun b o hbd ho => (hs.2 b hbd).trans ho) hn'
end
end EgX
end PySem

namespace Eg
open PySem PySem.Spec PyProof.Rows L2 Evl
/-- what the written part says of such a class -/
structure ExC (K : PySem.W.Frag) (C : Addr) : Prop where
  cls : ∃ nm q N bs bm sn sub ab col dd k0 k1 k2 k3 k5, K.lookup C = some (excClassObj nm q C N bs bm true sn sub ab col dd k0 k1 k2 k3 k5 "Exception.__new__") ∧ PySem.W.excTail PySem.EgX.exT bm = true
  sa : PySem.W.findIn K (.ref C) "__setattr__" = some (some (.builtin "object.__setattr__"))
  exC : PySem.W.subIn K (.ref C) (.type "BaseException") = some true
  tyC : PySem.W.typeIn K (.ref C) = some (.type "type")
  kC : PySem.W.keepIn K (.ref C) = true
def exCB (K : PySem.W.Frag) (C : Addr) : Bool := (match K.lookup C with
  | some ⟨.type "type", _, .cls cd, sl⟩ => (match cd.mro, sl.toList with
    | .ref C' :: bm, [_, _, _, _, some (.builtin n), _] => decide (C' = C) && (decide (n = "Exception.__new__") && (!cd.hasDel && (cd.hasDict && PySem.W.excTail PySem.EgX.exT bm)))
    | _, _ => false)
  | _ => false) && (decide (PySem.W.findIn K (.ref C) "__setattr__" = some (some (.builtin "object.__setattr__"))) && (decide (PySem.W.subIn K (.ref C) (.type "BaseException") = some true) && (decide (PySem.W.typeIn K (.ref C) = some (.type "type")) && PySem.W.keepIn K (.ref C))))
theorem exC_of {K : PySem.W.Frag} {C : Addr} (h : exCB K C = true) : ExC K C := by
  unfold exCB at h
  obtain ⟨h1, h⟩ := Bool.and_eq_true_iff.mp h
  obtain ⟨h2, h⟩ := Bool.and_eq_true_iff.mp h
  obtain ⟨h3, h⟩ := Bool.and_eq_true_iff.mp h
  obtain ⟨h4, h5⟩ := Bool.and_eq_true_iff.mp h
  refine ⟨?_, of_decide_eq_true h2, of_decide_eq_true h3, of_decide_eq_true h4, h5⟩
  split at h1
  · rename_i dd cd sl ho
    split at h1
    · rename_i C' bm k0 k1 k2 k3 n k5 hm hs
      obtain ⟨q1, h1⟩ := Bool.and_eq_true_iff.mp h1
      obtain ⟨q2, h1⟩ := Bool.and_eq_true_iff.mp h1
      obtain ⟨q3, h1⟩ := Bool.and_eq_true_iff.mp h1
      obtain ⟨q4, q5⟩ := Bool.and_eq_true_iff.mp h1
      have e1 : C' = C := of_decide_eq_true q1
      have e2 : n = "Exception.__new__" := of_decide_eq_true q2
      have e3 : cd.hasDel = false := by simpa using q3
      subst e1 e2
      obtain ⟨nm, bs, mro, ns, qn, hd, sn, sub, ab, col, del⟩ := cd
      dsimp only at hm e3 q4
      subst hm e3 q4
      have hsl : sl = #[k0, k1, k2, k3, some (.builtin "Exception.__new__"), k5] := by
        obtain ⟨l⟩ := sl
        simp only at hs
        rw [hs]
      subst hsl
      exact ⟨nm, qn, ns, bs, bm, sn, sub, ab, col, dd, k0, k1, k2, k3, k5, ho, q5⟩
    · cases h1
  · cases h1

section
variable {X : Cx} {pins : List (Addr × Obj)} {σ : L2.St} {H : Hp} {s : Shared} {a C dx : Addr} {f : Str} {y : V} {u : Value} {fs : List (Str × V)} {E : Value → Shared → Prop} {A : Around}
theorem put_first {Q : Unit → Shared → Prop} (T : ExC X.K C) (I : Inv X pins σ H s) (e : H a = some (exo a C none)) (hno : PySem.W.findIn X.K (.ref C) f = some none) (ry : RelV y u)
    (h : ∀ dx s', H dx = none → dx ≠ a → Inv X pins σ (upd (upd H dx (exd dx [(f, y)])) a (exo a C (some dx))) s' → Q () s') : wpAny (model X.prog X.w) A (setAttr (.ref a) f u) Q E s := by
  obtain ⟨nm, q, N, bs, bm, sn, sub, ab, col, dd, k0, k1, k2, k3, k5, hC, hbm⟩ := T.cls
  have hcl : PySem.W.clsIn X.K C = some { name := nm, bases := bs, mro := .ref C :: bm, ns := N, qualname := q, hasDict := true, slotNames := sn, subclasses := sub, abstract := ab, collection := col, hasDel := false } := by
    unfold PySem.W.clsIn
    rw [hC]
  obtain ⟨t1, ho⟩ := exo_at I.hok e
  obtain ⟨hp, g, d, t, os⟩ := s
  refine PySem.W.set_plain I.kIn (ox := { cls := .ref C, dict := none, data := .fields #[.ref t1, .none, .none, .none, .bool false, .none] }) (od := none) ⟨ho, rfl, rfl, trivial⟩ T.sa ?_
  refine PySem.EgX.osa_first I.kIn ho hcl rfl hbm rfl hno ?_
  intro h' tk' dx k dn dne hx hn
  have hnd : H dx = none := I.hok.fresh dn
  have nd : ∀ {b : Addr} {o : Obj}, hp.get? b = some o → b ≠ dx := by
    intro b o q
    exact Nat.ne_of_lt (Nat.lt_of_lt_of_le (Heap.lt_size q) dn)
  have na : ∀ {b : Addr}, H b = none → b ≠ a := by
    intro b n z
    rw [z, e] at n
    cases n
  have U : Un X.fs [] H (upd (upd H dx (exd dx [(f, y)])) a (exo a C (some dx))) hp h' := by
    refine ⟨?_, ?_, ?_, ?_, ?_, ?_, ?_⟩
    · intro b o q n _ _
      exact k b o (na n) q
    · intro b o q n _ _
      exact ⟨o.slots, k b o (na n) q⟩
    · intro b o q n _
      rw [upd_ne (na n), upd_ne (nd q)]
      exact n
    · intro b o q _
      by_cases hb : b = a
      · exact ⟨_, by rw [hb]; exact hx⟩
      · exact ⟨o, k b o hb q⟩
    · intro b xs q
      rw [upd_ne (at_ne e q exo_tup), upd_ne (ne_of_none q hnd)]
      exact q
    · intro b o v q
      rw [upd_ne (at_ne e q exo_frz), upd_ne (ne_of_none q hnd)]
      exact q
    · intro b ps q
      exact ⟨#[], by rw [upd_ne (at_ne e q exo_tbl), upd_ne (ne_of_none q hnd), q]; simp⟩
  refine h dx _ hnd dne (I.un (t' := tk') U ?_)
  intro b o q
  by_cases hb : b = a
  · subst hb
    rw [upd_same] at q
    cases q
    exact exo_ok hx
  · rw [upd_ne hb] at q
    by_cases hd : b = dx
    · subst hd
      rw [upd_same] at q
      cases q
      exact exd_ok hn (relO_put (fs := []) ry fun g => True.intro)
    · rw [upd_ne hd] at q
      refine (I.hok b o q).stay ?_ ?_ ?_
      · intro c v hc z
        refine k c v ?_ z
        rcases hc with hc | hc
        · rw [hc]
          exact hb
        · exact at_ne e hc exo_own
      · intro c hc
        rw [upd_ne (at_ne e hc exo_own), upd_ne (ne_of_none hc hnd)]
        exact hc
      · intro c xs hc
        rw [upd_ne (at_ne e hc exo_tup), upd_ne (ne_of_none hc hnd)]
        exact hc
theorem put_more {Q : Unit → Shared → Prop} (T : ExC X.K C) (I : Inv X pins σ H s) (e : H a = some (exo a C (some dx))) (ed : H dx = some (exd dx fs)) (hl : fs.length ≤ 900) (hno : PySem.W.findIn X.K (.ref C) f = some none) (ry : RelV y u)
    (h : ∀ s', Inv X pins σ (upd H dx (exd dx ((f, y) :: fs))) s' → Q () s') : wpAny (model X.prog X.w) A (setAttr (.ref a) f u) Q E s := by
  obtain ⟨nm, q, N, bs, bm, sn, sub, ab, col, dd, k0, k1, k2, k3, k5, hC, hbm⟩ := T.cls
  have hcl : PySem.W.clsIn X.K C = some { name := nm, bases := bs, mro := .ref C :: bm, ns := N, qualname := q, hasDict := true, slotNames := sn, subclasses := sub, abstract := ab, collection := col, hasDel := false } := by
    unfold PySem.W.clsIn
    rw [hC]
  obtain ⟨t1, ho⟩ := exo_at I.hok e
  obtain ⟨mA, hns, rel⟩ := exd_at I.hok ed
  have hw := within_of rel
  obtain ⟨hp, g, d, t, os⟩ := s
  obtain ⟨oD, _, _, hoD, _, _⟩ := hns.count hw
  refine PySem.W.set_plain I.kIn (ox := { cls := .ref C, dict := some dx, data := .fields #[.ref t1, .none, .none, .none, .bool false, .none] }) (od := some oD) ⟨ho, rfl, rfl, hoD⟩ T.sa ?_
  refine PySem.EgX.osa_more I.kIn ho hns hw (by rw [List.length_map]; omega) hcl rfl hbm rfl hno ?_
  intro h' tk' k hn
  have hd : ∃ o, h'.get? dx = some o := by
    obtain ⟨o, _, _, e', _⟩ := hn
    exact ⟨o, e'⟩
  exact h _ (I.write (t' := tk') (x := dx) (e := dx) (o := exd dx ((f, y) :: fs)) (by rw [ed]; exact True.intro) (.inl rfl) k hd (exd_ok hn (relO_put ry rel)))
/-- Exception.__init__(self, ..) -/
theorem base_init {us : List Value} {Q : Value → Shared → Prop} (T : ExC X.K C) (I : Inv X pins σ H s) (e : H a = some (exo a C none)) (hl : us.length ≤ sizeLine) (h : ∀ s', Inv X pins σ H s' → Q .none s') :
    wpAny (model X.prog X.w) A (call (.builtin "Exception.__init__") (.ref a :: us)) Q E s := by
  obtain ⟨nm, q, N, bs, bm, sn, sub, ab, col, dd, k0, k1, k2, k3, k5, hC, hbm⟩ := T.cls
  obtain ⟨t1, ho⟩ := exo_at I.hok e
  obtain ⟨hp, g, d, t, os⟩ := s
  refine wpAny_call (PySem.HandSPX.init_base F.excBase_Exception (fun Y => PySem.EgX.has_ex Y hbm) (I.kIn _ _ hC) ho hl ?_)
  intro h' t2 k hx
  have J := I.write (t' := t) (x := a) (e := a) (o := exo a C none) (by rw [e]; exact True.intro) (.inl rfl) k ⟨_, hx⟩ (exo_ok hx)
  have eu : upd H a (exo a C none) = H := by
    funext b
    by_cases hb : b = a
    · rw [hb, upd_same, e]
    · rw [upd_ne hb]
  rw [eu] at J
  exact h _ J
end

/-! ### readings -/
/-- G.__init__(self, ..), G an own class that takes it from Exception -/
def tGIn (K : PySem.W.Frag) (ta : TA) : TE := fun σ H Q => ta σ H fun vs H1 => ∃ (a C : Addr) (ws : List V), vs = .ref a :: ws ∧ ws.length ≤ 1000 ∧ ExC K C ∧ H1 a = some (exo a C none) ∧ Q .non H1
/-- self.f = e -/
def tPutX (K : PySem.W.Frag) (f : Str) (ta te : TE) : TS := fun D σ H => te σ H fun y H1 => ta σ H1 fun x H2 => ∃ a C : Addr, x = .ref a ∧ ExC K C ∧ PySem.W.findIn K (.ref C) f = some none ∧
  ((H2 a = some (exo a C none) ∧ ∀ dx, H2 dx = none → dx ≠ a → D.nx σ (upd (upd H2 dx (exd dx [(f, y)])) a (exo a C (some dx)))) ∨
    ∃ (dx : Addr) (fs : List (Str × V)), H2 a = some (exo a C (some dx)) ∧ H2 dx = some (exd dx fs) ∧ fs.length ≤ 900 ∧ D.nx σ (upd H2 dx (exd dx ((f, y) :: fs))))
/-- C(e, ..) -/
def tMkX (C : Addr) (sp : Sp) (ta : TA) : L2.St → Hp → XK → Prop := fun σ H Q => ta σ H fun vs H1 => vs.length ≤ 1000 ∧ ∀ a, H1 a = none → sp (.ref a :: vs) (upd H1 a (exo a C none))
  (fun v H2 => v = .non ∧ ∃ (d : Addr) (fs : List (Str × V)), H2 a = some (exo a C (some d)) ∧ H2 d = some (exd d fs) ∧ H1 d = none ∧ Q (.ref C) (some d) (upd (L2.del H2 a) d (.xd fs))) E0
/-- what G must have -/
structure GCls (K : PySem.W.Frag) (G : Addr) : Prop where
  ga : PySem.W.specialIn K (.ref G) "__getattribute__" = some (some (.builtin "type.__getattribute__"))
  rd : PySem.W.readsIn K G (.type "type") = true
  fi : PySem.W.findCls K (.ref G) (.type "type") "__init__" = some (.val (.builtin "Exception.__init__"))
section
variable {X : Cx} {o e : Expr} {es : List Expr} {to te : TE} {ta : TA} {f x : Str} {p p' p1 p2 pos : Pos} {G : Addr}
theorem pe_ginit {pl : Sem Bool} (hg : Gl X x) (hm : X.mg x = some (.ref G)) (T : GCls X.K G) (ha : PA X (e :: es) ta)
    (hc : eval (.Call (.Attribute (.Name x p1) "__init__" p2) (e :: es) [] pos) X.env = (do
      let ov ← eval (.Name x p1) X.env
      standAt p2.atName
      let (f, first) ← holding [ov] (getMethod ov "__init__" pl)
      callWith pos f first (backTo pos (starEach (e :: es) X.env)) (backToKw pos (keywordEach [] X.env))) := by rfl)
    (hdb : (x == ("__debug__" : Str)) = false := by decide) (he : starEach (e :: es) X.env = (false, eval e X.env) :: starEach es X.env := by rfl) (hpl : (backTo pos (starEach es X.env)).any (·.1) = false := by rfl) :
    PE X (.Call (.Attribute (.Name x p1) "__init__" p2) (e :: es) [] pos) (tGIn X.K ta) := by
  refine ⟨fun pins s σ H Q I h => ?_⟩
  refine PySem.W.methodCall_KW (ld_glob I hg hm ?_ hdb) hc
  refine PySem.W.method_cls I.kIn T.ga (PySem.W.cls_value I.kIn T.rd T.fi (by decide +kernel) ?_)
  show wpAny _ _ (callWith pos (Value.builtin "Exception.__init__") [] (backTo pos (starEach (e :: es) X.env)) []) _ _ _
  refine PyProof.Rows.callWith_method1 (thn (ha.run pos pins _ σ H _ (I.tok _) h) fun us s1 hh => ?_) he hpl
  obtain ⟨vs, H1, I1, r1, a, C, ws, ev, hl, T1, ea, q⟩ := hh
  subst ev
  cases r1 with
  | @cons _ u0 _ ur ra rw' =>
    have eu : u0 = Value.ref a := ra
    subst eu
    have hlen : ur.length ≤ sizeLine := by
      rw [← Paired.length rw', sizeLine_eq]
      omega
    exact base_init T1 I1 ea hlen fun s' J => ⟨.non, H1, J, rfl, q⟩
theorem ps_putX (ho : PE X o to) (he : PE X e te) (hs : swapsWith e (some (.Attribute o f p')) pos.line X.env = pure false := by rfl) : PS X (.Assign [.Attribute o f p'] e pos) (tPutX X.K f to te) := by
  refine ⟨fun pins s σ H D I h => ?_⟩
  refine plainObj_wpAny_Assign_Attribute (thn (he.run pins s σ H _ I h) fun v s1 hh => ?_) hs
  obtain ⟨y, H1, I1, r1, q1⟩ := hh
  refine thn (ho.run pins s1 σ H1 _ I1 q1) fun u s2 hh => ?_
  obtain ⟨x, H2, I2, r2, a, C, ex, T, hno, q⟩ := hh
  subst ex
  have eu : u = Value.ref a := r2
  subst eu
  rcases q with ⟨ea, q⟩ | ⟨dx, fs, ea, ed, hl, q⟩
  · exact put_first T I2 ea hno r1 fun dx s' n ne J => ⟨σ, _, J, q dx n ne⟩
  · exact put_more T I2 ea ed hl hno r1 fun s' J => ⟨σ, _, J, q⟩
theorem pmk_ex {C fI : Addr} {k : Nat} {fd : FuncData} {ps : List Str} {sp : Sp} (T : ExC X.K C) (iC : PySem.W.findIn X.K (.ref C) "__init__" = some (some (.ref fI))) (tI : PySem.W.typeIn X.K (.ref fI) = some (.type "function"))
    (F1 : FnOk X.prog X.w X.K X.mg X.base CX0 k fI fd ps sp) (hr : Room (k + 1) X.A) (hb : Binds X.K fd ps []) (hg : Gl X x) (hm : X.mg x = some (.ref C)) (ha : PA X (e :: es) ta)
    (hdb : (x == ("__debug__" : Str)) = false := by decide) (he : starEach (e :: es) X.env = (false, eval e X.env) :: starEach es X.env := by rfl) (hpl : (backTo pos (starEach es X.env)).any (·.1) = false := by rfl) :
    PMk X (.Call (.Name x p) (e :: es) [] pos) (tMkX C sp ta) := by
  intro pins s σ H Q I h
  obtain ⟨nm, q, N, bs, bm, sn, sub, ab, col, dd, k0, k1, k2, k3, k5, hC, hbm⟩ := T.cls
  refine wpAny_Call_Name_kw (ld_glob I hg hm ?_ hdb)
  refine PySem.W.callWith_K (h₀ := X.base) I.ok.mod.kin T.kC (thn (ha.run pos pins s σ H _ I h) fun us s1 hh => ?_) he hpl
  obtain ⟨vs, H1, I1, r1, hz, q1⟩ := hh
  refine ⟨I1.kIn, ?_⟩
  show wpAny _ _ (call (.ref C) us) _ _ _
  obtain ⟨hp, g, dr, tk, os⟩ := s1
  have hsz : hp.objs.size ≤ hp.objs.size + 1 := Nat.le_succ _
  have hq := q1 (hp.objs.size + 1) (I1.hok.fresh hsz)
  have kk : ∀ b o, hp.get? b = some o → ((hp.push (PySem.W.kdv_tup us)).push (PySem.HandSPX.excO C hp.objs.size)).get? b = some o := by
    intro b o e
    exact Heap.get?_push_of_some _ (Heap.get?_push_of_some _ e)
  have hget : ((hp.push (PySem.W.kdv_tup us)).push (PySem.HandSPX.excO C hp.objs.size)).get? (hp.objs.size + 1) = some (PySem.HandSPX.excO C hp.objs.size) := by heap_get
  have I2 : Inv X pins σ (upd H1 (hp.objs.size + 1) (exo (hp.objs.size + 1) C none)) ⟨(hp.push (PySem.W.kdv_tup us)).push (PySem.HandSPX.excO C hp.objs.size), g, dr, tk, os⟩ :=
    I1.laid (t' := tk) (a := hp.objs.size + 1) kk hsz (exo_ok hget)
  have r2 : Vals (V.ref (hp.objs.size + 1) :: vs) (Value.ref (hp.objs.size + 1) :: us) := .cons rfl r1
  have hl : (Value.ref (hp.objs.size + 1) :: us).length = ps.length := by
    rw [← r2.length]
    exact F1.len _ _ _ _ hq
  have hus : us.length ≤ sizeLine := by
    rw [← Paired.length r1, sizeLine_eq]
    omega
  have hb2 := hb ⟨(hp.push (PySem.W.kdv_tup us)).push (PySem.HandSPX.excO C hp.objs.size), g, dr, tk, os⟩ (Value.ref (hp.objs.size + 1) :: us) I2.kIn (by rw [List.append_nil]; exact hl)
  rw [List.append_nil] at hb2
  refine wpAny_call (PySem.HandSPX.call_own F.excBase_Exception (fun Y => PySem.EgX.has_ex Y hbm) (I1.kIn _ _ hC) (PySem.W.looks_findIn I1.kIn iC) (fun self => PySem.W.bind_fn I1.kIn self tI) hus ?_)
  refine codeAny_mono (F1.run _ X.stack _ _ ⟨Value.ref (hp.objs.size + 1) :: us, []⟩ (Value.ref (hp.objs.size + 1) :: us) _ _ E0 (hr.make C us []) (I2.env0.make C us []) hb2 r2 hq) fun r s' hq' => ?_
  cases r with
  | error er => exact hq'.elim
  | ok fl =>
    cases fl with
    | ret u =>
      obtain ⟨v, H2, os2, bare2, un2, hok2, rv, ev, d, fs, ea, ed, hd1, q2⟩ := hq'
      subst ev
      obtain ⟨h2, g2, d2, t2, os'⟩ := s'
      exact ⟨rv, mk_end (raises_own T.exC T.tyC) I1 hsz kk un2 hok2 os2 bare2 ea ed hd1 q2⟩
    | next => exact hq'.elim
    | brk => exact hq'.elim
    | cont => exact hq'.elim
end
end Eg
end

section
set_option Elab.async false
set_option linter.all false
set_option maxRecDepth 100000
set_option maxHeartbeats 4000000
/-! enumerate(tuple) -/
namespace PySem
open Sem (wp)
open AutoSeq1 (wpAny_loadPart')
theorem eg_meets_enumT (l : Addr) (items : Array Value) (n : Nat) (dct : Option Addr) (sl : Array (Option Value)) :
    Meets (Builtin.«enumerate.__new__» ⟨[.type "enumerate", .ref l], []⟩) (fun _ R s => s.heap.get? l = some { cls := .type "tuple", dict := dct, data := .seq items n, slots := sl } ∧
      R (.ok (.ret (.ref (s.heap.push { cls := .type "tuple_iterator", data := .fields #[.ref l, .int 0 0] }).objs.size)))
        { s with heap := (s.heap.push { cls := .type "tuple_iterator", data := .fields #[.ref l, .int 0 0] }).push { cls := .type "enumerate", data := .fields #[.none, .bool false, .ref s.heap.objs.size, rawInt 0, .none, .none] } }) :=
  .of_wp fun prog w A R s h => by
    obtain ⟨hp, g, d, tk, os⟩ := s
    obtain ⟨hl, h⟩ := h
    have hsub := sub_enumerate
    have hT : Heap.IsTuple (Shared.heap ⟨hp, g, d, tk, os⟩) l items := ⟨_, hl, rfl, n, rfl⟩
    wp_walk using wpAny_loadPart' hl
    refine wpAny_stack_any fun st => wpAny_pure ?_
    split
    · rename_i c _ _ _ _ _
      cases (c == Value.type "enumerate") <;> (wp_walk using wpAny_loadPart' hl, wpAny_pyIter_tuple hT; exact ⟨_, rfl, h⟩)
    · wp_walk using wpAny_loadPart' hl, wpAny_pyIter_tuple hT
      exact ⟨_, rfl, h⟩
theorem eg_call_enumT {prog : Program} {w : World} {A : Around} {E : Value → Shared → Prop} {s : Shared} {l : Addr} {items : Array Value} {Q : Value → Shared → Prop} (hL : s.heap.IsTuple l items)
    (h : ∀ h', IsEnum h' (s.heap.objs.size + 1) s.heap.objs.size 0 .none → h'.IsTupleIter s.heap.objs.size l 0 → h'.objs.size = s.heap.objs.size + 2 →
      (∀ b o, s.heap.get? b = some o → h'.get? b = some o) → Q (.ref (s.heap.objs.size + 1)) { s with heap := h' }) :
    wpAny (model prog w) A (call (.type "enumerate") [.ref l]) Q E s := by
  obtain ⟨⟨c, dct, dt, sl⟩, hl, hc, n, hd⟩ := hL
  replace hc : c = .type "tuple" := hc
  replace hd : dt = .seq items n := hd
  subst hc hd
  refine callType_new F.called_enumerate (by decide) (F.typeCall_enumerate_1 _) (F.newCall_enumerate_1 _) (fun obj => F.args_object_init_2 obj _) F.entry_enumerate_new (eg_meets_enumT l items n dct sl) ⟨hl, ?_⟩
  have hz : (s.heap.push { cls := .type "tuple_iterator", data := .fields #[.ref l, .int 0 0] }).objs.size = s.heap.objs.size + 1 := Heap.size_push ..
  show _ ∧ _
  rw [hz]
  have he : IsEnum ((s.heap.push { cls := .type "tuple_iterator", data := .fields #[.ref l, .int 0 0] }).push { cls := .type "enumerate", data := .fields #[.none, .bool false, .ref s.heap.objs.size, rawInt 0, .none, .none] })
      (s.heap.objs.size + 1) s.heap.objs.size 0 .none := by
    have z := Heap.get?_push_size (s.heap.push { cls := .type "tuple_iterator", data := .fields #[.ref l, .int 0 0] }) (o := { cls := .type "enumerate", data := .fields #[.none, .bool false, .ref s.heap.objs.size, rawInt 0, .none, .none] }) rfl
    rw [hz] at z
    exact z
  refine ⟨⟨_, he, rfl⟩, h _ he ⟨_, Heap.get?_push_of_some _ (Heap.get?_push_size _ rfl), rfl, rfl⟩ (by rw [Heap.size_push, hz]) ?_⟩
  intro b o x
  exact Heap.get?_push_of_some _ (Heap.get?_push_of_some _ x)
end PySem
namespace Eg
open PySem PySem.Spec PyProof.Rows L2 Evl
/-- the tuple at a, each item in a new pair -/
def IteT (K : PySem.W.Frag) (a : Addr) : It :=
  ⟨fun i H => ∃ (xs : List V) (x : V), SqT K H a xs ∧ xs[i]? = some x, fun i H v H' => ∃ T x, v = .ref T ∧ H T = none ∧ H' = upd H T (.tup [.int (i : Nat), x]) ∧ ∀ xs, SqT K H a xs → xs[i]? = some x, fun i H => ∃ xs : List V, SqT K H a xs ∧ xs.length = i⟩
theorem tup_ne {h : Heap} {a b : Addr} {its : Array Value} {o : Obj} (x : h.IsTuple a its) (e : h.get? b = some o) (c : o.cls ≠ .type "tuple") : a ≠ b := by
  obtain ⟨u, hu, hc, _⟩ := x
  intro z
  rw [z, e] at hu
  cases hu
  exact c hc
theorem turn_enumT {P : Program} {w : World} {K : PySem.W.Frag} {elts : List Expr} {kk : Nat} {tpos : Pos} (a e it : Addr) :
    Turn P w K (.Tuple elts kk tpos) (IteT K a) [e, it] e (fun i h => (∃ old, IsEnum h e it ((i : Nat) : Int) old) ∧ h.IsTupleIter it a i ∧ e ≠ it) where
  mem := by simp
  obj := fun i h st b hb => by
    obtain ⟨⟨old, he⟩, ⟨o, ho, hc, hd⟩, _⟩ := st
    have e' : b = e ∨ b = it := by simpa using hb
    rcases e' with z | z
    · subst z
      exact ⟨_, he, fun v q => nomatch q⟩
    · subst z
      exact ⟨o, ho, fun v q => by rw [hd] at q; cases q⟩
  keep := fun i h h' st k => by
    obtain ⟨⟨old, he⟩, hi, hne⟩ := st
    exact ⟨⟨old, k e (by simp) _ he⟩, hi.at fun o q => k it (by simp) o q, hne⟩
  item := by
    intro X hP hw hK hc i pins s σ H E I hf st hg
    subst hP hw hK
    obtain ⟨⟨old, he⟩, hit, hne⟩ := st
    obtain ⟨xs, x, hq, hx⟩ := hg
    obtain ⟨its, rv, p, hz⟩ := I.tuple hq
    obtain ⟨u, hu, ru⟩ := rv.get hx
    have hp : s.heap.IsTuple a its.toArray := p
    have hel : e < s.heap.objs.size := Heap.lt_size he
    have hil : it < s.heap.objs.size := by
      obtain ⟨_, q, _⟩ := hit
      exact Heap.lt_size q
    have nae : a ≠ e := tup_ne hp he (fun z => absurd (Value.type.inj z) (by decide))
    have nai : a ≠ it := by
      obtain ⟨oi, qi, ci, _⟩ := hit
      exact tup_ne hp qi (by rw [ci]; exact fun z => absurd (Value.type.inj z) (by decide))
    have hn : i < its.toArray.size := by
      have := (List.getElem?_eq_some_iff.mp hu).1
      simpa using this
    refine wpAny_pyNext_enum_itemD (Draws.tuple (show X.A.in1.handled = none from I.ok.hd hc) it a nai its.toArray) he ⟨hit, hp⟩ hn hne (by simp [hne, Ne.symm nae]) ?_
    intro y h' tk hy ho hst hT hsz hk
    have ey : y = u := by
      have h1 : its[i]? = some y := by simpa using hy
      rw [hu] at h1
      exact (Option.some.inj h1).symm
    subst ey
    refine ⟨_, rfl, wpAny_letOwnedTupleGo_enum (s := { s with heap := h', toks := tk + 1 }) ho ?_⟩
    intro h'' he' sb
    have hT2 : h''.get? s.heap.objs.size = some { cls := .type "tuple", data := .seq #[.int i tk, y] } := (sb.2 _ (Nat.ne_of_gt hel)).trans hT
    have new : ObjOk X.prog X.w (upd H s.heap.objs.size (.tup [.int (i : Nat), x])) h'' s.heap.objs.size (.tup [.int (i : Nat), x]) :=
      ⟨by show 2 ≤ sizeLine; decide, [.int i tk, y], .cons ⟨_, rfl⟩ (.cons ru .nil), ⟨_, hT2, rfl, _, rfl⟩⟩
    have I1 : Inv X pins σ (upd H s.heap.objs.size (.tup [.int (i : Nat), x])) { s with heap := h'', toks := tk + 1 } := by
      refine I.turnedNew (ch := [e, it]) ?_ hf (Nat.le_refl _) new
      intro b ob hb q
      exact (sb.2 b (fun z => hb (by simp [z]))).trans (hk b ob (fun z => hb (by simp [z])) (fun z => hb (by simp [z])) q)
    refine ⟨.ref s.heap.objs.size, _, I1, rfl, ⟨_, x, rfl, I.hok.fresh (Nat.le_refl _), rfl, fun ys hy => by rw [I.tuple_inj hy hq]; exact hx⟩, ⟨⟨y, ?_⟩, hst.1.at fun o q => (sb.2 it (Ne.symm hne)).trans q, hne⟩, fun b hb => ?_⟩
    · have e1 : ((i + 1 : Nat) : Int) = (i : Int) + 1 := by omega
      rw [e1]
      exact he'
    · have hb' : b < s.heap.objs.size := by
        have e' : b = e ∨ b = it := by simpa using hb
        rcases e' with z | z
        · rw [z]
          exact hel
        · rw [z]
          exact hil
      rw [upd_ne (Nat.ne_of_lt hb')]
      exact (hf b hb).1
  done := by
    intro X hP hw hK hc i pins s σ H E I hf st hg
    subst hP hw hK
    obtain ⟨⟨old, he⟩, hit, hne⟩ := st
    obtain ⟨xs, hq, hx⟩ := hg
    obtain ⟨its, rv, p, hz⟩ := I.tuple hq
    obtain ⟨f0, f1, f2, f3, f4, f5⟩ := hf it (by simp)
    have hl := rv.length
    have hp : s.heap.IsTuple a its.toArray := p
    have nai : a ≠ it := by
      obtain ⟨oi, qi, ci, _⟩ := hit
      exact tup_ne hp qi (by rw [ci]; exact fun z => absurd (Value.type.inj z) (by decide))
    have hsz : its.toArray.size = i := by
      rw [List.size_toArray, ← hl]
      exact hx
    refine wpAny_pyNext_enum_endD (Draws.tuple (show X.A.in1.handled = none from I.ok.hd hc) it a nai its.toArray) he ⟨by rw [hsz]; exact hit, hp⟩ ?_
    intro h' eb
    exact ⟨rfl, I.turned (t' := s.toks) (fun b o hb q => eb b o hb q) f0 f1 f3 f4 f5⟩
  self := fun A i s Q E st h => by
    obtain ⟨⟨_, he⟩, _⟩ := st
    exact wpAny_pyIter_enum he h
def iEnumT (K : PySem.W.Frag) (ta : TA) : TI := fun σ H R => ta σ H fun vs H1 => ∃ a xs, vs = [.ref a] ∧ SqT K H1 a xs ∧ R (IteT K a) H1
theorem pi_enumT {X : Cx} {e : Expr} {ta : TA} {p pos tpos : Pos} {elts : List Expr} {kk : Nat} (hg : Gl X "enumerate") (hm : X.mg "enumerate" = none) (ha : PA X [e] ta) (hs : starEach [e] X.env = [(false, eval e X.env)] := by rfl) :
    PI X (.Tuple elts kk tpos) (.Call (.Name "enumerate" p) [e] [] pos) (iEnumT X.K ta) := by
  refine ⟨fun pins s σ H R I h => ?_⟩
  refine Call_ (ld_blt I hg hm boot_enumerate (PyProof.Rows.callWith_type1 (thn (ha.run pos pins s σ H _ I h) fun us s1 hh => ?_) hs rfl))
  obtain ⟨vs, H1, I1, r1, a, xs, ex, hq, q⟩ := hh
  subst ex
  cases r1 with
  | cons r rr =>
    cases rr
    cases r
    obtain ⟨its, rv, p', hz⟩ := I1.tuple hq
    refine eg_call_enumT p' ?_
    intro h' he hit hsz hk
    refine wpAny_pyIter_enum he ?_
    have I2 : Inv X pins σ H1 { s1 with heap := h' } := I1.kept (t' := s1.toks) hk
    refine ⟨s1.heap.objs.size + 1, [s1.heap.objs.size + 1, s1.heap.objs.size], _, _, H1, rfl, I2, turn_enumT a (s1.heap.objs.size + 1) s1.heap.objs.size, ⟨⟨.none, he⟩, hit, Nat.succ_ne_self _⟩, fun b hb => ?_, q⟩
    have hle : s1.heap.objs.size ≤ b := by
      have e' : b = s1.heap.objs.size + 1 ∨ b = s1.heap.objs.size := by simpa using hb
      rcases e' with z | z
      · rw [z]
        exact Nat.le_add_right _ _
      · rw [z]
        exact Nat.le_refl _
    exact I1.fpOk hle (I1.hok.fresh hle)
theorem walk_enumT {K : PySem.W.Frag} {a : Addr} {xs : List V} : Walk (IteT K a) xs.length (fun H => SqT K H a xs) (YPair (fun i => some (.int (i : Nat))) (fun i => xs[i]?)) := by
  refine ⟨fun i _ hi q => ⟨xs, xs[i], q, by simp [hi]⟩, fun _ q => ⟨xs, q, rfl⟩, fun i H v H' _ q y => ?_⟩
  obtain ⟨T, x, h1, h2, h3, h4⟩ := y
  exact ⟨T, .int (i : Nat), x, h1, h2, h3, rfl, h4 xs q⟩
end Eg
end

section
set_option Elab.async false
set_option linter.all false
set_option maxRecDepth 100000
set_option maxHeartbeats 4000000
/-! try: .. except X as n: .. except Y as n: .., what the body raises is one of them -/
namespace Eg
open PySem PySem.Spec PyProof.Rows L2 Evl
/-- the ends of a suite whose name is let go behind it -/
def dropN (i : Nat) (D : Ends) : Ends := { nx := fun σ' H' => D.nx (σ'.set i none) H', rt := D.rt, bk := fun σ' H' => D.bk (σ'.set i none) H', ct := fun σ' H' => D.ct (σ'.set i none) H' }
abbrev SuX := Addr → Value → Option Addr → TS
def wTwo (K : PySem.W.Frag) (c1 c2 : Value) (i : Nat) (t1 t2 : SuX) (D : Ends) : WX := fun cls d σ H =>
  (PySem.W.exmOne K cls c1 = some true ∧ ∀ a, H a = none → t1 a cls d (dropN i D) (σ.set i (some (.ref a))) H) ∨
  (PySem.W.exmOne K cls c1 = some false ∧ PySem.W.exmOne K cls c2 = some true ∧ ∀ a, H a = none → t2 a cls d (dropN i D) (σ.set i (some (.ref a))) H)
section
variable {X : Cx} {x1 x2 n : Str} {c1 c2 : Value} {i : Nat} {body su1 su2 : List Stmt} {b1 b2 : Stmt} {np1 np2 pos p1 p2 : Pos} {tb : WX → TS} {t1 t2 : SuX}
theorem ps_try_as2 (hs : X.stack = X.env :: X.outer) (hf : X.env.frame = some X.env.locals) (hN : X.N.Nodup) (hi : X.N[i]? = some n) (hln : X.env.kindOf n = some .local) (hc1 : Names X x1 c1) (hc2 : Names X x2 c2)
    (hb : ∀ (W : WX) (pn : List (Addr × Obj)) (xe : Value → Shared → Prop), Takes (X.tr pn xe) W → PassesOwn (model X.prog X.w) X.A X.env xe → PSs (X.tr pn xe) body (tb W))
    (hs1 : ∀ (a : Addr) (oe : Obj) (cls : Value) (d : Option Addr) (pn : List (Addr × Obj)), Zc cls d oe → (∃ vs, oe.data = .fields vs) → PSs (X.suite a ((a, oe) :: pn)) (b1 :: su1) (t1 a cls d))
    (hs2 : ∀ (a : Addr) (oe : Obj) (cls : Value) (d : Option Addr) (pn : List (Addr × Obj)), Zc cls d oe → (∃ vs, oe.data = .fields vs) → PSs (X.suite a ((a, oe) :: pn)) (b2 :: su2) (t2 a cls d)) :
    PS X (.Try body [.ExceptHandler (some (.Name x1 np1)) (some n) (b1 :: su1) p1, .ExceptHandler (some (.Name x2 np2)) (some n) (b2 :: su2) p2] [] [] pos) (fun D σ H => tb (wTwo X.K c1 c2 i t1 t2 D) D σ H) := by
  refine ⟨fun pins s σ H D I h => ?_⟩
  have ok := I.ok
  have hfr : X.A.frames = some (X.env :: X.outer) := by rw [ok.frames, hs]
  refine wpAny_Try_except ?_
  have body_ok := hb (wTwo X.K c1 c2 i t1 t2 D) (X.pn ++ pins) (fun e s₁ => wpAny (model X.prog X.w) X.A (noteFrame e X.env) (fun _ s₂ => wpAny (model X.prog X.w) X.A (setFlight e none) (fun _ s₃ =>
    wpAny (model X.prog X.w) X.A (handleBy e X.env [.ExceptHandler (some (.Name x1 np1)) (some n) (b1 :: su1) p1, .ExceptHandler (some (.Name x2 np2)) (some n) (b2 :: su2) p2]) (SP X pins D) X.xe s₃) X.xe s₂) X.xe s₁)
  refine wpAny_mono ((body_ok ?_ PassesOwn.looking).run [] s σ H D (I.toTry _) h) ?_ (fun e s1 he => he)
  · intro u s' xx
    obtain ⟨a, B, sI, pins', σ', H', cls, d, rfl, J', nb, up, sky, na, os, ag, w⟩ := xx
    have J : Inv X pins σ' H' sI := J'.ofTry ok
    have sky' : Sky B (X.env :: X.outer) a (Zc cls d) X.env.locals s'.heap := by rw [← hs]; exact sky
    show wpAny (model X.prog X.w) X.A (noteFrame (.ref a) X.env) _ _ _
    refine Sky.land Zc.steady hfr hf sky' ?_
    intro h3 fl3 up3
    have J3 : Inv X pins σ' H' { s' with heap := h3 } := J.landed nb fl3.1 (up.trans up3) os ag
    obtain ⟨oe3, vs3, he3, hz3, hd3⟩ := fl3.there
    have nfr : a ∉ frs (X.env :: X.outer) := by
      intro hm
      obtain ⟨_, o', e', hnf⟩ := fl3.2.2.1.mem hm
      rw [he3] at e'
      cases e'
      exact hnf _ hd3
    have nL : a ≠ X.env.locals := fun z => nfr (List.mem_filterMap.mpr ⟨X.env, List.mem_cons_self, by rw [hf, z]⟩)
    have nF : a ∉ X.fs := by
      intro hm
      obtain ⟨e, he, q⟩ := List.mem_filterMap.mp hm
      exact nfr (List.mem_filterMap.mpr ⟨e, List.mem_cons_of_mem _ he, q⟩)
    have S3 := J3.suite he3 hd3 na nL nF
    have LT : PySem.W.Looks (model X.prog X.w) h3 (typeOf (.ref a)) cls := fun A Q E s k q => wpAny_typeOf_ref (k _ _ he3) (by rw [hz3.1]; exact q)
    have test : ∀ {x : Str} {c : Value} {np : Pos} {Q : Value → Shared → Prop} {E : Value → Shared → Prop}, Names X x c → Q c { s' with heap := h3 } →
        wpAny (model X.prog X.w) (X.A.mark (some (.ref a))) (eval (.Name x np) X.env) Q E { s' with heap := h3 } := by
      intro x c np Q E hc q
      obtain ⟨hg, hdbg, hm | ⟨hm, hv, hnn⟩⟩ := hc
      · exact ld_glob (X := X.suite a ((a, oe3) :: (X.pn ++ pins))) S3 hg hm q hdbg
      · exact ld_blt (X := X.suite a ((a, oe3) :: (X.pn ++ pins))) S3 hg hm hv q hnn hdbg
    -- a suite that takes it
    have suite : ∀ {t : SuX} {b : Stmt} {su : List Stmt} {p : Pos} {c : Value} {np : Pos} {x : Str} {hds : List ExceptHandler}, Names X x c → PySem.W.exmOne X.K cls c = some true →
        (∀ (a : Addr) (oe : Obj) (cls : Value) (d : Option Addr) (pn : List (Addr × Obj)), Zc cls d oe → (∃ vs, oe.data = .fields vs) → PSs (X.suite a ((a, oe) :: pn)) (b :: su) (t a cls d)) →
        (∀ a, H' a = none → t a cls d (dropN i D) (σ'.set i (some (.ref a))) H') →
        wpAny (model X.prog X.w) X.A (handleBy (.ref a) X.env (.ExceptHandler (some (.Name x np)) (some n) (b :: su) p :: hds)) (SP X pins D) X.xe { s' with heap := h3 } := by
      intro t b su p c np x hds hc hm hsu hy
      refine wpAny_handleBy_cons (codeAny_handlers_test ?_) (by intro q; cases q)
      refine test hc ((PySem.W.exm_one (M := model X.prog X.w) J3.kIn LT hm).here ?_)
      refine codeAny_handlers_suite_as ?_
      refine HandSPX.lands_againZ fl3 ?_
      intro h4 fl4 up4
      have J4 : Inv X pins σ' H' { s' with heap := h4 } := J.landed nb fl4.1 ((up.trans up3).trans up4) os ag
      obtain ⟨oe4, vs4, he4, hz4, hd4⟩ := fl4.there
      have S4 := J4.suite he4 hd4 na nL nF
      refine store_ok (X := X.suite a ((a, oe4) :: (X.pn ++ pins))) (v := .ref a) S4 hN hi (.inl hln) rfl (fun s5 S5 => ?_) (.inr hln)
      refine wpAny_mono ((hsu a oe4 cls d (X.pn ++ pins) hz4 ⟨_, hd4⟩).run [] s5 _ H' _ S5 (hy a na)) ?_ (fun _ _ z => False.elim z)
      intro f s6 hsp
      have fin : ∀ {σ6 : L2.St} {H6 : Hp} {Q : Shared → Prop}, Inv (X.suite a ((a, oe4) :: (X.pn ++ pins))) [] σ6 H6 s6 → (∀ s7, Inv X pins (σ6.set i none) H6 s7 → Q s7) →
          wpAny (model X.prog X.w) X.A (do bindName X.env n .none; unbindBehindTheSuite X.env n p) (fun _ s7 => Q s7) X.xe s6 := fun {σ6 H6 Q} S6 hq => gone_ok (S6.unsuite ok) hN hi hln hq
      cases f with
      | next =>
        obtain ⟨σ6, H6, S6, q6⟩ := hsp
        exact fin S6 fun s7 J7 => ⟨_, _, J7, q6⟩
      | brk =>
        obtain ⟨σ6, H6, S6, q6⟩ := hsp
        exact fin S6 fun s7 J7 => ⟨_, _, J7, q6⟩
      | cont =>
        obtain ⟨σ6, H6, S6, q6⟩ := hsp
        exact fin S6 fun s7 J7 => ⟨_, _, J7, q6⟩
      | ret u =>
        obtain ⟨v6, σ6, H6, S6, r6, q6⟩ := hsp
        exact fin S6 fun s7 J7 => ⟨_, _, _, J7, r6, q6⟩
    rcases w with ⟨e1, y1⟩ | ⟨e1, e2, y2⟩
    · exact suite hc1 e1 hs1 y1
    · refine wpAny_handleBy_cons (codeAny_handlers_test ?_) (by intro q; cases q)
      refine test hc1 ((PySem.W.exm_one (M := model X.prog X.w) J3.kIn LT e1).here ?_)
      show wpAny _ X.A (handleBy (.ref a) X.env [.ExceptHandler (some (.Name x2 np2)) (some n) (b2 :: su2) p2]) _ _ _
      exact suite hc2 e2 hs2 y2
  · intro f s1 hsp
    cases f with
    | next =>
      obtain ⟨σ', H', J', q⟩ := hsp
      exact wpAny_execs_nil ⟨σ', H', J'.ofTry ok, q⟩
    | brk =>
      obtain ⟨σ', H', J', q⟩ := hsp
      exact ⟨σ', H', J'.ofTry ok, q⟩
    | cont =>
      obtain ⟨σ', H', J', q⟩ := hsp
      exact ⟨σ', H', J'.ofTry ok, q⟩
    | ret u =>
      obtain ⟨v, σ', H', J', r, q⟩ := hsp
      exact ⟨v, σ', H', J'.ofTry ok, r, q⟩
end
end Eg
end

section
set_option Elab.async false
set_option linter.all false
set_option maxRecDepth 100000
set_option maxHeartbeats 4000000
/-! the text's places; what the head shows -/
namespace Eg
open PySem PySem.Spec PyProof.Rows L2 Evl
def top (i : Nat) : Stmt := PySem.Challenge.pw_everygrain_k25_whole_old_windows_stay.main.body.getD i (.Pass ⟨0, 0, 0, 0⟩)
abbrev s_is_list : Stmt := top 20
abbrev s_is_integer : Stmt := top 21
abbrev s_is_value : Stmt := top 22
abbrev s_is_count : Stmt := top 23
abbrev s_is_file_name : Stmt := top 24
abbrev s_is_word : Stmt := top 25
abbrev s_is_name : Stmt := top 26
abbrev s_pairs_of : Stmt := top 30
abbrev s_are_pairs : Stmt := top 31
abbrev s_check_series : Stmt := top 33
abbrev s_is_put : Stmt := top 35
abbrev s_is_take : Stmt := top 36
abbrev s_is_clock : Stmt := top 37
abbrev s_is_deed : Stmt := top 38
abbrev s_check_deed : Stmt := top 39
abbrev s_check_let : Stmt := top 40
abbrev s_is_point : Stmt := top 42
abbrev s_is_points : Stmt := top 43
abbrev s_fold_of : Stmt := top 44
abbrev s_fold : Stmt := top 45
abbrev s_is_row : Stmt := top 48
abbrev s_may_follow : Stmt := top 49
abbrev s_are_rules : Stmt := top 50
abbrev s_check_time : Stmt := top 51
abbrev s_check_windows : Stmt := top 59
abbrev s_check_told : Stmt := top 61
abbrev s__law_cell : Stmt := top 65
abbrev s__law_box : Stmt := top 66
abbrev s__law_take : Stmt := top 67
abbrev s__law_made : Stmt := top 69
abbrev s__law_rules : Stmt := top 70
abbrev s__law_edge : Stmt := top 71
abbrev s__law_gone : Stmt := top 72
abbrev s__law_fold : Stmt := top 73
abbrev s__law_joined : Stmt := top 74
abbrev s__law_deed : Stmt := top 75
abbrev s__law_due : Stmt := top 76
abbrev s__law_told : Stmt := top 77
abbrev s__law_folds_told : Stmt := top 78
abbrev s__law_old : Stmt := top 79
abbrev s__law_ledger_right : Stmt := top 80
abbrev s__law_parts_right : Stmt := top 81
abbrev s__law_right : Stmt := top 82
abbrev s_law : Stmt := top 83
abbrev s_check_window_grains : Stmt := top 52
abbrev s_Rules_check_grain : Stmt := inClass (top 54) 3
abbrev s_Rules_keep : Stmt := inClass (top 54) 5
abbrev s_Rules_step : Stmt := inClass (top 54) 6
abbrev s_Rules_edge : Stmt := inClass (top 54) 7
abbrev s_Rules_stands : Stmt := inClass (top 54) 8
abbrev s_Rules_fitting : Stmt := inClass (top 54) 11
abbrev s_Rules_teller : Stmt := inClass (top 54) 12
abbrev s_Plain_do : Stmt := inClass (top 63) 1
abbrev s_Plain__put : Stmt := inClass (top 63) 2
abbrev s_Plain__take : Stmt := inClass (top 63) 3
abbrev s_Plain__between : Stmt := inClass (top 63) 4
abbrev s_Plain_folds : Stmt := inClass (top 63) 10
abbrev s_Series_text : Stmt := inClass (top 32) 2
abbrev s_Series_init : Stmt := inClass (top 32) 0
abbrev s_Rules_init : Stmt := inClass (top 54) 0
abbrev s_Plain_init : Stmt := inClass (top 63) 0
abbrev s_Gone_init : Stmt := inClass (top 14) 0
abbrev s_ClockBack_init : Stmt := inClass (top 15) 0
/-- a def of the module under the name g -/
structure DefF (K : PySem.W.Frag) (mg : Str → Option Value) (g x : Str) (st : Stmt) : Prop where
  ex : ∃ fd, FunD K x x (defArgs st) (defBody st) (defScope st) [] [] (He.ga K g) fd
  mgf : mg g = some (.ref (He.ga K g))
/-- a method -/
structure MetF (K : PySem.W.Frag) (c m qual : Str) (st : Stmt) : Prop where
  ex : ∃ fd, FunD K m qual (defArgs st) (defBody st) (defScope st) [] [] (He.ma K (He.ga K c) m) fd
  me : Meth K (He.ga K c) m (He.ma K (He.ga K c) m)
/-- an exception class's own __init__ -/
structure ExI (K : PySem.W.Frag) (c : Str) : Prop where
  iC : PySem.W.findIn K (.ref (He.ga K c)) "__init__" = some (some (.ref (He.ma K (He.ga K c) "__init__")))
  tI : PySem.W.typeIn K (.ref (He.ma K (He.ga K c) "__init__")) = some (.type "function")
def exiB (c : Str) (K : PySem.W.Frag) : Bool := decide (PySem.W.findIn K (.ref (He.ga K c)) "__init__" = some (some (.ref (He.ma K (He.ga K c) "__init__")))) && decide (PySem.W.typeIn K (.ref (He.ma K (He.ga K c) "__init__")) = some (.type "function"))
theorem exi_of {c : Str} {K : PySem.W.Frag} (h : exiB c K = true) : ExI K c := by
  obtain ⟨h1, h2⟩ := Bool.and_eq_true_iff.mp h
  exact ⟨of_decide_eq_true h1, of_decide_eq_true h2⟩
def insB (c : Str) (K : PySem.W.Frag) : Bool := decide (PySem.W.findIn K (.ref (He.ga K c)) "__class__" = some (some (.builtin "object.__class__"))) && (decide (PySem.W.specialIn K (.builtin "object.__class__") "__get__" = some (some (.builtin "getset_descriptor.__get__"))) &&
  (decide (PySem.W.takesIn K (.builtin "object.__class__") = some true) && (decide (PySem.W.mroIn K (He.ga K c) (.type "object") = some true) && decide (PySem.W.kitOne K (.ref (He.ga K c)) (.ref (He.ga K c)) = some true))))
theorem ins_of {c : Str} {K : PySem.W.Frag} (cl : Cls K (He.ga K c)) (h : insB c K = true) : C8.InsC K (He.ga K c) := by
  obtain ⟨h1, h⟩ := Bool.and_eq_true_iff.mp h
  obtain ⟨h2, h⟩ := Bool.and_eq_true_iff.mp h
  obtain ⟨h3, h⟩ := Bool.and_eq_true_iff.mp h
  obtain ⟨h4, h5⟩ := Bool.and_eq_true_iff.mp h
  exact ⟨cl, of_decide_eq_true h1, of_decide_eq_true h2, of_decide_eq_true h3, of_decide_eq_true h4, of_decide_eq_true h5⟩
def cfEq : Option PySem.W.CFound → Bool
  | some (.val (.builtin n)) => decide (n = "Exception.__init__")
  | _ => false
theorem cf_of {x : Option PySem.W.CFound} (h : cfEq x = true) : x = some (.val (.builtin "Exception.__init__")) := by
  unfold cfEq at h
  split at h
  · have e := of_decide_eq_true h
    subst e
    rfl
  · cases h
def grB (K : PySem.W.Frag) : Bool := decide (PySem.W.specialIn K (.ref (He.ga K "GrainError")) "__getattribute__" = some (some (.builtin "type.__getattribute__"))) && (PySem.W.readsIn K (He.ga K "GrainError") (.type "type") &&
  cfEq (PySem.W.findCls K (.ref (He.ga K "GrainError")) (.type "type") "__init__"))
theorem gr_of {K : PySem.W.Frag} (h : grB K = true) : GCls K (He.ga K "GrainError") := by
  obtain ⟨h1, h⟩ := Bool.and_eq_true_iff.mp h
  obtain ⟨h2, h3⟩ := Bool.and_eq_true_iff.mp h
  exact ⟨of_decide_eq_true h1, h2, cf_of h3⟩
/-- all of it -/
structure Fx (K : PySem.W.Frag) (mg : Str → Option Value) : Prop where
  d_is_list : DefF K mg "is_list" "is_list" s_is_list
  d_is_integer : DefF K mg "is_integer" "is_integer" s_is_integer
  d_is_value : DefF K mg "is_value" "is_value" s_is_value
  d_is_count : DefF K mg "is_count" "is_count" s_is_count
  d_is_file_name : DefF K mg "is_file_name" "is_file_name" s_is_file_name
  d_is_word : DefF K mg "is_word" "is_word" s_is_word
  d_is_name : DefF K mg "is_name" "is_name" s_is_name
  d_pairs_of : DefF K mg "pairs_of" "pairs_of" s_pairs_of
  d_are_pairs : DefF K mg "are_pairs" "are_pairs" s_are_pairs
  d_check_series : DefF K mg "check_series" "check_series" s_check_series
  d_is_put : DefF K mg "is_put" "is_put" s_is_put
  d_is_take : DefF K mg "is_take" "is_take" s_is_take
  d_is_clock : DefF K mg "is_clock" "is_clock" s_is_clock
  d_is_deed : DefF K mg "is_deed" "is_deed" s_is_deed
  d_check_deed : DefF K mg "check_deed" "check_deed" s_check_deed
  d_check_let : DefF K mg "check_let" "check_let" s_check_let
  d_is_point : DefF K mg "is_point" "is_point" s_is_point
  d_is_points : DefF K mg "is_points" "is_points" s_is_points
  d_fold_of : DefF K mg "fold_of" "fold_of" s_fold_of
  d_fold : DefF K mg "fold" "fold" s_fold
  d_is_row : DefF K mg "is_row" "is_row" s_is_row
  d_may_follow : DefF K mg "may_follow" "may_follow" s_may_follow
  d_are_rules : DefF K mg "are_rules" "are_rules" s_are_rules
  d_check_time : DefF K mg "check_time" "check_time" s_check_time
  d_check_windows : DefF K mg "check_windows" "check_windows" s_check_windows
  d_check_told : DefF K mg "check_told" "check_told" s_check_told
  d__law_cell : DefF K mg "_law_cell" "_law_cell" s__law_cell
  d__law_box : DefF K mg "_law_box" "_law_box" s__law_box
  d__law_take : DefF K mg "_law_take" "_law_take" s__law_take
  d__law_made : DefF K mg "_law_made" "_law_made" s__law_made
  d__law_rules : DefF K mg "_law_rules" "_law_rules" s__law_rules
  d__law_edge : DefF K mg "_law_edge" "_law_edge" s__law_edge
  d__law_gone : DefF K mg "_law_gone" "_law_gone" s__law_gone
  d__law_fold : DefF K mg "_law_fold" "_law_fold" s__law_fold
  d__law_joined : DefF K mg "_law_joined" "_law_joined" s__law_joined
  d__law_deed : DefF K mg "_law_deed" "_law_deed" s__law_deed
  d__law_due : DefF K mg "_law_due" "_law_due" s__law_due
  d__law_told : DefF K mg "_law_told" "_law_told" s__law_told
  d__law_folds_told : DefF K mg "_law_folds_told" "_law_folds_told" s__law_folds_told
  d__law_old : DefF K mg "_law_old" "_law_old" s__law_old
  d__law_ledger_right : DefF K mg "_law_ledger_right" "_law_ledger_right" s__law_ledger_right
  d__law_parts_right : DefF K mg "_law_parts_right" "_law_parts_right" s__law_parts_right
  d__law_right : DefF K mg "_law_right" "_law_right" s__law_right
  d_law : DefF K mg "law" "law" s_law
  d_check_window_grains : DefF K mg "check_window_grains" "check_window" s_check_window_grains
  m_Rules_check_grain : MetF K "Rules" "check_grain" "Rules.check_grain" s_Rules_check_grain
  m_Rules_keep : MetF K "Rules" "keep" "Rules.keep" s_Rules_keep
  m_Rules_step : MetF K "Rules" "step" "Rules.step" s_Rules_step
  m_Rules_edge : MetF K "Rules" "edge" "Rules.edge" s_Rules_edge
  m_Rules_stands : MetF K "Rules" "stands" "Rules.stands" s_Rules_stands
  m_Rules_fitting : MetF K "Rules" "fitting" "Rules.fitting" s_Rules_fitting
  m_Rules_teller : MetF K "Rules" "teller" "Rules.teller" s_Rules_teller
  m_Plain_do : MetF K "Plain" "do" "Plain.do" s_Plain_do
  m_Plain__put : MetF K "Plain" "_put" "Plain._put" s_Plain__put
  m_Plain__take : MetF K "Plain" "_take" "Plain._take" s_Plain__take
  m_Plain__between : MetF K "Plain" "_between" "Plain._between" s_Plain__between
  m_Plain_folds : MetF K "Plain" "folds" "Plain.folds" s_Plain_folds
  m_Series_text : MetF K "Series" "text" "Series.text" s_Series_text
  i_Series : ∃ fd, FunD K "__init__" "Series.__init__" (defArgs s_Series_init) (defBody s_Series_init) (defScope s_Series_init) [.ref (He.dflAt ("Series", some "__init__") 0 K)] [] (He.ma K (He.ga K "Series") "__init__") fd
  i_Rules : ∃ fd, FunD K "__init__" "Rules.__init__" (defArgs s_Rules_init) (defBody s_Rules_init) (defScope s_Rules_init) [] [] (He.ma K (He.ga K "Rules") "__init__") fd
  i_Plain : ∃ fd, FunD K "__init__" "Plain.__init__" (defArgs s_Plain_init) (defBody s_Plain_init) (defScope s_Plain_init) [] [] (He.ma K (He.ga K "Plain") "__init__") fd
  i_Gone : ∃ fd, FunD K "__init__" "Gone.__init__" (defArgs s_Gone_init) (defBody s_Gone_init) (defScope s_Gone_init) [] [] (He.ma K (He.ga K "Gone") "__init__") fd
  i_ClockBack : ∃ fd, FunD K "__init__" "ClockBack.__init__" (defArgs s_ClockBack_init) (defBody s_ClockBack_init) (defScope s_ClockBack_init) [] [] (He.ma K (He.ga K "ClockBack") "__init__") fd
  c_Series : Cls K (He.ga K "Series")
  k_Series : Mk K (He.ga K "Series") (He.ma K (He.ga K "Series") "__init__")
  c_Rules : Cls K (He.ga K "Rules")
  k_Rules : Mk K (He.ga K "Rules") (He.ma K (He.ga K "Rules") "__init__")
  c_Plain : Cls K (He.ga K "Plain")
  k_Plain : Mk K (He.ga K "Plain") (He.ma K (He.ga K "Plain") "__init__")
  o_Series : C8.InsC K (He.ga K "Series")
  o_Rules : C8.InsC K (He.ga K "Rules")
  g_Series : mg "Series" = some (.ref (He.ga K "Series"))
  g_Rules : mg "Rules" = some (.ref (He.ga K "Rules"))
  g_Plain : mg "Plain" = some (.ref (He.ga K "Plain"))
  g_Gone : mg "Gone" = some (.ref (He.ga K "Gone"))
  g_ClockBack : mg "ClockBack" = some (.ref (He.ga K "ClockBack"))
  g_GrainError : mg "GrainError" = some (.ref (He.ga K "GrainError"))
  a_Rules_rows : PySem.W.findIn K (.ref (He.ga K "Rules")) "rows" = some none
  a_Series_name : PySem.W.findIn K (.ref (He.ga K "Series")) "name" = some none
  a_Series_tags : PySem.W.findIn K (.ref (He.ga K "Series")) "tags" = some none
  a_Plain_rules : PySem.W.findIn K (.ref (He.ga K "Plain")) "_rules" = some none
  a_Plain_clock : PySem.W.findIn K (.ref (He.ga K "Plain")) "_clock" = some none
  a_Plain_done : PySem.W.findIn K (.ref (He.ga K "Plain")) "_done" = some none
  a_Plain_known : PySem.W.findIn K (.ref (He.ga K "Plain")) "_known" = some none
  a_Plain_rows : PySem.W.findIn K (.ref (He.ga K "Plain")) "_rows" = some none
  a_Gone_time : PySem.W.findIn K (.ref (He.ga K "Gone")) "time" = some none
  a_Gone_grain : PySem.W.findIn K (.ref (He.ga K "Gone")) "grain" = some none
  a_ClockBack_now : PySem.W.findIn K (.ref (He.ga K "ClockBack")) "now" = some none
  e_Gone : ExC K (He.ga K "Gone")
  x_Gone : L2.XfC K (He.ga K "Gone")
  f_Gone : ExI K "Gone"
  e_ClockBack : ExC K (He.ga K "ClockBack")
  x_ClockBack : L2.XfC K (He.ga K "ClockBack")
  f_ClockBack : ExI K "ClockBack"
  t_Gone_Gone : PySem.W.exmOne K (.ref (He.ga K "Gone")) (.ref (He.ga K "Gone")) = some true
  t_ClockBack_Gone : PySem.W.exmOne K (.ref (He.ga K "ClockBack")) (.ref (He.ga K "Gone")) = some false
  t_ClockBack_ClockBack : PySem.W.exmOne K (.ref (He.ga K "ClockBack")) (.ref (He.ga K "ClockBack")) = some true
  grain : GCls K (He.ga K "GrainError")
  n_isinstance : mg "isinstance" = none
  n_len : mg "len" = none
  n_all : mg "all" = none
  n_sorted : mg "sorted" = none
  n_tuple : mg "tuple" = none
  n_list : mg "list" = none
  n_dict : mg "dict" = none
  n_int : mg "int" = none
  n_bool : mg "bool" = none
  n_str : mg "str" = none
  n_enumerate : mg "enumerate" = none
  n_range : mg "range" = none
  n_min : mg "min" = none
  n_max : mg "max" = none
  n_sum : mg "sum" = none
  n_abs : mg "abs" = none
  n_repr : mg "repr" = none
  v_MOST_SIGNS : ∃ t, mg "MOST_SIGNS" = some (.int 24 t)
  v_MOST_TAGS : ∃ t, mg "MOST_TAGS" = some (.int 6 t)
  v_MOST_GRAINS : ∃ t, mg "MOST_GRAINS" = some (.int 4 t)
  v_MOST_WINDOWS : ∃ t, mg "MOST_WINDOWS" = some (.int 400 t)
  v_LETTERS : ∃ t, mg "LETTERS" = some (.str "abcdefghijklmnopqrstuvwxyz" t)
  v_SIGNS : ∃ t, mg "SIGNS" = some (.str "abcdefghijklmnopqrstuvwxyz0123456789-" t)
  v_NAME : ∃ t, mg "NAME" = some (.str "name" t)
end Eg
end

section
set_option Elab.async false
set_option linter.all false
set_option maxRecDepth 100000
set_option maxHeartbeats 4000000
/-! promises, bundles, readings -/
namespace Eg
open PySem PySem.Spec PyProof.Rows L2 Evl C8
theorem hu64 {k : Nat} {A : Around} (hr : Room k A) : A.units + 64 < cLine := by
  have h := hr.units
  omega
/-- n values; what comes back and the heap behind satisfy P -/
def SG (n : Nat) (R : List V → Hp → (V → Hp → Prop) → Prop) : Sp := fun vs H Q _ => vs.length = n ∧ ∃ P, R vs H P ∧ ∀ v H', Ex H H' → P v H' → Q v H'
/-- n values; one value comes back -/
def SV (n : Nat) (R : List V → Hp → V → Prop) : Sp := fun vs H Q _ => vs.length = n ∧ ∃ z, R vs H z ∧ ∀ H', Ex H H' → Q z H'
/-- n values; new data come back -/
def SD (n : Nat) (R : List V → Hp → PyData → Prop) : Sp := fun vs H Q _ => vs.length = n ∧ ∃ d, R vs H d ∧ ∀ v H', Ex H H' → DA (fun a => H a = none) H' d v → Q v H'
theorem SV.len {n : Nat} {R : List V → Hp → V → Prop} : ∀ vs H Q E, SV n R vs H Q E → vs.length = n := fun _ _ _ _ h => h.1
theorem SD.len {n : Nat} {R : List V → Hp → PyData → Prop} : ∀ vs H Q E, SD n R vs H Q E → vs.length = n := fun _ _ _ _ h => h.1
theorem SG.len {n : Nat} {R : List V → Hp → (V → Hp → Prop) → Prop} : ∀ vs H Q E, SG n R vs H Q E → vs.length = n := fun _ _ _ _ h => h.1
section
variable {P : Program} {w : World} {K : PySem.W.Frag} {mg : Str → Option Value} {base : Heap}
/-- a def that may raise -/
structure CalX (P : Program) (w : World) (K : PySem.W.Frag) (mg : Str → Option Value) (base : Heap) (k : Nat) (x : Str) (sp : Sp) : Prop where
  ex : ∃ (f : Addr) (fd : FuncData) (ps : List Str), FnOk P w K mg base (L2.CX P w) k f fd ps sp ∧ mg x = some (.ref f) ∧ PySem.W.keepIn K (.ref f) = true ∧ Binds K fd ps []
structure MetX (P : Program) (w : World) (K : PySem.W.Frag) (mg : Str → Option Value) (base : Heap) (k : Nat) (C : Addr) (m : Str) (sp : Sp) : Prop where
  ex : ∃ (f : Addr) (fd : FuncData) (ps : List Str), Cls K C ∧ Meth K C m f ∧ FnOk P w K mg base (L2.CX P w) k f fd ps sp ∧ Binds K fd ps []
/-- a def above repr -/
structure CalG (P : Program) (w : World) (K : PySem.W.Frag) (mg : Str → Option Value) (base : Heap) (k : Nat) (x : Str) (sp : Sp) : Prop where
  ex : ∃ (f : Addr) (fd : FuncData) (ps : List Str), FnG P w K mg base k f fd ps sp ∧ mg x = some (.ref f) ∧ PySem.W.keepIn K (.ref f) = true ∧ Binds K fd ps []
/-- an exception's making -/
structure MakX (P : Program) (w : World) (K : PySem.W.Frag) (mg : Str → Option Value) (base : Heap) (k : Nat) (x : Str) (C : Addr) (sp : Sp) : Prop where
  ex : ∃ (f : Addr) (fd : FuncData) (ps : List Str), ExC K C ∧ PySem.W.findIn K (.ref C) "__init__" = some (some (.ref f)) ∧ PySem.W.typeIn K (.ref f) = some (.type "function") ∧ FnOk P w K mg base C8.CX0 k f fd ps sp ∧ mg x = some (.ref C) ∧ Binds K fd ps []
variable {g x m qual c : Str} {st : Stmt} {N ps : List Str} {k : Nat} {sp : Sp}
theorem cal_of (D : DefF K mg g x st) (S : FnScope N ps (defScope st)) (len : ∀ vs H Q E, sp vs H Q E → vs.length = ps.length)
    (b : ∀ (kV doc pm : Value) (an : Option Addr) (cdv ct : Value) (us : List Value), us.length = ps.length → bindArgs (PySem.W.fnOf x x (defArgs st) (defBody st) (defScope st) .none kV doc pm an cdv ct) ⟨us, []⟩ = pure (ps.zip us))
    (hbody : ∀ (cdv : Value) (A : Around) (outer : List Env) (s : Shared) (H : Hp) (vs : List V) (Q : VK) (E : XK), Room k (A.deeper (envOfC x (defScope st) s.heap.objs.size (He.ga K g) cdv)) → sp vs H Q E →
      ∃ t, PSs (cxOf C8.CX0 P w K mg base N x (defScope st) (He.ga K g) cdv A outer s H E).nox (defBody st) t ∧ t { nx := fun _ H' => Q .non H', rt := Q } (start N vs) H) : C8.Cal P w K mg base (k + 1) g sp [] := by
  obtain ⟨fd, F⟩ := D.ex
  refine ⟨He.ga K g, fd, ps, [], F.ok S len (fun cdv A outer s H vs Q E hr h => ?_), D.mgf, F.kp, F.bindsN b, .nil⟩
  obtain ⟨t, h1, h2⟩ := hbody cdv A outer s H vs Q E hr h
  exact ⟨t, h1.nox, h2⟩
theorem calx_of (D : DefF K mg g x st) (S : FnScope N ps (defScope st)) (len : ∀ vs H Q E, sp vs H Q E → vs.length = ps.length)
    (b : ∀ (kV doc pm : Value) (an : Option Addr) (cdv ct : Value) (us : List Value), us.length = ps.length → bindArgs (PySem.W.fnOf x x (defArgs st) (defBody st) (defScope st) .none kV doc pm an cdv ct) ⟨us, []⟩ = pure (ps.zip us))
    (hbody : ∀ (cdv : Value) (A : Around) (outer : List Env) (s : Shared) (H : Hp) (vs : List V) (Q : VK) (E : XK), Room k (A.deeper (envOfC x (defScope st) s.heap.objs.size (He.ga K g) cdv)) → sp vs H Q E →
      ∃ t, PSs (cxOf (L2.CX P w) P w K mg base N x (defScope st) (He.ga K g) cdv A outer s H E) (defBody st) t ∧ t { nx := fun _ H' => Q .non H', rt := Q } (start N vs) H) : CalX P w K mg base (k + 1) g sp := by
  obtain ⟨fd, F⟩ := D.ex
  exact ⟨He.ga K g, fd, ps, F.ok S len hbody, D.mgf, F.kp, F.bindsN b⟩
theorem met_of (D : MetF K c m qual st) (cl : Cls K (He.ga K c)) (S : FnScope N ps (defScope st)) (len : ∀ vs H Q E, sp vs H Q E → vs.length = ps.length)
    (b : ∀ (kV doc pm : Value) (an : Option Addr) (cdv ct : Value) (us : List Value), us.length = ps.length → bindArgs (PySem.W.fnOf m qual (defArgs st) (defBody st) (defScope st) .none kV doc pm an cdv ct) ⟨us, []⟩ = pure (ps.zip us))
    (hbody : ∀ (cdv : Value) (A : Around) (outer : List Env) (s : Shared) (H : Hp) (vs : List V) (Q : VK) (E : XK), Room k (A.deeper (envOfC qual (defScope st) s.heap.objs.size (He.ma K (He.ga K c) m) cdv)) → sp vs H Q E →
      ∃ t, PSs (cxOf C8.CX0 P w K mg base N qual (defScope st) (He.ma K (He.ga K c) m) cdv A outer s H E).nox (defBody st) t ∧ t { nx := fun _ H' => Q .non H', rt := Q } (start N vs) H) : C8.Met P w K mg base (k + 1) (He.ga K c) m sp [] := by
  obtain ⟨fd, F⟩ := D.ex
  refine ⟨He.ma K (He.ga K c) m, fd, ps, [], cl, D.me, F.ok S len (fun cdv A outer s H vs Q E hr h => ?_), F.bindsN b, .nil⟩
  obtain ⟨t, h1, h2⟩ := hbody cdv A outer s H vs Q E hr h
  exact ⟨t, h1.nox, h2⟩
theorem metx_of (D : MetF K c m qual st) (cl : Cls K (He.ga K c)) (S : FnScope N ps (defScope st)) (len : ∀ vs H Q E, sp vs H Q E → vs.length = ps.length)
    (b : ∀ (kV doc pm : Value) (an : Option Addr) (cdv ct : Value) (us : List Value), us.length = ps.length → bindArgs (PySem.W.fnOf m qual (defArgs st) (defBody st) (defScope st) .none kV doc pm an cdv ct) ⟨us, []⟩ = pure (ps.zip us))
    (hbody : ∀ (cdv : Value) (A : Around) (outer : List Env) (s : Shared) (H : Hp) (vs : List V) (Q : VK) (E : XK), Room k (A.deeper (envOfC qual (defScope st) s.heap.objs.size (He.ma K (He.ga K c) m) cdv)) → sp vs H Q E →
      ∃ t, PSs (cxOf (L2.CX P w) P w K mg base N qual (defScope st) (He.ma K (He.ga K c) m) cdv A outer s H E) (defBody st) t ∧ t { nx := fun _ H' => Q .non H', rt := Q } (start N vs) H) : MetX P w K mg base (k + 1) (He.ga K c) m sp := by
  obtain ⟨fd, F⟩ := D.ex
  exact ⟨He.ma K (He.ga K c) m, fd, ps, cl, D.me, F.ok S len hbody, F.bindsN b⟩
theorem mak_of {C f : Addr} (D : ∃ fd, FunD K "__init__" qual (defArgs st) (defBody st) (defScope st) [] [] f fd) (M : Mk K C f) (hm : mg x = some (.ref C)) (S : FnScope N ps (defScope st)) (len : ∀ vs H Q E, sp vs H Q E → vs.length = ps.length)
    (b : ∀ (kV doc pm : Value) (an : Option Addr) (cdv ct : Value) (us : List Value), us.length = ps.length → bindArgs (PySem.W.fnOf "__init__" qual (defArgs st) (defBody st) (defScope st) .none kV doc pm an cdv ct) ⟨us, []⟩ = pure (ps.zip us))
    (hbody : ∀ (cdv : Value) (A : Around) (outer : List Env) (s : Shared) (H : Hp) (vs : List V) (Q : VK) (E : XK), Room k (A.deeper (envOfC qual (defScope st) s.heap.objs.size f cdv)) → sp vs H Q E →
      ∃ t, PSs (cxOf C8.CX0 P w K mg base N qual (defScope st) f cdv A outer s H E).nox (defBody st) t ∧ t { nx := fun _ H' => Q .non H', rt := Q } (start N vs) H) : C8.Mak P w K mg base (k + 1) x C sp [] := by
  obtain ⟨fd, F⟩ := D
  refine ⟨f, fd, ps, [], M, F.ok S len (fun cdv A outer s H vs Q E hr h => ?_), hm, F.bindsN b, .nil⟩
  obtain ⟨t, h1, h2⟩ := hbody cdv A outer s H vs Q E hr h
  exact ⟨t, h1.nox, h2⟩
/-- its last parameter has a default, which is given -/
theorem mak_ofD {C f : Addr} {dv : V} (D : ∃ fd, FunD K "__init__" qual (defArgs st) (defBody st) (defScope st) [dv] [] f fd) (M : Mk K C f) (hm : mg x = some (.ref C)) (S : FnScope N ps (defScope st)) (len : ∀ vs H Q E, sp vs H Q E → vs.length = ps.length)
    (b : ∀ (T : Addr) (kV doc pm : Value) (an : Option Addr) (cdv ct : Value) (us its : List Value), us.length = ps.length → its.length = 1 →
      ∃ k, bindArgs (PySem.W.fnOf "__init__" qual (defArgs st) (defBody st) (defScope st) (.ref T) kV doc pm an cdv ct) ⟨us, []⟩ = seqItems? (.ref T) >>= k ∧ k (some its.toArray) = pure (ps.zip (us ++ its.drop 1)))
    (hbody : ∀ (cdv : Value) (A : Around) (outer : List Env) (s : Shared) (H : Hp) (vs : List V) (Q : VK) (E : XK), Room k (A.deeper (envOfC qual (defScope st) s.heap.objs.size f cdv)) → sp vs H Q E →
      ∃ t, PSs (cxOf C8.CX0 P w K mg base N qual (defScope st) f cdv A outer s H E).nox (defBody st) t ∧ t { nx := fun _ H' => Q .non H', rt := Q } (start N vs) H) : C8.Mak P w K mg base (k + 1) x C sp [] := by
  obtain ⟨fd, F⟩ := D
  obtain ⟨ds, hv, hb⟩ := F.binds1 (ps := ps) ps.length 1 (by simp) (by simp) b
  cases hv
  refine ⟨f, fd, ps, [], M, F.ok S len (fun cdv A outer s H vs Q E hr h => ?_), hm, hb, .nil⟩
  obtain ⟨t, h1, h2⟩ := hbody cdv A outer s H vs Q E hr h
  exact ⟨t, h1.nox, h2⟩
theorem makx_of {C f : Addr} (D : ∃ fd, FunD K "__init__" qual (defArgs st) (defBody st) (defScope st) [] [] f fd) (ec : ExC K C) (iC : PySem.W.findIn K (.ref C) "__init__" = some (some (.ref f))) (tI : PySem.W.typeIn K (.ref f) = some (.type "function")) (hm : mg x = some (.ref C)) (S : FnScope N ps (defScope st)) (len : ∀ vs H Q E, sp vs H Q E → vs.length = ps.length)
    (b : ∀ (kV doc pm : Value) (an : Option Addr) (cdv ct : Value) (us : List Value), us.length = ps.length → bindArgs (PySem.W.fnOf "__init__" qual (defArgs st) (defBody st) (defScope st) .none kV doc pm an cdv ct) ⟨us, []⟩ = pure (ps.zip us))
    (hbody : ∀ (cdv : Value) (A : Around) (outer : List Env) (s : Shared) (H : Hp) (vs : List V) (Q : VK) (E : XK), Room k (A.deeper (envOfC qual (defScope st) s.heap.objs.size f cdv)) → sp vs H Q E →
      ∃ t, PSs (cxOf C8.CX0 P w K mg base N qual (defScope st) f cdv A outer s H E).nox (defBody st) t ∧ t { nx := fun _ H' => Q .non H', rt := Q } (start N vs) H) : MakX P w K mg base (k + 1) x C sp := by
  obtain ⟨fd, F⟩ := D
  refine ⟨f, fd, ps, ec, iC, tI, F.ok S len (fun cdv A outer s H vs Q E hr h => ?_), hm, F.bindsN b⟩
  obtain ⟨t, h1, h2⟩ := hbody cdv A outer s H vs Q E hr h
  exact ⟨t, h1.nox, h2⟩
theorem calg_of (D : ∃ fd, FunD K x x (defArgs st) (defBody st) (defScope st) [] [] (He.ga K x) fd) (hm : mg x = some (.ref (He.ga K x))) (S : FnScope N ps (defScope st)) (len : ∀ vs H Q E, sp vs H Q E → vs.length = ps.length)
    (b : ∀ (kV doc pm : Value) (an : Option Addr) (cdv ct : Value) (us : List Value), us.length = ps.length → bindArgs (PySem.W.fnOf x x (defArgs st) (defBody st) (defScope st) .none kV doc pm an cdv ct) ⟨us, []⟩ = pure (ps.zip us))
    (F : ∀ fd, FunD K x x (defArgs st) (defBody st) (defScope st) [] [] (He.ga K x) fd → FnG P w K mg base k (He.ga K x) fd ps sp) : CalG P w K mg base k x sp := by
  obtain ⟨fd, D⟩ := D
  exact ⟨He.ga K x, fd, ps, F fd D, hm, D.kp, D.bindsN b⟩
end
section
variable {X : Cx} {k j : Nat} {C : Addr} {x m : Str} {sp : Sp} {p pos apos : Pos} {e o : Expr} {es : List Expr} {ta : TE} {t : TA} {E : XK}
theorem pe_cX (c : CalX X.prog X.w X.K X.mg X.base k x sp) (hr : Room j X.A) (hk : k ≤ j) (hg : Gl X x) (hx : Passes (L2.CX X.prog X.w) X E) (ha : PA X (e :: es) t)
    (hdb : (x == ("__debug__" : Str)) = false := by decide) (he : starEach (e :: es) X.env = (false, eval e X.env) :: starEach es X.env := by rfl) (hpl : (backTo pos (starEach es X.env)).any (·.1) = false := by rfl) :
    PE X (.Call (.Name x p) (e :: es) [] pos) (tCall sp [] E t) := by
  obtain ⟨f, fd, ps, F, hm, kp, b⟩ := c.ex
  exact pe_call F (hr.mono hk) hg hm kp b .nil hx ha hdb he hpl
theorem pe_mtX {pl : Sem Bool} (c : MetX X.prog X.w X.K X.mg X.base k C m sp) (hr : Room j X.A) (hk : k ≤ j) (hx : Passes (L2.CX X.prog X.w) X E) (he : PE X o ta) (ha : PA X (e :: es) t)
    (hst : starEach (e :: es) X.env = (false, eval e X.env) :: starEach es X.env := by rfl) (hpl : (backTo pos (starEach es X.env)).any (·.1) = false := by rfl)
    (ht : eval (.Call (.Attribute o m apos) (e :: es) [] pos) X.env = (do
      let ov ← eval o X.env
      standAt apos.atName
      let (f, first) ← holding [ov] (getMethod ov m pl)
      callWith pos f first (backTo pos (starEach (e :: es) X.env)) (backToKw pos (keywordEach [] X.env))) := by rfl) :
    PE X (.Call (.Attribute o m apos) (e :: es) [] pos) (tMeth C m sp [] E ta t) := by
  obtain ⟨f, fd, ps, hc, hm, F, b⟩ := c.ex
  exact pe_meth (pl := pl) he hc hm F (hr.mono hk) b .nil hx ha hst hpl ht
theorem pe_cG (c : CalG X.prog X.w X.K X.mg X.base k x sp) (hgd : X.A.guards = some []) (hr : Room j X.A) (hk : k ≤ j) (hg : Gl X x) (ha : PA X (e :: es) t)
    (hdb : (x == ("__debug__" : Str)) = false := by decide) (he : starEach (e :: es) X.env = (false, eval e X.env) :: starEach es X.env := by rfl) (hpl : (backTo pos (starEach es X.env)).any (·.1) = false := by rfl) :
    PE X (.Call (.Name x p) (e :: es) [] pos) (tCall sp [] C8.E0 t) := by
  obtain ⟨f, fd, ps, F, hm, kp, b⟩ := c.ex
  exact pe_callG F hgd (hr.mono hk) hg hm kp b ha hdb he hpl
end
section
variable {K : PySem.W.Frag} {mg : Str → Option Value}
theorem b_isinstance : bootBuiltins "isinstance" = some (.builtin "isinstance") := by decide +kernel
theorem b_len : bootBuiltins "len" = some (.builtin "len") := by decide +kernel
theorem b_all : bootBuiltins "all" = some (.builtin "all") := by decide +kernel
theorem b_sorted : bootBuiltins "sorted" = some (.builtin "sorted") := by decide +kernel
theorem b_tuple : bootBuiltins "tuple" = some (.type "tuple") := by decide +kernel
theorem b_list : bootBuiltins "list" = some (.type "list") := by decide +kernel
theorem b_dict : bootBuiltins "dict" = some (.type "dict") := by decide +kernel
theorem b_int : bootBuiltins "int" = some (.type "int") := by decide +kernel
theorem b_bool : bootBuiltins "bool" = some (.type "bool") := by decide +kernel
theorem b_str : bootBuiltins "str" = some (.type "str") := by decide +kernel
theorem b_min : bootBuiltins "min" = some (.builtin "min") := by decide +kernel
theorem b_max : bootBuiltins "max" = some (.builtin "max") := by decide +kernel
theorem b_sum : bootBuiltins "sum" = some (.builtin "sum") := by decide +kernel
theorem b_abs : bootBuiltins "abs" = some (.builtin "abs") := by decide +kernel
theorem b_repr : bootBuiltins "repr" = some (.builtin "repr") := by decide +kernel
end
section
variable {K : PySem.W.Frag} {mg : Str → Option Value} (T : Fx K mg)
include T
theorem gc_MOST_SIGNS : ∃ u, mg "MOST_SIGNS" = some u ∧ RelV (.int 24) u := by
  obtain ⟨t, h⟩ := T.v_MOST_SIGNS
  exact ⟨_, h, t, rfl⟩
theorem gc_MOST_TAGS : ∃ u, mg "MOST_TAGS" = some u ∧ RelV (.int 6) u := by
  obtain ⟨t, h⟩ := T.v_MOST_TAGS
  exact ⟨_, h, t, rfl⟩
theorem gc_MOST_GRAINS : ∃ u, mg "MOST_GRAINS" = some u ∧ RelV (.int 4) u := by
  obtain ⟨t, h⟩ := T.v_MOST_GRAINS
  exact ⟨_, h, t, rfl⟩
theorem gc_MOST_WINDOWS : ∃ u, mg "MOST_WINDOWS" = some u ∧ RelV (.int 400) u := by
  obtain ⟨t, h⟩ := T.v_MOST_WINDOWS
  exact ⟨_, h, t, rfl⟩
theorem gc_LETTERS : ∃ u, mg "LETTERS" = some u ∧ RelV (.str "abcdefghijklmnopqrstuvwxyz") u := by
  obtain ⟨t, h⟩ := T.v_LETTERS
  exact ⟨_, h, t, rfl⟩
theorem gc_SIGNS : ∃ u, mg "SIGNS" = some u ∧ RelV (.str "abcdefghijklmnopqrstuvwxyz0123456789-") u := by
  obtain ⟨t, h⟩ := T.v_SIGNS
  exact ⟨_, h, t, rfl⟩
theorem gc_NAME : ∃ u, mg "NAME" = some u ∧ RelV (.str "name") u := by
  obtain ⟨t, h⟩ := T.v_NAME
  exact ⟨_, h, t, rfl⟩
end
section
variable {X : Cx} {k j : Nat} {C : Addr} {x : Str} {sp : Sp} {p pos : Pos} {e : Expr} {es : List Expr} {t : TA}
theorem pmk_x (c : MakX X.prog X.w X.K X.mg X.base k x C sp) (hr : Room j X.A) (hk : k + 1 ≤ j) (hg : Gl X x) (ha : PA X (e :: es) t)
    (hdb : (x == ("__debug__" : Str)) = false := by decide) (he : starEach (e :: es) X.env = (false, eval e X.env) :: starEach es X.env := by rfl) (hpl : (backTo pos (starEach es X.env)).any (·.1) = false := by rfl) :
    PMk X (.Call (.Name x p) (e :: es) [] pos) (tMkX C sp t) := by
  obtain ⟨f, fd, ps, ec, iC, tI, F, hm, b⟩ := c.ex
  exact pmk_ex ec iC tI F (hr.mono hk) b hg hm ha hdb he hpl
end
/-! the same rules, K named (within a comprehension's block) -/
section
variable {X : Cx} (K : PySem.W.Frag) {pos : Pos}
theorem pg_tupK (n : Nat) {es : List Expr} {k : Nat} {t : TGs} (hk : X.K = K) (hc : X.calm = true) (h : PGs X es t) (hn : (assignEach es X.env).length = n) (hst : (assignEach es X.env).findIdx? (·.1) = none) : PG X (.Tuple es k pos) (gTup K n t) := hk ▸ pg_tup hc h hn hst
theorem ix_listK (hk : X.K = K) : IxR X (rIxL K) := hk ▸ ix_list
theorem ix_tupK (hk : X.K = K) : IxR X (rIxT K) := hk ▸ ix_tup
def rLenK (K : PySem.W.Frag) : List V → Hp → VK → Prop := fun xs H Q => ∃ p ys, xs = [V.ref p] ∧ (SqL K H p ys ∨ SqT K H p ys) ∧ Q (.int ys.length) H
theorem call_len_seqK (hk : X.K = K) : CallR X (.builtin "len") (rLenK K) := hk ▸ call_len_seq
def rTupK (K : PySem.W.Frag) : List V → Hp → VK → Prop := fun xs H Q => ∃ p ys, xs = [.ref p] ∧ ((SqL K H p ys ∧ ∀ l, H l = none → Q (.ref l) (upd H l (.tup ys))) ∨ (SqT K H p ys ∧ Q (.ref p) H))
theorem call_tuple_ofK (hk : X.K = K) : CallR X (.type "tuple") (rTupK K) := hk ▸ call_tuple_of
theorem pi_listK {tg e : Expr} {te : TE} (hk : X.K = K) (he : PE X e te) : PI X tg e (iList K te) := hk ▸ pi_list he
end
end Eg
end

section
set_option Elab.async false
set_option linter.all false
set_option maxRecDepth 100000
set_option maxHeartbeats 4000000
/-! what readings evaluate to: more -/
namespace Eg
open PySem PySem.Spec PyProof.Rows L2 Evl C8
section
variable {K : PySem.W.Frag} {σ : L2.St} {H H' : Hp} {ta tb tc te : TE} {t u : TT} {x y z v : V} {r r' : R2}
theorem kit_int {b : String} {i : Int} {c : Bool} (h : kitB "int" b = some c) : RC (rIsi K) [.int i, .ty b] H (.bl c) := fun H1 _ Q q => ⟨.int i, .ty b, _, _, c, rfl, .ty b, .base (.int _), kit_ty h, q H1 (Ex.refl H1)⟩
theorem kit_str {b : String} {i : Str} {c : Bool} (h : kitB "str" b = some c) : RC (rIsi K) [.str i, .ty b] H (.bl c) := fun H1 _ Q q => ⟨.str i, .ty b, _, _, c, rfl, .ty b, .base (.str _), kit_ty h, q H1 (Ex.refl H1)⟩
theorem kit_tup {b : String} {p : Addr} {xs : List V} {c : Bool} (hp : H p = some (.tup xs)) (h : kitB "tuple" b = some c) : RC (rIsi K) [.ref p, .ty b] H (.bl c) := fun H1 e Q q => ⟨.ref p, .ty b, _, _, c, rfl, .ty b, .base (.tup (e _ _ hp)), kit_ty h, q H1 (Ex.refl H1)⟩
theorem kit_lst {b : String} {p : Addr} {xs : List V} {c : Bool} (hp : H p = some (.lst xs)) (h : kitB "list" b = some c) : RC (rIsi K) [.ref p, .ty b] H (.bl c) := fun H1 e Q q => ⟨.ref p, .ty b, _, _, c, rfl, .ty b, .base (.lst (e _ _ hp)), kit_ty h, q H1 (Ex.refl H1)⟩
theorem kit_dict {b : String} {p : Addr} {xs : List (Key × V)} {c : Bool} (hp : H p = some (.dK xs)) (h : kitB "dict" b = some c) : RC (rIsi K) [.ref p, .ty b] H (.bl c) := fun H1 e Q q => ⟨.ref p, .ty b, _, _, c, rfl, .ty b, .base (.dK (e _ _ hp)), kit_ty h, q H1 (Ex.refl H1)⟩
theorem kit_int_int {i : Int} : RC (rIsi K) [.int i, .ty "int"] H (.bl true) := kit_int (by decide +kernel)
theorem kit_int_bool {i : Int} : RC (rIsi K) [.int i, .ty "bool"] H (.bl false) := kit_int (by decide +kernel)
theorem kit_str_str {i : Str} : RC (rIsi K) [.str i, .ty "str"] H (.bl true) := kit_str (by decide +kernel)
theorem kit_tup_tup {p : Addr} {xs : List V} (hp : H p = some (.tup xs)) : RC (rIsi K) [.ref p, .ty "tuple"] H (.bl true) := kit_tup hp (by decide +kernel)
theorem kit_lst_dict {p : Addr} {xs : List V} (hp : H p = some (.lst xs)) : RC (rIsi K) [.ref p, .ty "dict"] H (.bl false) := kit_lst hp (by decide +kernel)
theorem kit_dict_dict {p : Addr} {xs : List (Key × V)} (hp : H p = some (.dK xs)) : RC (rIsi K) [.ref p, .ty "dict"] H (.bl true) := kit_dict hp (by decide +kernel)
theorem kit_lt {p : Addr} {xs : List V} (hp : H p = some (.lst xs)) : ∀ q H1, H1 q = some (.tup [.ty "list", .ty "tuple"]) → Ex H H1 → ∀ Q : VK, Q (.bl true) H1 → rIsiT K [.ref p, .ref q] H1 Q := fun q H1 hq e Q k =>
  ⟨.ref p, q, _, _, [.type "list", .type "tuple"], true, rfl, hq, .cons (.ty _) (.cons (.ty _) .nil), .base (.lst (e _ _ hp)), kitAny_cons (kit_ty (b := "list") (r := true) (by decide +kernel)) (by intro h; cases h) (by intro _; rfl), k⟩
/-- chained comparison -/
theorem ev_chain {a b : Bool} (ha : Ev ta σ H x) (hb : Ev tb σ H y) (h1 : RV r x y H (.bl a)) (h2 : a = true → Ev tc σ H z) (h3 : a = true → RV r' y z H (.bl b)) : Ev (tChain r r' ta tb tc) σ H (.bl (a && b)) := fun H1 e Q q =>
  ha H1 e _ fun H2 e2 => hb H2 (e.trans e2) _ fun H3 e3 => h1 H3 ((e.trans e2).trans e3) _ fun H4 e4 => ⟨a, rfl, by
    have e5 := ((e.trans e2).trans e3).trans e4
    have e6 := (e2.trans e3).trans e4
    cases a with
    | false => exact q H4 e6
    | true => exact h2 rfl H4 e5 _ fun H5 e7 => h3 rfl H5 (e5.trans e7) _ fun H6 e8 => q H6 ((e6.trans e7).trans e8)⟩
theorem rv_isN : RV (fun x y H Q => y = .non ∧ Q (.bl (decide (x = .non))) H) x .non H (.bl (decide (x = V.non))) := fun H1 _ Q q => ⟨rfl, q H1 (Ex.refl H1)⟩
theorem rc_len {xs : List V} {p : Addr} (h : SqL K H p xs ∨ SqT K H p xs) : RC (rLenK K) [.ref p] H (.int xs.length) := fun H1 e Q q => ⟨p, xs, rfl, h.elim (fun h => .inl (ex_l e h)) (fun h => .inr (ex_t e h)), q H1 (Ex.refl H1)⟩
theorem rc_lenS {z : Str} (h : z.length ≤ 100000) : RC (fun xs H Q => ∃ z, xs = [V.str z] ∧ z.length ≤ sizeLine ∧ Q (.int z.length) H) [.str z] H (.int z.length) := fun H1 e Q q => ⟨z, rfl, sz_of h, q H1 (Ex.refl H1)⟩
theorem ev_ret {D : Ends} {Q : VK} (h : Ev te σ H z) (q : ∀ H', Ex H H' → D.rt z H') : tRet te D σ H := h H (Ex.refl H) _ q
/-! ### data -/
/-- new addresses may hold lists of the data -/
def Fr (N : Addr → Prop) (H : Hp) : Prop := ∀ a, H a = none → N a
def FrN (H : Hp) : Addr → Prop := fun a => H a = none
theorem fr_self : Fr (FrN H) H := fun _ h => h
theorem Fr.ex {N : Addr → Prop} (f : Fr N H) (e : Ex H H') : Fr N H' := fun a h => f a (fresh_back e h)
def EvD (N : Addr → Prop) (te : TE) (σ : L2.St) (H : Hp) (d : PyData) : Prop := ∀ H1, Ex H H1 → ∀ Q : VK, (∀ v H2, Ex H1 H2 → DA N H2 d v → Q v H2) → te σ H1 Q
def EvDs (N : Addr → Prop) (ta : TA) (σ : L2.St) (H : Hp) (ds : List PyData) : Prop := ∀ H1, Ex H H1 → ∀ Q : List V → Hp → Prop, (∀ vs H2, Ex H1 H2 → DAs N H2 ds vs → Q vs H2) → ta σ H1 Q
variable {N : Addr → Prop} {d : PyData} {ds : List PyData} {tr ta' : TA}
theorem EvD.mono (e : Ex H H') (h : EvD N te σ H d) : EvD N te σ H' d := fun H1 a Q q => h H1 (e.trans a) Q q
theorem EvDs.mono (e : Ex H H') (h : EvDs N tr σ H ds) : EvDs N tr σ H' ds := fun H1 a Q q => h H1 (e.trans a) Q q
theorem ed_is {d' : PyData} (h : EvD N te σ H d) (e : d = d') : EvD N te σ H d' := e ▸ h
theorem ed_var {i : Nat} (h : σ[i]? = some (some v)) (hd : DA N H d v) : EvD N (tVar i) σ H d := fun H1 e Q q => ⟨v, h, q v H1 (Ex.refl H1) (hd.ex e)⟩
theorem ed_ev (h : Ev te σ H v) (hd : ∀ H1, Ex H H1 → DA N H1 d v) : EvD N te σ H d := fun H1 e Q q => h H1 e _ fun H2 e2 => q v H2 e2 (hd H2 (e.trans e2))
theorem ed_int {i : Int} (h : Ev te σ H (.int i)) : EvD N te σ H (.int i) := ed_ev h fun _ _ => by simp only [DA]
theorem ed_str {i : Str} (h : Ev te σ H (.str i)) : EvD N te σ H (.str i) := ed_ev h fun _ _ => by simp only [DA]
theorem ed_bl {i : Bool} (h : Ev te σ H (.bl i)) : EvD N te σ H (.bool i) := ed_ev h fun _ _ => by simp only [DA]
theorem ed_non (h : Ev te σ H .non) : EvD N te σ H .none := ed_ev h fun _ _ => by simp only [DA]
theorem dv_int {i : Int} (h : EvD N te σ H (.int i)) : Ev te σ H (.int i) := fun H1 e Q q => h H1 e _ fun v H2 e2 hd => by
  simp only [DA] at hd
  subst hd
  exact q H2 e2
theorem dv_str {i : Str} (h : EvD N te σ H (.str i)) : Ev te σ H (.str i) := fun H1 e Q q => h H1 e _ fun v H2 e2 hd => by
  simp only [DA] at hd
  subst hd
  exact q H2 e2
theorem dv_bl {i : Bool} (h : EvD N te σ H (.bool i)) : Ev te σ H (.bl i) := fun H1 e Q q => h H1 e _ fun v H2 e2 hd => by
  simp only [DA] at hd
  subst hd
  exact q H2 e2
theorem dv_non (h : EvD N te σ H .none) : Ev te σ H .non := fun H1 e Q q => h H1 e _ fun v H2 e2 hd => by
  simp only [DA] at hd
  subst hd
  exact q H2 e2
theorem eds_nil : EvDs N tNil σ H [] := fun H1 _ _ q => q [] H1 (Ex.refl H1) (by simp only [DAs])
theorem eds_cons (h : EvD N te σ H d) (hr : EvDs N tr σ H ds) : EvDs N (tCons te tr) σ H (d :: ds) := fun H1 e _ q =>
  h H1 e _ fun v H2 e2 hd => hr H2 (e.trans e2) _ fun vs H3 e3 hds => q _ H3 (e2.trans e3) (by simp only [DAs]; exact ⟨v, vs, rfl, hd.ex e3, hds⟩)
theorem ed_tup (h : EvDs N tr σ H ds) (hl : ds.length ≤ 100000) : EvD N (tTup tr) σ H (.tuple ds) := fun H1 e Q q =>
  h H1 e _ fun vs H2 e2 hds => ⟨sz_of (by rw [hds.length]; exact hl), fun p hp => q _ _ (e2.trans (Ex.new hp)) (by simp only [DA]; exact ⟨p, vs, rfl, upd_same, hds.ex (Ex.new hp)⟩)⟩
theorem ed_lst (fr : Fr N H) (h : EvDs N tr σ H ds) (hl : ds.length ≤ 100000) : EvD N (tLst tr) σ H (.list ds) := fun H1 e Q q =>
  h H1 e _ fun vs H2 e2 hds => ⟨sz_of (by rw [hds.length]; exact hl), fun p hp => q _ _ (e2.trans (Ex.new hp)) (by simp only [DA]; exact ⟨p, vs, rfl, fr p (fresh_back (e.trans e2) hp), upd_same, hds.ex (Ex.new hp)⟩)⟩
theorem DAs.atI {H : Hp} {vs : List V} {i : Int} {d : PyData} (h : DAs N H ds vs) (e : L2.atI ds i = some d) : ∃ v, L2.atI vs i = some v ∧ DA N H d v := by
  unfold L2.atI at e ⊢
  rw [h.length]
  cases hj : ixN ds.length i with
  | none =>
    rw [hj] at e
    cases e
  | some j =>
    rw [hj] at e
    exact h.get e
theorem DA.tup {H : Hp} {v : V} (h : DA N H (.tuple ds) v) : ∃ a xs, v = .ref a ∧ H a = some (.tup xs) ∧ DAs N H ds xs := by
  simpa only [DA] using h
theorem DA.lst {H : Hp} {v : V} (h : DA N H (.list ds) v) : ∃ a xs, v = .ref a ∧ N a ∧ H a = some (.lst xs) ∧ DAs N H ds xs := by
  simpa only [DA] using h
theorem ed_ixT {i : Int} (h : EvD N ta σ H (.tuple ds)) (hb : Ev tb σ H (.int i)) (e : L2.atI ds i = some d) : EvD N (tOp (rIxT K) ta tb) σ H d := fun H1 e1 Q q =>
  h H1 e1 _ fun v H2 e2 hd => hb H2 (e1.trans e2) _ fun H3 e3 => by
    obtain ⟨a, xs, rfl, ha, hs⟩ := hd.tup
    obtain ⟨x, hx, hdx⟩ := hs.atI e
    exact ⟨a, xs, i, x, rfl, rfl, ex_t e3 (st_of ha), hx, q x H3 (e2.trans e3) (hdx.ex e3)⟩
theorem ed_ixL {i : Int} (h : EvD N ta σ H (.list ds)) (hb : Ev tb σ H (.int i)) (e : L2.atI ds i = some d) : EvD N (tOp (rIxL K) ta tb) σ H d := fun H1 e1 Q q =>
  h H1 e1 _ fun v H2 e2 hd => hb H2 (e1.trans e2) _ fun H3 e3 => by
    obtain ⟨a, xs, rfl, _, ha, hs⟩ := hd.lst
    obtain ⟨x, hx, hdx⟩ := hs.atI e
    exact ⟨a, xs, i, x, rfl, rfl, ex_l e3 (sq_of ha), hx, q x H3 (e2.trans e3) (hdx.ex e3)⟩
theorem ed_if {b : Bool} (h : EvT t σ H b) (h1 : b = true → EvD N ta σ H d) (h2 : b = false → EvD N tb σ H d) : EvD N (tIf t ta tb) σ H d := fun H1 e Q q => h H1 e _ fun H2 e2 => by
  cases b with
  | true =>
    show ta σ H2 Q
    exact h1 rfl H2 (e.trans e2) Q fun v H3 e3 => q v H3 (e2.trans e3)
  | false =>
    show tb σ H2 Q
    exact h2 rfl H2 (e.trans e2) Q fun v H3 e3 => q v H3 (e2.trans e3)
/-- calls of defs with the three promises -/
theorem ev_callV {n : Nat} {R : List V → Hp → V → Prop} {E : XK} {vs : List V} (h : EvA tr σ H vs) (hl : vs.length = n) (hR : ∀ H1, Ex H H1 → R vs H1 z) : Ev (tCall (SV n R) [] E tr) σ H z := fun H1 e Q q =>
  h H1 e _ fun H2 e2 => ⟨by rw [List.append_nil]; exact hl, z, by rw [List.append_nil]; exact hR H2 (e.trans e2), fun H3 e3 => q H3 (e2.trans e3)⟩
theorem ev_callVD {n : Nat} {R : List V → Hp → V → Prop} {E : XK} (h : EvDs N tr σ H ds) (hl : ds.length = n) (hR : ∀ vs H1, Ex H H1 → DAs N H1 ds vs → R vs H1 z) : Ev (tCall (SV n R) [] E tr) σ H z := fun H1 e Q q =>
  h H1 e _ fun vs H2 e2 hds => ⟨by rw [List.append_nil, hds.length]; exact hl, z, by rw [List.append_nil]; exact hR vs H2 (e.trans e2) hds, fun H3 e3 => q H3 (e2.trans e3)⟩
theorem ed_callV {n : Nat} {R : List V → Hp → PyData → Prop} {E : XK} {vs : List V} (fr : Fr N H) (h : EvA tr σ H vs) (hl : vs.length = n) (hR : ∀ H1, Ex H H1 → R vs H1 d) : EvD N (tCall (SD n R) [] E tr) σ H d := fun H1 e Q q =>
  h H1 e _ fun H2 e2 => ⟨by rw [List.append_nil]; exact hl, d, by rw [List.append_nil]; exact hR H2 (e.trans e2), fun v H3 e3 hd => q v H3 (e2.trans e3) (hd.to fun a ha => fr a (fresh_back (e.trans e2) ha))⟩
theorem ed_callD {n : Nat} {R : List V → Hp → PyData → Prop} {E : XK} (fr : Fr N H) (h : EvDs N tr σ H ds) (hl : ds.length = n) (hR : ∀ vs H1, Ex H H1 → DAs N H1 ds vs → R vs H1 d) : EvD N (tCall (SD n R) [] E tr) σ H d := fun H1 e Q q =>
  h H1 e _ fun vs H2 e2 hds => ⟨by rw [List.append_nil, hds.length]; exact hl, d, by rw [List.append_nil]; exact hR vs H2 (e.trans e2) hds, fun v H3 e3 hd => q v H3 (e2.trans e3) (hd.to fun a ha => fr a (fresh_back (e.trans e2) ha))⟩
variable {D : Ends} {tz : TS}
theorem s_retD (h : EvD N te σ H d) (k : ∀ v H1, Ex H H1 → DA N H1 d v → D.rt v H1) : tRet te D σ H := h H (Ex.refl H) _ k
theorem q_asgD {i : Nat} (h : EvD N te σ H d) (k : ∀ v H1, Ex H H1 → DA N H1 d v → tz D (σ.set i (some v)) H1) : tSeq (tAsg te (gName i)) tz D σ H := h H (Ex.refl H) _ k
theorem s_asgD {i : Nat} (h : EvD N te σ H d) (k : ∀ v H1, Ex H H1 → DA N H1 d v → D.nx (σ.set i (some v)) H1) : tAsg te (gName i) D σ H := h H (Ex.refl H) _ k
/-! ### walks and comprehensions -/
/-- n turns, whatever is made meanwhile; I: what turn i yields -/
def EvW (wi : TI) (σ : L2.St) (H : Hp) (n : Nat) (I : Nat → Hp → V → Prop) : Prop := ∀ H1, Ex H H1 → ∀ R : It → Hp → Prop, (∀ J H2, Ex H1 H2 → Walk J n (Ex H2) (fun i Ha x Hb => Ex Ha Hb ∧ I i Hb x) → R J H2) → wi σ H1 R
/-- what the turns give that are taken -/
def gvn (n : Nat) (f : Nat → Bool) (d : Nat → PyData) : List PyData := ((List.range n).filter f).map d
theorem gvn_yes {n : Nat} {f : Nat → Bool} {d : Nat → PyData} (h : f n = true) : gvn (n + 1) f d = gvn n f d ++ [d n] := by
  unfold gvn
  rw [List.range_succ, List.filter_append, List.map_append, List.filter_cons, if_pos h] <;> rfl
theorem gvn_no {n : Nat} {f : Nat → Bool} {d : Nat → PyData} (h : f n = false) : gvn (n + 1) f d = gvn n f d := by
  unfold gvn
  rw [List.range_succ, List.filter_append, List.map_append, List.filter_cons, if_neg (by rw [h]; decide)]
  show _ ++ [] = _
  rw [List.append_nil]
theorem gvn_len (n : Nat) (f : Nat → Bool) (d : Nat → PyData) : (gvn n f d).length ≤ n := by
  unfold gvn
  rw [List.length_map]
  have h := List.length_filter_le f (List.range n)
  rw [List.length_range] at h
  exact h
theorem ed_lc {wi : TI} {n : Nat} {I : Nat → Hp → V → Prop} {g : TG} {vs : List Nat} (fr : Fr N H) (f : Nat → Bool) (dd : Nat → PyData) (hw : EvW wi σ H n I) (hn : n ≤ 100000)
    (hs : ∀ (N' : Addr → Prop) i x H1, Ex H H1 → Fr N' H1 → (∀ a o, H a = some o → N a → N' a) → i < n → I i H1 x → ∃ σ2, (∀ Q : L2.St → Hp → Prop, Q σ2 H1 → g x (wipe σ vs) H1 Q) ∧ wipe σ2 vs = wipe σ vs ∧ EvT t σ2 H1 (f i) ∧ (f i = true → EvD N' te σ2 H1 (dd i))) :
    EvD N (tLc wi g t te vs) σ H (.list (gvn n f dd)) := fun H0 e0 Q q => hw H0 e0 _ fun J H1 e1 hW => fun D hD => by
  have hDH : H D = none := fresh_back (e0.trans e1) hD
  refine lc_it hW (fun i H' => Ex H1 H' ∧ ∃ xs, H' D = some (.lst xs) ∧ DAs (fun a => N a ∧ a ≠ D) H' (gvn i f dd) xs) ⟨Ex.new hD, [], upd_same, DAs.nil⟩ (fun i H' _ h => h.1) (fun i x Ha Hb hi h y => ?_) (fun H' h => ?_)
  · obtain ⟨p1, xs, p2, p3⟩ := h
    obtain ⟨y1, y2⟩ := y
    have pB := y1 _ _ p2
    obtain ⟨σ2, k1, k2, k3, k4⟩ := hs (fun a => N a ∧ a ≠ D) i x Hb ((e0.trans e1).trans (p1.trans y1)) (fun a ha => ⟨fr a (fresh_back ((e0.trans e1).trans (p1.trans y1)) ha), fun e => by rw [e, pB] at ha; cases ha⟩)
      (fun a o ha n => ⟨n, fun e => by rw [e, hDH] at ha; cases ha⟩) hi y2
    refine k1 _ ⟨k2, k3 Hb (Ex.refl Hb) _ fun Hc ec => ?_⟩
    cases hf : f i with
    | false =>
      show Ex H1 Hc ∧ _
      rw [gvn_no hf]
      exact ⟨(p1.trans y1).trans ec, xs, ec _ _ pB, (p3.ex y1).ex ec⟩
    | true =>
      show te σ2 Hc _
      refine k4 hf Hc ec _ fun v Hd ed hv => ⟨xs, ed _ _ (ec _ _ pB), ?_, ?_⟩
      · have l := p3.length
        have := gvn_len i f dd
        exact sz_lt (by omega)
      · rw [gvn_yes hf]
        have p4 : DAs (fun a => N a ∧ a ≠ D) Hd (gvn i f dd ++ [dd i]) (xs ++ [v]) := DAs.append (((p3.ex y1).ex ec).ex ed) (by simp only [DAs]; exact ⟨v, [], rfl, hv, rfl⟩)
        have hDd := ed _ _ (ec _ _ pB)
        refine ⟨Ex.mut (((p1.trans y1).trans ec).trans ed) hD, xs ++ [v], upd_same, DAs.imp (fun a ys n z => ⟨n, by rw [upd_ne n.2]; exact z⟩) (fun a ys z => ?_) _ _ p4⟩
        rw [upd_ne (fun e => by rw [e, hDd] at z; cases z)]
        exact z
  · obtain ⟨p1, xs, p2, p3⟩ := h
    exact q _ H' (e1.trans p1) (by simp only [DA]; exact ⟨D, xs, rfl, fr D hDH, p2, p3.to fun a h => h.1⟩)
/-- sources -/
theorem ew_tup {ds : List PyData} (h : EvD N te σ H (.tuple ds)) : EvW (iTup K te) σ H ds.length (fun i H' x => ∃ d, ds[i]? = some d ∧ DA N H' d x) := fun H1 e1 R k => h H1 e1 _ fun v H2 e2 hd => by
  obtain ⟨a, xs, rfl, ha, hs⟩ := hd.tup
  refine ⟨a, rfl, ⟨xs, st_of ha⟩, k _ H2 e2 ?_⟩
  have w := (walk_tup (K := K) (a := a) (xs := xs)).mono (G' := Ex H2) (fun H' e => ex_t e (st_of ha)) (Y' := fun i Ha x Hb => Ex Ha Hb ∧ ∃ d, ds[i]? = some d ∧ DA N Hb d x) (fun i Ha x Hb hi e y => by
    obtain ⟨rfl, hx⟩ := y
    have hi' : i < ds.length := by rw [← hs.length]; exact hi
    obtain ⟨v, h1, h2⟩ := hs.get (List.getElem?_eq_getElem hi')
    rw [hx] at h1
    cases h1
    exact ⟨Ex.refl _, _, List.getElem?_eq_getElem hi', h2.ex e⟩)
  rw [hs.length] at w
  exact w
theorem ew_lst {ds : List PyData} (h : EvD N te σ H (.list ds)) : EvW (iList K te) σ H ds.length (fun i H' x => ∃ d, ds[i]? = some d ∧ DA N H' d x) := fun H1 e1 R k => h H1 e1 _ fun v H2 e2 hd => by
  obtain ⟨a, xs, rfl, _, ha, hs⟩ := hd.lst
  refine ⟨a, rfl, ⟨xs, sq_of ha⟩, k _ H2 e2 ?_⟩
  have w := (walk_list (K := K) (a := a) (xs := xs)).mono (G' := Ex H2) (fun H' e => ex_l e (sq_of ha)) (Y' := fun i Ha x Hb => Ex Ha Hb ∧ ∃ d, ds[i]? = some d ∧ DA N Hb d x) (fun i Ha x Hb hi e y => by
    obtain ⟨rfl, hx⟩ := y
    have hi' : i < ds.length := by rw [← hs.length]; exact hi
    obtain ⟨v, h1, h2⟩ := hs.get (List.getElem?_eq_getElem hi')
    rw [hx] at h1
    cases h1
    exact ⟨Ex.refl _, _, List.getElem?_eq_getElem hi', h2.ex e⟩)
  rw [hs.length] at w
  exact w
theorem ew_str {z : Str} (h : Ev te σ H (.str z)) : EvW (iStr te) σ H z.cps.size (fun i H' x => ∃ c, z.cps[i]? = some c ∧ x = .str ⟨#[c]⟩) := fun H1 e1 R k => h H1 e1 _ fun H2 e2 =>
  ⟨z, rfl, k _ H2 e2 (walk_str.mono (fun _ _ => True.intro) (fun i Ha x Hb hi e y => by obtain ⟨rfl, y⟩ := y; exact ⟨Ex.refl _, y⟩))⟩
theorem ew_rng1 {n : Int} (h : EvA tr σ H [.int n]) (hn : 0 ≤ n ∧ n < 2 ^ 62) : EvW (iRng1 tr) σ H n.toNat (fun i H' x => x = .int (i : Int)) := fun H1 e1 R k => h H1 e1 _ fun H2 e2 =>
  ⟨n, rfl, by omega, by omega, k _ H2 e2 (walk_range.mono (fun _ _ => True.intro) (fun i Ha x Hb hi e y => by obtain ⟨rfl, y⟩ := y; exact ⟨Ex.refl _, by simpa using y⟩))⟩
theorem ew_rng2 {lo n : Int} (h : EvA tr σ H [.int lo, .int n]) (h1 : 0 ≤ lo ∧ lo < 2 ^ 62) (hn : 0 ≤ n ∧ n < 2 ^ 62) : EvW (iRng2 tr) σ H (n - lo).toNat (fun i H' x => x = .int (lo + (i : Int))) := fun H1 e1 R k => h H1 e1 _ fun H2 e2 =>
  ⟨lo, n, rfl, ⟨by omega, by omega, by omega, by omega⟩, k _ H2 e2 (walk_range.mono (fun _ _ => True.intro) (fun i Ha x Hb hi e y => by obtain ⟨rfl, y⟩ := y; exact ⟨Ex.refl _, y⟩))⟩
theorem ew_rng3 {lo hi c : Int} {n : Nat} (h : EvA tr σ H [.int lo, .int hi, .int c]) (hr : RgC lo hi c n) : EvW (iRng3 tr) σ H n (fun i H' x => x = .int (lo + (i : Nat) * c)) := fun H1 e1 R k => h H1 e1 _ fun H2 e2 =>
  ⟨lo, hi, c, n, rfl, hr, k _ H2 e2 (walk_rangeC.mono (fun _ _ => True.intro) (fun i Ha x Hb hi e y => by obtain ⟨rfl, y⟩ := y; exact ⟨Ex.refl _, y⟩))⟩
/-- a new pair of a number and a datum -/
def IPair (N : Addr → Prop) (ds : List PyData) : Nat → Hp → V → Prop := fun i H' x => ∃ T y d, x = .ref T ∧ H' T = some (.tup [.int (i : Nat), y]) ∧ ds[i]? = some d ∧ DA N H' d y
theorem ew_enum {ds : List PyData} (h : EvD N te σ H (.list ds)) : EvW (iEnum K (tCons te tNil)) σ H ds.length (IPair N ds) := fun H1 e1 R k => h H1 e1 _ fun v H2 e2 hd => by
  obtain ⟨a, xs, rfl, _, ha, hs⟩ := hd.lst
  refine ⟨a, xs, rfl, sq_of ha, k _ H2 e2 ?_⟩
  have w := (walk_enum (K := K) (a := a) (xs := xs)).mono (G' := Ex H2) (fun H' e => ex_l e (sq_of ha)) (Y' := fun i Ha x Hb => Ex Ha Hb ∧ IPair N ds i Hb x) (fun i Ha x Hb hi e y => by
    obtain ⟨T, x1, y1, rfl, hT, rfl, h1, h2⟩ := y
    have hi' : i < ds.length := by rw [← hs.length]; exact hi
    obtain ⟨v, h3, h4⟩ := hs.get (List.getElem?_eq_getElem hi')
    have h2' : xs[i]? = some y1 := h2
    rw [h2'] at h3
    cases h3
    cases h1
    exact ⟨Ex.new hT, T, _, _, rfl, upd_same, List.getElem?_eq_getElem hi', (h4.ex e).ex (Ex.new hT)⟩)
  rw [hs.length] at w
  exact w
theorem ew_enumT {ds : List PyData} (h : EvD N te σ H (.tuple ds)) : EvW (iEnumT K (tCons te tNil)) σ H ds.length (IPair N ds) := fun H1 e1 R k => h H1 e1 _ fun v H2 e2 hd => by
  obtain ⟨a, xs, rfl, ha, hs⟩ := hd.tup
  refine ⟨a, xs, rfl, st_of ha, k _ H2 e2 ?_⟩
  have w := (walk_enumT (K := K) (a := a) (xs := xs)).mono (G' := Ex H2) (fun H' e => ex_t e (st_of ha)) (Y' := fun i Ha x Hb => Ex Ha Hb ∧ IPair N ds i Hb x) (fun i Ha x Hb hi e y => by
    obtain ⟨T, x1, y1, rfl, hT, rfl, h1, h2⟩ := y
    have hi' : i < ds.length := by rw [← hs.length]; exact hi
    obtain ⟨v, h3, h4⟩ := hs.get (List.getElem?_eq_getElem hi')
    have h2' : xs[i]? = some y1 := h2
    rw [h2'] at h3
    cases h3
    cases h1
    exact ⟨Ex.new hT, T, _, _, rfl, upd_same, List.getElem?_eq_getElem hi', (h4.ex e).ex (Ex.new hT)⟩)
  rw [hs.length] at w
  exact w
theorem rv_inSign {c : Nat} {z : Str} : RV (fun x y H Q => ∃ (c : Nat) (z : Str), x = .str ⟨#[c]⟩ ∧ y = .str z ∧ Q (.bl (decide (c ∈ z.cps.toList))) H) (.str ⟨#[c]⟩) (.str z) H (.bl (decide (c ∈ z.cps.toList))) := fun H1 _ Q q => ⟨c, z, rfl, rfl, q H1 (Ex.refl H1)⟩
theorem DAs.bools {H : Hp} : ∀ {bs : List Bool} {vs : List V}, DAs N H (bs.map .bool) vs → vs = bs.map V.bl
  | [], vs, h => by
    simp only [List.map_nil, DAs] at h
    rw [h]
    rfl
  | b :: bs, vs, h => by
    simp only [List.map_cons, DAs, DA] at h
    obtain ⟨v, ws, rfl, rfl, hr⟩ := h
    rw [DAs.bools hr]
    rfl
theorem DAs.ints {H : Hp} : ∀ {bs : List Int} {vs : List V}, DAs N H (bs.map .int) vs → vs = bs.map V.int
  | [], vs, h => by
    simp only [List.map_nil, DAs] at h
    rw [h]
    rfl
  | b :: bs, vs, h => by
    simp only [List.map_cons, DAs, DA] at h
    obtain ⟨v, ws, rfl, rfl, hr⟩ := h
    rw [DAs.ints hr]
    rfl
theorem ev_all {bs : List Bool} (h : EvD N te σ H (.list (bs.map .bool))) : Ev (tCB (rAll K) (tCons te tNil)) σ H (.bl (bs.all id)) := fun H1 e Q q => h H1 e _ fun v H2 e2 hd => by
  obtain ⟨a, xs, rfl, _, ha, hs⟩ := hd.lst
  exact ⟨a, bs, rfl, .inl (.inl (by rw [ha, hs.bools])), q H2 e2⟩
theorem et_yes : EvT tYes σ H true := fun H1 _ Q q => q H1 (Ex.refl H1)
theorem ev_isLT {p : Addr} {xs : List V} (h : Ev ta σ H (.ref p)) (hp : H p = some (.lst xs)) : Ev (tCB (rIsiT K) (tCons ta (tCons (tTup (tCons (tC (.ty "list")) (tCons (tC (.ty "tuple")) tNil))) tNil))) σ H (.bl true) := fun H1 e Q q => h H1 e _ fun H2 e2 =>
  ⟨by decide, fun t ht => kit_lt hp t _ upd_same ((e.trans e2).trans (Ex.new ht)) Q (q _ (e2.trans (Ex.new ht)))⟩
/-- all turns taken -/
theorem gvn_all (n : Nat) (d : Nat → PyData) : gvn n (fun _ => true) d = (List.range n).map d := by
  unfold gvn
  rw [List.filter_eq_self.mpr (fun _ _ => rfl)]
/-- all(..) of a comprehension of truths -/
theorem ev_allLc {wi : TI} {n : Nat} {I : Nat → Hp → V → Prop} {g : TG} {vs : List Nat} (f : Nat → Bool) (hw : EvW wi σ H n I) (hn : n ≤ 100000)
    (hs : ∀ i x H1, Ex H H1 → i < n → I i H1 x → ∃ σ2, (∀ Q : L2.St → Hp → Prop, Q σ2 H1 → g x (wipe σ vs) H1 Q) ∧ wipe σ2 vs = wipe σ vs ∧ Ev te σ2 H1 (.bl (f i))) :
    Ev (tCB (rAll K) (tCons (tLc wi g tYes te vs) tNil)) σ H (.bl ((List.range n).all f)) := by
  have h := ed_lc (N := FrN H) (t := tYes) (te := te) fr_self (fun _ => true) (fun i => .bool (f i)) hw hn (vs := vs) (g := g) (fun N' i x H1 e _ _ hi hI => by
    obtain ⟨σ2, h1, h2, h3⟩ := hs i x H1 e hi hI
    exact ⟨σ2, h1, h2, et_yes, fun _ => ed_bl h3⟩)
  rw [gvn_all] at h
  have h2 := ev_all (K := K) (bs := (List.range n).map f) (by rw [List.map_map]; exact h)
  rw [List.all_map] at h2
  exact h2
theorem ed_callG {n : Nat} {R : List V → Hp → (V → Hp → Prop) → Prop} {E : XK} {vs : List V} (h : EvA tr σ H vs) (hl : vs.length = n) (hR : ∀ H1, Ex H H1 → R vs H1 (fun v H' => DA N H' d v)) : EvD N (tCall (SG n R) [] E tr) σ H d := fun H1 e Q q =>
  h H1 e _ fun H2 e2 => ⟨by rw [List.append_nil]; exact hl, _, by rw [List.append_nil]; exact hR H2 (e.trans e2), fun v H3 e3 hd => q v H3 (e2.trans e3) hd⟩
theorem ev_fld {a C dx : Addr} {fs : List (Str × V)} {f : Str} (h : Ev ta σ H (.ref a)) (ha : H a = some (.ins C dx fs)) (cl : Cls K C) (na : NoAttr K C f) (hv : fs.lookup f = some v) : Ev (tFld K ta f) σ H v := fun H1 e Q q =>
  h H1 e _ fun H2 e2 => ⟨a, C, dx, fs, v, rfl, (e.trans e2) _ _ ha, cl, na, hv, q H2 e2⟩
theorem ex_lock {a : Addr} {u : HO} {od : Obj} {F : Hp} (ha : H a = some u) (e : Ex (upd H a (.frz od u)) F) : F a = some (.frz od u) ∧ Ex H (upd F a u) := by
  have h1 := e a _ upd_same
  refine ⟨h1, fun b o hb => ?_⟩
  by_cases hba : b = a
  · rw [hba, upd_same, ← ha, ← hba, hb]
  · rw [upd_ne hba]
    exact e b o (by rw [upd_ne hba]; exact hb)
theorem ed_lock {a : Addr} {kvs : List (Key × V)} (ha : H a = some (.dK kvs)) (h : ∀ H1 od, Ex H H1 → EvD N te σ (upd H1 a (.frz od (.dK kvs))) d) : EvD N (tLockE te) σ H d := fun H1 e Q q =>
  ⟨a, .dK kvs, e _ _ ha, True.intro, fun od => h H1 od e _ (Ex.refl _) _ fun v F eF hd => by
    obtain ⟨h1, h2⟩ := ex_lock (e _ _ ha) eF
    refine ⟨h1, q v _ h2 (DA.imp (fun b xs n z => ⟨n, ?_⟩) (fun b xs z => ?_) _ _ hd)⟩
    · rw [upd_ne (fun c => by rw [c, h1] at z; cases z)]
      exact z
    · rw [upd_ne (fun c => by rw [c, h1] at z; cases z)]
      exact z⟩
theorem fr_lock {a : Addr} {u : HO} {od : Obj} (f : Fr N H) : Fr N (upd H a (.frz od u)) := fun b h => by
  by_cases hba : b = a
  · rw [hba, upd_same] at h
    cases h
  · rw [upd_ne hba] at h
    exact f b h
theorem ew_items {a : Addr} {o : Obj} {kvs : List (Key × V)} (h : Ev te σ H (.ref a)) (ha : H a = some (.frz o (.dK kvs))) :
    EvW (iItems te) σ H kvs.length (fun i H' x => ∃ T kv, x = .ref T ∧ H' T = some (.tup [kV kv.1, kv.2]) ∧ kvs[i]? = some kv) := fun H1 e1 R k => h H1 e1 _ fun H2 e2 =>
  ⟨a, o, kvs, rfl, (e1.trans e2) _ _ ha, k _ H2 e2 (walk_items.mono (fun H' e => e _ _ ((e1.trans e2) _ _ ha)) (fun i Ha x Hb hi e y => by
    obtain ⟨T, x1, y1, rfl, hT, rfl, h1, h2⟩ := y
    have g : kvs[i]? = some kvs[i] := List.getElem?_eq_getElem hi
    simp only [g, Option.map_some, Option.some.injEq] at h1 h2
    subst h1 h2
    exact ⟨Ex.new hT, T, kvs[i], rfl, upd_same, g⟩))⟩
theorem ew_keys {a : Addr} {o : Obj} {kvs : List (Key × V)} (h : Ev te σ H (.ref a)) (ha : H a = some (.frz o (.dK kvs))) :
    EvW (iKeys te) σ H kvs.length (fun i H' x => ∃ kv, x = kV kv.1 ∧ kvs[i]? = some kv) := fun H1 e1 R k => h H1 e1 _ fun H2 e2 =>
  ⟨a, o, rfl, .inl ⟨kvs, (e1.trans e2) _ _ ha, k _ H2 e2 (walk_keys.mono (fun H' e => e _ _ ((e1.trans e2) _ _ ha)) (fun i Ha x Hb hi e y => by
    obtain ⟨rfl, k, v, h1, h2⟩ := y
    exact ⟨Ex.refl _, (k, v), h2, h1⟩))⟩⟩
theorem rv_cat {y z : Str} (h : y.length + z.length ≤ 100000) : RV (fun x y H Q => ∃ i j : Str, x = .str i ∧ y = .str j ∧ i.length + j.length ≤ sizeLine ∧ Q (.str (i ++ j)) H) (.str y) (.str z) H (.str (y ++ z)) := fun H1 _ Q q => ⟨y, z, rfl, rfl, sz_of h, q H1 (Ex.refl H1)⟩
theorem ev_join {sep : Str} {ys : List Str} (ho : Ev ta σ H (.str sep)) (h : EvD N te σ H (.list (ys.map .str))) (hz : (ys.map (·.length)).sum + ys.length * sep.length ≤ 16777216) :
    Ev (tM1 (fun x xs H Q => ∃ a p, ∃ ys : List Str, x = .str a ∧ xs = [.ref p] ∧ (SqL K H p (ys.map V.str) ∨ SqT K H p (ys.map V.str)) ∧ (ys.map (·.length)).sum + ys.length * a.length ≤ 16777216 ∧ Q (.str (Txt.join a ys)) H) ta te) σ H (.str (Txt.join sep ys)) := fun H1 e1 Q q =>
  ho H1 e1 _ fun H2 e2 => ⟨⟨sep, rfl⟩, h H2 (e1.trans e2) _ fun v H3 e3 hd => by
    obtain ⟨a, xs, rfl, _, ha, hs⟩ := hd.lst
    have hx : ∀ (ys : List Str) (xs : List V), DAs N H3 (ys.map .str) xs → xs = ys.map V.str := by
      intro ys
      induction ys with
      | nil =>
        intro xs h
        simp only [List.map_nil, DAs] at h
        rw [h]
        rfl
      | cons y ys ih =>
        intro xs h
        simp only [List.map_cons, DAs, DA] at h
        obtain ⟨v, ws, rfl, rfl, hr⟩ := h
        rw [ih ws hr]
        rfl
    exact ⟨sep, a, ys, rfl, rfl, .inl (sq_of (by rw [ha, hx ys xs hs])), hz, q H3 (e2.trans e3)⟩⟩
def EvJ (ts : List TE) (σ : L2.St) (H : Hp) (ys : List Str) : Prop := ∀ H1, Ex H H1 → ∀ (acc : Str) (Q : Str → Hp → Prop), acc.length + (ys.map (·.length)).sum ≤ 100000 → (∀ H2, Ex H1 H2 → Q (ys.foldl (· ++ ·) acc) H2) → tJs ts acc σ H1 Q
theorem ej_nil : EvJ [] σ H [] := fun H1 e acc Q _ q => q H1 (Ex.refl H1)
theorem s_eta (a : Str) : SX.S a.cps.toList = a := by
  cases a
  rfl
theorem slen (a b : Str) : (a ++ b).length = a.length + b.length := by
  rw [← s_eta a, ← s_eta b, SX.S_cat, SX.S_len, SX.S_len, SX.S_len, List.length_append]
theorem ej_cons {ts : List TE} {y : Str} {ys : List Str} (h : Ev te σ H (.str y)) (hr : EvJ ts σ H ys) : EvJ (te :: ts) σ H (y :: ys) := fun H1 e acc Q hz q => h H1 e _ fun H2 e2 => by
  have hz' : acc.length + (y.length + (ys.map (·.length)).sum) ≤ 100000 := by simpa using hz
  refine ⟨y, rfl, ?_, hr H2 (e.trans e2) (acc ++ y) Q ?_ fun H3 e3 => q H3 (e2.trans e3)⟩
  · rw [slen]
    exact sz_of (by omega)
  · rw [slen]
    omega
theorem ev_fmtS {y : Str} (h : Ev te σ H (.str y)) (hz : y.length ≤ 100000) : Ev (tFmt te) σ H (.str y) := fun H1 e Q q => h H1 e _ fun H2 e2 => .inl ⟨y, rfl, sz_of hz, q H2 e2⟩
theorem ev_joined {ts : List TE} {ys : List Str} (h : EvJ ts σ H ys) (hz : (ys.map (·.length)).sum ≤ 100000) : Ev (fun σ H Q => tJs ts Str.empty σ H fun out H1 => Q (.str out) H1) σ H (.str (ys.foldl (· ++ ·) Str.empty)) := fun H1 e Q q =>
  h H1 e Str.empty _ (by show 0 + _ ≤ _; omega) q
/-- tuple targets -/
theorem g_tup2 {i j : Nat} {T : Addr} {x y : V} {Q : L2.St → Hp → Prop} (hT : SqT K H T [x, y]) (h : Q ((σ.set i (some x)).set j (some y)) H) : gTup K 2 (gCons (gName i) (gCons (gName j) gNil)) (.ref T) σ H Q :=
  ⟨T, [x, y], rfl, hT, rfl, x, [y], rfl, y, [], rfl, rfl, h⟩
theorem ed_tupOf (h : EvD N te σ H (.list ds)) : EvD N (tCB (rTupK K) (tCons te tNil)) σ H (.tuple ds) := fun H1 e Q q => h H1 e _ fun v H2 e2 hd => by
  obtain ⟨a, xs, rfl, n, ha, hs⟩ := hd.lst
  exact ⟨a, xs, rfl, .inl ⟨sq_of ha, fun l hl => q _ _ (e2.trans (Ex.new hl)) (by simp only [DA]; exact ⟨l, xs, rfl, upd_same, hs.ex (Ex.new hl)⟩)⟩⟩
theorem ed_sort {β : Type} {enc : β → PyData} {bs : List β} (h : EvD (fun _ => True) te σ H (.list (bs.map enc))) (h1 : PySem.W.AllAlike (bs.map enc)) (h2 : PySem.W.Sortable (bs.map enc)) (h3 : ∀ b ∈ bs, (enc b).depth ≤ 60) (hNN : ∀ a, N a) :
    EvD N (tCB (rSortD K enc) (tCons te tNil)) σ H (.list ((bs.mergeSort (PySem.W.dataLe false enc)).map enc)) := fun H1 e Q q => h H1 e _ fun v H2 e2 hd => by
  obtain ⟨a, xs, rfl, n, ha, hs⟩ := hd.lst
  refine ⟨a, xs, bs, rfl, sq_of ha, hs, h1, h2, h3, fun ys p hp hys => q _ _ (e2.trans (Ex.new hp)) ?_⟩
  simp only [DA]
  exact ⟨p, ys, rfl, hNN p, upd_same, (hys.ex (Ex.new hp)).to fun a _ => hNN a⟩
theorem da_ins {a C dx : Addr} {fs fs' : List (Str × V)} {v : V} (hd : DA N H d v) (ha : H a = some (.ins C dx fs)) : DA N (upd H a (.ins C dx fs')) d v :=
  DA.imp (fun c ys n z => ⟨n, by rw [upd_ne (fun e => by rw [e, ha] at z; cases z)]; exact z⟩) (fun c ys z => by rw [upd_ne (fun e => by rw [e, ha] at z; cases z)]; exact z) _ _ hd
def optD : Option Int → PyData
  | none => .none
  | some c => .int c
def optV : Option Int → V
  | none => .non
  | some c => .int c
theorem dv_opt {o : Option Int} (h : EvD N te σ H (optD o)) : Ev te σ H (optV o) := by
  cases o with
  | none => exact dv_non h
  | some c => exact dv_int h
theorem rv_eqI {i j : Int} : RV rEq (.int i) (.int j) H (.bl (decide (i = j))) := fun H1 e Q q => ⟨rfl, by
  have : decide (V.int i = V.int j) = decide (i = j) := by simp
  rw [this]
  exact q H1 (Ex.refl H1)⟩
theorem rv_neI {i j : Int} : RV rNe (.int i) (.int j) H (.bl (!decide (i = j))) := fun H1 e Q q => ⟨rfl, by
  have : decide (V.int i = V.int j) = decide (i = j) := by simp
  rw [this]
  exact q H1 (Ex.refl H1)⟩
theorem rv_isO {o : Option Int} : RV (fun x y H Q => y = .non ∧ Q (.bl (decide (x = .non))) H) (optV o) .non H (.bl o.isNone) := fun H1 e Q q => ⟨rfl, by
  cases o with
  | none => exact q H1 (Ex.refl H1)
  | some c => exact q H1 (Ex.refl H1)⟩
theorem ev_lenD {a : Addr} {xs : List V} (h : Ev te σ H (.ref a)) (hx : H a = some (.lst xs) ∨ H a = some (.tup xs)) : Ev (tCB (rLenK K) (tCons te tNil)) σ H (.int xs.length) :=
  ev_cb (ea_cons h ea_nil) (rc_len (hx.elim (fun h => .inl (sq_of h)) (fun h => .inr (st_of h))))
theorem ev_methV {n : Nat} {R : List V → Hp → V → Prop} {E : XK} {vs : List V} {a C dx : Addr} {m : Str} {fs : List (Str × V)} (ho : Ev ta σ H (.ref a)) (ha : H a = some (.ins C dx fs)) (hm : fs.lookup m = none) (h : EvA tr σ H vs) (hl : vs.length + 1 = n) (hR : ∀ H1, Ex H H1 → R (.ref a :: vs) H1 z) : Ev (tMeth C m (SV n R) [] E ta tr) σ H z := fun H1 e Q q =>
  ho H1 e _ fun H2 e2 => ⟨a, dx, fs, rfl, (e.trans e2) _ _ ha, hm, h H2 (e.trans e2) _ fun H3 e3 => ⟨by rw [List.append_nil]; simpa using hl, z, by rw [List.append_nil]; exact hR H3 ((e.trans e2).trans e3), fun H4 e4 => q H4 ((e2.trans e3).trans e4)⟩⟩
theorem ed_methV {n : Nat} {R : List V → Hp → PyData → Prop} {E : XK} {vs : List V} {a C dx : Addr} {m : Str} {fs : List (Str × V)} (fr : Fr N H) (ho : Ev ta σ H (.ref a)) (ha : H a = some (.ins C dx fs)) (hm : fs.lookup m = none) (h : EvA tr σ H vs) (hl : vs.length + 1 = n) (hR : ∀ H1, Ex H H1 → R (.ref a :: vs) H1 d) : EvD N (tMeth C m (SD n R) [] E ta tr) σ H d := fun H1 e Q q =>
  ho H1 e _ fun H2 e2 => ⟨a, dx, fs, rfl, (e.trans e2) _ _ ha, hm, h H2 (e.trans e2) _ fun H3 e3 => ⟨by rw [List.append_nil]; simpa using hl, d, by rw [List.append_nil]; exact hR H3 ((e.trans e2).trans e3), fun v H4 e4 hd => q v H4 ((e2.trans e3).trans e4) (hd.to fun b hb => fr b (fresh_back ((e.trans e2).trans e3) hb))⟩⟩
theorem q_par {i j : Nat} {x y : V} (h : EvA tr σ H [x, y]) (k : ∀ H1, Ex H H1 → tz D ((σ.set i (some x)).set j (some y)) H1) : tSeq (tPar i j tr) tz D σ H := h H (Ex.refl H) _ fun H1 e => ⟨x, y, rfl, k H1 e⟩
theorem rc_min2 {i j : Int} : RC (fun xs H Q => ∃ i j : Int, xs = [V.int i, .int j] ∧ Q (.int (if j < i then j else i)) H) [.int i, .int j] H (.int (if j < i then j else i)) := fun H1 _ Q q => ⟨i, j, rfl, q H1 (Ex.refl H1)⟩
theorem rc_max2 {i j : Int} : RC (fun xs H Q => ∃ i j : Int, xs = [V.int i, .int j] ∧ Q (.int (if j > i then j else i)) H) [.int i, .int j] H (.int (if j > i then j else i)) := fun H1 _ Q q => ⟨i, j, rfl, q H1 (Ex.refl H1)⟩
theorem rc_abs {i : Int} : RC (fun xs H Q => ∃ i : Int, xs = [V.int i] ∧ Q (.int (if i < 0 then -i else i)) H) [.int i] H (.int (if i < 0 then -i else i)) := fun H1 _ Q q => ⟨i, rfl, q H1 (Ex.refl H1)⟩
theorem rc_int1 {i : Int} : RC (fun xs H Q => (∃ i : Int, xs = [V.int i] ∧ Q (.int i) H) ∨ ∃ k : Bool, xs = [V.bl k] ∧ Q (.int (if k then 1 else 0)) H) [.int i] H (.int i) := fun H1 _ Q q => .inl ⟨i, rfl, q H1 (Ex.refl H1)⟩
end
end Eg
end

section
set_option Elab.async false
set_option linter.all false
set_option maxRecDepth 100000
set_option maxHeartbeats 4000000
set_option linter.constructorNameAsVariable false
namespace Eg
open PySem PySem.Spec PyProof.Rows L2 Evl C8

local macro_rules | `(tactic| trivial) => `(tactic| with_reducible first
  | exact ev_c | intro _ | apply ev_op | apply ev_andV | apply ev_orV | apply ev_notV | apply ev_un | apply ev_cb | apply ev_chain
  | apply ea_cons | exact ea_nil | apply et_B | apply et_test | apply et_not | apply et_and | apply et_or | apply ev_if | apply eo_some | exact eo_none
  | exact rv_I0 | apply rv_I | exact ru_neg | exact rv_isN | apply rv_eq | apply rv_ne | exact rc_lenS | apply ev_call
  | exact kit_int_int | exact kit_int_bool | exact kit_str_str | exact rv_inSign)
local macro_rules | `(tactic| trivial) => `(tactic| (exact ev_var rfl))

section
variable {P : Program} {w : World} {K : PySem.W.Frag} {mg : Str → Option Value} {base : Heap}
theorem sc_is_list : FnScope ["value"] ["value"] (defScope s_is_list) := ⟨rfl, rfl, rfl, by decide +kernel, rfl, by decide +kernel, by decide +kernel⟩
theorem c_is_list (T : Fx K mg) : C8.Cal P w K mg base 1 "is_list" (SV 1 fun vs H z => (∃ p xs, vs = [.ref p] ∧ H p = some (.lst xs)) ∧ z = .bl true) [] :=
  cal_of T.d_is_list sc_is_list SV.len (fun _ _ _ _ _ _ us hl => match us, hl with | [_], _ => rfl) fun cdv A outer s H vs Q E hr h => by
    skip
    refine ⟨_, (pss_one (ps_ret (pe_callB call_isiT (by rfl) T.n_isinstance b_isinstance (pa_cons (pv 0) (pa_cons (pe_tup (pa_cons (pe_bltn (v := .ty "list") (by rfl) T.n_list b_list rfl) (pa_cons (pe_bltn (v := .ty "tuple") (by rfl) T.n_tuple b_tuple rfl) pa_nil))) pa_nil))))), ?_⟩
    obtain ⟨hl, z, ⟨⟨p, xs, rfl, hp⟩, rfl⟩, q⟩ := h
    exact s_ret (ev_isLT (ev_var rfl) hp) q
end
section
variable {P : Program} {w : World} {K : PySem.W.Frag} {mg : Str → Option Value} {base : Heap}
theorem sc_is_integer : FnScope ["value"] ["value"] (defScope s_is_integer) := ⟨rfl, rfl, rfl, by decide +kernel, rfl, by decide +kernel, by decide +kernel⟩
theorem c_is_integer (T : Fx K mg) : C8.Cal P w K mg base 1 "is_integer" (SV 1 fun vs H z => ∃ i : Int, vs = [.int i] ∧ z = .bl true) [] :=
  cal_of T.d_is_integer sc_is_integer SV.len (fun _ _ _ _ _ _ us hl => match us, hl with | [_], _ => rfl) fun cdv A outer s H vs Q E hr h => by
    skip
    refine ⟨_, (pss_one (ps_ret (pe_and (pe_callB call_isi (by rfl) T.n_isinstance b_isinstance (pa_cons (pv 0) (pa_cons (pe_bltn (v := .ty "int") (by rfl) T.n_int b_int rfl) pa_nil))) (pe_one (pe_not (pe_callB call_isi (by rfl) T.n_isinstance b_isinstance (pa_cons (pv 0) (pa_cons (pe_bltn (v := .ty "bool") (by rfl) T.n_bool b_bool rfl) pa_nil)))))))), ?_⟩
    obtain ⟨hl, z, ⟨i, rfl, rfl⟩, q⟩ := h
    refine s_ret ?_ q
    apply ev_is
    case h =>
      repeat' trivial
      skip
    case e => rfl
end
section
variable {P : Program} {w : World} {K : PySem.W.Frag} {mg : Str → Option Value} {base : Heap}
theorem sc_is_value : FnScope ["value"] ["value"] (defScope s_is_value) := ⟨rfl, rfl, rfl, by decide +kernel, rfl, by decide +kernel, by decide +kernel⟩
theorem c_is_value (T : Fx K mg) : C8.Cal P w K mg base 2 "is_value" (SV 1 fun vs H z => ∃ i : Int, vs = [.int i] ∧ z = .bl true) [] :=
  cal_of T.d_is_value sc_is_value SV.len (fun _ _ _ _ _ _ us hl => match us, hl with | [_], _ => rfl) fun cdv A outer s H vs Q E hr h => by
    have c_is_integer := c_is_integer (P := P) (w := w) (base := base) T
    refine ⟨_, (pss_one (ps_ret (pe_c c_is_integer hr (by decide) (by rfl) (pa_cons (pv 0) pa_nil)))), ?_⟩
    obtain ⟨hl, z, ⟨i, rfl, rfl⟩, q⟩ := h
    exact s_ret (ev_callV (ea_cons (ev_var rfl) ea_nil) rfl fun _ _ => ⟨i, rfl, rfl⟩) q
end
section
variable {P : Program} {w : World} {K : PySem.W.Frag} {mg : Str → Option Value} {base : Heap}
theorem sc_is_count : FnScope ["value"] ["value"] (defScope s_is_count) := ⟨rfl, rfl, rfl, by decide +kernel, rfl, by decide +kernel, by decide +kernel⟩
theorem c_is_count (T : Fx K mg) : C8.Cal P w K mg base 2 "is_count" (SV 1 fun vs H z => ∃ i : Int, vs = [.int i] ∧ z = .bl (decide (0 ≤ i))) [] :=
  cal_of T.d_is_count sc_is_count SV.len (fun _ _ _ _ _ _ us hl => match us, hl with | [_], _ => rfl) fun cdv A outer s H vs Q E hr h => by
    have c_is_integer := c_is_integer (P := P) (w := w) (base := base) T
    refine ⟨_, (pss_one (ps_ret (pe_and (pe_c c_is_integer hr (by decide) (by rfl) (pa_cons (pv 0) pa_nil)) (pe_one (pe_cmpR op_ge (pv 0) pe_int (nomark _)))))), ?_⟩
    obtain ⟨hl, z, ⟨i, rfl, rfl⟩, q⟩ := h
    refine s_ret ?_ q
    apply ev_is
    case h =>
      exact ev_andV (ev_callV (ea_cons (ev_var rfl) ea_nil) rfl fun _ _ => ⟨i, rfl, rfl⟩) fun _ => ev_op (ev_var rfl) ev_c rv_I0
    case e => simp
end
def sgn : Str := "abcdefghijklmnopqrstuvwxyz0123456789-"
def okFile (z : Str) : Bool := (decide (1 ≤ (z.length : Int)) && decide ((z.length : Int) ≤ 24)) && (List.range z.cps.size).all fun i => match z.cps[i]? with | some c => decide (c ∈ sgn.cps.toList) | none => false

section
variable {P : Program} {w : World} {K : PySem.W.Frag} {mg : Str → Option Value} {base : Heap}
theorem sc_is_file_name : FnScope ["value", "sign"] ["value"] (defScope s_is_file_name) := ⟨rfl, rfl, rfl, by decide +kernel, rfl, by decide +kernel, by decide +kernel⟩
theorem c_is_file_name (T : Fx K mg) : C8.Cal P w K mg base 1 "is_file_name" (SV 1 fun vs H z => ∃ s : Str, vs = [.str s] ∧ s.length ≤ 1000 ∧ z = .bl (okFile s)) [] :=
  cal_of T.d_is_file_name sc_is_file_name SV.len (fun _ _ _ _ _ _ us hl => match us, hl with | [_], _ => rfl) fun cdv A outer s H vs Q E hr h => by
    skip
    refine ⟨_, (pss_one (ps_ret (pe_and (pe_callB call_isi (by rfl) T.n_isinstance b_isinstance (pa_cons (pv 0) (pa_cons (pe_bltn (v := .ty "str") (by rfl) T.n_str b_str rfl) pa_nil))) (pe_and (pe_chain op_le op_le pe_int (pe_callB call_len_str (by rfl) T.n_len b_len (pa_cons (pv 0) pa_nil)) (C8.pe_gc (by rfl) (gc_MOST_SIGNS T))) (pe_one (pe_callB (cr_all rfl) (by rfl) T.n_all b_all (pa_cons (pe_lc rfl sc_is_file_name.nd (pi_str (pv 0)) (blkOk_by (own := [("sign", 1)]) (by show blkC ["value", "sign"] (defScope s_is_file_name) _ _ = true; decide +kernel)) (fun _ _ _ _ _ => (pg_name (i := 1) sc_is_file_name.nd rfl (Or.inl rfl))) (fun _ _ _ _ _ => pts_nil) (fun _ _ _ _ _ => (pe_cmpR op_in_sign (pv 1) (C8.pe_gc (by rfl) (gc_SIGNS T)) rfl))) pa_nil))))))), ?_⟩
    obtain ⟨hl, z, ⟨s, rfl, hz, rfl⟩, q⟩ := h
    refine s_ret (ev_is (v := .bl (true && okFile s)) ?_ rfl) q
    refine ev_andV (ev_cb (ea_cons (ev_var rfl) (ea_cons ev_c ea_nil)) kit_str_str) fun _ => ?_
    refine ev_andV (ev_chain ev_c (ev_cb (ea_cons (ev_var rfl) ea_nil) (rc_lenS (by omega))) rv_I0 (fun _ => ev_c) (fun _ => rv_I0)) fun _ => ?_
    refine ev_allLc (fun i => match s.cps[i]? with | some c => decide (c ∈ sgn.cps.toList) | none => false) (ew_str (ev_var rfl)) (by show s.length ≤ _; omega) fun i x H1 e hi hx => ?_
    obtain ⟨c, hc, rfl⟩ := hx
    refine ⟨_, fun Q q => q, rfl, ?_⟩
    rw [hc]
    exact ev_op (ev_var rfl) ev_c rv_inSign
end
section
variable {P : Program} {w : World} {K : PySem.W.Frag} {mg : Str → Option Value} {base : Heap}
theorem sc_is_word : FnScope ["value"] ["value"] (defScope s_is_word) := ⟨rfl, rfl, rfl, by decide +kernel, rfl, by decide +kernel, by decide +kernel⟩
theorem c_is_word (T : Fx K mg) : C8.Cal P w K mg base 2 "is_word" (SV 1 fun vs H z => ∃ s : Str, vs = [.str s] ∧ s.length ≤ 1000 ∧ (okFile s = true ∧ ∃ c, L2.atI s.cps.toList 0 = some c ∧ c ≠ 45) ∧ z = .bl true) [] :=
  cal_of T.d_is_word sc_is_word SV.len (fun _ _ _ _ _ _ us hl => match us, hl with | [_], _ => rfl) fun cdv A outer s H vs Q E hr h => by
    have c_is_file_name := c_is_file_name (P := P) (w := w) (base := base) T
    refine ⟨_, (pss_one (ps_ret (pe_and (pe_c c_is_file_name hr (by decide) (by rfl) (pa_cons (pv 0) pa_nil)) (pe_one (pe_cmpR op_ne (pe_ix ix_str (pv 0) pe_int (fun _ _ => rfl)) pe_str (nomark _)))))), ?_⟩
    obtain ⟨hl, z, ⟨s, rfl, hz, ⟨h1, c, h2, h3⟩, rfl⟩, q⟩ := h
    refine s_ret ?_ q
    apply ev_is
    case h =>
      refine ev_andV (b := true) (ev_callV (ea_cons (ev_var rfl) ea_nil) rfl fun _ _ => ⟨s, rfl, hz, rfl⟩) fun _ => ?_
      apply ev_is
      case h => exact ev_op (ev_op (ev_var rfl) ev_c (rv_ixS (by omega) h2)) ev_c (rv_ne rfl)
      case e =>
        have : (V.str ⟨#[c]⟩) ≠ V.str "-" := fun e => by
          have e := V.str.inj e
          have e2 : (⟨#[c]⟩ : Str).cps = ("-" : Str).cps := by rw [e]
          have e3 : #[c] = #[45] := e2
          simp at e3
          exact h3 e3
        simp [this]
    case e => rw [h1] <;> rfl
end
section
variable {P : Program} {w : World} {K : PySem.W.Frag} {mg : Str → Option Value} {base : Heap}
theorem sc_is_name : FnScope ["value"] ["value"] (defScope s_is_name) := ⟨rfl, rfl, rfl, by decide +kernel, rfl, by decide +kernel, by decide +kernel⟩
theorem c_is_name (T : Fx K mg) : C8.Cal P w K mg base 2 "is_name" (SV 1 fun vs H z => ∃ s : Str, vs = [.str s] ∧ s.length ≤ 1000 ∧ (okFile s = true ∧ ∃ c, L2.atI s.cps.toList 0 = some c ∧ c ∈ ("abcdefghijklmnopqrstuvwxyz" : Str).cps.toList) ∧ z = .bl true) [] :=
  cal_of T.d_is_name sc_is_name SV.len (fun _ _ _ _ _ _ us hl => match us, hl with | [_], _ => rfl) fun cdv A outer s H vs Q E hr h => by
    have c_is_file_name := c_is_file_name (P := P) (w := w) (base := base) T
    refine ⟨_, (pss_one (ps_ret (pe_and (pe_c c_is_file_name hr (by decide) (by rfl) (pa_cons (pv 0) pa_nil)) (pe_one (pe_cmpR op_in_sign (pe_ix ix_str (pv 0) pe_int (fun _ _ => rfl)) (C8.pe_gc (by rfl) (gc_LETTERS T)) rfl))))), ?_⟩
    obtain ⟨hl, z, ⟨s, rfl, hz, ⟨h1, c, h2, h3⟩, rfl⟩, q⟩ := h
    refine s_ret ?_ q
    apply ev_is
    case h =>
      refine ev_andV (b := true) (ev_callV (ea_cons (ev_var rfl) ea_nil) rfl fun _ _ => ⟨s, rfl, hz, rfl⟩) fun _ => ?_
      apply ev_is
      case h => exact ev_op (ev_op (ev_var rfl) ev_c (rv_ixS (by omega) h2)) ev_c rv_inSign
      case e => rw [decide_eq_true h3]
    case e => rw [h1] <;> rfl
end
end Eg
end

section
set_option Elab.async false
set_option linter.all false
set_option maxRecDepth 100000
set_option maxHeartbeats 4000000
set_option linter.constructorNameAsVariable false
namespace Eg
open PySem PySem.Spec PyProof.Rows L2 Evl C8

def TD : Addr → Prop := fun _ => True
theorem fr_TD {H : Hp} : Fr TD H := fun _ _ => True.intro
def pd (p : Str × Str) : PyData := .tuple [.str p.1, .str p.2]
def kS (p : Str × Str) : Key × V := (.inr p.1, .str p.2)
def TagsAt (H : Hp) (v : V) (kw : List (Str × Str)) : Prop := DA TD H (.list (kw.map pd)) v ∨ ∃ a, v = .ref a ∧ H a = some (.dK (kw.map kS))
def okKey (z : Str) : Prop := z.length ≤ 1000 ∧ (okFile z = true ∧ ∃ c, L2.atI z.cps.toList 0 = some c ∧ c ∈ ("abcdefghijklmnopqrstuvwxyz" : Str).cps.toList)
def okWord (z : Str) : Prop := z.length ≤ 1000 ∧ (okFile z = true ∧ ∃ c, L2.atI z.cps.toList 0 = some c ∧ c ≠ 45)
def OkKw (kw : List (Str × Str)) : Prop := kw.length ≤ 6 ∧ (∀ p ∈ kw, okKey p.1 ∧ p.1 ≠ "name" ∧ okWord p.2) ∧ (kw.map (·.1)).Nodup

section
variable {P : Program} {w : World} {K : PySem.W.Frag} {mg : Str → Option Value} {base : Heap}
theorem sc_pairs_of : FnScope ["tags", "key", "word"] ["tags"] (defScope s_pairs_of) := ⟨rfl, rfl, rfl, by decide +kernel, rfl, by decide +kernel, by decide +kernel⟩
theorem c_pairs_of (T : Fx K mg) : C8.Cal P w K mg base 2 "pairs_of" (SG 1 fun vs H P => ∃ v kw, vs = [v] ∧ TagsAt H v kw ∧ kw.length ≤ 6 ∧ P = fun v' H' => DA TD H' (.list (kw.map pd)) v') [] :=
  cal_of T.d_pairs_of sc_pairs_of SG.len (fun _ _ _ _ _ _ us hl => match us, hl with | [_], _ => rfl) fun cdv A outer s H vs Q E hr h => by
    have c_is_list := c_is_list (P := P) (w := w) (base := base) T
    refine ⟨_, (pss_cons (ps_if (pt_val (pe_callB call_isi (by rfl) T.n_isinstance b_isinstance (pa_cons (pv 0) (pa_cons (pe_bltn (v := .ty "dict") (by rfl) T.n_dict b_dict rfl) pa_nil)))) (pss_one (ps_ret (pe_lock (pe_lc rfl sc_pairs_of.nd (pi_items (pv 0)) (blkOk_by (own := [("key", 1), ("word", 2)]) (by show blkC ["tags", "key", "word"] (defScope s_pairs_of) _ _ = true; decide +kernel)) (fun _ _ _ _ _ => (pg_tupK K 2 rfl rfl (pgs_cons (pg_name (i := 1) sc_pairs_of.nd rfl (Or.inl rfl)) (pgs_cons (pg_name (i := 2) sc_pairs_of.nd rfl (Or.inl rfl)) pgs_nil)) rfl rfl)) (fun _ _ _ _ _ => pts_nil) (fun _ _ _ _ _ => (pe_tup (pa_cons (pv 1) (pa_cons (pv 2) pa_nil)))))))) pss_nil)
      (pss_one (ps_ret (pe_ifExp (pt_val (pe_c c_is_list hr (by decide) (by rfl) (pa_cons (pv 0) pa_nil))) (pv 0) pe_non)))), ?_⟩
    obtain ⟨hl, _, ⟨v, kw, rfl, ht, hk, rfl⟩, q⟩ := h
    rcases ht with ht | ⟨a, rfl, ha⟩
    · obtain ⟨a, xs, rfl, _, ha, hs⟩ := ht.lst
      refine q_when (et_B (ev_cb (ea_cons (ev_var rfl) (ea_cons ev_c ea_nil)) (kit_lst_dict ha))) (fun c => by cases c) fun _ H1 e1 => ?_
      refine s_retD (N := TD) (d := .list (kw.map pd)) (ed_if (b := true) (et_B (ev_callV (ea_cons (ev_var rfl) ea_nil) rfl fun H2 e2 => ⟨⟨a, xs, rfl, (e1.trans e2) _ _ ha⟩, rfl⟩)) (fun _ => ed_var rfl (ht.ex e1)) (fun c => by cases c)) fun v H2 e2 hd => q v H2 (e1.trans e2) hd
    · refine q_when (b := true) (et_B (ev_cb (ea_cons (ev_var rfl) (ea_cons ev_c ea_nil)) (kit_dict_dict ha))) (fun _ H1 e1 => ?_) (fun c => by cases c)
      refine s_retD (N := TD) (ed_is (d := .list (gvn (kw.map kS).length (fun _ => true) (fun i => pd (kw.getD i ("", ""))))) (ed_lock (e1 _ _ ha) fun H2 od e2 => ed_lc (fr_TD) _ _ (ew_items (ev_var rfl) upd_same) (by rw [List.length_map]; omega) fun N' i x H3 e3 fr _ hi hx => ?_) ?_) fun v H2 e2 hd => q v H2 (e1.trans e2) hd
      · obtain ⟨T, kv, rfl, hT, hkv⟩ := hx
        rw [List.getElem?_map] at hkv
        obtain ⟨p, hp, rfl⟩ := Option.map_eq_some_iff.mp hkv
        refine ⟨_, fun Q q => g_tup2 (st_of hT) q, rfl, et_yes, fun _ => ?_⟩
        rw [List.getD_eq_getElem?_getD, hp]
        exact ed_tup (eds_cons (ed_str (ev_var rfl)) (eds_cons (ed_str (ev_var rfl)) eds_nil)) (by simp)
      · rw [gvn_all, List.length_map]
        refine congrArg PyData.list (List.ext_getElem (by simp) fun i h1 h2 => ?_)
        simp only [List.length_map] at h2
        simp [List.getD_eq_getElem?_getD, h2]
end

theorem inV_strs {z : Str} : ∀ {l : List Str}, z ∉ l → inV (.str z) (l.map V.str) = false
  | [], _ => rfl
  | y :: l, h => by
    have h1 : z ≠ y := fun e => h (by rw [e]; exact List.mem_cons_self ..)
    have h2 : z ∉ l := fun e => h (List.mem_cons_of_mem _ e)
    have h3 : eqV (.str y) (.str z) = false := by
      show decide _ = false
      simp
      exact fun e => h1 e.symm
    show (eqV (.str y) (.str z) || inV (.str z) (l.map V.str)) = false
    rw [h3, inV_strs h2] <;> rfl
theorem flat_strs : ∀ l : List Str, (l.map V.str).all flatV = true
  | [] => rfl
  | y :: l => by
    show (true && (l.map V.str).all flatV) = true
    rw [flat_strs l] <;> rfl
theorem str_ne {a b : Str} (h : a ≠ b) : decide (V.str a = V.str b) = false := by simp [h]

section
variable {P : Program} {w : World} {K : PySem.W.Frag} {mg : Str → Option Value} {base : Heap}
theorem sc_are_pairs : FnScope ["pairs", "seen", "pair", "key", "word"] ["pairs"] (defScope s_are_pairs) := ⟨rfl, rfl, rfl, by decide +kernel, rfl, by decide +kernel, by decide +kernel⟩
theorem c_are_pairs (T : Fx K mg) : C8.Cal P w K mg base 3 "are_pairs" (SV 1 fun vs H z => ∃ v kw, vs = [v] ∧ DA TD H (.list (kw.map pd)) v ∧ OkKw kw ∧ z = .bl true) [] :=
  cal_of T.d_are_pairs sc_are_pairs SV.len (fun _ _ _ _ _ _ us hl => match us, hl with | [_], _ => rfl) fun cdv A outer s H vs Q E hr h => by
    have c_is_name := c_is_name (P := P) (w := w) (base := base) T
    have c_is_word := c_is_word (P := P) (w := w) (base := base) T
    refine ⟨_, (pss_cons (ps_if (pt_cmpR op_gt (pe_callB (call_len_seqK K rfl) (by rfl) T.n_len b_len (pa_cons (pv 0) pa_nil)) (C8.pe_gc (by rfl) (gc_MOST_TAGS T)) (nomark _)) (pss_one (ps_ret pe_bl)) pss_nil)
      (pss_cons (ps_set (i := 1) sc_are_pairs.nd rfl (Or.inl rfl) (pe_lst pa_nil))
      (pss_cons (ps_for PassesOwn.never rfl (pi_listK K rfl (pv 0)) (pg_name (i := 2) sc_are_pairs.nd rfl (Or.inl rfl)) (pss_cons (ps_if (PW.pt (pw_or (pt_not (pt_val (pe_callB call_isi (by rfl) T.n_isinstance b_isinstance (pa_cons (pv 2) (pa_cons (pe_bltn (v := .ty "tuple") (by rfl) T.n_tuple b_tuple rfl) pa_nil))))) (pw_or1 (pt_cmpR op_ne (pe_callB (call_len_seqK K rfl) (by rfl) T.n_len b_len (pa_cons (pv 2) pa_nil)) pe_int (nomark _))))) (pss_one (ps_ret pe_bl)) pss_nil)
      (pss_cons (ps_asg (pv 2) (pg_tupK K 2 rfl rfl (pgs_cons (pg_name (i := 3) sc_are_pairs.nd rfl (Or.inl rfl)) (pgs_cons (pg_name (i := 4) sc_are_pairs.nd rfl (Or.inl rfl)) pgs_nil)) rfl rfl))
      (pss_cons (ps_if (PW.pt (pw_or (pt_not (pt_val (pe_c c_is_name hr (by decide) (by rfl) (pa_cons (pv 3) pa_nil)))) (pw_or (pt_cmpR op_eq (pv 3) (C8.pe_gc (by rfl) (gc_NAME T)) (nomark _)) (pw_or (pt_not (pt_val (pe_c c_is_word hr (by decide) (by rfl) (pa_cons (pv 4) pa_nil)))) (pw_or1 (pt_cmpR op_in_seq (pv 3) (pv 1) rfl)))))) (pss_one (ps_ret pe_bl)) pss_nil)
      (pss_one (ps_expr (pe_bm PySem.F.plainAttrs_list PySem.F.slot_list_append PySem.F.type_list_append mt_append (pv 1) (pa_cons (pv 3) pa_nil))))))))
      (pss_one (ps_ret pe_bl))))), ?_⟩
    obtain ⟨hl, _, ⟨v, kw, rfl, ht, ⟨hk, hok, hnd⟩, rfl⟩, q⟩ := h
    obtain ⟨a, xs, rfl, _, ha, hs⟩ := ht.lst
    have hlen : xs.length = kw.length := by rw [hs.length, List.length_map]
    refine q_when (b := false) (et_is (et_test (ev_op (ev_cb (ea_cons (ev_var rfl) ea_nil) (rc_len (.inl (sq_of ha)))) ev_c rv_I0)) ?_) (fun c => by cases c) (fun _ H1 e1 => ?_)
    · rw [hlen]
      simp
      omega
    refine q_asgL (el_lst ea_nil (by decide)) fun p H2 hp e2 h2 => ?_
    have hpH : H p = none := fresh_back e1 hp
    have e12 := e1.trans e2
    refine q_forLn (xs := xs) (ev_var rfl) (sq_of (e12 _ _ ha)) (fun i σ' H' => Ex H H' ∧ (∃ w2 w3 w4, σ' = [some (.ref a), some (.ref p), w2, w3, w4]) ∧ H' p = some (.lst ((kw.take i).map fun p => .str p.1))) (fun H3 e3 => ⟨e12.trans e3, ⟨_, _, _, rfl⟩, e3 _ _ h2⟩) (fun i σ' H' _ h => sq_of (h.1 _ _ ha)) (fun i x σ' H' hi h => ?_) (fun σ' H' h => ?_)
    · obtain ⟨e3, ⟨w2, w3, w4, rfl⟩, h3⟩ := h
      have hik : i < kw.length := by
        have := (List.getElem?_eq_some_iff.mp hi).1
        omega
      have hkw : kw[i]? = some kw[i] := List.getElem?_eq_getElem hik
      obtain ⟨x', hx', hdx⟩ := hs.get (i := i) (d := pd kw[i]) (by rw [List.getElem?_map, hkw] <;> rfl)
      rw [hi] at hx'
      cases hx'
      obtain ⟨T, ys, rfl, hT, hys⟩ := hdx.tup
      simp only [DAs, DA] at hys
      obtain ⟨_, _, rfl, rfl, _, _, rfl, rfl, rfl⟩ := hys
      obtain ⟨k1, k2, k3⟩ := hok kw[i] (List.getElem_mem hik)
      refine q_when (b := false) (et_is (et_or (et_not (et_B (ev_cb (ea_cons (ev_var rfl) (ea_cons ev_c ea_nil)) (kit_tup_tup (e3 _ _ hT))))) fun _ => et_test (ev_op (ev_cb (ea_cons (ev_var rfl) ea_nil) (rc_len (.inr (st_of (e3 _ _ hT))))) ev_c (rv_ne rfl))) (by simp)) (fun c => by cases c) (fun _ H4 e4 => ?_)
      refine (?_ : (tSeq _ _) _ _ _)
      refine ⟨.ref T, rfl, ?_⟩
      refine g_tup2 (st_of ((e3.trans e4) _ _ hT)) ?_
      have hni : kw[i].1 ∉ (kw.take i).map (·.1) := fun hm => by
        obtain ⟨p', hp', he⟩ := List.mem_map.mp hm
        obtain ⟨j, hj, hje⟩ := List.getElem_of_mem hp'
        rw [List.length_take] at hj
        rw [List.getElem_take] at hje
        have h1 := (List.pairwise_iff_getElem.mp hnd) j i (by rw [List.length_map]; omega) (by rw [List.length_map]; omega) (by omega)
        rw [List.getElem_map, List.getElem_map, hje] at h1
        exact h1 he
      have h4 := e4 _ _ h3
      have e34 := e3.trans e4
      refine q_when (b := false) (et_is (et_or (a := false) (et_is (et_not (et_B (ev_callV (ea_cons (ev_var rfl) ea_nil) rfl fun _ _ => ⟨_, rfl, k1.1, k1.2, rfl⟩))) rfl) fun _ => et_or (a := false) (et_is (et_test (ev_op (ev_var rfl) ev_c (rv_eq rfl))) (str_ne k2)) fun _ => et_or (a := false) (et_is (et_not (et_B (ev_callV (ea_cons (ev_var rfl) ea_nil) rfl fun _ _ => ⟨_, rfl, k3.1, k3.2, rfl⟩))) rfl) fun _ => et_is (et_test (ev_op (ev_var rfl) (ev_var rfl) (rv_isL (sq_of h4) rfl ?_))) ?_) rfl) (fun c => by cases c) (fun _ H5 e5 => ?_)
      · have := flat_strs ((kw.take i).map (·.1))
        rw [List.map_map] at this
        exact this
      · have := inV_strs hni
        rw [List.map_map] at this
        exact this
      refine s_app (e5 _ _ h4) (ev_var rfl) (ev_var rfl) ?_ fun H6 e6 => ?_
      · rw [List.length_map, List.length_take]
        omega
      refine ⟨Ex.mut ((e34.trans e5).trans e6) hpH, ⟨_, _, _, rfl⟩, ?_⟩
      have ht : kw.take (i + 1) = kw.take i ++ [kw[i]] := by rw [List.take_succ, hkw] <;> rfl
      rw [upd_same, ht, List.map_append] <;> rfl
    · obtain ⟨e3, ⟨w2, w3, w4, rfl⟩, h3⟩ := h
      exact s_ret ev_c fun H4 e4 => q H4 (e3.trans e4)
end

def tg0 : Str × Str := ("host", "a")
def tg1 : Str × Str := ("zone", "x")
def tagsOf (k : Nat) : List (Str × Str) := if k = 0 then [tg0] else [tg0, tg1]
def txt (k : Nat) : Str := if k = 0 then "load{host=a}" else "load{host=a,zone=x}"
/-- the instance at a is the series k -/
def SerAt (K : PySem.W.Frag) (H : Hp) (a : Addr) (k : Nat) : Prop := ∃ dx T xs, H a = some (.ins (He.ga K "Series") dx [("name", .str "load"), ("tags", .ref T)]) ∧ H T = some (.tup xs) ∧ DAs TD H ((tagsOf k).map pd) xs
theorem SerAt.ex {K : PySem.W.Frag} {H H' : Hp} {a : Addr} {k : Nat} (e : Ex H H') (h : SerAt K H a k) : SerAt K H' a k := by
  obtain ⟨dx, T, xs, h1, h2, h3⟩ := h
  exact ⟨dx, T, xs, e _ _ h1, e _ _ h2, h3.ex e⟩
def spSer (K : PySem.W.Frag) : Sp := fun vs H Q _ => ∃ a dx v k, vs = [.ref a, .str "load", v] ∧ H a = some (.ins (He.ga K "Series") dx []) ∧ k < 2 ∧ (∃ kw, TagsAt H v kw ∧ (kw = tagsOf k ∨ kw = (tagsOf k).reverse)) ∧
  ∀ H', (∀ b o, b ≠ a → H b = some o → H' b = some o) → SerAt K H' a k → Q .non H'
theorem okTags : ∀ k, k < 2 → ∀ kw, kw = tagsOf k ∨ kw = (tagsOf k).reverse → OkKw kw := by
  have h1 : okKey "host" := ⟨by decide, by decide +kernel, 104, by decide +kernel, by decide +kernel⟩
  have h2 : okKey "zone" := ⟨by decide, by decide +kernel, 122, by decide +kernel, by decide +kernel⟩
  have h3 : okWord "a" := ⟨by decide, by decide +kernel, 97, by decide +kernel, by decide⟩
  have h4 : okWord "x" := ⟨by decide, by decide +kernel, 120, by decide +kernel, by decide⟩
  have n1 : ("host" : Str) ≠ "name" := by decide +kernel
  have n2 : ("zone" : Str) ≠ "name" := by decide +kernel
  intro k hk kw hkw
  refine ⟨?_, fun p hp => ?_, ?_⟩
  · rcases hkw with rfl | rfl <;> unfold tagsOf <;> split <;> decide
  · have hp' : p ∈ tagsOf k := by rcases hkw with rfl | rfl <;> simpa using hp
    have : p = tg0 ∨ p = tg1 := by
      unfold tagsOf at hp'
      split at hp'
      · exact .inl (List.mem_singleton.mp hp')
      · rcases List.mem_cons.mp hp' with h | h
        · exact .inl h
        · exact .inr (List.mem_singleton.mp h)
    rcases this with rfl | rfl
    · exact ⟨h1, n1, h3⟩
    · exact ⟨h2, n2, h4⟩
  · rcases hkw with rfl | rfl <;> unfold tagsOf <;> split <;> decide +kernel
theorem alike_kw (kw : List (Str × Str)) : PySem.W.AllAlike (kw.map pd) := PySem.W.AllAlike.of fun b b' => rfl
theorem sortable_kw (kw : List (Str × Str)) : PySem.W.Sortable (kw.map pd) := .inl fun d hd => by
  obtain ⟨p, _, rfl⟩ := List.mem_map.mp hd
  exact ⟨_, _, rfl⟩
theorem sort_tags : ∀ k, k < 2 → ∀ kw, kw = tagsOf k ∨ kw = (tagsOf k).reverse → kw.mergeSort (PySem.W.dataLe false pd) = tagsOf k := by
  intro k hk kw hkw
  have e1 : PySem.W.dataLe false pd tg0 tg1 = true := by decide +kernel
  have e2 : PySem.W.dataLe false pd tg1 tg0 = false := by decide +kernel
  match k, hk with
  | 0, _ => 
    rcases hkw with rfl | rfl <;> exact List.mergeSort_singleton _
  | 1, _ =>
    rcases hkw with rfl | rfl
    · show List.mergeSort [tg0, tg1] _ = [tg0, tg1]
      simp [List.mergeSort, List.merge, e1]
    · show List.mergeSort [tg1, tg0] _ = [tg0, tg1]
      simp [List.mergeSort, List.merge, e2]
theorem ok_load : okKey "load" := ⟨by decide, by decide +kernel, 108, by decide +kernel, by decide +kernel⟩

section
variable {P : Program} {w : World} {K : PySem.W.Frag} {mg : Str → Option Value} {base : Heap}
theorem sc_Series_init : FnScope ["self", "name", "tags", "pairs"] ["self", "name", "tags"] (defScope s_Series_init) := ⟨rfl, rfl, rfl, by decide +kernel, rfl, by decide +kernel, by decide +kernel⟩
theorem c_Series (T : Fx K mg) : C8.Mak P w K mg base 4 "Series" (He.ga K "Series") (spSer K) [] :=
  mak_ofD T.i_Series T.k_Series T.g_Series sc_Series_init (fun _ _ _ _ h => by obtain ⟨_, _, _, _, rfl, _⟩ := h; rfl) (fun _ _ _ _ _ _ _ us its hl hi => match us, hl, its, hi with | [_, _, _], _, [_], _ => ⟨_, rfl, rfl⟩) fun cdv A outer s H vs Q E hr h => by
    have c_are_pairs := c_are_pairs (P := P) (w := w) (base := base) T
    have c_is_name := c_is_name (P := P) (w := w) (base := base) T
    have c_pairs_of := c_pairs_of (P := P) (w := w) (base := base) T
    refine ⟨_, (pss_cons (ps_if (pt_not (pt_val (pe_c c_is_name hr (by decide) (by rfl) (pa_cons (pv 1) pa_nil)))) (pss_one ps_never) pss_nil)
      (pss_cons (ps_set (i := 3) sc_Series_init.nd rfl (Or.inl rfl) (pe_c c_pairs_of hr (by decide) (by rfl) (pa_cons (pv 2) pa_nil)))
      (pss_cons (ps_if (PW.pt (pw_or (pt_cmpR op_isN (pv 3) pe_non (nomark _)) (pw_or1 (pt_not (pt_val (pe_c c_are_pairs hr (by decide) (by rfl) (pa_cons (pv 3) pa_nil))))))) (pss_one ps_never) pss_nil)
      (pss_cons (ps_fld (pv 0) (pv 1) rfl)
      (pss_one (ps_fld (pv 0) (pe_callTy (call_tuple_ofK K rfl) (by rfl) T.n_tuple b_tuple (pa_cons (pe_callB (cr_sortD pd (hu64 hr)) (by rfl) T.n_sorted b_sorted (pa_cons (pv 3) pa_nil)) pa_nil)) rfl)))))), ?_⟩
    obtain ⟨a, dx, v, k, rfl, ha, hk, ⟨kw, ht, hkw⟩, q⟩ := h
    refine q_when (b := false) (et_is (et_not (et_B (ev_callV (ea_cons (ev_var rfl) ea_nil) rfl fun _ _ => ⟨_, rfl, ok_load.1, ok_load.2, rfl⟩))) rfl) (fun c => by cases c) (fun _ H1 e1 => ?_)
    have okw := okTags k hk kw hkw
    have ht1 : TagsAt H1 v kw := ht.elim (fun h => .inl (h.ex e1)) (fun ⟨b, h1, h2⟩ => .inr ⟨b, h1, e1 _ _ h2⟩)
    refine q_asgD (N := TD) (d := .list (kw.map pd)) (ed_callG (ea_cons (ev_var rfl) ea_nil) rfl fun H2 e2 => ⟨v, kw, rfl, ht1.elim (fun h => .inl (h.ex e2)) (fun ⟨b, h1, h2⟩ => .inr ⟨b, h1, e2 _ _ h2⟩), okw.1, rfl⟩) fun v2 H2 e2 hd => ?_
    obtain ⟨b, xs, rfl, _, hb, hs⟩ := hd.lst
    refine q_when (b := false) (et_is (et_or (a := false) (et_is (et_test (ev_op (ev_var rfl) ev_c rv_isN)) (by simp)) fun _ => et_not (et_B (ev_callV (ea_cons (ev_var rfl) ea_nil) rfl fun H3 e3 => ⟨_, kw, rfl, hd.ex e3, okw, rfl⟩))) rfl) (fun c => by cases c) (fun _ H3 e3 => ?_)
    have e13 := (e1.trans e2).trans e3
    refine ⟨_, rfl, _, rfl, a, _, dx, [], rfl, e13 _ _ ha, T.c_Series, T.a_Series_name, by decide, ?_⟩
    have hd4 := da_ins (fs' := [("name", .str "load")]) (hd.ex e3) (e13 _ _ ha)
    refine ed_tupOf (ed_sort (ed_var rfl hd4) (alike_kw kw) (sortable_kw kw) (fun p _ => Nat.le_of_ble_eq_true rfl) (fun _ => True.intro)) _ (Ex.refl _) _ fun v5 H5 e5 hd5 => ?_
    rw [sort_tags k hk kw hkw] at hd5
    have ha5 := e5 a _ upd_same
    obtain ⟨l, ys, rfl, hl, hys⟩ := (da_ins (fs' := [("name", .str "load"), ("tags", v5)]) hd5 ha5).tup
    refine ⟨_, rfl, a, _, dx, [("name", .str "load")], rfl, ha5, T.c_Series, T.a_Series_tags, by decide, ?_⟩
    refine q _ (fun c o hc h => ?_) ⟨dx, l, ys, upd_same, hl, hys⟩
    rw [upd_ne hc]
    exact e5 _ _ (by rw [upd_ne hc]; exact e13 _ _ h)
end

def fs1 (p : Str × Str) : Str := ([p.1, "=", p.2] : List Str).foldl (· ++ ·) Str.empty
theorem txt_eq : ∀ k, k < 2 → (("load" ++ "{" : Str) ++ Txt.join "," ((tagsOf k).map fs1)) ++ "}" = txt k := by
  intro k hk
  match k, hk with
  | 0, _ => decide +kernel
  | 1, _ => decide +kernel
theorem tags_len : ∀ k, (tagsOf k).length ≤ 2 := by
  intro k
  unfold tagsOf
  split <;> decide
theorem fs_len : ∀ k, k < 2 → (((tagsOf k).map fs1).map (·.length)).sum ≤ 100 ∧ (Txt.join "," ((tagsOf k).map fs1)).length ≤ 100 ∧ ∀ p ∈ tagsOf k, p.1.length ≤ 10 ∧ p.2.length ≤ 10 := by
  intro k hk
  match k, hk with
  | 0, _ => decide +kernel
  | 1, _ => decide +kernel
theorem gvn_map {α : Type} (l : List α) (f : α → PyData) (d : Nat → PyData) (h : ∀ i x, l[i]? = some x → d i = f x) : gvn l.length (fun _ => true) d = l.map f := by
  rw [gvn_all]
  refine List.ext_getElem (by simp) fun i h1 h2 => ?_
  simp only [List.length_map] at h2
  rw [List.getElem_map, List.getElem_map, List.getElem_range]
  exact h i _ (List.getElem?_eq_getElem h2)

section
variable {P : Program} {w : World} {K : PySem.W.Frag} {mg : Str → Option Value} {base : Heap}
theorem sc_Series_text : FnScope ["self", "inside", "key", "word"] ["self"] (defScope s_Series_text) := ⟨rfl, rfl, rfl, by decide +kernel, rfl, by decide +kernel, by decide +kernel⟩
theorem c_Series_text (T : Fx K mg) : C8.Met P w K mg base 1 (He.ga K "Series") "text" (SV 1 fun vs H z => ∃ a k, vs = [.ref a] ∧ k < 2 ∧ SerAt K H a k ∧ z = .str (txt k)) [] :=
  met_of T.m_Series_text T.c_Series sc_Series_text SV.len (fun _ _ _ _ _ _ us hl => match us, hl with | [_], _ => rfl) fun cdv A outer s H vs Q E hr h => by
    skip
    refine ⟨_, (pss_cons (ps_set (i := 1) sc_Series_text.nd rfl (Or.inl rfl) (pe_join pe_str (pe_lc rfl sc_Series_text.nd (pi_tup (pe_fld (pv 0) rfl)) (blkOk_by (own := [("key", 2), ("word", 3)]) (by show blkC ["self", "inside", "key", "word"] (defScope s_Series_text) _ _ = true; decide +kernel)) (fun _ _ _ _ _ => (pg_tupK K 2 rfl rfl (pgs_cons (pg_name (i := 2) sc_Series_text.nd rfl (Or.inl rfl)) (pgs_cons (pg_name (i := 3) sc_Series_text.nd rfl (Or.inl rfl)) pgs_nil)) rfl rfl)) (fun _ _ _ _ _ => pts_nil) (fun _ _ _ _ _ => (pe_joined (PJ.cons (pe_fmt (pv 2)) (PJ.cons pe_str (PJ.cons (pe_fmt (pv 3)) PJ.nil))))))))
      (pss_one (ps_ret (pe_op op_add_str (pe_op op_add_str (pe_op op_add_str (pe_fld (pv 0) rfl) pe_str) (pv 1)) pe_str)))), ?_⟩
    obtain ⟨hl, _, ⟨a, k, rfl, hk, hs, rfl⟩, q⟩ := h
    obtain ⟨dx, L, xs, ha, hL, hx⟩ := hs
    obtain ⟨f1, f2, f3⟩ := fs_len k hk
    have htags : EvD TD (tFld K (tVar 0) "tags") (start ["self", "inside", "key", "word"] [.ref a]) H (.tuple ((tagsOf k).map pd)) := ed_ev (ev_fld (ev_var rfl) ha T.c_Series T.a_Series_tags rfl) fun H1 e1 => by simp only [DA]; exact ⟨L, xs, rfl, e1 _ _ hL, hx.ex e1⟩
    have hj : EvD TD (tLc (iTup K (tFld K (tVar 0) "tags")) (gTup K 2 (gCons (gName 2) (gCons (gName 3) gNil))) tYes (fun σ H Q => tJs [tFmt (tVar 2), tC (.str "="), tFmt (tVar 3)] Str.empty σ H fun out H1 => Q (.str out) H1) [2, 3]) (start ["self", "inside", "key", "word"] [.ref a]) H (.list (((tagsOf k).map fs1).map .str)) := by
      refine ed_is (ed_lc fr_TD (fun _ => true) (fun i => .str (fs1 ((tagsOf k).getD i ("", "")))) (ew_tup htags) (by rw [List.length_map]; have := tags_len k; omega) fun N' i x H1 e1 fr _ hi hx => ?_) ?_
      · obtain ⟨d, hd, hdx⟩ := hx
        rw [List.getElem?_map] at hd
        obtain ⟨p, hp, rfl⟩ := Option.map_eq_some_iff.mp hd
        obtain ⟨T2, ys, rfl, hT, hys⟩ := hdx.tup
        simp only [DAs, DA] at hys
        obtain ⟨_, _, rfl, rfl, _, _, rfl, rfl, rfl⟩ := hys
        obtain ⟨l1, l2⟩ := f3 p (List.mem_of_getElem? hp)
        refine ⟨_, fun Q q => g_tup2 (st_of hT) q, rfl, et_yes, fun _ => ?_⟩
        rw [List.getD_eq_getElem?_getD, hp]
        show EvD _ _ _ _ (.str (fs1 p))
        have l3 : ("=" : Str).length = 1 := by decide +kernel
        refine ed_str (ev_joined (ej_cons (ev_fmtS (ev_var rfl) (by omega)) (ej_cons ev_c (ej_cons (ev_fmtS (ev_var rfl) (by omega)) ej_nil))) ?_)
        simp only [List.map_cons, List.map_nil, List.sum_cons, List.sum_nil, l3]
        omega
      · refine congrArg PyData.list ?_
        rw [List.length_map, List.map_map]
        exact gvn_map _ _ _ fun i p hp => by rw [List.getD_eq_getElem?_getD, hp] <;> rfl
    have hc : ("," : Str).length = 1 := by decide +kernel
    have hl2 := tags_len k
    refine q_asg (ev_join ev_c hj ?_) fun H1 e1 => ?_
    · rw [hc, List.length_map]
      omega
    have b1 : ("load" : Str).length = 4 := by decide +kernel
    have b2 : ("{" : Str).length = 1 := by decide +kernel
    have b3 : ("}" : Str).length = 1 := by decide +kernel
    refine s_ret (ev_is (ev_op (ev_op (ev_op (ev_fld (ev_var rfl) (e1 _ _ ha) T.c_Series T.a_Series_name rfl) ev_c (rv_cat ?_)) (ev_var rfl) (rv_cat ?_)) ev_c (rv_cat ?_)) (congrArg V.str (txt_eq k hk))) fun H2 e2 => q H2 (e1.trans e2)
    · rw [b1, b2]
      decide
    · rw [slen, b1, b2]
      omega
    · rw [slen, slen, b1, b2, b3]
      omega
end
section
variable {P : Program} {w : World} {K : PySem.W.Frag} {mg : Str → Option Value} {base : Heap}
theorem sc_check_series : FnScope ["series"] ["series"] (defScope s_check_series) := ⟨rfl, rfl, rfl, by decide +kernel, rfl, by decide +kernel, by decide +kernel⟩
theorem c_check_series (T : Fx K mg) : C8.Cal P w K mg base 1 "check_series" (SV 1 fun vs H z => (∃ a k, vs = [.ref a] ∧ SerAt K H a k) ∧ z = .non) [] :=
  cal_of T.d_check_series sc_check_series SV.len (fun _ _ _ _ _ _ us hl => match us, hl with | [_], _ => rfl) fun cdv A outer s H vs Q E hr h => by
    skip
    refine ⟨_, (pss_one (ps_if (pt_not (pt_val (pe_callB (C8.call_isC T.o_Series) (by rfl) T.n_isinstance b_isinstance (pa_cons (pv 0) (pa_cons (pe_glob (v := .ref _) rfl T.g_Series rfl) pa_nil))))) (pss_one ps_never) pss_nil)), ?_⟩
    obtain ⟨hl, _, ⟨⟨a, k, rfl, hs⟩, rfl⟩, q⟩ := h
    obtain ⟨dx, L, xs, ha, hL, hx⟩ := hs
    refine s_when (b := false) (et_is (et_not (et_B (ev_cb (ea_cons (ev_var rfl) (ea_cons ev_c ea_nil)) (z := .bl true) fun H1 e1 Q k => ⟨a, dx, _, rfl, e1 _ _ ha, k H1 (Ex.refl H1)⟩))) rfl) (fun c => by cases c) (fun _ H1 e1 => q H1 e1)
end
end Eg
end

section
set_option Elab.async false
set_option linter.all false
set_option maxRecDepth 100000
set_option maxHeartbeats 4000000
set_option linter.constructorNameAsVariable false
namespace Eg
open PySem PySem.Spec PyProof.Rows L2 Evl C8


def Row : Type := Int × Option Int
def rd (r : Int × Option Int) : PyData := .tuple [.int r.1, optD r.2]
def okRow (r : Int × Option Int) (b : Bool) : Bool := decide (1 ≤ r.1) && match r.2 with | none => b | some c => decide (0 < c)
def okFol (r a : Int × Option Int) : Bool := decide (r.1 % a.1 = 0) && (decide (2 * a.1 ≤ r.1) && (decide (1 ≤ a.1 ∧ a.1 < 1000) && match a.2 with | none => false | some c => match r.2 with | none => true | some d => decide (c + r.1 ≤ d)))
def gr (rs : List (Int × Option Int)) (i : Nat) : Int × Option Int := rs.getD i (0, none)
def okRules (rs : List (Int × Option Int)) : Bool := decide (1 ≤ rs.length ∧ rs.length ≤ 4) && (decide ((gr rs 0).1 = 1) && ((List.range rs.length).all fun i => okRow (gr rs i) (decide (i + 1 = rs.length)) && (decide ((gr rs i).1 < 1000) && (decide (i = 0) || okFol (gr rs i) (gr rs (i - 1))))))
theorem gr_at {rs : List (Int × Option Int)} {i : Nat} (h : i < rs.length) : rs[i]? = some (gr rs i) := by
  unfold gr
  rw [List.getD_eq_getElem?_getD, List.getElem?_eq_getElem h] <;> rfl
theorem rd_at {rs : List (Int × Option Int)} {i : Nat} (h : i < rs.length) : (rs.map rd)[i]? = some (rd (gr rs i)) := by rw [List.getElem?_map, gr_at h] <;> rfl
theorem atI_nat {α : Type} (xs : List α) (i : Nat) : L2.atI xs (i : Int) = xs[i]? := by
  unfold L2.atI
  by_cases h : i < xs.length
  · rw [ixN_nat h] <;> rfl
  · rw [List.getElem?_eq_none (by omega)]
    unfold ixN
    rw [if_pos (by omega), if_neg (by omega)] <;> rfl
theorem rd_atI {rs : List (Int × Option Int)} {i : Nat} (h : i < rs.length) : L2.atI (rs.map rd) (i : Int) = some (rd (gr rs i)) := by rw [atI_nat, rd_at h]
structure OkRs (rs : List (Int × Option Int)) : Prop where
  l1 : 1 ≤ rs.length
  l4 : rs.length ≤ 4
  one : (gr rs 0).1 = 1
  row : ∀ i, i < rs.length → okRow (gr rs i) (decide (i + 1 = rs.length)) = true
  lt : ∀ i, i < rs.length → (gr rs i).1 < 1000
  fol : ∀ i, 0 < i → i < rs.length → okFol (gr rs i) (gr rs (i - 1)) = true
theorem okRs_of {rs : List (Int × Option Int)} (h : okRules rs = true) : OkRs rs := by
  unfold okRules at h
  simp only [Bool.and_eq_true, decide_eq_true_eq, List.all_eq_true, List.mem_range, Bool.or_eq_true] at h
  obtain ⟨⟨h1, h2⟩, h3, h4⟩ := h
  exact ⟨h1, h2, h3, fun i hi => (h4 i hi).1, fun i hi => (h4 i hi).2.1, fun i h0 hi => ((h4 i hi).2.2).resolve_left (by omega)⟩
theorem OkRs.pos {rs : List (Int × Option Int)} (h : OkRs rs) {i : Nat} (hi : i < rs.length) : 1 ≤ (gr rs i).1 := by
  have := h.row i hi
  unfold okRow at this
  rw [Bool.and_eq_true, decide_eq_true_eq] at this
  exact this.1

section
variable {P : Program} {w : World} {K : PySem.W.Frag} {mg : Str → Option Value} {base : Heap}
theorem sc_is_row : FnScope ["value", "is_last"] ["value", "is_last"] (defScope s_is_row) := ⟨rfl, rfl, rfl, by decide +kernel, rfl, by decide +kernel, by decide +kernel⟩
theorem c_is_row (T : Fx K mg) : C8.Cal P w K mg base 3 "is_row" (SV 2 fun vs H z => ∃ N r b, DAs N H [rd r, .bool b] vs ∧ okRow r b = true ∧ z = .bl true) [] :=
  cal_of T.d_is_row sc_is_row SV.len (fun _ _ _ _ _ _ us hl => match us, hl with | [_, _], _ => rfl) fun cdv A outer s H vs Q E hr h => by
    have c_is_count := c_is_count (P := P) (w := w) (base := base) T
    refine ⟨_, (pss_cons (ps_if (PW.pt (pw_or (pt_not (pt_val (pe_callB call_isi (by rfl) T.n_isinstance b_isinstance (pa_cons (pv 0) (pa_cons (pe_bltn (v := .ty "tuple") (by rfl) T.n_tuple b_tuple rfl) pa_nil))))) (pw_or (pt_cmpR op_ne (pe_callB (call_len_seqK K rfl) (by rfl) T.n_len b_len (pa_cons (pv 0) pa_nil)) pe_int (nomark _)) (pw_or (pt_not (pt_val (pe_c c_is_count hr (by decide) (by rfl) (pa_cons (pe_ix (ix_tupK K rfl) (pv 0) pe_int (fun _ _ => rfl)) pa_nil)))) (pw_or1 (pt_cmpR op_eq (pe_ix (ix_tupK K rfl) (pv 0) pe_int (fun _ _ => rfl)) pe_int (nomark _))))))) (pss_one (ps_ret pe_bl)) pss_nil)
      (pss_one (ps_ret (pe_or (pe_and (pv 1) (pe_one (pe_cmpR op_isN (pe_ix (ix_tupK K rfl) (pv 0) pe_int (fun _ _ => rfl)) pe_non (nomark _)))) (pe_one (pe_and (pe_c c_is_count hr (by decide) (by rfl) (pa_cons (pe_ix (ix_tupK K rfl) (pv 0) pe_int (fun _ _ => rfl)) pa_nil)) (pe_one (pe_cmpR op_gt (pe_ix (ix_tupK K rfl) (pv 0) pe_int (fun _ _ => rfl)) pe_int (nomark _))))))))), ?_⟩
    obtain ⟨hl, _, ⟨N, r, b, hv, ok, rfl⟩, q⟩ := h
    simp only [DAs, DA] at hv
    obtain ⟨v, _, rfl, hd, _, _, rfl, rfl, rfl⟩ := hv
    obtain ⟨a, xs, rfl, ha, hx⟩ := DA.tup (ds := [.int r.1, optD r.2]) hd
    unfold okRow at ok
    rw [Bool.and_eq_true, decide_eq_true_eq] at ok
    obtain ⟨ok1, ok2⟩ := ok
    have hlen : xs.length = 2 := hx.length
    have i0 : ∀ H1, Ex H H1 → Ev (tOp (rIxT K) (tVar 0) (tC (.int 0))) (start ["value", "is_last"] [.ref a, .bl b]) H1 (.int r.1) := fun H1 e => dv_int (ed_ixT (ds := [.int r.1, optD r.2]) (ed_var rfl (hd.ex e)) ev_c rfl)
    have i1 : ∀ H1, Ex H H1 → Ev (tOp (rIxT K) (tVar 0) (tC (.int 1))) (start ["value", "is_last"] [.ref a, .bl b]) H1 (optV r.2) := fun H1 e => dv_opt (ed_ixT (ds := [.int r.1, optD r.2]) (ed_var rfl (hd.ex e)) ev_c rfl)
    refine q_when (b := false) (et_is (et_or (a := false) (et_is (et_not (et_B (ev_cb (ea_cons (ev_var rfl) (ea_cons ev_c ea_nil)) (kit_tup_tup ha)))) rfl) fun _ => et_or (a := false) (et_is (et_test (ev_op (ev_lenD (ev_var rfl) (.inr ha)) ev_c rv_neI)) (by rw [hlen]; rfl)) fun _ => et_or (a := false) (et_is (et_not (et_B (ev_callV (ea_cons (i0 H (Ex.refl H)) ea_nil) rfl fun _ _ => ⟨_, rfl, rfl⟩))) (by simp; omega)) fun _ => et_test (ev_op (i0 H (Ex.refl H)) ev_c rv_eqI)) (by simp; omega)) (fun c => by cases c) (fun _ H1 e1 => ?_)
    refine s_ret ?_ fun H2 e2 => q H2 (e1.trans e2)
    have i1' := i1 H1 e1
    obtain ⟨l, o⟩ := r
    cases o with
    | none =>
      have ok2' : b = true := ok2
      subst ok2'
      exact ev_is (ev_orV (a := true) (b := true) (ev_is (ev_andV (ev_var rfl) fun _ => ev_op i1' ev_c rv_isO) rfl) (fun c => by cases c)) rfl
    | some c =>
      have ok2' : 0 < c := of_decide_eq_true ok2
      refine ev_is (ev_orV (a := false) (b := true) (ev_is (ev_andV (b := false) (ev_var rfl) fun _ => ev_op i1' ev_c rv_isO) (by simp)) fun _ => ev_is (ev_andV (ev_callV (ea_cons i1' ea_nil) rfl fun _ _ => ⟨c, rfl, rfl⟩) fun _ => ev_op i1' ev_c rv_I0) ?_) rfl
      have h1 : (0 : Int) ≤ c := by omega
      simp [h1, ok2']
end
section
variable {P : Program} {w : World} {K : PySem.W.Frag} {mg : Str → Option Value} {base : Heap}
theorem sc_may_follow : FnScope ["row", "ahead"] ["row", "ahead"] (defScope s_may_follow) := ⟨rfl, rfl, rfl, by decide +kernel, rfl, by decide +kernel, by decide +kernel⟩
theorem c_may_follow (T : Fx K mg) : C8.Cal P w K mg base 1 "may_follow" (SV 2 fun vs H z => ∃ N r a, DAs N H [rd r, rd a] vs ∧ okFol r a = true ∧ z = .bl true) [] :=
  cal_of T.d_may_follow sc_may_follow SV.len (fun _ _ _ _ _ _ us hl => match us, hl with | [_, _], _ => rfl) fun cdv A outer s H vs Q E hr h => by
    skip
    refine ⟨_, (pss_cons (ps_if (PW.pt (pw_or (pt_cmpR op_ne (pe_op op_mod (pe_ix (ix_tupK K rfl) (pv 0) pe_int (fun _ _ => rfl)) (pe_ix (ix_tupK K rfl) (pv 1) pe_int (fun _ _ => rfl))) pe_int (nomark _)) (pw_or1 (pt_cmpR op_lt (pe_ix (ix_tupK K rfl) (pv 0) pe_int (fun _ _ => rfl)) (pe_op op_mul pe_int (pe_ix (ix_tupK K rfl) (pv 1) pe_int (fun _ _ => rfl))) (nomark _))))) (pss_one (ps_ret pe_bl)) pss_nil)
      (pss_one (ps_ret (pe_or (pe_cmpR op_isN (pe_ix (ix_tupK K rfl) (pv 0) pe_int (fun _ _ => rfl)) pe_non (nomark _)) (pe_one (pe_cmpR op_ge (pe_ix (ix_tupK K rfl) (pv 0) pe_int (fun _ _ => rfl)) (pe_op op_add (pe_ix (ix_tupK K rfl) (pv 1) pe_int (fun _ _ => rfl)) (pe_ix (ix_tupK K rfl) (pv 0) pe_int (fun _ _ => rfl))) (nomark _))))))), ?_⟩
    obtain ⟨hl, _, ⟨N, r, a, hv, ok, rfl⟩, q⟩ := h
    simp only [DAs] at hv
    obtain ⟨v, _, rfl, hd, u, _, rfl, hu, rfl⟩ := hv
    unfold okFol at ok
    simp only [Bool.and_eq_true, decide_eq_true_eq] at ok
    obtain ⟨o1, o2, o3, o4⟩ := ok
    obtain ⟨l, o⟩ := r
    obtain ⟨m, p⟩ := a
    simp only at o1 o2 o3 o4
    have r0 : ∀ H1, Ex H H1 → Ev (tOp (rIxT K) (tVar 0) (tC (.int 0))) (start ["row", "ahead"] [v, u]) H1 (.int l) := fun H1 e => dv_int (ed_ixT (ds := [.int l, optD o]) (ed_var rfl (hd.ex e)) ev_c rfl)
    have r1 : ∀ H1, Ex H H1 → Ev (tOp (rIxT K) (tVar 0) (tC (.int 1))) (start ["row", "ahead"] [v, u]) H1 (optV o) := fun H1 e => dv_opt (ed_ixT (ds := [.int l, optD o]) (ed_var rfl (hd.ex e)) ev_c rfl)
    have a0 : ∀ H1, Ex H H1 → Ev (tOp (rIxT K) (tVar 1) (tC (.int 0))) (start ["row", "ahead"] [v, u]) H1 (.int m) := fun H1 e => dv_int (ed_ixT (ds := [.int m, optD p]) (ed_var rfl (hu.ex e)) ev_c rfl)
    have a1 : ∀ H1, Ex H H1 → Ev (tOp (rIxT K) (tVar 1) (tC (.int 1))) (start ["row", "ahead"] [v, u]) H1 (optV p) := fun H1 e => dv_opt (ed_ixT (ds := [.int m, optD p]) (ed_var rfl (hu.ex e)) ev_c rfl)
    refine q_when (b := false) (et_is (et_or (a := false) (et_is (et_test (ev_op (ev_op (r0 H (Ex.refl H)) (a0 H (Ex.refl H)) (rv_I (by omega))) ev_c rv_neI)) (by simp [o1])) fun _ => et_test (ev_op (r0 H (Ex.refl H)) (ev_op ev_c (a0 H (Ex.refl H)) (rv_I (.inl (by omega)))) rv_I0)) (by simp; omega)) (fun c => by cases c) (fun _ H1 e1 => ?_)
    refine s_ret ?_ fun H2 e2 => q H2 (e1.trans e2)
    have r1' := r1 H1 e1
    have a1' := a1 H1 e1
    cases p with
    | none => cases o4
    | some c =>
      cases o with
      | none => exact ev_is (ev_orV (a := true) (b := true) (ev_op r1' ev_c rv_isO) (fun c => by cases c)) rfl
      | some d =>
        have o5 : c + l ≤ d := of_decide_eq_true o4
        refine ev_is (ev_orV (a := false) (b := true) (ev_op r1' ev_c rv_isO) fun _ => ev_is (ev_op r1' (ev_op a1' (r0 H1 e1) rv_I0) rv_I0) ?_) rfl
        simp [o5]
end

/-- the instance at a holds the rules rs -/
def RulesAt (K : PySem.W.Frag) (H : Hp) (a : Addr) (rs : List (Int × Option Int)) : Prop := OkRs rs ∧ ∃ dx L xs, H a = some (.ins (He.ga K "Rules") dx [("rows", .ref L)]) ∧ H L = some (.tup xs) ∧ DAs TD H (rs.map rd) xs
theorem RulesAt.ex {K : PySem.W.Frag} {H H' : Hp} {a : Addr} {rs : List (Int × Option Int)} (e : Ex H H') (h : RulesAt K H a rs) : RulesAt K H' a rs := by
  obtain ⟨ok, dx, L, xs, h1, h2, h3⟩ := h
  exact ⟨ok, dx, L, xs, e _ _ h1, e _ _ h2, h3.ex e⟩
def spRulesI (K : PySem.W.Frag) : Sp := fun vs H Q _ => ∃ a dx v rs, vs = [.ref a, v] ∧ H a = some (.ins (He.ga K "Rules") dx []) ∧ DA TD H (.list (rs.map rd)) v ∧ OkRs rs ∧
  ∀ H', (∀ b o, b ≠ a → H b = some o → H' b = some o) → RulesAt K H' a rs → Q .non H'
def stepOf (rs : List (Int × Option Int)) (g : Nat) : Int := (gr rs (min (g + 1) (rs.length - 1))).1
def edgeOf (rs : List (Int × Option Int)) (g : Nat) (c : Int) : Int := match (gr rs g).2 with
  | none => 0
  | some k => if k > c then 0 else (c - k) / stepOf rs g * stepOf rs g
def fitB (rs : List (Int × Option Int)) (low step : Int) (g : Nat) : Bool := decide (low % (gr rs g).1 = 0) && decide (step % (gr rs g).1 = 0)
def fits (rs : List (Int × Option Int)) (low step : Int) : List Nat := (List.range rs.length).filter (fitB rs low step)
def goneOf (rs : List (Int × Option Int)) (low step clock : Int) : Option Nat := if (fits rs low step).any (fun g => decide (edgeOf rs g clock ≤ low)) then none else (fits rs low step).getLast?

section
variable {P : Program} {w : World} {K : PySem.W.Frag} {mg : Str → Option Value} {base : Heap}
theorem sc_are_rules : FnScope ["value", "at", "row"] ["value"] (defScope s_are_rules) := ⟨rfl, rfl, rfl, by decide +kernel, rfl, by decide +kernel, by decide +kernel⟩
theorem c_are_rules (T : Fx K mg) : C8.Cal P w K mg base 4 "are_rules" (SV 1 fun vs H z => ∃ N rs, DAs N H [.list (rs.map rd)] vs ∧ OkRs rs ∧ z = .bl true) [] :=
  cal_of T.d_are_rules sc_are_rules SV.len (fun _ _ _ _ _ _ us hl => match us, hl with | [_], _ => rfl) fun cdv A outer s H vs Q E hr h => by
    have c_is_list := c_is_list (P := P) (w := w) (base := base) T
    have c_is_row := c_is_row (P := P) (w := w) (base := base) T
    have c_may_follow := c_may_follow (P := P) (w := w) (base := base) T
    refine ⟨_, (pss_cons (ps_if (PW.pt (pw_or (pt_not (pt_val (pe_c c_is_list hr (by decide) (by rfl) (pa_cons (pv 0) pa_nil)))) (pw_or1 (pt_not (pt_chain op_le op_le pe_int (pe_callB (call_len_seqK K rfl) (by rfl) T.n_len b_len (pa_cons (pv 0) pa_nil)) (C8.pe_gc (by rfl) (gc_MOST_GRAINS T))))))) (pss_one (ps_ret pe_bl)) pss_nil)
      (pss_cons (ps_if (PW.pt (pw_or (pt_not (pt_val (pe_callB (cr_all rfl) (by rfl) T.n_all b_all (pa_cons (pe_lc rfl sc_are_rules.nd (pi_enum (by rfl) T.n_enumerate (pa_cons (pv 0) pa_nil)) (blkOk_by (own := [("at", 1), ("row", 2)]) (by show blkC ["value", "at", "row"] (defScope s_are_rules) _ _ = true; decide +kernel)) (fun _ _ _ _ _ => (pg_tupK K 2 rfl rfl (pgs_cons (pg_name (i := 1) sc_are_rules.nd rfl (Or.inl rfl)) (pgs_cons (pg_name (i := 2) sc_are_rules.nd rfl (Or.inl rfl)) pgs_nil)) rfl rfl)) (fun _ _ _ _ _ => pts_nil) (fun _ _ _ _ _ => (pe_c c_is_row hr (by decide) (by rfl) (pa_cons (pv 2) (pa_cons (pe_cmpR op_eq (pv 1) (pe_op op_sub (pe_callB (call_len_seqK K rfl) (by rfl) T.n_len b_len (pa_cons (pv 0) pa_nil)) pe_int) (nomark _)) pa_nil))))) pa_nil)))) (pw_or1 (pt_cmpR op_ne (pe_ix (ix_tupK K rfl) (pe_ix (ix_listK K rfl) (pv 0) pe_int (fun _ _ => rfl)) pe_int (fun _ _ => rfl)) pe_int (nomark _))))) (pss_one (ps_ret pe_bl)) pss_nil)
      (pss_one (ps_ret (pe_callB (cr_all rfl) (by rfl) T.n_all b_all (pa_cons (pe_lc rfl sc_are_rules.nd (pi_range2 (by rfl) T.n_range (pa_cons pe_int (pa_cons (pe_callB (call_len_seqK K rfl) (by rfl) T.n_len b_len (pa_cons (pv 0) pa_nil)) pa_nil))) (blkOk_by (own := [("at", 1)]) (by show blkC ["value", "at", "row"] (defScope s_are_rules) _ _ = true; decide +kernel)) (fun _ _ _ _ _ => (pg_name (i := 1) sc_are_rules.nd rfl (Or.inl rfl))) (fun _ _ _ _ _ => pts_nil) (fun _ _ _ _ _ => (pe_c c_may_follow hr (by decide) (by rfl) (pa_cons (pe_ix (ix_listK K rfl) (pv 0) (pv 1) (fun _ _ => rfl)) (pa_cons (pe_ix (ix_listK K rfl) (pv 0) (pe_op op_sub (pv 1) pe_int) (fun _ _ => rfl)) pa_nil))))) pa_nil)))))), ?_⟩
    obtain ⟨hl, _, ⟨N, rs, hv, ok, rfl⟩, q⟩ := h
    simp only [DAs] at hv
    obtain ⟨v, _, rfl, hd, rfl⟩ := hv
    obtain ⟨a, xs, rfl, hn, ha, hx⟩ := hd.lst
    have hlen : xs.length = rs.length := by rw [hx.length, List.length_map]
    have l1 := ok.l1
    have l4 := ok.l4
    refine q_when (b := false) (et_is (et_or (a := false) (et_is (et_not (et_B (ev_callV (ea_cons (ev_var rfl) ea_nil) rfl fun _ e => ⟨⟨a, xs, rfl, e _ _ ha⟩, rfl⟩))) rfl) fun _ => et_not (et_test (ev_chain ev_c (ev_lenD (ev_var rfl) (.inl ha)) rv_I0 (fun _ => ev_c) (fun _ => rv_I0)))) (by rw [hlen]; simp; omega)) (fun c => by cases c) (fun _ H1 e1 => ?_)
    refine q_when (b := false) (et_is (et_or (a := false) (et_is (et_not (et_B (ev_allLc (fun _ => true) (ew_enum (ed_var rfl (hd.ex e1))) (by rw [List.length_map]; omega) fun i x H2 e2 hi hx2 => ?_))) (by simp)) fun _ => et_is (et_test (ev_op (dv_int (ed_ixT (ds := [.int (gr rs 0).1, optD (gr rs 0).2]) (ed_ixL (ed_var rfl (hd.ex e1)) ev_c (rd_atI (i := 0) l1)) ev_c rfl)) ev_c rv_neI)) (by simp [ok.one])) rfl) (fun c => by cases c) (fun _ H2 e2 => ?_)
    · obtain ⟨L, y, d, rfl, hL, hd2, hy⟩ := hx2
      rw [List.length_map] at hi
      rw [rd_at hi] at hd2
      cases hd2
      refine ⟨_, fun Q q => g_tup2 (st_of hL) q, rfl, ?_⟩
      refine ev_callVD (ds := [rd (gr rs i), .bool (decide (i + 1 = rs.length))]) (eds_cons (ed_var rfl hy) (eds_cons (ed_bl (ev_is (ev_op (ev_var rfl) (ev_op (ev_lenD (ev_var rfl) (.inl ((e1.trans e2) _ _ ha))) ev_c rv_I0) rv_eqI) ?_)) eds_nil)) rfl fun vs H3 e3 hvs => ⟨_, _, _, hvs, ok.row i hi, rfl⟩
      rw [hlen]
      refine congrArg V.bl (decide_eq_decide.mpr ?_)
      omega
    refine s_ret ?_ fun H3 e3 => q H3 ((e1.trans e2).trans e3)
    have e12 := e1.trans e2
    refine ev_is (ev_allLc (fun _ => true) (ew_rng2 (lo := 1) (n := (rs.length : Int)) (ea_cons ev_c (ea_cons (ev_is (ev_lenD (ev_var rfl) (.inl (e12 _ _ ha))) (by rw [hlen])) ea_nil)) (by omega) (by omega)) (by omega) fun i x H3 e3 hi hx2 => ?_) (by simp)
    subst hx2
    have hi' : i + 1 < rs.length := by omega
    refine ⟨_, fun Q q => q, rfl, ?_⟩
    have c1 : (1 : Int) + (i : Int) = ((i + 1 : Nat) : Int) := by omega
    have c2 : (1 : Int) + (i : Int) - 1 = ((i : Nat) : Int) := by omega
    refine ev_callVD (ds := [rd (gr rs (i + 1)), rd (gr rs i)]) (eds_cons (ed_ixL (ed_var rfl (hd.ex (e12.trans e3))) (ev_var rfl) (by rw [c1]; exact rd_atI hi')) (eds_cons (ed_ixL (ed_var rfl (hd.ex (e12.trans e3))) (ev_op (ev_var rfl) ev_c rv_I0) (by rw [c2]; exact rd_atI (by omega))) eds_nil)) rfl fun vs H4 e4 hvs => ⟨_, _, _, hvs, ok.fol (i + 1) (by omega) hi', rfl⟩
end
section
variable {P : Program} {w : World} {K : PySem.W.Frag} {mg : Str → Option Value} {base : Heap}
theorem sc_check_time : FnScope ["time"] ["time"] (defScope s_check_time) := ⟨rfl, rfl, rfl, by decide +kernel, rfl, by decide +kernel, by decide +kernel⟩
theorem c_check_time (T : Fx K mg) : C8.Cal P w K mg base 3 "check_time" (SV 1 fun vs H z => ∃ i : Int, vs = [.int i] ∧ 0 ≤ i ∧ z = .non) [] :=
  cal_of T.d_check_time sc_check_time SV.len (fun _ _ _ _ _ _ us hl => match us, hl with | [_], _ => rfl) fun cdv A outer s H vs Q E hr h => by
    have c_is_count := c_is_count (P := P) (w := w) (base := base) T
    refine ⟨_, (pss_one (ps_if (pt_not (pt_val (pe_c c_is_count hr (by decide) (by rfl) (pa_cons (pv 0) pa_nil)))) (pss_one ps_never) pss_nil)), ?_⟩
    obtain ⟨hl, _, ⟨i, rfl, hi, rfl⟩, q⟩ := h
    exact s_when (b := false) (et_is (et_not (et_B (ev_callV (ea_cons (ev_var rfl) ea_nil) rfl fun _ _ => ⟨_, rfl, rfl⟩))) (by simp; omega)) (fun c => by cases c) (fun _ H1 e1 => q H1 e1)
end
section
variable {P : Program} {w : World} {K : PySem.W.Frag} {mg : Str → Option Value} {base : Heap}
theorem sc_check_window_grains : FnScope ["low", "step"] ["low", "step"] (defScope s_check_window_grains) := ⟨rfl, rfl, rfl, by decide +kernel, rfl, by decide +kernel, by decide +kernel⟩
theorem c_check_window_grains (T : Fx K mg) : C8.Cal P w K mg base 3 "check_window_grains" (SV 2 fun vs H z => ∃ i j : Int, vs = [.int i, .int j] ∧ 0 ≤ i ∧ 1 ≤ j ∧ z = .non) [] :=
  cal_of T.d_check_window_grains sc_check_window_grains SV.len (fun _ _ _ _ _ _ us hl => match us, hl with | [_, _], _ => rfl) fun cdv A outer s H vs Q E hr h => by
    have c_is_count := c_is_count (P := P) (w := w) (base := base) T
    refine ⟨_, (pss_one (ps_if (PW.pt (pw_or (pt_not (pt_val (pe_c c_is_count hr (by decide) (by rfl) (pa_cons (pv 0) pa_nil)))) (pw_or (pt_not (pt_val (pe_c c_is_count hr (by decide) (by rfl) (pa_cons (pv 1) pa_nil)))) (pw_or1 (pt_cmpR op_eq (pv 1) pe_int (nomark _)))))) (pss_one ps_never) pss_nil)), ?_⟩
    obtain ⟨hl, _, ⟨i, j, rfl, hi, hj, rfl⟩, q⟩ := h
    exact s_when (b := false) (et_is (et_or (a := false) (et_is (et_not (et_B (ev_callV (ea_cons (ev_var rfl) ea_nil) rfl fun _ _ => ⟨_, rfl, rfl⟩))) (by simp; omega)) fun _ => et_or (a := false) (et_is (et_not (et_B (ev_callV (ea_cons (ev_var rfl) ea_nil) rfl fun _ _ => ⟨_, rfl, rfl⟩))) (by simp; omega)) fun _ => et_test (ev_op (ev_var rfl) ev_c rv_eqI)) (by simp; omega)) (fun c => by cases c) (fun _ H1 e1 => q H1 e1)
end
section
variable {P : Program} {w : World} {K : PySem.W.Frag} {mg : Str → Option Value} {base : Heap}
theorem sc_Rules_init : FnScope ["self", "rows"] ["self", "rows"] (defScope s_Rules_init) := ⟨rfl, rfl, rfl, by decide +kernel, rfl, by decide +kernel, by decide +kernel⟩
theorem c_Rules (T : Fx K mg) : C8.Mak P w K mg base 5 "Rules" (He.ga K "Rules") (spRulesI K) [] :=
  mak_of T.i_Rules T.k_Rules T.g_Rules sc_Rules_init (fun _ _ _ _ h => by obtain ⟨_, _, _, _, rfl, _⟩ := h; rfl) (fun _ _ _ _ _ _ us hl => match us, hl with | [_, _], _ => rfl) fun cdv A outer s H vs Q E hr h => by
    have c_are_rules := c_are_rules (P := P) (w := w) (base := base) T
    refine ⟨_, (pss_cons (ps_if (pt_not (pt_val (pe_c c_are_rules hr (by decide) (by rfl) (pa_cons (pv 1) pa_nil)))) (pss_one ps_never) pss_nil)
      (pss_one (ps_fld (pv 0) (pe_callTy (call_tuple_ofK K rfl) (by rfl) T.n_tuple b_tuple (pa_cons (pv 1) pa_nil)) rfl))), ?_⟩
    obtain ⟨a, dx, v, rs, rfl, ha, hd, ok, q⟩ := h
    refine q_when (b := false) (et_is (et_not (et_B (ev_callVD (ds := [.list (rs.map rd)]) (eds_cons (ed_var rfl hd) eds_nil) rfl fun vs H1 e1 hvs => ⟨_, rs, hvs, ok, rfl⟩))) rfl) (fun c => by cases c) (fun _ H1 e1 => ?_)
    refine ed_tupOf (ed_var rfl (hd.ex e1)) _ (Ex.refl _) _ fun v5 H5 e5 hd5 => ?_
    have ha5 := e5 _ _ (e1 _ _ ha)
    obtain ⟨l, ys, rfl, hl, hys⟩ := (da_ins (fs' := [("rows", v5)]) hd5 ha5).tup
    refine ⟨_, rfl, a, _, dx, [], rfl, ha5, T.c_Rules, T.a_Rules_rows, by decide, ?_⟩
    refine q _ (fun c o hc h => ?_) ⟨ok, dx, l, ys, upd_same, hl, hys⟩
    rw [upd_ne hc]
    exact (e1.trans e5) _ _ h
end

theorem ev_rows {K : PySem.W.Frag} {mg : Str → Option Value} (T : Fx K mg) {H : Hp} {a : Addr} {rs : List (Int × Option Int)} {te : TE} {σ : L2.St} (h : RulesAt K H a rs) (ho : Ev te σ H (.ref a)) : EvD TD (tFld K te "rows") σ H (.tuple (rs.map rd)) := by
  obtain ⟨ok, dx, L, xs, h1, h2, h3⟩ := h
  exact ed_ev (ev_fld ho h1 T.c_Rules T.a_Rules_rows rfl) fun H1 e1 => by simp only [DA]; exact ⟨L, xs, rfl, e1 _ _ h2, h3.ex e1⟩
theorem ev_rowsLen {K : PySem.W.Frag} {mg : Str → Option Value} (T : Fx K mg) {H : Hp} {a : Addr} {rs : List (Int × Option Int)} {te : TE} {σ : L2.St} (h : RulesAt K H a rs) (ho : Ev te σ H (.ref a)) : Ev (tCB (rLenK K) (tCons (tFld K te "rows") tNil)) σ H (.int rs.length) := by
  obtain ⟨ok, dx, L, xs, h1, h2, h3⟩ := h
  have hx : xs.length = rs.length := by rw [h3.length, List.length_map]
  rw [← hx]
  exact ev_lenD (ev_fld ho h1 T.c_Rules T.a_Rules_rows rfl) (.inr h2)
/-- a method of rules called -/
theorem ev_rm {K : PySem.W.Frag} {H : Hp} {a : Addr} {rs : List (Int × Option Int)} {m : Str} {ta : TE} {tr : TA} {σ : L2.St} {n : Nat} {R : List V → Hp → V → Prop} {E : XK} {vs : List V} {z : V} (h : RulesAt K H a rs) (hm : m ≠ "rows") (ho : Ev ta σ H (.ref a)) (hv : EvA tr σ H vs) (hl : vs.length + 1 = n) (hR : ∀ H1, Ex H H1 → R (.ref a :: vs) H1 z) : Ev (tMeth (He.ga K "Rules") m (SV n R) [] E ta tr) σ H z := by
  obtain ⟨ok, dx, L, xs, h1, h2, h3⟩ := h
  refine ev_methV ho h1 ?_ hv hl hR
  have : (m == ("rows" : Str)) = false := by simpa using hm
  show (match m == ("rows" : Str) with | true => _ | false => _) = none
  rw [this] <;> rfl
theorem OkRs.step {rs : List (Int × Option Int)} (h : OkRs rs) (g : Nat) : 1 ≤ stepOf rs g ∧ stepOf rs g < 1000 := by
  have h1 := h.l1
  exact ⟨h.pos (by omega), h.lt _ (by omega)⟩

section
variable {P : Program} {w : World} {K : PySem.W.Frag} {mg : Str → Option Value} {base : Heap}
theorem sc_Rules_check_grain : FnScope ["self", "grain"] ["self", "grain"] (defScope s_Rules_check_grain) := ⟨rfl, rfl, rfl, by decide +kernel, rfl, by decide +kernel, by decide +kernel⟩
theorem c_Rules_check_grain (T : Fx K mg) : C8.Met P w K mg base 3 (He.ga K "Rules") "check_grain" (SV 2 fun vs H z => ∃ a rs g, vs = [.ref a, .int ((g : Nat) : Int)] ∧ RulesAt K H a rs ∧ g < rs.length ∧ z = .non) [] :=
  met_of T.m_Rules_check_grain T.c_Rules sc_Rules_check_grain SV.len (fun _ _ _ _ _ _ us hl => match us, hl with | [_, _], _ => rfl) fun cdv A outer s H vs Q E hr h => by
    have c_is_count := c_is_count (P := P) (w := w) (base := base) T
    refine ⟨_, (pss_one (ps_if (PW.pt (pw_or (pt_not (pt_val (pe_c c_is_count hr (by decide) (by rfl) (pa_cons (pv 1) pa_nil)))) (pw_or1 (pt_cmpR op_ge (pv 1) (pe_callB (call_len_seqK K rfl) (by rfl) T.n_len b_len (pa_cons (pe_fld (pv 0) rfl) pa_nil)) (nomark _))))) (pss_one ps_never) pss_nil)), ?_⟩
    obtain ⟨hl, _, ⟨a, rs, g, rfl, hr2, hg, rfl⟩, q⟩ := h
    exact s_when (b := false) (et_is (et_or (a := false) (et_is (et_not (et_B (ev_callV (ea_cons (ev_var rfl) ea_nil) rfl fun _ _ => ⟨_, rfl, rfl⟩))) (by simp)) fun _ => et_test (ev_op (ev_var rfl) (ev_rowsLen T hr2 (ev_var rfl)) rv_I0)) (by simp; omega)) (fun c => by cases c) (fun _ H1 e1 => q H1 e1)
end
section
variable {P : Program} {w : World} {K : PySem.W.Frag} {mg : Str → Option Value} {base : Heap}
theorem sc_Rules_keep : FnScope ["self", "grain"] ["self", "grain"] (defScope s_Rules_keep) := ⟨rfl, rfl, rfl, by decide +kernel, rfl, by decide +kernel, by decide +kernel⟩
theorem c_Rules_keep (T : Fx K mg) : C8.Met P w K mg base 4 (He.ga K "Rules") "keep" (SV 2 fun vs H z => ∃ a rs g, vs = [.ref a, .int ((g : Nat) : Int)] ∧ RulesAt K H a rs ∧ g < rs.length ∧ z = optV (gr rs g).2) [] :=
  met_of T.m_Rules_keep T.c_Rules sc_Rules_keep SV.len (fun _ _ _ _ _ _ us hl => match us, hl with | [_, _], _ => rfl) fun cdv A outer s H vs Q E hr h => by
    have c_Rules_check_grain := c_Rules_check_grain (P := P) (w := w) (base := base) T
    refine ⟨_, (pss_cons (ps_expr (pe_mt c_Rules_check_grain hr (by decide) (pv 0) (pa_cons (pv 1) pa_nil)))
      (pss_one (ps_ret (pe_ix (ix_tupK K rfl) (pe_ix (ix_tupK K rfl) (pe_fld (pv 0) rfl) (pv 1) (fun _ _ => rfl)) pe_int (fun _ _ => rfl))))), ?_⟩
    obtain ⟨hl, _, ⟨a, rs, g, rfl, hr2, hg, rfl⟩, q⟩ := h
    refine q_drop (ev_rm hr2 (by decide +kernel) (ev_var rfl) (ea_cons (ev_var rfl) ea_nil) rfl fun H1 e1 => ⟨a, rs, g, rfl, hr2.ex e1, hg, rfl⟩) fun H1 e1 => ?_
    exact s_ret (dv_opt (ed_ixT (ds := [.int (gr rs g).1, optD (gr rs g).2]) (ed_ixT (ev_rows T (hr2.ex e1) (ev_var rfl)) (ev_var rfl) (rd_atI hg)) ev_c rfl)) fun H2 e2 => q H2 (e1.trans e2)
end
section
variable {P : Program} {w : World} {K : PySem.W.Frag} {mg : Str → Option Value} {base : Heap}
theorem sc_Rules_step : FnScope ["self", "grain"] ["self", "grain"] (defScope s_Rules_step) := ⟨rfl, rfl, rfl, by decide +kernel, rfl, by decide +kernel, by decide +kernel⟩
theorem c_Rules_step (T : Fx K mg) : C8.Met P w K mg base 4 (He.ga K "Rules") "step" (SV 2 fun vs H z => ∃ a rs g, vs = [.ref a, .int ((g : Nat) : Int)] ∧ RulesAt K H a rs ∧ g < rs.length ∧ z = .int (stepOf rs g)) [] :=
  met_of T.m_Rules_step T.c_Rules sc_Rules_step SV.len (fun _ _ _ _ _ _ us hl => match us, hl with | [_, _], _ => rfl) fun cdv A outer s H vs Q E hr h => by
    have c_Rules_check_grain := c_Rules_check_grain (P := P) (w := w) (base := base) T
    refine ⟨_, (pss_cons (ps_expr (pe_mt c_Rules_check_grain hr (by decide) (pv 0) (pa_cons (pv 1) pa_nil)))
      (pss_one (ps_ret (pe_ix (ix_tupK K rfl) (pe_ix (ix_tupK K rfl) (pe_fld (pv 0) rfl) (pe_callB (call_min2 rfl) (by rfl) T.n_min b_min (pa_cons (pe_op op_add (pv 1) pe_int) (pa_cons (pe_op op_sub (pe_callB (call_len_seqK K rfl) (by rfl) T.n_len b_len (pa_cons (pe_fld (pv 0) rfl) pa_nil)) pe_int) pa_nil))) (fun _ _ => rfl)) pe_int (fun _ _ => rfl))))), ?_⟩
    obtain ⟨hl, _, ⟨a, rs, g, rfl, hr2, hg, rfl⟩, q⟩ := h
    refine q_drop (ev_rm hr2 (by decide +kernel) (ev_var rfl) (ea_cons (ev_var rfl) ea_nil) rfl fun H1 e1 => ⟨a, rs, g, rfl, hr2.ex e1, hg, rfl⟩) fun H1 e1 => ?_
    have ei : (if ((rs.length : Int) - 1) < ((g : Int) + 1) then ((rs.length : Int) - 1) else ((g : Int) + 1)) = ((min (g + 1) (rs.length - 1) : Nat) : Int) := by
      split <;> omega
    exact s_ret (dv_int (ed_ixT (ds := [.int (stepOf rs g), optD (gr rs (min (g + 1) (rs.length - 1))).2]) (ed_ixT (ev_rows T (hr2.ex e1) (ev_var rfl)) (ev_is (ev_cb (ea_cons (ev_op (ev_var rfl) ev_c rv_I0) (ea_cons (ev_op (ev_rowsLen T (hr2.ex e1) (ev_var rfl)) ev_c rv_I0) ea_nil)) rc_min2) (congrArg V.int ei)) (rd_atI (by omega))) ev_c rfl)) fun H2 e2 => q H2 (e1.trans e2)
end
end Eg
end

section
set_option Elab.async false
set_option linter.all false
set_option maxRecDepth 100000
set_option maxHeartbeats 4000000
set_option linter.constructorNameAsVariable false
namespace Eg
open PySem PySem.Spec PyProof.Rows L2 Evl C8

section
variable {P : Program} {w : World} {K : PySem.W.Frag} {mg : Str → Option Value} {base : Heap}
theorem sc_Rules_edge : FnScope ["self", "grain", "clock", "keep", "step"] ["self", "grain", "clock"] (defScope s_Rules_edge) := ⟨rfl, rfl, rfl, by decide +kernel, rfl, by decide +kernel, by decide +kernel⟩
theorem c_Rules_edge (T : Fx K mg) : C8.Met P w K mg base 5 (He.ga K "Rules") "edge" (SV 3 fun vs H z => ∃ a rs g c, vs = [.ref a, .int ((g : Nat) : Int), .int c] ∧ RulesAt K H a rs ∧ g < rs.length ∧ 0 ≤ c ∧ z = .int (edgeOf rs g c)) [] :=
  met_of T.m_Rules_edge T.c_Rules sc_Rules_edge SV.len (fun _ _ _ _ _ _ us hl => match us, hl with | [_, _, _], _ => rfl) fun cdv A outer s H vs Q E hr h => by
    have c_Rules_keep := c_Rules_keep (P := P) (w := w) (base := base) T
    have c_Rules_step := c_Rules_step (P := P) (w := w) (base := base) T
    have c_check_time := c_check_time (P := P) (w := w) (base := base) T
    refine ⟨_, (pss_cons (ps_par (i := 3) (j := 4) (by rfl) sc_Rules_edge.nd rfl rfl (by decide) rfl rfl (pa_cons (pe_mt c_Rules_keep hr (by decide) (pv 0) (pa_cons (pv 1) pa_nil)) (pa_cons (pe_mt c_Rules_step hr (by decide) (pv 0) (pa_cons (pv 1) pa_nil)) pa_nil)) (by rfl))
      (pss_cons (ps_expr (pe_c c_check_time hr (by decide) (by rfl) (pa_cons (pv 2) pa_nil)))
      (pss_cons (ps_if (PW.pt (pw_or (pt_cmpR op_isN (pv 3) pe_non (nomark _)) (pw_or1 (pt_cmpR op_gt (pv 3) (pv 2) (nomark _))))) (pss_one (ps_ret pe_int)) pss_nil)
      (pss_one (ps_ret (pe_op op_mul (pe_op op_fdiv (pe_op op_sub (pv 2) (pv 3)) (pv 4)) (pv 4))))))), ?_⟩
    obtain ⟨hl, _, ⟨a, rs, g, c, rfl, hr2, hg, hc, rfl⟩, q⟩ := h
    have hst := hr2.1.step g
    refine q_par (ea_cons (ev_rm hr2 (by decide +kernel) (ev_var rfl) (ea_cons (ev_var rfl) ea_nil) rfl fun H1 e1 => ⟨a, rs, g, rfl, hr2.ex e1, hg, rfl⟩) (ea_cons (ev_rm hr2 (by decide +kernel) (ev_var rfl) (ea_cons (ev_var rfl) ea_nil) rfl fun H1 e1 => ⟨a, rs, g, rfl, hr2.ex e1, hg, rfl⟩) ea_nil)) fun H1 e1 => ?_
    refine q_drop (ev_callV (ea_cons (ev_var rfl) ea_nil) rfl fun _ _ => ⟨_, rfl, hc, rfl⟩) fun H2 e2 => ?_
    have hk : edgeOf rs g c = (match (gr rs g).2 with | none => 0 | some k => if k > c then 0 else (c - k) / stepOf rs g * stepOf rs g) := rfl
    cases hk2 : (gr rs g).2 with
    | none =>
      rw [hk2] at hk
      rw [hk] at q
      refine q_when (b := true) (et_or (a := true) (b := true) (et_test (ev_op (ev_var rfl) ev_c (rv_isO (o := none)))) (fun c => by cases c)) (fun _ H3 e3 => s_ret ev_c fun H4 e4 => q H4 (((e1.trans e2).trans e3).trans e4)) (fun c => by cases c)
    | some k =>
      rw [hk2] at hk
      have hk' : edgeOf rs g c = if k > c then 0 else (c - k) / stepOf rs g * stepOf rs g := hk
      rw [hk'] at q
      refine q_when (b := decide (k > c)) (et_is (et_or (a := false) (et_test (ev_op (ev_var rfl) ev_c (rv_isO (o := some k)))) fun _ => et_test (ev_op (ev_var rfl) (ev_var rfl) rv_I0)) (by simp)) (fun hb H3 e3 => ?_) (fun hb H3 e3 => ?_)
      · have hb' : k > c := of_decide_eq_true hb
        rw [if_pos hb'] at q
        exact s_ret ev_c fun H4 e4 => q H4 (((e1.trans e2).trans e3).trans e4)
      · have hb' : ¬ k > c := of_decide_eq_false hb
        rw [if_neg hb'] at q
        exact s_ret (ev_op (ev_op (ev_op (ev_var rfl) (ev_var rfl) rv_I0) (ev_var rfl) (rv_I ⟨by omega, by omega⟩)) (ev_var rfl) (rv_I (.inr ⟨by omega, by omega⟩))) fun H4 e4 => q H4 (((e1.trans e2).trans e3).trans e4)
end
section
variable {P : Program} {w : World} {K : PySem.W.Frag} {mg : Str → Option Value} {base : Heap}
theorem sc_Rules_stands : FnScope ["self", "grain", "time", "clock"] ["self", "grain", "time", "clock"] (defScope s_Rules_stands) := ⟨rfl, rfl, rfl, by decide +kernel, rfl, by decide +kernel, by decide +kernel⟩
theorem c_Rules_stands (T : Fx K mg) : C8.Met P w K mg base 6 (He.ga K "Rules") "stands" (SV 4 fun vs H z => ∃ a rs g t c, vs = [.ref a, .int ((g : Nat) : Int), .int t, .int c] ∧ RulesAt K H a rs ∧ g < rs.length ∧ 0 ≤ t ∧ 0 ≤ c ∧ z = .bl (decide (edgeOf rs g c ≤ t))) [] :=
  met_of T.m_Rules_stands T.c_Rules sc_Rules_stands SV.len (fun _ _ _ _ _ _ us hl => match us, hl with | [_, _, _, _], _ => rfl) fun cdv A outer s H vs Q E hr h => by
    have c_Rules_check_grain := c_Rules_check_grain (P := P) (w := w) (base := base) T
    have c_Rules_edge := c_Rules_edge (P := P) (w := w) (base := base) T
    have c_check_time := c_check_time (P := P) (w := w) (base := base) T
    refine ⟨_, (pss_cons (ps_expr (pe_mt c_Rules_check_grain hr (by decide) (pv 0) (pa_cons (pv 1) pa_nil)))
      (pss_cons (ps_expr (pe_c c_check_time hr (by decide) (by rfl) (pa_cons (pv 2) pa_nil)))
      (pss_one (ps_ret (pe_cmpR op_ge (pv 2) (pe_mt c_Rules_edge hr (by decide) (pv 0) (pa_cons (pv 1) (pa_cons (pv 3) pa_nil))) (nomark _)))))), ?_⟩
    obtain ⟨hl, _, ⟨a, rs, g, t, c, rfl, hr2, hg, ht, hc, rfl⟩, q⟩ := h
    refine q_drop (ev_rm hr2 (by decide +kernel) (ev_var rfl) (ea_cons (ev_var rfl) ea_nil) rfl fun H1 e1 => ⟨a, rs, g, rfl, hr2.ex e1, hg, rfl⟩) fun H1 e1 => ?_
    refine q_drop (ev_callV (ea_cons (ev_var rfl) ea_nil) rfl fun _ _ => ⟨_, rfl, ht, rfl⟩) fun H2 e2 => ?_
    have e12 := e1.trans e2
    exact s_ret (ev_op (ev_var rfl) (ev_rm (hr2.ex e12) (by decide +kernel) (ev_var rfl) (ea_cons (ev_var rfl) (ea_cons (ev_var rfl) ea_nil)) rfl fun H1 e1 => ⟨a, rs, g, c, rfl, (hr2.ex e12).ex e1, hg, hc, rfl⟩) rv_I0) fun H3 e3 => q H3 (e12.trans e3)
end
section
variable {P : Program} {w : World} {K : PySem.W.Frag} {mg : Str → Option Value} {base : Heap}
theorem sc_Rules_fitting : FnScope ["self", "low", "step", "grain", "row"] ["self", "low", "step"] (defScope s_Rules_fitting) := ⟨rfl, rfl, rfl, by decide +kernel, rfl, by decide +kernel, by decide +kernel⟩
theorem c_Rules_fitting (T : Fx K mg) : C8.Met P w K mg base 1 (He.ga K "Rules") "fitting" (SD 3 fun vs H d => ∃ a rs low step, vs = [.ref a, .int low, .int step] ∧ RulesAt K H a rs ∧ d = .list ((fits rs low step).map fun g => .int ((g : Nat) : Int))) [] :=
  met_of T.m_Rules_fitting T.c_Rules sc_Rules_fitting SD.len (fun _ _ _ _ _ _ us hl => match us, hl with | [_, _, _], _ => rfl) fun cdv A outer s H vs Q E hr h => by
    skip
    refine ⟨_, (pss_one (ps_ret (pe_lc rfl sc_Rules_fitting.nd (pi_enumT (by rfl) T.n_enumerate (pa_cons (pe_fld (pv 0) rfl) pa_nil)) (blkOk_by (own := [("grain", 3), ("row", 4)]) (by show blkC ["self", "low", "step", "grain", "row"] (defScope s_Rules_fitting) _ _ = true; decide +kernel)) (fun _ _ _ _ _ => (pg_tupK K 2 rfl rfl (pgs_cons (pg_name (i := 3) sc_Rules_fitting.nd rfl (Or.inl rfl)) (pgs_cons (pg_name (i := 4) sc_Rules_fitting.nd rfl (Or.inl rfl)) pgs_nil)) rfl rfl)) (fun _ _ _ _ _ => (pts_one (PW.pt (pw_and (pt_cmpR op_eq (pe_op op_mod (pv 1) (pe_ix (ix_tupK K rfl) (pv 4) pe_int (fun _ _ => rfl))) pe_int (nomark _)) (pw_and1 (pt_cmpR op_eq (pe_op op_mod (pv 2) (pe_ix (ix_tupK K rfl) (pv 4) pe_int (fun _ _ => rfl))) pe_int (nomark _))))))) (fun _ _ _ _ _ => (pv 3))))), ?_⟩
    obtain ⟨hl, _, ⟨a, rs, low, step, rfl, hr2, rfl⟩, q⟩ := h
    have l4 := hr2.1.l4
    refine s_retD (N := FrN H) (ed_lc fr_self (fitB rs low step) (fun i => .int (i : Nat)) (ew_enumT (ev_rows T hr2 (ev_var rfl))) (by rw [List.length_map]; omega) fun N' i x H1 e1 fr _ hi hx => ?_) fun v H1 e1 hd => q v H1 e1 (by rw [List.length_map] at hd; exact hd)
    obtain ⟨L, y, d, rfl, hL, hd, hy⟩ := hx
    rw [List.length_map] at hi
    rw [rd_at hi] at hd
    cases hd
    have hp := hr2.1.pos hi
    refine ⟨_, fun Q q => g_tup2 (st_of hL) q, rfl, ?_, fun _ => ed_int (ev_var rfl)⟩
    have r0 : Ev (tOp (rIxT K) (tVar 4) (tC (.int 0))) [some (V.ref a), some (.int low), some (.int step), some (.int (i : Int)), some y] H1 (.int (gr rs i).1) := dv_int (ed_ixT (ds := [.int (gr rs i).1, optD (gr rs i).2]) (ed_var rfl hy) ev_c rfl)
    exact et_and (et_test (ev_op (ev_op (ev_var rfl) r0 (rv_I (by omega))) ev_c rv_eqI)) fun _ => et_test (ev_op (ev_op (ev_var rfl) r0 (rv_I (by omega))) ev_c rv_eqI)
end

def spGone (K : PySem.W.Frag) : Sp := fun vs H Q _ => ∃ (a : Addr) (t g : Int), vs = [.ref a, .int t, .int g] ∧ H a = some (exo a (He.ga K "Gone") none) ∧
  ∀ d, H d = none → Q .non (upd (upd (upd H d (exd d [("time", .int t)])) a (exo a (He.ga K "Gone") (some d))) d (exd d [("grain", .int g), ("time", .int t)]))
def spBack (K : PySem.W.Frag) : Sp := fun vs H Q _ => ∃ (a : Addr) (t : Int), vs = [.ref a, .int t] ∧ H a = some (exo a (He.ga K "ClockBack") none) ∧
  ∀ d, H d = none → Q .non (upd (upd H d (exd d [("now", .int t)])) a (exo a (He.ga K "ClockBack") (some d)))

section
variable {P : Program} {w : World} {K : PySem.W.Frag} {mg : Str → Option Value} {base : Heap}
theorem sc_Gone_init : FnScope ["self", "time", "grain"] ["self", "time", "grain"] (defScope s_Gone_init) := ⟨rfl, rfl, rfl, by decide +kernel, rfl, by decide +kernel, by decide +kernel⟩
theorem m_Gone (T : Fx K mg) : MakX P w K mg base 1 "Gone" (He.ga K "Gone") (spGone K) :=
  makx_of T.i_Gone T.e_Gone T.f_Gone.iC T.f_Gone.tI T.g_Gone sc_Gone_init (fun _ _ _ _ h => by obtain ⟨_, _, _, rfl, _⟩ := h; rfl) (fun _ _ _ _ _ _ us hl => match us, hl with | [_, _, _], _ => rfl) fun cdv A outer s H vs Q E hr h => by
    skip
    refine ⟨_, (pss_cons (ps_expr (pe_ginit rfl T.g_GrainError T.grain (pa_cons (pv 0) (pa_cons pe_str pa_nil))))
      (pss_cons (ps_putX (pv 0) (pv 1) rfl)
      (pss_one (ps_putX (pv 0) (pv 2) rfl)))), ?_⟩
    obtain ⟨a, t, g, rfl, ha, q⟩ := h
    refine ⟨_, rfl, a, He.ga K "Gone", [.str "the grain is gone at this time"], rfl, by decide, T.e_Gone, ha, ?_⟩
    refine ⟨_, rfl, _, rfl, a, He.ga K "Gone", rfl, T.e_Gone, T.a_Gone_time, .inl ⟨ha, fun d hd hne => ?_⟩⟩
    refine ⟨_, rfl, _, rfl, a, He.ga K "Gone", rfl, T.e_Gone, T.a_Gone_grain, .inr ⟨d, [("time", .int t)], upd_same, ?_, by simp, ?_⟩⟩
    · rw [upd_ne hne, upd_same]
    · exact q d hd
end
section
variable {P : Program} {w : World} {K : PySem.W.Frag} {mg : Str → Option Value} {base : Heap}
theorem sc_ClockBack_init : FnScope ["self", "now"] ["self", "now"] (defScope s_ClockBack_init) := ⟨rfl, rfl, rfl, by decide +kernel, rfl, by decide +kernel, by decide +kernel⟩
theorem m_ClockBack (T : Fx K mg) : MakX P w K mg base 1 "ClockBack" (He.ga K "ClockBack") (spBack K) :=
  makx_of T.i_ClockBack T.e_ClockBack T.f_ClockBack.iC T.f_ClockBack.tI T.g_ClockBack sc_ClockBack_init (fun _ _ _ _ h => by obtain ⟨_, _, rfl, _⟩ := h; rfl) (fun _ _ _ _ _ _ us hl => match us, hl with | [_, _], _ => rfl) fun cdv A outer s H vs Q E hr h => by
    skip
    refine ⟨_, (pss_cons (ps_expr (pe_ginit rfl T.g_GrainError T.grain (pa_cons (pv 0) (pa_cons pe_str pa_nil))))
      (pss_one (ps_putX (pv 0) (pv 1) rfl))), ?_⟩
    obtain ⟨a, t, rfl, ha, q⟩ := h
    refine ⟨_, rfl, a, He.ga K "ClockBack", [.str "the clock does not go back"], rfl, by decide, T.e_ClockBack, ha, ?_⟩
    exact ⟨_, rfl, _, rfl, a, He.ga K "ClockBack", rfl, T.e_ClockBack, T.a_ClockBack_now, .inl ⟨ha, fun d hd hne => q d hd⟩⟩
end

/-- what is wanted of a raised Gone: of a time at a grain; of a ClockBack to a time -/
def GoneE (K : PySem.W.Frag) (H : Hp) (E : XK) (t g : Int) : Prop := ∀ d H', Ex H H' → H' d = some (.xd [("grain", .int g), ("time", .int t)]) → E (.ref (He.ga K "Gone")) (some d) H'
def BackE (K : PySem.W.Frag) (H : Hp) (E : XK) (t : Int) : Prop := ∀ d H', Ex H H' → H' d = some (.xd [("now", .int t)]) → E (.ref (He.ga K "ClockBack")) (some d) H'
theorem GoneE.ex {K : PySem.W.Frag} {H H' : Hp} {E : XK} {t g : Int} (e : Ex H H') (h : GoneE K H E t g) : GoneE K H' E t g := fun d H1 e1 => h d H1 (e.trans e1)
theorem BackE.ex {K : PySem.W.Frag} {H H' : Hp} {E : XK} {t : Int} (e : Ex H H') (h : BackE K H E t) : BackE K H' E t := fun d H1 e1 => h d H1 (e.trans e1)
theorem ex_del {H H' : Hp} {a : Addr} (e : Ex H H') (ha : H a = none) : Ex H (L2.del H' a) := fun b o hb => by
  show (if b = a then none else H' b) = some o
  rw [if_neg (fun c => by rw [c, ha] at hb; cases hb)]
  exact e b o hb
theorem mk_gone {K : PySem.W.Frag} {σ : L2.St} {H : Hp} {E : XK} {t g : Int} {ta : TA} (h : EvA ta σ H [.int t, .int g]) (hE : GoneE K H E t g) : tMkX (He.ga K "Gone") (spGone K) ta σ H E := h H (Ex.refl H) _ fun H1 e1 =>
  ⟨by simp, fun a ha => ⟨a, t, g, rfl, upd_same, fun d hd => ⟨rfl, d, _, by
    have hda : d ≠ a := fun c => by
      rw [c, upd_same] at hd
      cases hd
    rw [upd_ne (Ne.symm hda), upd_same], upd_same, by
    have hda : d ≠ a := fun c => by
      rw [c, upd_same] at hd
      cases hd
    rw [upd_ne hda] at hd
    exact hd, by
    have hda : d ≠ a := fun c => by
      rw [c, upd_same] at hd
      cases hd
    rw [upd_ne hda] at hd
    refine hE d _ (Ex.mut (ex_del (Ex.mut (Ex.mut (Ex.mut (Ex.mut e1 (fresh_back e1 ha)) (fresh_back e1 hd)) (fresh_back e1 ha)) (fresh_back e1 hd)) (fresh_back e1 ha)) (fresh_back e1 hd)) upd_same⟩⟩⟩
theorem mk_back {K : PySem.W.Frag} {σ : L2.St} {H : Hp} {E : XK} {t : Int} {ta : TA} (h : EvA ta σ H [.int t]) (hE : BackE K H E t) : tMkX (He.ga K "ClockBack") (spBack K) ta σ H E := h H (Ex.refl H) _ fun H1 e1 =>
  ⟨by simp, fun a ha => ⟨a, t, rfl, upd_same, fun d hd => ⟨rfl, d, [("now", .int t)], by rw [upd_same], by
    have hda : d ≠ a := fun c => by
      rw [c, upd_same] at hd
      cases hd
    rw [upd_ne hda, upd_same], by
    have hda : d ≠ a := fun c => by
      rw [c, upd_same] at hd
      cases hd
    rw [upd_ne hda] at hd
    exact hd, by
    have hda : d ≠ a := fun c => by
      rw [c, upd_same] at hd
      cases hd
    rw [upd_ne hda] at hd
    refine hE d _ (Ex.mut (ex_del (Ex.mut (Ex.mut (Ex.mut e1 (fresh_back e1 ha)) (fresh_back e1 hd)) (fresh_back e1 ha)) (fresh_back e1 ha)) (fresh_back e1 hd)) upd_same⟩⟩⟩
theorem fits_ne {rs : List (Int × Option Int)} (ok : OkRs rs) (low step : Int) : fits rs low step ≠ [] := by
  have h0 : 0 ∈ fits rs low step := by
    unfold fits fitB
    rw [List.mem_filter]
    have := ok.l1
    refine ⟨List.mem_range.mpr (by omega), ?_⟩
    rw [ok.one]
    simp
  exact List.ne_nil_of_mem h0
theorem fits_lt {rs : List (Int × Option Int)} {low step : Int} {g : Nat} (h : g ∈ fits rs low step) : g < rs.length := List.mem_range.mp (List.mem_filter.mp h).1
theorem fits_len {rs : List (Int × Option Int)} (low step : Int) : (fits rs low step).length ≤ rs.length := by
  have := List.length_filter_le (fitB rs low step) (List.range rs.length)
  rw [List.length_range] at this
  exact this
/-- teller: a grain, or Gone -/
def spTeller (K : PySem.W.Frag) : Sp := fun vs H Q E => ∃ a rs low step clock, vs = [.ref a, .int low, .int step, .int clock] ∧ RulesAt K H a rs ∧ 0 ≤ low ∧ 1 ≤ step ∧ 0 ≤ clock ∧
  (goneOf rs low step clock = none → ∀ (g : Nat) H', Ex H H' → Q (.int (g : Int)) H') ∧ ∀ g, goneOf rs low step clock = some g → GoneE K H E low (g : Nat)
theorem ints_at {l : List Nat} {i : Nat} {x : V} (h : (l.map fun g => V.int ((g : Nat) : Int))[i]? = some x) : ∃ g, l[i]? = some g ∧ x = .int (g : Int) := by
  rw [List.getElem?_map] at h
  obtain ⟨g, h1, h2⟩ := Option.map_eq_some_iff.mp h
  exact ⟨g, h1, h2.symm⟩

section
variable {P : Program} {w : World} {K : PySem.W.Frag} {mg : Str → Option Value} {base : Heap}
theorem sc_Rules_teller : FnScope ["self", "low", "step", "clock", "fits", "grain"] ["self", "low", "step", "clock"] (defScope s_Rules_teller) := ⟨rfl, rfl, rfl, by decide +kernel, rfl, by decide +kernel, by decide +kernel⟩
theorem c_Rules_teller (T : Fx K mg) : MetX P w K mg base 7 (He.ga K "Rules") "teller" (spTeller K) :=
  metx_of T.m_Rules_teller T.c_Rules sc_Rules_teller (fun _ _ _ _ h => by obtain ⟨_, _, _, _, _, rfl, _⟩ := h; rfl) (fun _ _ _ _ _ _ us hl => match us, hl with | [_, _, _, _], _ => rfl) fun cdv A outer s H vs Q E hr h => by
    have c_Rules_fitting := c_Rules_fitting (P := P) (w := w) (base := base) T
    have c_Rules_stands := c_Rules_stands (P := P) (w := w) (base := base) T
    have c_check_time := c_check_time (P := P) (w := w) (base := base) T
    have c_check_window_grains := c_check_window_grains (P := P) (w := w) (base := base) T
    have m_Gone := m_Gone (P := P) (w := w) (base := base) T
    have HX : True := True.intro
    refine ⟨_, (pss_cons (ps_expr (pe_c c_check_window_grains hr (by decide) (by rfl) (pa_cons (pv 1) (pa_cons (pv 2) pa_nil))))
      (pss_cons (ps_expr (pe_c c_check_time hr (by decide) (by rfl) (pa_cons (pv 3) pa_nil)))
      (pss_cons (ps_set (i := 4) sc_Rules_teller.nd rfl (Or.inl rfl) (pe_mt c_Rules_fitting hr (by decide) (pv 0) (pa_cons (pv 1) (pa_cons (pv 2) pa_nil))))
      (pss_cons (ps_for (passes_of rfl) rfl (pi_listK K rfl (pv 4)) (pg_name (i := 5) sc_Rules_teller.nd rfl (Or.inl rfl)) (pss_one (ps_if (pt_val (pe_mt c_Rules_stands hr (by decide) (pv 0) (pa_cons (pv 5) (pa_cons (pv 1) (pa_cons (pv 3) pa_nil))))) (pss_one (ps_ret (pv 5))) pss_nil)))
      (pss_one (ps_raise rfl (takes_of rfl rfl rfl rfl) (pmk_x m_Gone hr (by decide) (by rfl) (pa_cons (pv 1) (pa_cons (pe_ix (ix_listK K rfl) (pv 4) (pe_un un_neg pe_int) (fun _ _ => rfl)) pa_nil))))))))), ?_⟩
    obtain ⟨a, rs, low, step, clock, rfl, hr2, hlow, hstep, hclock, q1, q2⟩ := h
    refine q_drop (ev_callV (ea_cons (ev_var rfl) (ea_cons (ev_var rfl) ea_nil)) rfl fun _ _ => ⟨_, _, rfl, hlow, hstep, rfl⟩) fun H1 e1 => ?_
    refine q_drop (ev_callV (ea_cons (ev_var rfl) ea_nil) rfl fun _ _ => ⟨_, rfl, hclock, rfl⟩) fun H2 e2 => ?_
    have e12 := e1.trans e2
    have hr3 := hr2.ex e12
    obtain ⟨ok, dx, L, xs, h1, h2, h3⟩ := hr3
    refine q_asgD (N := FrN H2) (ed_methV fr_self (ev_var rfl) h1 rfl (ea_cons (ev_var rfl) (ea_cons (ev_var rfl) ea_nil)) rfl fun H3 e3 => ⟨a, rs, low, step, rfl, (hr2.ex e12).ex e3, rfl⟩) fun v H3 e3 hd => ?_
    obtain ⟨p, ys, rfl, _, hp, hys⟩ := hd.lst
    have hys' : ys = (fits rs low step).map fun g => V.int ((g : Nat) : Int) := by
      have e : ((fits rs low step).map fun g => PyData.int ((g : Nat) : Int)) = (((fits rs low step).map fun g => ((g : Nat) : Int)).map PyData.int) := by rw [List.map_map] <;> rfl
      rw [e] at hys
      rw [hys.ints, List.map_map] <;> rfl
    subst hys'
    have e13 := e12.trans e3
    have hr4 := hr2.ex e13
    refine q_forLn (ev_var rfl) (sq_of hp) (fun i σ' H' => Ex H3 H' ∧ (∃ w, σ' = [some (.ref a), some (.int low), some (.int step), some (.int clock), some (.ref p), w]) ∧ ∀ j g, j < i → (fits rs low step)[j]? = some g → decide (edgeOf rs g clock ≤ low) = false) (fun H4 e4 => ⟨e4, ⟨_, rfl⟩, fun j g hj => absurd hj (Nat.not_lt_zero _)⟩) (fun i σ' H' _ h => sq_of (h.1 _ _ hp)) (fun i x σ' H' hi h => ?_) (fun σ' H' h => ?_)
    · obtain ⟨e4, ⟨w', rfl⟩, hno⟩ := h
      obtain ⟨g, hg, rfl⟩ := ints_at hi
      have hgm := List.mem_of_getElem? hg
      refine s_when (et_B (ev_rm (hr4.ex e4) (by decide +kernel) (ev_var rfl) (ea_cons (ev_var rfl) (ea_cons (ev_var rfl) (ea_cons (ev_var rfl) ea_nil))) rfl fun H5 e5 => ⟨a, rs, g, low, clock, rfl, (hr4.ex e4).ex e5, fits_lt hgm, hlow, hclock, rfl⟩)) (fun hb H5 e5 => ?_) (fun hb H5 e5 => ?_)
      · refine s_ret (ev_var rfl) fun H6 e6 => q1 ?_ g H6 ((((e13.trans e4).trans e5)).trans e6)
        unfold goneOf
        rw [if_pos (List.any_eq_true.mpr ⟨g, hgm, hb⟩)]
      · refine ⟨e4.trans e5, ⟨_, rfl⟩, fun j g' hj hg' => ?_⟩
        by_cases hji : j = i
        · subst hji
          rw [hg] at hg'
          cases hg'
          exact hb
        · exact hno j g' (by omega) hg'
    · obtain ⟨e4, ⟨w', rfl⟩, hno⟩ := h
      have hl := List.getLast?_eq_some_getLast (fits_ne ok low step)
      have hgone : goneOf rs low step clock = some ((fits rs low step).getLast (fits_ne ok low step)) := by
        unfold goneOf
        rw [if_neg, hl]
        intro hany
        obtain ⟨g, hg, hb⟩ := List.any_eq_true.mp hany
        obtain ⟨j, hj, hje⟩ := List.getElem_of_mem hg
        have := hno j g (by rw [List.length_map]; exact hj) (by rw [List.getElem?_eq_getElem hj, hje])
        rw [this] at hb
        cases hb
      have hat : L2.atI ((fits rs low step).map fun g => V.int ((g : Nat) : Int)) (-1) = some (.int (((fits rs low step).getLast (fits_ne ok low step) : Nat) : Int)) := by
        have hlen : 0 < (fits rs low step).length := List.length_pos_iff.mpr (fits_ne ok low step)
        unfold L2.atI ixN
        rw [if_neg (by decide), List.length_map, if_pos (by omega)]
        show ((fits rs low step).map _)[((-1 : Int) + ((fits rs low step).length : Int)).toNat]? = _
        rw [show ((-1 : Int) + ((fits rs low step).length : Int)).toNat = (fits rs low step).length - 1 by omega, List.getElem?_map, ← List.getLast?_eq_getElem?, hl] <;> rfl
      exact mk_gone (ea_cons (ev_var rfl) (ea_cons (ev_op (ev_var rfl) (ev_un ev_c ru_neg) (rv_ixL (sq_of (e4 _ _ hp)) hat)) ea_nil)) ((q2 _ hgone).ex (e13.trans e4))
end
end Eg
end

section
set_option Elab.async false
set_option linter.all false
set_option maxRecDepth 100000
set_option maxHeartbeats 4000000
set_option linter.constructorNameAsVariable false
namespace Eg
open PySem PySem.Spec PyProof.Rows L2 Evl C8


theorem rgC_step {lo step : Int} {n : Nat} (h0 : 0 ≤ lo) (h1 : lo < 2 ^ 40) (hs : 1 ≤ step) (hs2 : step < 2 ^ 29) (hn : n ≤ 400) : RgC lo (lo + n * step) step n := by
  have e : Builtin.Range.rangeSize lo (lo + n * step) step = n := by
    unfold Builtin.Range.rangeSize
    rw [if_pos (by omega)]
    by_cases hz : n = 0
    · subst hz
      rw [if_neg (by simp)]
      rfl
    · have hp : 0 < (n : Int) * step := Int.mul_pos (by omega) (by omega)
      rw [if_pos (by omega)]
      have : lo + n * step - lo - 1 = (step - 1) + (n - 1 : Int) * step := by
        have : (n : Int) * step = (n - 1 : Int) * step + step := by rw [Int.sub_mul, Int.one_mul]; omega
        omega
      rw [this, Int.add_mul_ediv_right _ _ (by omega), Int.ediv_eq_zero_of_lt (by omega) (by omega)]
      omega
  have hb : (n : Int) * step ≤ 400 * 2 ^ 29 := Int.le_trans (Int.mul_le_mul_of_nonneg_right (by omega : (n : Int) ≤ 400) (by omega)) (Int.mul_le_mul_of_nonneg_left (by omega) (by omega))
  have hb0 : 0 ≤ (n : Int) * step := Int.mul_nonneg (by omega) (by omega)
  refine ⟨by omega, by omega, ?_, e⟩
  unfold Builtin.Range.small
  rw [e, if_pos (show step > 0 by omega)]
  simp only [Builtin.Range.rangeFitsLong, Bool.and_eq_true, Bool.or_eq_true, decide_eq_true_eq, beq_iff_eq]
  omega

section
variable {P : Program} {w : World} {K : PySem.W.Frag} {mg : Str → Option Value} {base : Heap}
theorem sc_check_windows : FnScope ["low", "high", "step"] ["low", "high", "step"] (defScope s_check_windows) := ⟨rfl, rfl, rfl, by decide +kernel, rfl, by decide +kernel, by decide +kernel⟩
theorem c_check_windows (T : Fx K mg) : C8.Cal P w K mg base 3 "check_windows" (SV 3 fun vs H z => ∃ (low step : Int) (n : Nat), vs = [.int low, .int (low + n * step), .int step] ∧ 0 ≤ low ∧ 1 ≤ step ∧ step < 2 ^ 29 ∧ n ≤ 400 ∧ z = .non) [] :=
  cal_of T.d_check_windows sc_check_windows SV.len (fun _ _ _ _ _ _ us hl => match us, hl with | [_, _, _], _ => rfl) fun cdv A outer s H vs Q E hr h => by
    have c_is_count := c_is_count (P := P) (w := w) (base := base) T
    refine ⟨_, (pss_cons (ps_if (PW.pt (pw_or (pt_not (pt_val (pe_c c_is_count hr (by decide) (by rfl) (pa_cons (pv 0) pa_nil)))) (pw_or (pt_not (pt_val (pe_c c_is_count hr (by decide) (by rfl) (pa_cons (pv 1) pa_nil)))) (pw_or (pt_not (pt_val (pe_c c_is_count hr (by decide) (by rfl) (pa_cons (pv 2) pa_nil)))) (pw_or (pt_cmpR op_eq (pv 2) pe_int (nomark _)) (pw_or1 (pt_cmpR op_gt (pv 0) (pv 1) (nomark _)))))))) (pss_one ps_never) pss_nil)
      (pss_one (ps_if (PW.pt (pw_or (pt_cmpR op_ne (pe_op op_mod (pe_op op_sub (pv 1) (pv 0)) (pv 2)) pe_int (nomark _)) (pw_or1 (pt_cmpR op_gt (pe_op op_fdiv (pe_op op_sub (pv 1) (pv 0)) (pv 2)) (C8.pe_gc (by rfl) (gc_MOST_WINDOWS T)) (nomark _))))) (pss_one ps_never) pss_nil))), ?_⟩
    obtain ⟨hl, _, ⟨low, step, n, rfl, hlo, hst, hst2, hn, rfl⟩, q⟩ := h
    have hb0 : 0 ≤ (n : Int) * step := Int.mul_nonneg (by omega) (by omega)
    have c : ∀ i : Nat, ∀ {x : Int} {H1 : Hp}, (start ["low", "high", "step"] [.int low, .int (low + n * step), .int step])[i]? = some (some (.int x)) → Ev (tCall (SV 1 fun vs H z => ∃ i : Int, vs = [.int i] ∧ z = .bl (decide (0 ≤ i))) [] C8.E0 (tCons (tVar i) tNil)) (start ["low", "high", "step"] [.int low, .int (low + n * step), .int step]) H1 (.bl (decide (0 ≤ x))) := fun i x H1 hx => ev_callV (ea_cons (ev_var hx) ea_nil) rfl fun _ _ => ⟨_, rfl, rfl⟩
    refine q_when (b := false) (et_is (et_or (a := false) (et_is (et_not (et_B (c 0 rfl))) (by simp; omega)) fun _ => et_or (a := false) (et_is (et_not (et_B (c 1 rfl))) (by simp; omega)) fun _ => et_or (a := false) (et_is (et_not (et_B (c 2 rfl))) (by simp; omega)) fun _ => et_or (a := false) (et_is (et_test (ev_op (ev_var rfl) ev_c rv_eqI)) (by simp; omega)) fun _ => et_test (ev_op (ev_var rfl) (ev_var rfl) rv_I0)) (by simp; omega)) (fun c => by cases c) (fun _ H1 e1 => ?_)
    have e3 : low + n * step - low = n * step := by omega
    refine s_when (b := false) (et_is (et_or (a := false) (et_is (et_test (ev_op (ev_op (ev_op (ev_var rfl) (ev_var rfl) rv_I0) (ev_var rfl) (rv_I (by omega))) ev_c rv_neI)) (by rw [e3]; simp)) fun _ => et_test (ev_op (ev_op (ev_op (ev_var rfl) (ev_var rfl) rv_I0) (ev_var rfl) (rv_I ⟨by omega, by omega⟩)) ev_c rv_I0)) ?_) (fun c => by cases c) (fun _ H2 e2 => q H2 (e1.trans e2))
    rw [e3, Int.mul_ediv_cancel _ (by omega)]
    simp
    omega
end

/-- the first window that is not told -/
def toldErr (rs : List (Int × Option Int)) (clock low step : Int) (n : Nat) (i g : Nat) : Prop := i < n ∧ (∀ j, j < i → goneOf rs (low + j * step) step clock = none) ∧ goneOf rs (low + i * step) step clock = some g
def spTold (K : PySem.W.Frag) : Sp := fun vs H Q E => ∃ (a : Addr) (rs : List (Int × Option Int)) (clock low step : Int) (n : Nat), vs = [.ref a, .int clock, .int low, .int (low + n * step), .int step] ∧ RulesAt K H a rs ∧ 0 ≤ clock ∧ (0 ≤ low ∧ low < 2 ^ 40) ∧ 1 ≤ step ∧ step < 2 ^ 29 ∧ n ≤ 400 ∧
  ((∀ i, i < n → goneOf rs (low + i * step) step clock = none) → ∀ H', Ex H H' → Q .non H') ∧ ∀ i g : Nat, toldErr rs clock low step n i g → GoneE K H E (low + i * step) g
/-- a for over a walk, whatever is made meanwhile -/
theorem q_forW {wi : TI} {g : TG} {tb tz : TS} {D : Ends} {σ : L2.St} {H : Hp} {n : Nat} {I : Nat → Hp → V → Prop} (hw : EvW wi σ H n I) (Pv : Nat → L2.St → Hp → Prop) (h0 : ∀ H1, Ex H H1 → Pv 0 σ H1)
    (hs : ∀ H1, Ex H H1 → ∀ i x σ' H', i < n → Ex H1 H' → Pv i σ' H' → I i H' x → g x σ' H' fun σ2 H2 => tb { D with nx := fun σ'' H'' => Ex H1 H'' ∧ Pv (i + 1) σ'' H'', ct := fun σ'' H'' => Ex H1 H'' ∧ Pv (i + 1) σ'' H'', bk := tz D } σ2 H2) (hm : ∀ i σ' H' H'', Pv i σ' H' → Ex H' H'' → Pv i σ' H'') (hd : ∀ σ' H', Pv n σ' H' → tz D σ' H') :
    tSeq (tFor wi g tb) tz D σ H := hw H (Ex.refl H) _ fun J H1 e1 hW =>
  for_it (D := { D with nx := tz D }) hW (fun i σ' H' => Ex H1 H' ∧ Pv i σ' H') ⟨Ex.refl H1, h0 H1 e1⟩ (fun i σ' H' _ h => h.1) (fun i x σ' Ha Hb hi p y => hs H1 e1 i x σ' Hb hi (p.1.trans y.1) (hm _ _ _ _ p.2 y.1) y.2) (fun σ' H' h => hd σ' H' h.2)
theorem s_forW {wi : TI} {g : TG} {tb : TS} {D : Ends} {σ : L2.St} {H : Hp} {n : Nat} {I : Nat → Hp → V → Prop} (hw : EvW wi σ H n I) (Pv : Nat → L2.St → Hp → Prop) (h0 : ∀ H1, Ex H H1 → Pv 0 σ H1)
    (hs : ∀ H1, Ex H H1 → ∀ i x σ' H', i < n → Ex H1 H' → Pv i σ' H' → I i H' x → g x σ' H' fun σ2 H2 => tb { D with nx := fun σ'' H'' => Ex H1 H'' ∧ Pv (i + 1) σ'' H'', ct := fun σ'' H'' => Ex H1 H'' ∧ Pv (i + 1) σ'' H'', bk := D.nx } σ2 H2) (hm : ∀ i σ' H' H'', Pv i σ' H' → Ex H' H'' → Pv i σ' H'') (hd : ∀ σ' H', Pv n σ' H' → D.nx σ' H') :
    tFor wi g tb D σ H := hw H (Ex.refl H) _ fun J H1 e1 hW =>
  for_it hW (fun i σ' H' => Ex H1 H' ∧ Pv i σ' H') ⟨Ex.refl H1, h0 H1 e1⟩ (fun i σ' H' _ h => h.1) (fun i x σ' Ha Hb hi p y => hs H1 e1 i x σ' Hb hi (p.1.trans y.1) (hm _ _ _ _ p.2 y.1) y.2) (fun σ' H' h => hd σ' H' h.2)

section
variable {P : Program} {w : World} {K : PySem.W.Frag} {mg : Str → Option Value} {base : Heap}
theorem sc_check_told : FnScope ["rules", "clock", "low", "high", "step", "at"] ["rules", "clock", "low", "high", "step"] (defScope s_check_told) := ⟨rfl, rfl, rfl, by decide +kernel, rfl, by decide +kernel, by decide +kernel⟩
theorem c_check_told (T : Fx K mg) : CalX P w K mg base 8 "check_told" (spTold K) :=
  calx_of T.d_check_told sc_check_told (fun _ _ _ _ h => by obtain ⟨_, _, _, _, _, _, rfl, _⟩ := h; rfl) (fun _ _ _ _ _ _ us hl => match us, hl with | [_, _, _, _, _], _ => rfl) fun cdv A outer s H vs Q E hr h => by
    have c_Rules_teller := c_Rules_teller (P := P) (w := w) (base := base) T
    refine ⟨_, (pss_one (ps_for (passes_of rfl) rfl (pi_range3 (by rfl) T.n_range (pa_cons (pv 2) (pa_cons (pv 3) (pa_cons (pv 4) pa_nil)))) (pg_name (i := 5) sc_check_told.nd rfl (Or.inl rfl)) (pss_one (ps_expr (pe_mtX c_Rules_teller hr (by decide) (passes_call (takes_of rfl rfl rfl rfl) (fun _ _ _ _ h => h)) (pv 0) (pa_cons (pv 5) (pa_cons (pv 4) (pa_cons (pv 1) pa_nil)))))))), ?_⟩
    obtain ⟨a, rs, clock, low, step, n, rfl, hr2, hc, hlo, hst, hst2, hn, q1, q2⟩ := h
    refine s_forW (ew_rng3 (ea_cons (ev_var rfl) (ea_cons (ev_var rfl) (ea_cons (ev_var rfl) ea_nil))) (rgC_step hlo.1 hlo.2 hst hst2 hn)) (fun i σ' H' => Ex H H' ∧ (∃ w, σ' = [some (.ref a), some (.int clock), some (.int low), some (.int (low + n * step)), some (.int step), w]) ∧ ∀ j, j < i → goneOf rs (low + j * step) step clock = none) (fun H1 e1 => ⟨e1, ⟨_, rfl⟩, fun j hj => absurd hj (Nat.not_lt_zero _)⟩) (fun H1 e1 i x σ' H' hi e2 h hx => ?_) (fun i σ' H' H'' h e => ⟨h.1.trans e, h.2⟩) (fun σ' H' h => ?_)
    · obtain ⟨e3, ⟨w', rfl⟩, hno⟩ := h
      subst hx
      have hp : 0 ≤ (i : Int) * step := Int.mul_nonneg (by omega) (by omega)
      obtain ⟨ok, dx, L, xs, h1, h2, h3⟩ := hr2.ex e3
      refine ⟨_, rfl, a, dx, _, rfl, h1, rfl, _, rfl, _, rfl, _, rfl, a, rs, low + i * step, step, clock, rfl, hr2.ex e3, by omega, hst, hc, fun hg g H5 e5 => ?_, fun g hg => ?_⟩
      · refine ⟨e2.trans e5, e3.trans e5, ⟨_, rfl⟩, fun j hj => ?_⟩
        by_cases hji : j = i
        · rw [hji]
          exact hg
        · exact hno j (by omega)
      · exact (q2 i g ⟨hi, hno, hg⟩).ex e3
    · obtain ⟨e3, _, hno⟩ := h
      exact q1 (fun i hi => hno i hi) H' e3
end

inductive Dd where
  | put (k : Nat) (t v : Int)
  | take (k : Nat) (lo hi : Int)
  | clk (c : Int)
def Dd.isPut : Dd → Bool
  | .put .. => true
  | _ => false
def Dd.isTake : Dd → Bool
  | .take .. => true
  | _ => false
def Dd.isClk : Dd → Bool
  | .clk .. => true
  | _ => false
def OkD : Dd → Prop
  | .put k t v => k < 2 ∧ 0 ≤ t
  | .take k lo hi => k < 2 ∧ 0 ≤ lo ∧ lo < hi
  | .clk c => 0 ≤ c
/-- the tuple at a is the deed, as the program is handed it -/
def DeedAt (K : PySem.W.Frag) (H : Hp) (a : Addr) : Dd → Prop
  | .put k t v => ∃ s, H a = some (.tup [.str "put", .ref s, .int t, .int v]) ∧ SerAt K H s k
  | .take k lo hi => ∃ s, H a = some (.tup [.str "take", .ref s, .int lo, .int hi]) ∧ SerAt K H s k
  | .clk c => H a = some (.tup [.str "clock", .int c])
theorem DeedAt.ex {K : PySem.W.Frag} {H H' : Hp} {a : Addr} {d : Dd} (e : Ex H H') (h : DeedAt K H a d) : DeedAt K H' a d := by
  cases d with
  | put k t v =>
    obtain ⟨s, h1, h2⟩ := h
    exact ⟨s, e _ _ h1, h2.ex e⟩
  | take k t v =>
    obtain ⟨s, h1, h2⟩ := h
    exact ⟨s, e _ _ h1, h2.ex e⟩
  | clk c => exact e _ _ h
theorem ev_ixT {K : PySem.W.Frag} {σ : L2.St} {H : Hp} {te tb : TE} {a : Addr} {xs : List V} {i : Int} {v : V} (h : Ev te σ H (.ref a)) (hb : Ev tb σ H (.int i)) (ha : H a = some (.tup xs)) (hi : L2.atI xs i = some v) : Ev (tOp (rIxT K) te tb) σ H v := ev_op h hb (rv_ixT (st_of ha) hi)
theorem ev_ixL {K : PySem.W.Frag} {σ : L2.St} {H : Hp} {te tb : TE} {a : Addr} {xs : List V} {i : Int} {v : V} (h : Ev te σ H (.ref a)) (hb : Ev tb σ H (.int i)) (ha : H a = some (.lst xs)) (hi : L2.atI xs i = some v) : Ev (tOp (rIxL K) te tb) σ H v := ev_op h hb (rv_ixL (sq_of ha) hi)
theorem rc_ser {K : PySem.W.Frag} {H : Hp} {s : Addr} {k : Nat} (h : SerAt K H s k) : RC (fun xs H Q => ∃ a dx fs, xs = [V.ref a, .ref (He.ga K "Series")] ∧ H a = some (.ins (He.ga K "Series") dx fs) ∧ Q (.bl true) H) [.ref s, .ref (He.ga K "Series")] H (.bl true) := by
  obtain ⟨dx, L, xs, ha, _⟩ := h
  exact fun H1 e1 Q q => ⟨s, dx, _, rfl, e1 _ _ ha, q H1 (Ex.refl H1)⟩
theorem n_pt : decide ((V.str "put") = V.str "take") = false := by decide +kernel
theorem n_tp : decide ((V.str "take") = V.str "put") = false := by decide +kernel

section
variable {P : Program} {w : World} {K : PySem.W.Frag} {mg : Str → Option Value} {base : Heap}
theorem sc_is_put : FnScope ["value"] ["value"] (defScope s_is_put) := ⟨rfl, rfl, rfl, by decide +kernel, rfl, by decide +kernel, by decide +kernel⟩
theorem c_is_put (T : Fx K mg) : C8.Cal P w K mg base 3 "is_put" (SV 1 fun vs H z => ∃ a d, vs = [.ref a] ∧ DeedAt K H a d ∧ OkD d ∧ z = .bl d.isPut) [] :=
  cal_of T.d_is_put sc_is_put SV.len (fun _ _ _ _ _ _ us hl => match us, hl with | [_], _ => rfl) fun cdv A outer s H vs Q E hr h => by
    have c_is_count := c_is_count (P := P) (w := w) (base := base) T
    have c_is_value := c_is_value (P := P) (w := w) (base := base) T
    refine ⟨_, (pss_cons (ps_if (PW.pt (pw_or (pt_cmpR op_ne (pe_callB (call_len_seqK K rfl) (by rfl) T.n_len b_len (pa_cons (pv 0) pa_nil)) pe_int (nomark _)) (pw_or (pt_cmpR op_ne (pe_ix (ix_tupK K rfl) (pv 0) pe_int (fun _ _ => rfl)) pe_str (nomark _)) (pw_or1 (pt_not (pt_val (pe_callB (C8.call_isC T.o_Series) (by rfl) T.n_isinstance b_isinstance (pa_cons (pe_ix (ix_tupK K rfl) (pv 0) pe_int (fun _ _ => rfl)) (pa_cons (pe_glob (v := .ref _) rfl T.g_Series rfl) pa_nil))))))))) (pss_one (ps_ret pe_bl)) pss_nil)
      (pss_one (ps_ret (pe_and (pe_c c_is_count hr (by decide) (by rfl) (pa_cons (pe_ix (ix_tupK K rfl) (pv 0) pe_int (fun _ _ => rfl)) pa_nil)) (pe_one (pe_c c_is_value hr (by decide) (by rfl) (pa_cons (pe_ix (ix_tupK K rfl) (pv 0) pe_int (fun _ _ => rfl)) pa_nil))))))), ?_⟩
    obtain ⟨hl, _, ⟨a, d, rfl, hd, ok, rfl⟩, q⟩ := h
    cases d with
      | put k lo hi =>
        obtain ⟨s, h1, h2⟩ := hd
        refine q_when (b := false) (et_is (et_or (a := false) (et_is (et_test (ev_op (ev_lenD (ev_var rfl) (.inr h1)) ev_c rv_neI)) (by simp)) fun _ => et_or (a := false) (et_is (et_test (ev_op (ev_ixT (ev_var rfl) ev_c h1 rfl) ev_c (rv_ne rfl))) (by decide +kernel)) fun _ => et_not (et_B (ev_cb (ea_cons (ev_ixT (ev_var rfl) ev_c h1 rfl) (ea_cons ev_c ea_nil)) (rc_ser h2)))) rfl) (fun c => by cases c) (fun _ H1 e1 => ?_)
        refine s_ret (ev_is (ev_andV (b := true) (ev_callV (ea_cons (ev_ixT (ev_var rfl) ev_c (e1 _ _ h1) rfl) ea_nil) rfl fun _ _ => ⟨_, rfl, rfl⟩) fun _ => ev_callV (ea_cons (ev_ixT (ev_var rfl) ev_c (e1 _ _ h1) rfl) ea_nil) rfl fun _ _ => ⟨_, rfl, rfl⟩) ?_) fun H2 e2 => q H2 (e1.trans e2)
        simp [ok.2, Dd.isPut]
      | take k lo hi =>
        obtain ⟨s, h1, h2⟩ := hd
        refine q_when (b := true) (et_is (et_or (a := false) (et_is (et_test (ev_op (ev_lenD (ev_var rfl) (.inr h1)) ev_c rv_neI)) (by simp)) fun _ => et_or (a := true) (b := true) (et_is (et_test (ev_op (ev_ixT (ev_var rfl) ev_c h1 rfl) ev_c (rv_ne rfl))) (by decide +kernel)) fun c => by cases c) rfl) (fun _ H1 e1 => s_ret ev_c fun H2 e2 => q H2 (e1.trans e2)) (fun c => by cases c)
      | clk c =>
        refine q_when (b := true) (et_is (et_or (a := true) (b := true) (et_is (et_test (ev_op (ev_lenD (ev_var rfl) (.inr hd)) ev_c rv_neI)) (by simp)) fun c => by cases c) rfl) (fun _ H1 e1 => s_ret ev_c fun H2 e2 => q H2 (e1.trans e2)) (fun c => by cases c)
end
section
variable {P : Program} {w : World} {K : PySem.W.Frag} {mg : Str → Option Value} {base : Heap}
theorem sc_is_take : FnScope ["value"] ["value"] (defScope s_is_take) := ⟨rfl, rfl, rfl, by decide +kernel, rfl, by decide +kernel, by decide +kernel⟩
theorem c_is_take (T : Fx K mg) : C8.Cal P w K mg base 3 "is_take" (SV 1 fun vs H z => ∃ a d, vs = [.ref a] ∧ DeedAt K H a d ∧ OkD d ∧ z = .bl d.isTake) [] :=
  cal_of T.d_is_take sc_is_take SV.len (fun _ _ _ _ _ _ us hl => match us, hl with | [_], _ => rfl) fun cdv A outer s H vs Q E hr h => by
    have c_is_count := c_is_count (P := P) (w := w) (base := base) T
    refine ⟨_, (pss_cons (ps_if (PW.pt (pw_or (pt_cmpR op_ne (pe_callB (call_len_seqK K rfl) (by rfl) T.n_len b_len (pa_cons (pv 0) pa_nil)) pe_int (nomark _)) (pw_or (pt_cmpR op_ne (pe_ix (ix_tupK K rfl) (pv 0) pe_int (fun _ _ => rfl)) pe_str (nomark _)) (pw_or1 (pt_not (pt_val (pe_callB (C8.call_isC T.o_Series) (by rfl) T.n_isinstance b_isinstance (pa_cons (pe_ix (ix_tupK K rfl) (pv 0) pe_int (fun _ _ => rfl)) (pa_cons (pe_glob (v := .ref _) rfl T.g_Series rfl) pa_nil))))))))) (pss_one (ps_ret pe_bl)) pss_nil)
      (pss_one (ps_ret (pe_and (pe_c c_is_count hr (by decide) (by rfl) (pa_cons (pe_ix (ix_tupK K rfl) (pv 0) pe_int (fun _ _ => rfl)) pa_nil)) (pe_and (pe_c c_is_count hr (by decide) (by rfl) (pa_cons (pe_ix (ix_tupK K rfl) (pv 0) pe_int (fun _ _ => rfl)) pa_nil)) (pe_one (pe_cmpR op_lt (pe_ix (ix_tupK K rfl) (pv 0) pe_int (fun _ _ => rfl)) (pe_ix (ix_tupK K rfl) (pv 0) pe_int (fun _ _ => rfl)) (nomark _)))))))), ?_⟩
    obtain ⟨hl, _, ⟨a, d, rfl, hd, ok, rfl⟩, q⟩ := h
    cases d with
      | take k lo hi =>
        obtain ⟨s, h1, h2⟩ := hd
        refine q_when (b := false) (et_is (et_or (a := false) (et_is (et_test (ev_op (ev_lenD (ev_var rfl) (.inr h1)) ev_c rv_neI)) (by simp)) fun _ => et_or (a := false) (et_is (et_test (ev_op (ev_ixT (ev_var rfl) ev_c h1 rfl) ev_c (rv_ne rfl))) (by decide +kernel)) fun _ => et_not (et_B (ev_cb (ea_cons (ev_ixT (ev_var rfl) ev_c h1 rfl) (ea_cons ev_c ea_nil)) (rc_ser h2)))) rfl) (fun c => by cases c) (fun _ H1 e1 => ?_)
        refine s_ret (ev_is (ev_andV (ev_callV (ea_cons (ev_ixT (ev_var rfl) ev_c (e1 _ _ h1) rfl) ea_nil) rfl fun _ _ => ⟨_, rfl, rfl⟩) fun _ => ev_andV (ev_callV (ea_cons (ev_ixT (ev_var rfl) ev_c (e1 _ _ h1) rfl) ea_nil) rfl fun _ _ => ⟨_, rfl, rfl⟩) fun _ => ev_op (ev_ixT (ev_var rfl) ev_c (e1 _ _ h1) rfl) (ev_ixT (ev_var rfl) ev_c (e1 _ _ h1) rfl) rv_I0) ?_) fun H2 e2 => q H2 (e1.trans e2)
        have o1 := ok.2.1
        have o2 := ok.2.2
        have o3 : 0 ≤ hi := by omega
        simp [o1, o2, o3, Dd.isTake]
      | put k lo hi =>
        obtain ⟨s, h1, h2⟩ := hd
        refine q_when (b := true) (et_is (et_or (a := false) (et_is (et_test (ev_op (ev_lenD (ev_var rfl) (.inr h1)) ev_c rv_neI)) (by simp)) fun _ => et_or (a := true) (b := true) (et_is (et_test (ev_op (ev_ixT (ev_var rfl) ev_c h1 rfl) ev_c (rv_ne rfl))) (by decide +kernel)) fun c => by cases c) rfl) (fun _ H1 e1 => s_ret ev_c fun H2 e2 => q H2 (e1.trans e2)) (fun c => by cases c)
      | clk c =>
        refine q_when (b := true) (et_is (et_or (a := true) (b := true) (et_is (et_test (ev_op (ev_lenD (ev_var rfl) (.inr hd)) ev_c rv_neI)) (by simp)) fun c => by cases c) rfl) (fun _ H1 e1 => s_ret ev_c fun H2 e2 => q H2 (e1.trans e2)) (fun c => by cases c)
end
section
variable {P : Program} {w : World} {K : PySem.W.Frag} {mg : Str → Option Value} {base : Heap}
theorem sc_is_clock : FnScope ["value"] ["value"] (defScope s_is_clock) := ⟨rfl, rfl, rfl, by decide +kernel, rfl, by decide +kernel, by decide +kernel⟩
theorem c_is_clock (T : Fx K mg) : C8.Cal P w K mg base 3 "is_clock" (SV 1 fun vs H z => ∃ a d, vs = [.ref a] ∧ DeedAt K H a d ∧ OkD d ∧ z = .bl d.isClk) [] :=
  cal_of T.d_is_clock sc_is_clock SV.len (fun _ _ _ _ _ _ us hl => match us, hl with | [_], _ => rfl) fun cdv A outer s H vs Q E hr h => by
    have c_is_count := c_is_count (P := P) (w := w) (base := base) T
    refine ⟨_, (pss_one (ps_ret (pe_and (pe_cmpR op_eq (pe_callB (call_len_seqK K rfl) (by rfl) T.n_len b_len (pa_cons (pv 0) pa_nil)) pe_int (nomark _)) (pe_and (pe_cmpR op_eq (pe_ix (ix_tupK K rfl) (pv 0) pe_int (fun _ _ => rfl)) pe_str (nomark _)) (pe_one (pe_c c_is_count hr (by decide) (by rfl) (pa_cons (pe_ix (ix_tupK K rfl) (pv 0) pe_int (fun _ _ => rfl)) pa_nil))))))), ?_⟩
    obtain ⟨hl, _, ⟨a, d, rfl, hd, ok, rfl⟩, q⟩ := h
    cases d with
      | put k lo hi =>
        obtain ⟨s, h1, h2⟩ := hd
        exact s_ret (ev_is (ev_andV (a := false) (b := true) (ev_is (ev_op (ev_lenD (ev_var rfl) (.inr h1)) ev_c rv_eqI) rfl) fun c => by cases c) rfl) fun H2 e2 => q H2 e2
      | take k lo hi =>
        obtain ⟨s, h1, h2⟩ := hd
        exact s_ret (ev_is (ev_andV (a := false) (b := true) (ev_is (ev_op (ev_lenD (ev_var rfl) (.inr h1)) ev_c rv_eqI) rfl) fun c => by cases c) rfl) fun H2 e2 => q H2 e2
      | clk c =>
        have h1 : H a = some (.tup [.str "clock", .int c]) := hd
        have o1 : 0 ≤ c := ok
        refine s_ret (ev_is (ev_andV (a := true) (ev_is (ev_op (ev_lenD (ev_var rfl) (.inr h1)) ev_c rv_eqI) rfl) fun _ => ev_andV (a := true) (ev_is (ev_op (ev_ixT (ev_var rfl) ev_c h1 rfl) ev_c (rv_eq rfl)) (by simp)) fun _ => ev_callV (ea_cons (ev_ixT (ev_var rfl) ev_c h1 rfl) ea_nil) rfl fun _ _ => ⟨_, rfl, rfl⟩) ?_) fun H2 e2 => q H2 e2
        simp [o1, Dd.isClk]
end

theorem DeedAt.tup {K : PySem.W.Frag} {H : Hp} {a : Addr} {d : Dd} (h : DeedAt K H a d) : ∃ xs, H a = some (.tup xs) := by
  cases d with
  | put k t v =>
    obtain ⟨s, h1, h2⟩ := h
    exact ⟨_, h1⟩
  | take k t v =>
    obtain ⟨s, h1, h2⟩ := h
    exact ⟨_, h1⟩
  | clk c => exact ⟨_, h⟩

section
variable {P : Program} {w : World} {K : PySem.W.Frag} {mg : Str → Option Value} {base : Heap}
theorem sc_is_deed : FnScope ["value"] ["value"] (defScope s_is_deed) := ⟨rfl, rfl, rfl, by decide +kernel, rfl, by decide +kernel, by decide +kernel⟩
theorem c_is_deed (T : Fx K mg) : C8.Cal P w K mg base 4 "is_deed" (SV 1 fun vs H z => ∃ a d, vs = [.ref a] ∧ DeedAt K H a d ∧ OkD d ∧ z = .bl true) [] :=
  cal_of T.d_is_deed sc_is_deed SV.len (fun _ _ _ _ _ _ us hl => match us, hl with | [_], _ => rfl) fun cdv A outer s H vs Q E hr h => by
    have c_is_clock := c_is_clock (P := P) (w := w) (base := base) T
    have c_is_put := c_is_put (P := P) (w := w) (base := base) T
    have c_is_take := c_is_take (P := P) (w := w) (base := base) T
    refine ⟨_, (pss_one (ps_ret (pe_and (pe_callB call_isi (by rfl) T.n_isinstance b_isinstance (pa_cons (pv 0) (pa_cons (pe_bltn (v := .ty "tuple") (by rfl) T.n_tuple b_tuple rfl) pa_nil))) (pe_one (pe_or (pe_c c_is_put hr (by decide) (by rfl) (pa_cons (pv 0) pa_nil)) (pe_or (pe_c c_is_take hr (by decide) (by rfl) (pa_cons (pv 0) pa_nil)) (pe_one (pe_c c_is_clock hr (by decide) (by rfl) (pa_cons (pv 0) pa_nil))))))))), ?_⟩
    obtain ⟨hl, _, ⟨a, d, rfl, hd, ok, rfl⟩, q⟩ := h
    obtain ⟨xs, hx⟩ := hd.tup
    refine s_ret (ev_is (ev_andV (a := true) (b := (d.isPut || (d.isTake || d.isClk))) (ev_cb (ea_cons (ev_var rfl) (ea_cons ev_c ea_nil)) (kit_tup_tup hx)) fun _ => ev_orV (ev_callV (ea_cons (ev_var rfl) ea_nil) rfl fun _ e => ⟨a, d, rfl, hd.ex e, ok, rfl⟩) fun _ => ev_orV (ev_callV (ea_cons (ev_var rfl) ea_nil) rfl fun _ e => ⟨a, d, rfl, hd.ex e, ok, rfl⟩) fun _ => ev_callV (ea_cons (ev_var rfl) ea_nil) rfl fun _ e => ⟨a, d, rfl, hd.ex e, ok, rfl⟩) ?_) fun H2 e2 => q H2 e2
    cases d <;> rfl
end
section
variable {P : Program} {w : World} {K : PySem.W.Frag} {mg : Str → Option Value} {base : Heap}
theorem sc_check_deed : FnScope ["value"] ["value"] (defScope s_check_deed) := ⟨rfl, rfl, rfl, by decide +kernel, rfl, by decide +kernel, by decide +kernel⟩
theorem c_check_deed (T : Fx K mg) : C8.Cal P w K mg base 5 "check_deed" (SV 1 fun vs H z => ∃ a d, vs = [.ref a] ∧ DeedAt K H a d ∧ OkD d ∧ z = .non) [] :=
  cal_of T.d_check_deed sc_check_deed SV.len (fun _ _ _ _ _ _ us hl => match us, hl with | [_], _ => rfl) fun cdv A outer s H vs Q E hr h => by
    have c_is_deed := c_is_deed (P := P) (w := w) (base := base) T
    refine ⟨_, (pss_one (ps_if (pt_not (pt_val (pe_c c_is_deed hr (by decide) (by rfl) (pa_cons (pv 0) pa_nil)))) (pss_one ps_never) pss_nil)), ?_⟩
    obtain ⟨hl, _, ⟨a, d, rfl, hd, ok, rfl⟩, q⟩ := h
    exact s_when (b := false) (et_is (et_not (et_B (ev_callV (ea_cons (ev_var rfl) ea_nil) rfl fun _ e => ⟨a, d, rfl, hd.ex e, ok, rfl⟩))) rfl) (fun c => by cases c) (fun _ H1 e1 => q H1 e1)
end

inductive Out where
  | ok
  | back (t : Int)
  | gone (t : Int)
def letOf (rs : List (Int × Option Int)) (c : Int) : Dd → Out
  | .put _ t _ => if t < edgeOf rs 0 c then .gone t else .ok
  | .take _ t _ => if t < edgeOf rs 0 c then .gone t else .ok
  | .clk t => if t < c then .back t else .ok
def spLet (K : PySem.W.Frag) : Sp := fun vs H Q E => ∃ (r : Addr) (rs : List (Int × Option Int)) (c : Int) (a : Addr) (d : Dd), vs = [.ref r, .int c, .ref a] ∧ RulesAt K H r rs ∧ 0 ≤ c ∧ DeedAt K H a d ∧ OkD d ∧
  (letOf rs c d = .ok → ∀ H', Ex H H' → Q .non H') ∧ (∀ t, letOf rs c d = .back t → BackE K H E t) ∧ ∀ t, letOf rs c d = .gone t → GoneE K H E t 0

section
variable {P : Program} {w : World} {K : PySem.W.Frag} {mg : Str → Option Value} {base : Heap}
theorem sc_check_let : FnScope ["rules", "clock", "deed"] ["rules", "clock", "deed"] (defScope s_check_let) := ⟨rfl, rfl, rfl, by decide +kernel, rfl, by decide +kernel, by decide +kernel⟩
theorem c_check_let (T : Fx K mg) : CalX P w K mg base 6 "check_let" (spLet K) :=
  calx_of T.d_check_let sc_check_let (fun _ _ _ _ h => by obtain ⟨_, _, _, _, _, rfl, _⟩ := h; rfl) (fun _ _ _ _ _ _ us hl => match us, hl with | [_, _, _], _ => rfl) fun cdv A outer s H vs Q E hr h => by
    have c_Rules_edge := c_Rules_edge (P := P) (w := w) (base := base) T
    have m_ClockBack := m_ClockBack (P := P) (w := w) (base := base) T
    have m_Gone := m_Gone (P := P) (w := w) (base := base) T
    refine ⟨_, (pss_one (ps_if (pt_cmpR op_eq (pe_ix (ix_tupK K rfl) (pv 2) pe_int (fun _ _ => rfl)) pe_str (nomark _)) (pss_one (ps_if (pt_cmpR op_lt (pe_ix (ix_tupK K rfl) (pv 2) pe_int (fun _ _ => rfl)) (pv 1) (nomark _)) (pss_one (ps_raise rfl (takes_of rfl rfl rfl rfl) (pmk_x m_ClockBack hr (by decide) (by rfl) (pa_cons (pe_ix (ix_tupK K rfl) (pv 2) pe_int (fun _ _ => rfl)) pa_nil)))) pss_nil)) (pss_one (ps_if (pt_cmpR op_lt (pe_ix (ix_tupK K rfl) (pv 2) pe_int (fun _ _ => rfl)) (pe_mt c_Rules_edge hr (by decide) (pv 0) (pa_cons pe_int (pa_cons (pv 1) pa_nil))) (nomark _)) (pss_one (ps_raise rfl (takes_of rfl rfl rfl rfl) (pmk_x m_Gone hr (by decide) (by rfl) (pa_cons (pe_ix (ix_tupK K rfl) (pv 2) pe_int (fun _ _ => rfl)) (pa_cons pe_int pa_nil))))) pss_nil)))), ?_⟩
    obtain ⟨r, rs, c, a, d, rfl, hr2, hc, hd, ok, q1, q2, q3⟩ := h
    cases d with
      | put k lo hi =>
        obtain ⟨s, h1, h2⟩ := hd
        refine s_if (b := false) (et_is (et_test (ev_op (ev_ixT (ev_var rfl) ev_c h1 rfl) ev_c (rv_eq rfl))) (by decide +kernel)) (fun c => by cases c) (fun _ H1 e1 => ?_)
        refine s_when (et_test (ev_op (ev_ixT (ev_var rfl) ev_c (e1 _ _ h1) rfl) (ev_rm (hr2.ex e1) (by decide +kernel) (ev_var rfl) (ea_cons ev_c (ea_cons (ev_var rfl) ea_nil)) rfl fun H2 e2 => ⟨r, rs, 0, c, rfl, (hr2.ex e1).ex e2, hr2.1.l1, hc, rfl⟩) rv_I0)) (fun hb H2 e2 => ?_) (fun hb H2 e2 => ?_)
        · have hb' := of_decide_eq_true hb
          exact mk_gone (ea_cons (ev_ixT (ev_var rfl) ev_c ((e1.trans e2) _ _ h1) rfl) (ea_cons ev_c ea_nil)) ((q3 _ (if_pos hb')).ex (e1.trans e2))
        · have hb' := of_decide_eq_false hb
          exact q1 (if_neg hb') H2 (e1.trans e2)
      | take k lo hi =>
        obtain ⟨s, h1, h2⟩ := hd
        refine s_if (b := false) (et_is (et_test (ev_op (ev_ixT (ev_var rfl) ev_c h1 rfl) ev_c (rv_eq rfl))) (by decide +kernel)) (fun c => by cases c) (fun _ H1 e1 => ?_)
        refine s_when (et_test (ev_op (ev_ixT (ev_var rfl) ev_c (e1 _ _ h1) rfl) (ev_rm (hr2.ex e1) (by decide +kernel) (ev_var rfl) (ea_cons ev_c (ea_cons (ev_var rfl) ea_nil)) rfl fun H2 e2 => ⟨r, rs, 0, c, rfl, (hr2.ex e1).ex e2, hr2.1.l1, hc, rfl⟩) rv_I0)) (fun hb H2 e2 => ?_) (fun hb H2 e2 => ?_)
        · have hb' := of_decide_eq_true hb
          exact mk_gone (ea_cons (ev_ixT (ev_var rfl) ev_c ((e1.trans e2) _ _ h1) rfl) (ea_cons ev_c ea_nil)) ((q3 _ (if_pos hb')).ex (e1.trans e2))
        · have hb' := of_decide_eq_false hb
          exact q1 (if_neg hb') H2 (e1.trans e2)
      | clk t =>
        have h1 : H a = some (.tup [.str "clock", .int t]) := hd
        refine s_if (b := true) (et_is (et_test (ev_op (ev_ixT (ev_var rfl) ev_c h1 rfl) ev_c (rv_eq rfl))) (by decide +kernel)) (fun _ H1 e1 => ?_) (fun c => by cases c)
        refine s_when (et_test (ev_op (ev_ixT (ev_var rfl) ev_c (e1 _ _ h1) rfl) (ev_var rfl) rv_I0)) (fun hb H2 e2 => ?_) (fun hb H2 e2 => ?_)
        · have hb' := of_decide_eq_true hb
          exact mk_back (ea_cons (ev_ixT (ev_var rfl) ev_c ((e1.trans e2) _ _ h1) rfl) ea_nil) ((q2 _ (if_pos hb')).ex (e1.trans e2))
        · have hb' := of_decide_eq_false hb
          exact q1 (if_neg hb') H2 (e1.trans e2)
end
end Eg
end

section
set_option Elab.async false
set_option linter.all false
set_option maxRecDepth 100000
set_option maxHeartbeats 4000000
set_option linter.constructorNameAsVariable false
namespace Eg
open PySem PySem.Spec PyProof.Rows L2 Evl C8


def pn (p : Int × Int) : PyData := .tuple [.int p.1, .int p.2]
def pl (p : Int × Int) : PyData := .tuple [.int p.1, .int 0, .int p.2]
def Asc (ps : List (Int × Int)) : Prop := ps.Pairwise (fun a b => a.1 < b.1)
structure Fd where
  n : Int
  s : Int
  mn : Int
  mx : Int
  fi : Int × Int
  la : Int × Int
def fdD : Option Fd → PyData
  | none => .none
  | some f => .tuple [.int f.n, .int f.s, .int f.mn, .int f.mx, pn f.fi, pn f.la]
def fstep (f : Fd) (q : Int × Int) : Fd := ⟨f.n + 1, f.s + q.2, if q.2 < f.mn then q.2 else f.mn, if q.2 > f.mx then q.2 else f.mx, f.fi, q⟩
def foldL : List (Int × Int) → Option Fd
  | [] => none
  | p :: r => some (r.foldl fstep ⟨1, p.2, p.2, p.2, p, p⟩)
structure FdOk (f : Fd) (ps : List (Int × Int)) : Prop where
  n : f.n = ps.length
  s : f.s = (ps.map (·.2)).sum
  mn : f.mn ∈ ps.map (·.2) ∧ ∀ y ∈ ps.map (·.2), f.mn ≤ y
  mx : f.mx ∈ ps.map (·.2) ∧ ∀ y ∈ ps.map (·.2), y ≤ f.mx
  fi : ps[0]? = some f.fi
  la : ps[ps.length - 1]? = some f.la
theorem fdOk_step {f : Fd} {ps : List (Int × Int)} {q : Int × Int} (h : FdOk f ps) : FdOk (fstep f q) (ps ++ [q]) := by
  have hne : 0 < ps.length := by
    rcases Nat.eq_zero_or_pos ps.length with e | e
    · have := h.fi
      rw [List.length_eq_zero_iff.mp e] at this
      cases this
    · exact e
  refine ⟨?_, ?_, ⟨?_, fun y hy => ?_⟩, ⟨?_, fun y hy => ?_⟩, ?_, ?_⟩
  · show f.n + 1 = _
    rw [h.n, List.length_append]
    rfl
  · show f.s + q.2 = _
    rw [h.s, List.map_append, List.sum_append]
    simp
  · show (if q.2 < f.mn then q.2 else f.mn) ∈ _
    rw [List.map_append, List.mem_append]
    split
    · exact .inr (by simp)
    · exact .inl h.mn.1
  · show (if q.2 < f.mn then q.2 else f.mn) ≤ y
    rw [List.map_append, List.mem_append] at hy
    rcases hy with hy | hy
    · have := h.mn.2 y hy
      split <;> omega
    · have hy' : y = q.2 := by simpa using hy
      split <;> omega
  · show (if q.2 > f.mx then q.2 else f.mx) ∈ _
    rw [List.map_append, List.mem_append]
    split
    · exact .inr (by simp)
    · exact .inl h.mx.1
  · show y ≤ (if q.2 > f.mx then q.2 else f.mx)
    rw [List.map_append, List.mem_append] at hy
    rcases hy with hy | hy
    · have := h.mx.2 y hy
      split <;> omega
    · have hy' : y = q.2 := by simpa using hy
      split <;> omega
  · rw [List.getElem?_append_left hne]
    exact h.fi
  · rw [List.length_append]
    show (ps ++ [q])[ps.length + 1 - 1]? = some q
    rw [List.getElem?_append_right (by omega)]
    simp
theorem fdOk_go : ∀ (r : List (Int × Int)) (f : Fd) (ps : List (Int × Int)), FdOk f ps → FdOk (r.foldl fstep f) (ps ++ r)
  | [], f, ps, h => by
    rw [List.append_nil]
    exact h
  | q :: r, f, ps, h => by
    have := fdOk_go r (fstep f q) (ps ++ [q]) (fdOk_step h)
    rw [List.append_assoc] at this
    exact this
theorem fdOk_one (p : Int × Int) : FdOk ⟨1, p.2, p.2, p.2, p, p⟩ [p] := by
  have h : ∀ y ∈ ([p].map (·.2) : List Int), y = p.2 := fun y hy => by simpa using hy
  exact ⟨rfl, by simp, ⟨by simp, fun y hy => by rw [h y hy]; exact Int.le_refl _⟩, ⟨by simp, fun y hy => by rw [h y hy]; exact Int.le_refl _⟩, rfl, rfl⟩
theorem foldL_ok (p : Int × Int) (r : List (Int × Int)) : ∃ f, foldL (p :: r) = some f ∧ FdOk f (p :: r) :=
  ⟨_, rfl, fdOk_go r _ [p] (fdOk_one p)⟩
/-- what is said of a turn of a walk -/
theorem walkH {J : It} {n : Nat} {G : Hp → Prop} {Y : Nat → Hp → V → Hp → Prop} (w : Walk J n G Y) {Qd : Hp → Prop} (B : (Hp → Prop) → V → Hp → Prop) {H0 : Hp} (Pv : Nat → Hp → Prop) (h0 : Pv 0 H0) (hG : ∀ i H, i ≤ n → Pv i H → G H)
    (hs : ∀ i x H H', i < n → Pv i H → Y i H x H' → B (Pv (i + 1)) x H') (hd : ∀ H, Pv n H → Qd H) :
    ∃ W : Nat → Nat → Hp → Prop, (∃ m, W 0 m H0) ∧ ∀ i m H, W i m H → (J.stop i H ∧ Qd H) ∨ (J.go i H ∧ ∃ Nx : Hp → Prop, (∀ H', Nx H' → ∃ m', m' < m ∧ W (i + 1) m' H') ∧ ∀ x H', J.yld i H x H' → B Nx x H') := by
  refine ⟨fun i m H => m = n - i ∧ i ≤ n ∧ Pv i H, ⟨n, by simp, Nat.zero_le _, h0⟩, ?_⟩
  rintro i m H ⟨rfl, hi, p⟩
  have q := hG i H hi p
  by_cases hlt : i < n
  · exact .inr ⟨w.goes i H hlt q, Pv (i + 1), fun H' p' => ⟨n - (i + 1), by omega, rfl, hlt, p'⟩, fun x H' y => hs i x H H' hlt p (w.yields i H x H' hlt q y)⟩
  · have e : i = n := by omega
    subst e
    exact .inl ⟨w.stops H q, hd H p⟩
theorem das_push {N : Addr → Prop} {H : Hp} {D : Addr} {ds : List PyData} {d : PyData} {xs : List V} {v : V} (hD : H D = some (.lst xs)) (h : DAs (fun a => N a ∧ a ≠ D) H ds xs) (hv : DA (fun a => N a ∧ a ≠ D) H d v) : DAs (fun a => N a ∧ a ≠ D) (upd H D (.lst (xs ++ [v]))) (ds ++ [d]) (xs ++ [v]) := by
  have p4 : DAs (fun a => N a ∧ a ≠ D) H (ds ++ [d]) (xs ++ [v]) := DAs.append h (by simp only [DAs]; exact ⟨v, [], rfl, hv, rfl⟩)
  refine DAs.imp (fun a ys n z => ⟨n, by rw [upd_ne n.2]; exact z⟩) (fun a ys z => ?_) _ _ p4
  rw [upd_ne (fun e => by rw [e, hD] at z; cases z)]
  exact z
def cat2 (n : Nat) (m : Nat → Nat) (dd : Nat → Nat → PyData) : List PyData := (List.range n).flatMap fun i => (List.range (m i)).map (dd i)
theorem cat2_succ (n : Nat) (m : Nat → Nat) (dd : Nat → Nat → PyData) : cat2 (n + 1) m dd = cat2 n m dd ++ (List.range (m n)).map (dd n) := by
  unfold cat2
  rw [List.range_succ, List.flatMap_append]
  simp
theorem yes_T {σ : L2.St} {H : Hp} {A B : Hp → Prop} (h : A H) : tYes σ H (fun b H3 => if b = true then A H3 else B H3) := h
/-- two clauses, all turns taken; the second over a list of data -/
theorem ed_lc2 {K : PySem.W.Frag} {N : Addr → Prop} {σ : L2.St} {H : Hp} {wi : TI} {n : Nat} {I : Nat → Hp → V → Prop} {g g1 : TG} {te t1 : TE} {vs vs1 : List Nat} (fr : Fr N H) (src : Nat → List PyData) (dd : Nat → Nat → PyData) (hw : EvW wi σ H n I)
    (hn : ∀ i, i < n → (cat2 i (fun i => (src i).length) dd).length + (src i).length ≤ 100000)
    (hs : ∀ (N' : Addr → Prop) i x H1, Ex H H1 → Fr N' H1 → (∀ a o, H a = some o → N a → N' a) → i < n → I i H1 x → ∃ σ2, (∀ Q : L2.St → Hp → Prop, Q σ2 H1 → g x (wipe σ vs) H1 Q) ∧ wipe σ2 vs = wipe σ vs ∧ EvD N' t1 σ2 H1 (.list (src i)) ∧
      ∀ j y d H2, Ex H H2 → Fr N' H2 → (src i)[j]? = some d → DA N' H2 d y → ∃ σ3, (∀ Q : L2.St → Hp → Prop, Q σ3 H2 → g1 y (wipe σ2 vs1) H2 Q) ∧ wipe σ3 vs1 = wipe σ2 vs1 ∧ EvD N' te σ3 H2 (dd i j)) :
    EvD N (tLc2 wi g tYes (iList K t1) g1 tYes te vs vs1) σ H (.list (cat2 n (fun i => (src i).length) dd)) := fun H0 e0 Q q => hw H0 e0 _ fun J H1 e1 hW => fun D hD => by
  have hDH : H D = none := fresh_back (e0.trans e1) hD
  refine walkH hW (fun Nx x H' => g x (wipe σ vs) H' fun σ2 H2 => wipe σ2 vs = wipe σ vs ∧ tYes σ2 H2 fun b H3 => if b = true then _ else Nx H3) (fun i H' => Ex H1 H' ∧ ∃ xs, H' D = some (.lst xs) ∧ DAs (fun a => N a ∧ a ≠ D) H' (cat2 i (fun i => (src i).length) dd) xs) ⟨Ex.new hD, [], upd_same, DAs.nil⟩ (fun i H' _ h => h.1) (fun i x Ha Hb hi h y => ?_) (fun H' h => ?_)
  · obtain ⟨p1, xs, p2, p3⟩ := h
    obtain ⟨y1, y2⟩ := y
    have pB := y1 _ _ p2
    have eB := (e0.trans e1).trans (p1.trans y1)
    have frN : ∀ {H'}, Ex H H' → (∃ o, H' D = some o) → Fr (fun a => N a ∧ a ≠ D) H' := fun e ⟨o, ho⟩ a ha => ⟨fr a (fresh_back e ha), fun c => by rw [c, ho] at ha; cases ha⟩
    obtain ⟨σ2, k1, k2, k3, k4⟩ := hs (fun a => N a ∧ a ≠ D) i x Hb eB (frN eB ⟨_, pB⟩) (fun a o ha n => ⟨n, fun e => by rw [e, hDH] at ha; cases ha⟩) hi y2
    refine k1 _ ⟨k2, ?_⟩
    refine yes_T ?_
    refine k3 Hb (Ex.refl Hb) _ fun v Hc ec hv => ?_
    obtain ⟨p, ys, rfl, hp0, hp, hys⟩ := hv.lst
    have pC := ec _ _ pB
    refine ⟨p, rfl, ⟨ys, sq_of hp⟩, ?_⟩
    refine walkH (walk_list (K := K) (a := p) (xs := ys)) (fun Nx1 x H' => g1 x (wipe σ2 vs1) H' fun σ3 H5 => wipe σ3 vs1 = wipe σ2 vs1 ∧ tYes σ3 H5 fun b H6 => if b = true then te σ3 H6 fun y H7 => ∃ acc, H7 D = some (.lst acc) ∧ acc.length < sizeLine ∧ Nx1 (upd H7 D (.lst (acc ++ [y]))) else Nx1 H6)
      (fun j H' => Ex H1 H' ∧ (H' p = some (.lst ys) ∧ DAs (fun a => N a ∧ a ≠ D) H' (src i) ys) ∧ ∃ zs, H' D = some (.lst zs) ∧ DAs (fun a => N a ∧ a ≠ D) H' (cat2 i (fun i => (src i).length) dd ++ (List.range j).map (dd i)) zs)
      ⟨(p1.trans y1).trans ec, ⟨hp, hys⟩, xs, pC, by rw [List.range_zero, List.map_nil, List.append_nil]; exact (p3.ex y1).ex ec⟩ (fun j H' _ h => sq_of h.2.1.1) (fun j y Hd He hj h hy => ?_) (fun H' h => ?_)
    · obtain ⟨a1, ⟨a2, a3⟩, zs, a4, a5⟩ := h
      obtain ⟨rfl, hy⟩ := hy
      have eD := (e0.trans e1).trans a1
      have hj' : j < (src i).length := by rw [← hys.length]; exact hj
      obtain ⟨y', b1, b2⟩ := a3.get (List.getElem?_eq_getElem hj')
      rw [hy] at b1
      cases b1
      obtain ⟨σ3, c1, c2, c3⟩ := k4 j y _ He eD (frN eD ⟨_, a4⟩) (List.getElem?_eq_getElem hj') b2
      refine c1 _ ⟨c2, ?_⟩
      refine yes_T ?_
      refine c3 He (Ex.refl He) _ fun v Hf ef hv => ⟨zs, ef _ _ a4, ?_, Ex.mut (a1.trans ef) hD, ⟨?_, ?_⟩, zs ++ [v], upd_same, ?_⟩
      · have l := a5.length
        have := hn i hi
        rw [List.length_append, List.length_map, List.length_range] at l
        exact sz_lt (by omega)
      · rw [upd_ne hp0.2]
        exact ef _ _ a2
      · refine DAs.imp (fun a ws n z => ⟨n, by rw [upd_ne n.2]; exact z⟩) (fun a ws z => ?_) _ _ (a3.ex ef)
        rw [upd_ne (fun e => by rw [e, ef _ _ a4] at z; cases z)]
        exact z
      · have := das_push (ef _ _ a4) (a5.ex ef) hv
        rw [List.append_assoc] at this
        rw [List.range_succ, List.map_append]
        exact this
    · obtain ⟨a1, _, zs, a4, a5⟩ := h
      refine ⟨a1, zs, a4, ?_⟩
      rw [cat2_succ]
      rw [hys.length] at a5
      exact a5
  · obtain ⟨p1, xs, p2, p3⟩ := h
    exact q _ H' (e1.trans p1) (by simp only [DA]; exact ⟨D, xs, rfl, fr D hDH, p2, p3.to fun a h => h.1⟩)

section
variable {P : Program} {w : World} {K : PySem.W.Frag} {mg : Str → Option Value} {base : Heap}
theorem sc_is_point : FnScope ["value"] ["value"] (defScope s_is_point) := ⟨rfl, rfl, rfl, by decide +kernel, rfl, by decide +kernel, by decide +kernel⟩
theorem c_is_point (T : Fx K mg) : C8.Cal P w K mg base 3 "is_point" (SV 1 fun vs H z => ∃ N p, DAs N H [pn p] vs ∧ 0 ≤ p.1 ∧ z = .bl true) [] :=
  cal_of T.d_is_point sc_is_point SV.len (fun _ _ _ _ _ _ us hl => match us, hl with | [_], _ => rfl) fun cdv A outer s H vs Q E hr h => by
    have c_is_count := c_is_count (P := P) (w := w) (base := base) T
    have c_is_value := c_is_value (P := P) (w := w) (base := base) T
    refine ⟨_, (pss_one (ps_ret (pe_and (pe_callB call_isi (by rfl) T.n_isinstance b_isinstance (pa_cons (pv 0) (pa_cons (pe_bltn (v := .ty "tuple") (by rfl) T.n_tuple b_tuple rfl) pa_nil))) (pe_and (pe_cmpR op_eq (pe_callB (call_len_seqK K rfl) (by rfl) T.n_len b_len (pa_cons (pv 0) pa_nil)) pe_int (nomark _)) (pe_and (pe_c c_is_count hr (by decide) (by rfl) (pa_cons (pe_ix (ix_tupK K rfl) (pv 0) pe_int (fun _ _ => rfl)) pa_nil)) (pe_one (pe_c c_is_value hr (by decide) (by rfl) (pa_cons (pe_ix (ix_tupK K rfl) (pv 0) pe_int (fun _ _ => rfl)) pa_nil)))))))), ?_⟩
    obtain ⟨hl, _, ⟨N, p, hv, hp, rfl⟩, q⟩ := h
    simp only [DAs] at hv
    obtain ⟨v, _, rfl, hd, rfl⟩ := hv
    obtain ⟨a, xs, rfl, ha, hx⟩ := DA.tup (ds := [.int p.1, .int p.2]) hd
    have hlen : xs.length = 2 := hx.length
    refine s_ret (ev_is (ev_andV (ev_cb (ea_cons (ev_var rfl) (ea_cons ev_c ea_nil)) (kit_tup_tup ha)) fun _ => ev_andV (ev_op (ev_lenD (ev_var rfl) (.inr ha)) ev_c rv_eqI) fun _ => ev_andV (ev_callV (ea_cons (dv_int (ed_ixT (ds := [.int p.1, .int p.2]) (ed_var rfl hd) ev_c rfl)) ea_nil) rfl fun _ _ => ⟨_, rfl, rfl⟩) fun _ => ev_callV (ea_cons (dv_int (ed_ixT (ds := [.int p.1, .int p.2]) (ed_var rfl hd) ev_c rfl)) ea_nil) rfl fun _ _ => ⟨_, rfl, rfl⟩) ?_) q
    rw [hlen]
    simp [hp]
end

theorem pn_at {ps : List (Int × Int)} {i : Nat} (h : i < ps.length) : (ps.map pn)[i]? = some (pn ps[i]) := by rw [List.getElem?_map, List.getElem?_eq_getElem h] <;> rfl

section
variable {P : Program} {w : World} {K : PySem.W.Frag} {mg : Str → Option Value} {base : Heap}
theorem sc_is_points : FnScope ["value", "k", "one"] ["value"] (defScope s_is_points) := ⟨rfl, rfl, rfl, by decide +kernel, rfl, by decide +kernel, by decide +kernel⟩
theorem c_is_points (T : Fx K mg) : C8.Cal P w K mg base 4 "is_points" (SV 1 fun vs H z => ∃ N ps, DAs N H [.list (ps.map pn)] vs ∧ Asc ps ∧ (∀ p ∈ ps, 0 ≤ p.1) ∧ ps.length ≤ 1000 ∧ z = .bl true) [] :=
  cal_of T.d_is_points sc_is_points SV.len (fun _ _ _ _ _ _ us hl => match us, hl with | [_], _ => rfl) fun cdv A outer s H vs Q E hr h => by
    have c_is_list := c_is_list (P := P) (w := w) (base := base) T
    have c_is_point := c_is_point (P := P) (w := w) (base := base) T
    refine ⟨_, (pss_cons (ps_if (PW.pt (pw_or (pt_not (pt_val (pe_c c_is_list hr (by decide) (by rfl) (pa_cons (pv 0) pa_nil)))) (pw_or1 (pt_not (pt_val (pe_callB (cr_all rfl) (by rfl) T.n_all b_all (pa_cons (pe_lc rfl sc_is_points.nd (pi_listK K rfl (pv 0)) (blkOk_by (own := [("one", 2)]) (by show blkC ["value", "k", "one"] (defScope s_is_points) _ _ = true; decide +kernel)) (fun _ _ _ _ _ => (pg_name (i := 2) sc_is_points.nd rfl (Or.inl rfl))) (fun _ _ _ _ _ => pts_nil) (fun _ _ _ _ _ => (pe_c c_is_point hr (by decide) (by rfl) (pa_cons (pv 2) pa_nil)))) pa_nil))))))) (pss_one (ps_ret pe_bl)) pss_nil)
      (pss_one (ps_ret (pe_callB (cr_all rfl) (by rfl) T.n_all b_all (pa_cons (pe_lc rfl sc_is_points.nd (pi_range2 (by rfl) T.n_range (pa_cons pe_int (pa_cons (pe_callB (call_len_seqK K rfl) (by rfl) T.n_len b_len (pa_cons (pv 0) pa_nil)) pa_nil))) (blkOk_by (own := [("k", 1)]) (by show blkC ["value", "k", "one"] (defScope s_is_points) _ _ = true; decide +kernel)) (fun _ _ _ _ _ => (pg_name (i := 1) sc_is_points.nd rfl (Or.inl rfl))) (fun _ _ _ _ _ => pts_nil) (fun _ _ _ _ _ => (pe_cmpR op_lt (pe_ix (ix_tupK K rfl) (pe_ix (ix_listK K rfl) (pv 0) (pe_op op_sub (pv 1) pe_int) (fun _ _ => rfl)) pe_int (fun _ _ => rfl)) (pe_ix (ix_tupK K rfl) (pe_ix (ix_listK K rfl) (pv 0) (pv 1) (fun _ _ => rfl)) pe_int (fun _ _ => rfl)) (nomark _)))) pa_nil))))), ?_⟩
    obtain ⟨hl, _, ⟨N, ps, hv, hasc, hpos, hz, rfl⟩, q⟩ := h
    simp only [DAs] at hv
    obtain ⟨v, _, rfl, hd, rfl⟩ := hv
    obtain ⟨a, xs, rfl, hn, ha, hx⟩ := hd.lst
    have hlen : xs.length = ps.length := by rw [hx.length, List.length_map]
    refine q_when (b := false) (et_is (et_or (a := false) (et_is (et_not (et_B (ev_callV (ea_cons (ev_var rfl) ea_nil) rfl fun _ e => ⟨⟨a, xs, rfl, e _ _ ha⟩, rfl⟩))) rfl) fun _ => et_not (et_B (ev_allLc (fun _ => true) (ew_lst (ed_var rfl hd)) (by rw [List.length_map]; omega) fun i x H1 e1 hi hx2 => ?_))) (by simp)) (fun c => by cases c) (fun _ H1 e1 => ?_)
    · obtain ⟨d, hd2, hdx⟩ := hx2
      rw [List.length_map] at hi
      rw [pn_at hi] at hd2
      cases hd2
      exact ⟨_, fun Q q => q, rfl, ev_callVD (ds := [pn ps[i]]) (eds_cons (ed_var rfl hdx) eds_nil) rfl fun vs H3 e3 hvs => ⟨_, _, hvs, hpos _ (List.getElem_mem hi), rfl⟩⟩
    refine s_ret (ev_is (ev_allLc (fun _ => true) (ew_rng2 (lo := 1) (n := (ps.length : Int)) (ea_cons ev_c (ea_cons (ev_is (ev_lenD (ev_var rfl) (.inl (e1 _ _ ha))) (by rw [hlen])) ea_nil)) (by omega) (by omega)) (by omega) fun i x H3 e3 hi hx2 => ?_) (by simp)) fun H2 e2 => q H2 (e1.trans e2)
    subst hx2
    have hi' : i + 1 < ps.length := by omega
    have c1 : (1 : Int) + (i : Int) = ((i + 1 : Nat) : Int) := by omega
    have c2 : (1 : Int) + (i : Int) - 1 = ((i : Nat) : Int) := by omega
    have hlt := (List.pairwise_iff_getElem.mp hasc) i (i + 1) (by omega) hi' (by omega)
    refine ⟨_, fun Q q => q, rfl, ev_is (ev_op (dv_int (ed_ixT (ds := [.int ps[i].1, .int ps[i].2]) (ed_ixL (ed_var rfl (hd.ex (e1.trans e3))) (ev_op (ev_var rfl) ev_c rv_I0) (by rw [c2, atI_nat]; exact pn_at (by omega))) ev_c rfl)) (dv_int (ed_ixT (ds := [.int ps[i + 1].1, .int ps[i + 1].2]) (ed_ixL (ed_var rfl (hd.ex (e1.trans e3))) (ev_var rfl) (by rw [c1, atI_nat]; exact pn_at hi')) ev_c rfl)) rv_I0) ?_⟩
    simp [hlt]
end

theorem lt_pl {a b : Int × Int} (h : a.1 < b.1) : PySem.W.dataLt (pl a) (pl b) = true ∧ PySem.W.dataLt (pl b) (pl a) = false := by
  have h2 : ¬ b.1 < a.1 := by omega
  constructor
  · simp [PySem.W.dataLt, pl, PySem.W.keyToks, PySem.W.keyToksAll, PyProof.Rows.lexLt, PyProof.Rows.itemLt, h]
  · simp [PySem.W.dataLt, pl, PySem.W.keyToks, PySem.W.keyToksAll, PyProof.Rows.lexLt, PyProof.Rows.itemLt, h, h2]
theorem min_pl {p : Int × Int} : ∀ {r : List (Int × Int)}, (∀ q ∈ r, p.1 < q.1) → PySem.W.minD (pl p) (r.map pl) = pl p
  | [], _ => rfl
  | q :: r, h => by
    show PySem.W.minD (if PySem.W.dataLt (pl q) (pl p) then pl q else pl p) (r.map pl) = pl p
    rw [(lt_pl (h q (List.mem_cons_self ..))).2]
    exact min_pl fun q' hq => h q' (List.mem_cons_of_mem _ hq)
theorem max_pl : ∀ {r : List (Int × Int)} {p : Int × Int}, Asc (p :: r) → ∃ l, (p :: r)[(p :: r).length - 1]? = some l ∧ PySem.W.maxD (pl p) (r.map pl) = pl l
  | [], p, _ => ⟨p, rfl, rfl⟩
  | q :: r, p, h => by
    have h' := List.pairwise_cons.mp h
    obtain ⟨l, h1, h2⟩ := max_pl (r := r) (p := q) h'.2
    refine ⟨l, ?_, ?_⟩
    · simpa using h1
    · show PySem.W.maxD (if PySem.W.dataLt (pl p) (pl q) then pl q else pl p) (r.map pl) = pl l
      rw [(lt_pl (h'.1 q (List.mem_cons_self ..))).1]
      exact h2
theorem alike_pl (l : List (Int × Int)) : PySem.W.AlikeAll (l.map pl) := ⟨fun x hx y hy => by
  obtain ⟨p, _, rfl⟩ := List.mem_map.mp hx
  obtain ⟨q, _, rfl⟩ := List.mem_map.mp hy
  rfl, fun x hx => by
  obtain ⟨p, _, rfl⟩ := List.mem_map.mp hx
  exact fun h => by cases h⟩
theorem depth_all {α : Type} {f : α → PyData} {k : Nat} (h : ∀ x, (f x).depth ≤ k) : ∀ l : List α, PyData.depthAll (l.map f) ≤ k
  | [] => Nat.zero_le _
  | x :: l => by
    show max (f x).depth (PyData.depthAll (l.map f)) ≤ k
    have := h x
    have := depth_all h l
    omega
theorem lay_all {α : Type} {f : α → PyData} (h : ∀ x, (f x).canLay0 = true) : ∀ l : List α, PyData.canLayAll0 (l.map f) = true
  | [] => by simp only [List.map_nil, PyData.canLayAll0]
  | x :: l => by simp only [List.map_cons, PyData.canLayAll0, h x, lay_all h l, Bool.and_self]
theorem pl_inj {p q : Int × Int} (h : pl p = pl q) : p = q := by
  unfold pl at h
  simp at h
  exact Prod.ext h.1 h.2
theorem shaped_pl (l : List (Int × Int)) : SeqAt.shaped (.list (l.map pl)) = true := by
  unfold SeqAt.shaped
  rw [Bool.and_eq_true, decide_eq_true_eq]
  refine ⟨?_, ?_⟩
  · show PyData.canLay0 (.list (l.map pl)) = true
    simp only [PyData.canLay0]
    exact lay_all (fun x => by simp [pl, PyData.canLay0, PyData.canLayAll0]) l
  · show PyData.depth (.list (l.map pl)) ≤ 64
    simp only [PyData.depth]
    have := depth_all (f := pl) (k := 1) (fun x => by simp [pl, PyData.depth, PyData.depthAll]) l
    omega
theorem ev_minD {K : PySem.W.Frag} {f : PyData → List PyData → PyData} {te : TE} {σ : L2.St} {H : Hp} {N : Addr → Prop} {d : PyData} {ds : List PyData} (h : EvD N te σ H (.list (d :: ds))) (ha : PySem.W.AlikeAll (d :: ds)) (hdp : PyData.depthAll (d :: ds) ≤ 60) : EvD N (tCB (rMinD K f) (tCons te tNil)) σ H (f d ds) := fun H1 e1 Q q => h H1 e1 _ fun v H2 e2 hd => by
  obtain ⟨a, xs, rfl, hn, hxa, hs⟩ := hd.lst
  refine ⟨a, xs, d, ds, rfl, sq_of hxa, hs.to (fun _ _ => True.intro), ha, hdp, fun i x hx hi => ?_⟩
  obtain ⟨x', h1, h2⟩ := hs.get hi
  rw [hx] at h1
  cases h1
  exact q _ H2 e2 h2
theorem ev_sum {K : PySem.W.Frag} {te : TE} {σ : L2.St} {H : Hp} {N : Addr → Prop} {ns : List Int} (h : EvD N te σ H (.list (ns.map .int))) : Ev (tCB (rSum K) (tCons te tNil)) σ H (.int ns.sum) := fun H1 e1 Q q => h H1 e1 _ fun v H2 e2 hd => by
  obtain ⟨a, xs, rfl, hn, hxa, hs⟩ := hd.lst
  exact ⟨a, ns, rfl, sq_of (by rw [hxa, hs.ints]), q H2 e2⟩
theorem ev_mn {K : PySem.W.Frag} {te : TE} {σ : L2.St} {H : Hp} {N : Addr → Prop} {ns : List Int} {m : Int} (h : EvD N te σ H (.list (ns.map .int))) (hm : m ∈ ns ∧ ∀ y ∈ ns, m ≤ y) : Ev (tCB (rMin K) (tCons te tNil)) σ H (.int m) := fun H1 e1 Q q => h H1 e1 _ fun v H2 e2 hd => by
  obtain ⟨a, xs, rfl, hn, hxa, hs⟩ := hd.lst
  refine ⟨a, ns, rfl, sq_of (by rw [hxa, hs.ints]), List.length_pos_iff.mpr (List.ne_nil_of_mem hm.1), fun m' h1 h2 => ?_⟩
  have : m' = m := Int.le_antisymm (h2 m hm.1) (hm.2 m' h1)
  rw [this]
  exact q H2 e2
theorem ev_mx {K : PySem.W.Frag} {te : TE} {σ : L2.St} {H : Hp} {N : Addr → Prop} {ns : List Int} {m : Int} (h : EvD N te σ H (.list (ns.map .int))) (hm : m ∈ ns ∧ ∀ y ∈ ns, y ≤ m) : Ev (tCB (rMax K) (tCons te tNil)) σ H (.int m) := fun H1 e1 Q q => h H1 e1 _ fun v H2 e2 hd => by
  obtain ⟨a, xs, rfl, hn, hxa, hs⟩ := hd.lst
  refine ⟨a, ns, rfl, sq_of (by rw [hxa, hs.ints]), List.length_pos_iff.mpr (List.ne_nil_of_mem hm.1), fun m' h1 h2 => ?_⟩
  have : m' = m := Int.le_antisymm (hm.2 m' h1) (h2 m hm.1)
  rw [this]
  exact q H2 e2
theorem ev_lenDD {K : PySem.W.Frag} {te : TE} {σ : L2.St} {H : Hp} {N : Addr → Prop} {ds : List PyData} (h : EvD N te σ H (.list ds)) : Ev (tCB (rLenK K) (tCons te tNil)) σ H (.int ds.length) := fun H1 e1 Q q => h H1 e1 _ fun v H2 e2 hd => by
  obtain ⟨a, xs, rfl, hn, hxa, hs⟩ := hd.lst
  exact ⟨a, xs, rfl, .inl (sq_of hxa), by rw [hs.length]; exact q H2 e2⟩
theorem g_tup3 {K : PySem.W.Frag} {σ : L2.St} {H : Hp} {i j l : Nat} {L : Addr} {x y z : V} {Q : L2.St → Hp → Prop} (hT : SqT K H L [x, y, z]) (h : Q (((σ.set i (some x)).set j (some y)).set l (some z)) H) : gTup K 3 (gCons (gName i) (gCons (gName j) (gCons (gName l) gNil))) (.ref L) σ H Q :=
  ⟨L, [x, y, z], rfl, hT, rfl, x, [y, z], rfl, y, [z], rfl, z, [], rfl, rfl, h⟩
theorem fd_any {N N' : Addr → Prop} {H : Hp} {f : Option Fd} {v : V} (h : DA N H (fdD f) v) : DA N' H (fdD f) v := by
  cases f with
  | none =>
    simp only [fdD, DA] at h ⊢
    exact h
  | some f =>
    simp only [fdD, pn, DA, DAs] at h ⊢
    exact h
theorem da_dom {N : Addr → Prop} {H : Hp} {d : PyData} {v : V} (h : DA N H d v) : DA (fun a => ∃ o, H a = some o) H d v := DA.imp (fun a xs _ z => ⟨⟨_, z⟩, z⟩) (fun a xs z => z) _ _ h

section
variable {P : Program} {w : World} {K : PySem.W.Frag} {mg : Str → Option Value} {base : Heap}
theorem sc_fold_of : FnScope ["rows", "placed", "values", "first", "last", "at", "row", "time", "value"] ["rows"] (defScope s_fold_of) := ⟨rfl, rfl, rfl, by decide +kernel, rfl, by decide +kernel, by decide +kernel⟩
theorem c_fold_of (T : Fx K mg) : C8.Cal P w K mg base 5 "fold_of" (SD 1 fun vs H d => ∃ N ps, DAs N H [.list [.list (ps.map pn)]] vs ∧ Asc ps ∧ (∀ p ∈ ps, 0 ≤ p.1) ∧ ps.length ≤ 1000 ∧ d = fdD (foldL ps)) [] :=
  cal_of T.d_fold_of sc_fold_of SD.len (fun _ _ _ _ _ _ us hl => match us, hl with | [_], _ => rfl) fun cdv A outer s H vs Q E hr h => by
    have c_is_list := c_is_list (P := P) (w := w) (base := base) T
    have c_is_points := c_is_points (P := P) (w := w) (base := base) T
    refine ⟨_, (pss_cons (ps_if (PW.pt (pw_or (pt_not (pt_val (pe_c c_is_list hr (by decide) (by rfl) (pa_cons (pv 0) pa_nil)))) (pw_or1 (pt_not (pt_val (pe_callB (cr_all rfl) (by rfl) T.n_all b_all (pa_cons (pe_lc rfl sc_fold_of.nd (pi_listK K rfl (pv 0)) (blkOk_by (own := [("row", 6)]) (by show blkC ["rows", "placed", "values", "first", "last", "at", "row", "time", "value"] (defScope s_fold_of) _ _ = true; decide +kernel)) (fun _ _ _ _ _ => (pg_name (i := 6) sc_fold_of.nd rfl (Or.inl rfl))) (fun _ _ _ _ _ => pts_nil) (fun _ _ _ _ _ => (pe_c c_is_points hr (by decide) (by rfl) (pa_cons (pv 6) pa_nil)))) pa_nil))))))) (pss_one ps_never) pss_nil)
      (pss_cons (ps_setLc2 (i := 1) rfl sc_fold_of.nd rfl rfl (sw_true rfl rfl rfl (by decide +kernel)) (pi_enum (by rfl) T.n_enumerate (pa_cons (pv 0) pa_nil)) (blkOk_by (own := [("at", 5), ("row", 6), ("time", 7), ("value", 8)]) (by show blkC ["rows", "placed", "values", "first", "last", "at", "row", "time", "value"] (defScope s_fold_of) _ _ = true; decide +kernel)) (vs1 := [7, 8]) (by decide) (fun _ _ _ _ _ => (pg_tupK K 2 rfl rfl (pgs_cons (pg_name (i := 5) sc_fold_of.nd rfl (Or.inl rfl)) (pgs_cons (pg_name (i := 6) sc_fold_of.nd rfl (Or.inl rfl)) pgs_nil)) rfl rfl)) (fun _ _ _ _ _ => pts_nil) (fun _ _ _ _ _ => (pi_listK K rfl (pv 6))) (fun _ _ _ _ _ => (pg_tupK K 2 rfl rfl (pgs_cons (pg_name (i := 7) sc_fold_of.nd rfl (Or.inl rfl)) (pgs_cons (pg_name (i := 8) sc_fold_of.nd rfl (Or.inl rfl)) pgs_nil)) rfl rfl)) (fun _ _ _ _ _ => pts_nil) (fun _ _ _ _ _ => (pe_tup (pa_cons (pv 7) (pa_cons (pv 5) (pa_cons (pv 8) pa_nil))))))
      (pss_cons (ps_if (pt_cmpR (op_eqD (hu64 hr)) (pv 1) (pe_lst pa_nil) (nomark _)) (pss_one (ps_ret pe_non)) pss_nil)
      (pss_cons (ps_setLc (i := 2) rfl sc_fold_of.nd rfl rfl (sw_true rfl rfl rfl (by decide +kernel)) (pi_listK K rfl (pv 1)) (blkOk_by (own := [("time", 7), ("at", 5), ("value", 8)]) (by show blkC ["rows", "placed", "values", "first", "last", "at", "row", "time", "value"] (defScope s_fold_of) _ _ = true; decide +kernel)) (fun _ _ _ _ _ => (pg_tupK K 3 rfl rfl (pgs_cons (pg_name (i := 7) sc_fold_of.nd rfl (Or.inl rfl)) (pgs_cons (pg_name (i := 5) sc_fold_of.nd rfl (Or.inl rfl)) (pgs_cons (pg_name (i := 8) sc_fold_of.nd rfl (Or.inl rfl)) pgs_nil))) rfl rfl)) (fun _ _ _ _ _ => pts_nil) (fun _ _ _ _ _ => (pv 8)))
      (pss_cons (ps_par (i := 3) (j := 4) (by rfl) sc_fold_of.nd rfl rfl (by decide) rfl rfl (pa_cons (pe_callB (cr_minD rfl (hu64 hr)) (by rfl) T.n_min b_min (pa_cons (pv 1) pa_nil)) (pa_cons (pe_callB (cr_maxD rfl (hu64 hr)) (by rfl) T.n_max b_max (pa_cons (pv 1) pa_nil)) pa_nil)) (by rfl))
      (pss_one (ps_ret (pe_tup (pa_cons (pe_callB (call_len_seqK K rfl) (by rfl) T.n_len b_len (pa_cons (pv 2) pa_nil)) (pa_cons (pe_callB (cr_sum rfl) (by rfl) T.n_sum b_sum (pa_cons (pv 2) pa_nil)) (pa_cons (pe_callB (cr_min rfl) (by rfl) T.n_min b_min (pa_cons (pv 2) pa_nil)) (pa_cons (pe_callB (cr_max rfl) (by rfl) T.n_max b_max (pa_cons (pv 2) pa_nil)) (pa_cons (pe_tup (pa_cons (pe_ix (ix_tupK K rfl) (pv 3) pe_int (fun _ _ => rfl)) (pa_cons (pe_ix (ix_tupK K rfl) (pv 3) pe_int (fun _ _ => rfl)) pa_nil))) (pa_cons (pe_tup (pa_cons (pe_ix (ix_tupK K rfl) (pv 4) pe_int (fun _ _ => rfl)) (pa_cons (pe_ix (ix_tupK K rfl) (pv 4) pe_int (fun _ _ => rfl)) pa_nil))) pa_nil)))))))))))))), ?_⟩
    obtain ⟨hl, _, ⟨N, ps, hv, hasc, hpos, hz, rfl⟩, q⟩ := h
    simp only [DAs] at hv
    obtain ⟨v, _, rfl, hd0, rfl⟩ := hv
    have hd := hd0.to (N' := TD) fun _ _ => True.intro
    obtain ⟨a, xs, rfl, hn, ha, hx⟩ := hd.lst
    refine q_when (b := false) (et_is (et_or (a := false) (et_is (et_not (et_B (ev_callV (ea_cons (ev_var rfl) ea_nil) rfl fun _ e => ⟨⟨a, xs, rfl, e _ _ ha⟩, rfl⟩))) rfl) fun _ => et_not (et_B (ev_allLc (fun _ => true) (ew_lst (ed_var rfl hd)) (by simp) fun i x H1 e1 hi hx2 => ?_))) (by simp)) (fun c => by cases c) (fun _ H1 e1 => ?_)
    · obtain ⟨d, hd2, hdx⟩ := hx2
      have h0 : i = 0 := by simpa using hi
      subst h0
      cases hd2
      exact ⟨_, fun Q q => q, rfl, ev_callVD (ds := [.list (ps.map pn)]) (eds_cons (ed_var rfl hdx) eds_nil) rfl fun vs H3 e3 hvs => ⟨_, _, hvs, hasc, hpos, hz, rfl⟩⟩
    have hdd := da_dom (hd.ex e1)
    have hlc : EvD TD (tLc2 (iEnum K (tCons (tVar 0) tNil)) (gTup K 2 (gCons (gName 5) (gCons (gName 6) gNil))) tYes (iList K (tVar 6)) (gTup K 2 (gCons (gName 7) (gCons (gName 8) gNil))) tYes (tTup (tCons (tVar 7) (tCons (tVar 5) (tCons (tVar 8) tNil)))) [5, 6, 7, 8] [7, 8]) (start ["rows", "placed", "values", "first", "last", "at", "row", "time", "value"] [.ref a]) H1 (.list (ps.map pl)) := by
      refine ed_is (ed_lc2 fr_TD (fun _ => ps.map pn) (fun i j => pl (ps.getD j (0, 0))) (ew_enum (ed_var rfl hdd)) (fun i hi => ?_) fun N' i x H2 e2 fr hNN hi hx2 => ?_) ?_
      · have : i = 0 := by simpa using hi
        subst this
        show 0 + (ps.map pn).length ≤ _
        rw [List.length_map]
        omega
      · obtain ⟨L, y, d, rfl, hL, hd2, hy⟩ := hx2
        have h0 : i = 0 := by simpa using hi
        subst h0
        cases hd2
        refine ⟨_, fun Q q => g_tup2 (st_of hL) q, rfl, ed_var rfl (hy.to fun b ⟨o, hb⟩ => hNN b o hb True.intro), fun j y d H3 e3 fr3 hj hy3 => ?_⟩
        rw [List.getElem?_map] at hj
        obtain ⟨p, hp, rfl⟩ := Option.map_eq_some_iff.mp hj
        obtain ⟨M, zs, rfl, hM, hzs⟩ := DA.tup (ds := [.int p.1, .int p.2]) hy3
        simp only [DAs, DA] at hzs
        obtain ⟨_, _, rfl, rfl, _, _, rfl, rfl, rfl⟩ := hzs
        refine ⟨_, fun Q q => g_tup2 (st_of hM) q, rfl, ?_⟩
        rw [List.getD_eq_getElem?_getD, hp]
        exact ed_tup (eds_cons (ed_int (ev_var rfl)) (eds_cons (ed_int (ev_var rfl)) (eds_cons (ed_int (ev_var rfl)) eds_nil))) (by simp)
      · refine congrArg PyData.list ?_
        unfold cat2
        show ((List.range (ps.map pn).length).map fun j => pl (ps.getD j (0, 0))) ++ [] = _
        rw [List.append_nil, List.length_map, ← gvn_all]
        exact gvn_map _ _ _ fun i p hp => by rw [List.getD_eq_getElem?_getD, hp] <;> rfl
    refine q_asgD hlc fun v2 H2 e2 hd2 => ?_
    have e12 := e1.trans e2
    have hpl : ∀ {H'}, Ex H2 H' → DA TD H' (.list (ps.map pl)) v2 := fun e => hd2.ex e
    have tst : EvT (tTest (tOp (rEqD K) (tVar 1) (tLst tNil))) ((start ["rows", "placed", "values", "first", "last", "at", "row", "time", "value"] [.ref a]).set 1 (some v2)) H2 (PyData.eqv (.list (ps.map pl)) (.list [])) := fun H3 e3 Q k => ⟨_, rfl, by decide, fun p hp => ⟨_, _, DA.dp _ _ ((hpl e3).ex (Ex.new hp)), .lst (xs := []) (.inl (.inl upd_same)) .nil, shaped_pl ps, by decide, _, rfl, k _ (Ex.new hp)⟩⟩
    cases ps with
    | nil => exact q_when (b := true) (et_is tst rfl) (fun _ H3 e3 => s_ret ev_c fun H4 e4 => q _ H4 ((e12.trans e3).trans e4) (by simp only [foldL, fdD, DA])) (fun c => by cases c)
    | cons p r =>
      refine q_when (b := false) (et_is tst rfl) (fun c => by cases c) (fun _ H3 e3 => ?_)
      obtain ⟨f, hf, ok⟩ := foldL_ok p r
      have e13 := e12.trans e3
      have hvl : EvD TD (tLc (iList K (tVar 1)) (gTup K 3 (gCons (gName 7) (gCons (gName 5) (gCons (gName 8) gNil)))) tYes (tVar 8) [7, 5, 8]) ((start ["rows", "placed", "values", "first", "last", "at", "row", "time", "value"] [.ref a]).set 1 (some v2)) H3 (.list (((p :: r).map (·.2)).map .int)) := by
        refine ed_is (ed_lc fr_TD (fun _ => true) (fun i => .int ((p :: r).getD i (0, 0)).2) (ew_lst (ed_var rfl (hpl e3))) (by rw [List.length_map]; omega) fun N' i x H4 e4 fr _ hi hx => ?_) ?_
        · obtain ⟨d, hd, hdx⟩ := hx
          rw [List.getElem?_map] at hd
          obtain ⟨q', hq, rfl⟩ := Option.map_eq_some_iff.mp hd
          obtain ⟨M, zs, rfl, hM, hzs⟩ := DA.tup (ds := [.int q'.1, .int 0, .int q'.2]) hdx
          simp only [DAs, DA] at hzs
          obtain ⟨_, _, rfl, rfl, _, _, rfl, rfl, _, _, rfl, rfl, rfl⟩ := hzs
          refine ⟨_, fun Q q => g_tup3 (st_of hM) q, rfl, et_yes, fun _ => ?_⟩
          rw [List.getD_eq_getElem?_getD, hq]
          exact ed_int (ev_var rfl)
        · refine congrArg PyData.list ?_
          rw [List.length_map, List.map_map]
          exact gvn_map _ _ _ fun i p hp => by rw [List.getD_eq_getElem?_getD, hp] <;> rfl
      refine q_asgD hvl fun v4 H4 e4 hd4 => ?_
      have h34 : ∀ {H'}, Ex H4 H' → DA TD H' (.list (pl p :: r.map pl)) v2 := fun e => hpl ((e3.trans e4).trans e)
      have hdp : PyData.depthAll (pl p :: r.map pl) ≤ 60 := Nat.le_trans (depth_all (f := pl) (k := 1) (fun x => by simp [pl, PyData.depth, PyData.depthAll]) (p :: r)) (by decide)
      have hmin := ev_minD (K := K) (te := tVar 1) (f := PySem.W.minD) (σ := (((start ["rows", "placed", "values", "first", "last", "at", "row", "time", "value"] [.ref a]).set 1 (some v2)).set 2 (some v4))) (N := TD) (ed_var rfl (h34 (Ex.refl H4))) (alike_pl (p :: r)) hdp
      have hmax := ev_minD (K := K) (te := tVar 1) (f := PySem.W.maxD) (σ := (((start ["rows", "placed", "values", "first", "last", "at", "row", "time", "value"] [.ref a]).set 1 (some v2)).set 2 (some v4))) (N := TD) (ed_var rfl (h34 (Ex.refl H4))) (alike_pl (p :: r)) hdp
      rw [min_pl (List.pairwise_cons.mp hasc).1] at hmin
      obtain ⟨l, hl1, hl2⟩ := max_pl hasc
      rw [hl2] at hmax
      refine hmin H4 (Ex.refl H4) _ fun w5 H5 e5 hw5 => hmax H5 e5 _ fun w6 H6 e6 hw6 => ⟨w5, w6, rfl, ?_⟩
      have hw5' := hw5.ex e6
      have e46 := e5.trans e6
      have hd46 := hd4.ex e46
      rw [hf] at q
      have hfi : f.fi = p := by
        have := ok.fi
        exact (Option.some.inj this).symm
      have hla : f.la = l := by
        have := ok.la
        rw [hl1] at this
        exact (Option.some.inj this).symm
      dsimp only
      refine s_retD (N := FrN H) (d := fdD (some f)) ?_ fun v7 H7 e7 hd7 => q v7 H7 (((e13.trans e4).trans e46).trans e7) hd7
      unfold fdD
      refine ed_tup (eds_cons (ed_int (ev_is (ev_lenDD (ed_var rfl hd46)) ?_)) (eds_cons (ed_int (ev_is (ev_sum (ed_var rfl hd46)) ?_)) (eds_cons (ed_int (ev_mn (ed_var rfl hd46) ok.mn)) (eds_cons (ed_int (ev_mx (ed_var rfl hd46) ok.mx)) (eds_cons (ed_tup (eds_cons (ed_int ?_) (eds_cons (ed_int ?_) eds_nil)) (by simp)) (eds_cons (ed_tup (eds_cons (ed_int ?_) (eds_cons (ed_int ?_) eds_nil)) (by simp)) eds_nil)))))) (by simp)
      · rw [List.length_map, List.length_map, ok.n]
      · rw [ok.s]
      · rw [hfi]
        exact dv_int (ed_ixT (ds := [.int p.1, .int 0, .int p.2]) (ed_var rfl hw5') ev_c rfl)
      · rw [hfi]
        exact dv_int (ed_ixT (ds := [.int p.1, .int 0, .int p.2]) (ed_var rfl hw5') ev_c rfl)
      · rw [hla]
        exact dv_int (ed_ixT (ds := [.int l.1, .int 0, .int l.2]) (ed_var rfl hw6) ev_c rfl)
      · rw [hla]
        exact dv_int (ed_ixT (ds := [.int l.1, .int 0, .int l.2]) (ed_var rfl hw6) ev_c rfl)
end
section
variable {P : Program} {w : World} {K : PySem.W.Frag} {mg : Str → Option Value} {base : Heap}
theorem sc_fold : FnScope ["points"] ["points"] (defScope s_fold) := ⟨rfl, rfl, rfl, by decide +kernel, rfl, by decide +kernel, by decide +kernel⟩
theorem c_fold (T : Fx K mg) : C8.Cal P w K mg base 6 "fold" (SD 1 fun vs H d => ∃ N ps, DAs N H [.list (ps.map pn)] vs ∧ Asc ps ∧ (∀ p ∈ ps, 0 ≤ p.1) ∧ ps.length ≤ 1000 ∧ d = fdD (foldL ps)) [] :=
  cal_of T.d_fold sc_fold SD.len (fun _ _ _ _ _ _ us hl => match us, hl with | [_], _ => rfl) fun cdv A outer s H vs Q E hr h => by
    have c_fold_of := c_fold_of (P := P) (w := w) (base := base) T
    have c_is_points := c_is_points (P := P) (w := w) (base := base) T
    refine ⟨_, (pss_cons (ps_if (pt_not (pt_val (pe_c c_is_points hr (by decide) (by rfl) (pa_cons (pv 0) pa_nil)))) (pss_one ps_never) pss_nil)
      (pss_one (ps_ret (pe_c c_fold_of hr (by decide) (by rfl) (pa_cons (pe_lst (pa_cons (pv 0) pa_nil)) pa_nil))))), ?_⟩
    obtain ⟨hl, _, ⟨N, ps, hv, hasc, hpos, hz, rfl⟩, q⟩ := h
    simp only [DAs] at hv
    obtain ⟨v, _, rfl, hd0, rfl⟩ := hv
    have hd := hd0.to (N' := TD) fun _ _ => True.intro
    refine q_when (b := false) (et_is (et_not (et_B (ev_callVD (ds := [.list (ps.map pn)]) (eds_cons (ed_var rfl hd) eds_nil) rfl fun vs H3 e3 hvs => ⟨_, _, hvs, hasc, hpos, hz, rfl⟩))) rfl) (fun c => by cases c) (fun _ H1 e1 => ?_)
    refine s_retD (N := FrN H) (fun H2 e2 Q k => ?_) fun v H2 e2 hd => q v H2 (e1.trans e2) hd
    refine ed_callD (N := TD) fr_TD (eds_cons (ed_lst fr_TD (eds_cons (ed_var rfl ((hd.ex e1).ex e2)) eds_nil) (by simp)) eds_nil) rfl (fun vs H3 e3 hvs => ⟨_, _, hvs, hasc, hpos, hz, rfl⟩) H2 (Ex.refl H2) _ fun v H3 e3 hd3 => ?_
    exact k v H3 e3 (fd_any hd3)
end
end Eg
end

section
set_option Elab.async false
set_option linter.all false
set_option maxRecDepth 100000
set_option maxHeartbeats 4000000
/-! rows of points in plain Lean -/
namespace Eg
open PySem PySem.Spec PyProof.Rows L2 Evl C8
def rowK (l : List (Int × Int)) : List (Key × V) := l.map fun p => (.inl p.1, .int p.2)
def putR (l : List (Int × Int)) (t v : Int) : List (Int × Int) := if (l.any fun p => decide (p.1 = t)) = true then l.map (fun p => if p.1 = t then (p.1, v) else p) else l ++ [(t, v)]
def inB (lo hi : Int) (p : Int × Int) : Bool := decide (lo ≤ p.1) && decide (p.1 < hi)
def takeR (l : List (Int × Int)) (lo hi : Int) : List (Int × Int) := l.filter fun p => !inB lo hi p
def NdK (l : List (Int × Int)) : Prop := (l.map (·.1)).Nodup
theorem any_row (l : List (Int × Int)) (t : Int) : ((rowK l).any fun kv => decide (kv.1 = (Sum.inl t : Key))) = l.any fun p => decide (p.1 = t) := by
  unfold rowK
  rw [List.any_map]
  congr 1
  funext p
  simp
theorem putK_row (l : List (Int × Int)) (t v : Int) : putK (rowK l) (Sum.inl t : Key) (.int v) = rowK (putR l t v) := by
  unfold putK putR
  rw [any_row]
  split
  · unfold rowK
    rw [List.map_map, List.map_map]
    refine List.map_congr_left fun p _ => ?_
    by_cases h : p.1 = t
    · simp [h]
    · simp [h]
  · unfold rowK
    rw [List.map_append] <;> rfl
theorem val_row {l : List (Int × Int)} (nd : NdK l) : ∀ {i : Nat} {p : Int × Int}, l[i]? = some p → valV (rowK l) (Sum.inl p.1 : Key) = some (.int p.2) := by
  induction l with
  | nil => intro i p h; simp at h
  | cons q l ih =>
    intro i p h
    have nd' : q.1 ∉ l.map (·.1) ∧ NdK l := List.nodup_cons.mp nd
    unfold valV rowK
    rw [List.map_cons, List.find?_cons]
    by_cases e : q.1 = p.1
    · have hq : q = p := by
        cases i with
        | zero => simpa using h
        | succ i =>
          have h' : l[i]? = some p := by simpa using h
          exact absurd (List.mem_map.mpr ⟨p, List.mem_of_getElem? h', rfl⟩) (e ▸ nd'.1)
      subst hq
      simp
    · cases i with
      | zero =>
        have h' : q = p := by simpa using h
        exact absurd (congrArg (·.1) h') e
      | succ i =>
        have h' : l[i]? = some p := by simpa using h
        have := ih nd'.2 h'
        unfold valV rowK at this
        simpa [e] using this
theorem ndk_put {l : List (Int × Int)} (nd : NdK l) (t v : Int) : NdK (putR l t v) := by
  unfold putR
  split
  · have : (l.map fun p => if p.1 = t then (p.1, v) else p).map (·.1) = l.map (·.1) := by
      rw [List.map_map]
      refine List.map_congr_left fun p _ => ?_
      by_cases h : p.1 = t
      · simp [h]
      · simp [h]
    unfold NdK
    rw [this]
    exact nd
  · rename_i h
    have h' : ∀ p ∈ l, p.1 ≠ t := fun p hp e => h (List.any_eq_true.mpr ⟨p, hp, by simp [e]⟩)
    unfold NdK
    rw [List.map_append]
    refine List.nodup_append.mpr ⟨nd, by simp, fun a ha b hb => ?_⟩
    obtain ⟨p, hp, rfl⟩ := List.mem_map.mp ha
    have : b = t := by simpa using hb
    rw [this]
    exact h' p hp
theorem ndk_filter {l : List (Int × Int)} (nd : NdK l) (f : Int × Int → Bool) : NdK (l.filter f) := List.Nodup.sublist (List.Sublist.map _ List.filter_sublist) nd
theorem put_len (l : List (Int × Int)) (t v : Int) : (putR l t v).length ≤ l.length + 1 := by
  unfold putR
  split
  · rw [List.length_map]
    omega
  · rw [List.length_append]
    exact Nat.le_refl _
theorem put_mem {l : List (Int × Int)} {t v : Int} {p : Int × Int} (h : p ∈ putR l t v) : p = (t, v) ∨ p ∈ l := by
  unfold putR at h
  split at h
  · obtain ⟨q, hq, e⟩ := List.mem_map.mp h
    by_cases c : q.1 = t
    · rw [if_pos c, c] at e
      exact .inl e.symm
    · rw [if_neg c] at e
      exact .inr (e ▸ hq)
  · rcases List.mem_append.mp h with h | h
    · exact .inr h
    · exact .inl (List.mem_singleton.mp h)
/-- a fresh key goes to the end -/
theorem putK_fresh {l : List (Int × Int)} {t v : Int} (h : t ∉ l.map (·.1)) : putK (rowK l) (Sum.inl t : Key) (.int v) = rowK (l ++ [(t, v)]) := by
  rw [putK_row]
  unfold putR
  rw [if_neg]
  intro e
  obtain ⟨p, hp, hpt⟩ := List.any_eq_true.mp e
  exact h (List.mem_map.mpr ⟨p, hp, of_decide_eq_true hpt⟩)
theorem ndk_take {l : List (Int × Int)} (nd : NdK l) {i : Nat} {p : Int × Int} (h : l[i]? = some p) : p.1 ∉ (l.take i).map (·.1) := fun hm => by
  obtain ⟨q, hq, he⟩ := List.mem_map.mp hm
  obtain ⟨j, hj, hje⟩ := List.getElem_of_mem hq
  rw [List.length_take] at hj
  rw [List.getElem_take] at hje
  obtain ⟨hi, hp⟩ := List.getElem?_eq_some_iff.mp h
  have h1 := (List.pairwise_iff_getElem.mp nd) j i (by rw [List.length_map]; omega) (by rw [List.length_map]; omega) (by omega)
  rw [List.getElem_map, List.getElem_map, hje, hp] at h1
  exact h1 he
theorem filter_step {l : List (Int × Int)} {i : Nat} {p : Int × Int} (h : l[i]? = some p) (f : Int × Int → Bool) : (l.take (i + 1)).filter f = (l.take i).filter f ++ (if f p = true then [p] else []) := by
  rw [List.take_succ, h, List.filter_append]
  congr 1
  show ([p] : List (Int × Int)).filter f = _
  rw [List.filter_cons]
  split <;> rfl
/-! ### the sorted row of a stretch -/
def between (l : List (Int × Int)) (lo hi : Int) : List (Int × Int) := (l.filter (inB lo hi)).mergeSort (PySem.W.dataLe false pn)
theorem lt_pn {a b : Int × Int} (h : a.1 < b.1) : PySem.W.dataLt (pn a) (pn b) = true ∧ PySem.W.dataLt (pn b) (pn a) = false := by
  have h2 : ¬ b.1 < a.1 := by omega
  constructor
  · simp [PySem.W.dataLt, pn, PySem.W.keyToks, PySem.W.keyToksAll, PyProof.Rows.lexLt, PyProof.Rows.itemLt, h]
  · simp [PySem.W.dataLt, pn, PySem.W.keyToks, PySem.W.keyToksAll, PyProof.Rows.lexLt, PyProof.Rows.itemLt, h, h2]
theorem le_pn {a b : Int × Int} (h : PySem.W.dataLe false pn a b = true) : a.1 ≤ b.1 := by
  have h' : (!PySem.W.dataLt (pn b) (pn a)) = true := h
  by_cases c : b.1 < a.1
  · rw [(lt_pn c).1] at h'
    cases h'
  · omega
theorem between_perm (l : List (Int × Int)) (lo hi : Int) : (between l lo hi).Perm (l.filter (inB lo hi)) := List.mergeSort_perm _ _
theorem between_asc {l : List (Int × Int)} (nd : NdK l) (lo hi : Int) : Asc (between l lo hi) := by
  have tot := PySem.W.sortLe_total (PyProof.Rows.listOrd PyProof.Rows.itemOrd) false (fun b : Int × Int => PySem.W.keyToks (pn b))
  have hs : (between l lo hi).Pairwise (fun a b => PySem.W.dataLe false pn a b = true) := List.pairwise_mergeSort (fun a b c => tot.trans a b c) (fun a b => by
    have := tot.total a b
    simpa using this) _
  have hn : NdK (between l lo hi) := (List.Perm.nodup_iff (List.Perm.map (fun p : Int × Int => p.1) (between_perm l lo hi))).mpr (ndk_filter nd (inB lo hi))
  have hn' : (between l lo hi).Pairwise (fun a b => a.1 ≠ b.1) := List.pairwise_map.mp hn
  exact (hs.and hn').imp fun {a b} h => by
    have := le_pn h.1
    have := h.2
    omega
theorem between_mem {l : List (Int × Int)} {lo hi : Int} {p : Int × Int} : p ∈ between l lo hi ↔ p ∈ l ∧ lo ≤ p.1 ∧ p.1 < hi := by
  rw [(between_perm l lo hi).mem_iff, List.mem_filter]
  unfold inB
  simp
theorem between_len (l : List (Int × Int)) (lo hi : Int) : (between l lo hi).length ≤ l.length := by
  rw [(between_perm l lo hi).length_eq]
  exact List.length_filter_le _ _
theorem asc_unique : ∀ {a b : List (Int × Int)}, Asc a → Asc b → a.Perm b → a = b
  | [], b, _, _, h => (List.nil_perm.mp h).symm ▸ rfl
  | p :: a, [], _, _, h => absurd h.length_eq (by simp)
  | p :: a, q :: b, ha, hb, h => by
    have ha' := List.pairwise_cons.mp ha
    have hb' := List.pairwise_cons.mp hb
    have e : p = q := by
      have h1 : p ∈ q :: b := h.mem_iff.mp (List.mem_cons_self ..)
      have h2 : q ∈ p :: a := h.mem_iff.mpr (List.mem_cons_self ..)
      rcases List.mem_cons.mp h1 with h1 | h1
      · exact h1
      · rcases List.mem_cons.mp h2 with h2 | h2
        · exact h2.symm
        · have := ha'.1 q h2
          have := hb'.1 p h1
          omega
    subst e
    rw [asc_unique ha'.2 hb'.2 (List.Perm.cons_inv h)]
def foldW (l : List (Int × Int)) (lo hi : Int) : Option Fd := foldL (between l lo hi)
end Eg
end

section
set_option Elab.async false
set_option linter.all false
set_option maxRecDepth 100000
set_option maxHeartbeats 4000000
set_option linter.constructorNameAsVariable false
namespace Eg
open PySem PySem.Spec PyProof.Rows L2 Evl C8


structure PA where
  P : Addr
  dx : Addr
  ra : Addr
  kn : Addr
  rw : Addr
  ad : Nat → Addr
structure PSt where
  rs : List (Int × Option Int)
  clock : Int
  done : Int
  known : List Nat
  row : Nat → List (Int × Int)
def kd (l : List Nat) (f : Nat → V) : List (Key × V) := l.map fun k => (.inr (txt k), f k)
theorem txt_inj : ∀ j k, j < 2 → k < 2 → txt j = txt k → j = k := by
  have h : txt 0 ≠ txt 1 := by decide +kernel
  intro j k hj hk e
  match j, k, hj, hk with
  | 0, 0, _, _ => rfl
  | 1, 1, _, _ => rfl
  | 0, 1, _, _ => exact absurd e h
  | 1, 0, _, _ => exact absurd e.symm h
theorem key_dec {j k : Nat} (hj : j < 2) (hk : k < 2) : decide ((Sum.inr (txt j) : Key) = Sum.inr (txt k)) = decide (j = k) := by
  by_cases h : j = k
  · simp [h]
  · have : txt j ≠ txt k := fun e => h (txt_inj j k hj hk e)
    simp [h, this]
theorem val_kd {k : Nat} (hk : k < 2) (f : Nat → V) : ∀ {l : List Nat}, (∀ j ∈ l, j < 2) → valV (kd l f) (Sum.inr (txt k) : Key) = if k ∈ l then some (f k) else none
  | [], _ => by simp [valV, kd]
  | j :: l, h => by
    have ih := val_kd hk f (l := l) fun i hi => h i (List.mem_cons_of_mem _ hi)
    unfold valV kd at ih ⊢
    rw [List.map_cons, List.find?_cons]
    show Option.map _ (match decide ((Sum.inr (txt j) : Key) = Sum.inr (txt k)) with | true => _ | false => _) = _
    rw [key_dec (h j (List.mem_cons_self ..)) hk]
    by_cases e : j = k
    · subst e
      simp
    · rw [decide_eq_false e]
      show Option.map _ (List.find? _ _) = _
      rw [ih]
      have : (k ∈ j :: l) ↔ k ∈ l := by
        rw [List.mem_cons]
        exact ⟨fun h => h.resolve_left fun c => e c.symm, .inr⟩
      by_cases c : k ∈ l
      · rw [if_pos c, if_pos (this.mpr c)]
      · rw [if_neg c, if_neg fun d => c (this.mp d)]
theorem any_kd {k : Nat} (hk : k < 2) (f : Nat → V) {l : List Nat} (h : ∀ j ∈ l, j < 2) : ((kd l f).any fun kv => decide (kv.1 = (Sum.inr (txt k) : Key))) = decide (k ∈ l) := by
  unfold kd
  rw [List.any_map]
  have e : (l.any ((fun kv : Key × V => decide (kv.1 = (Sum.inr (txt k) : Key))) ∘ fun k => (Sum.inr (txt k), f k))) = l.any fun j => decide (j = k) := by
    refine Bool.eq_iff_iff.mpr ⟨fun a => ?_, fun a => ?_⟩
    · obtain ⟨j, hj, hj2⟩ := List.any_eq_true.mp a
      exact List.any_eq_true.mpr ⟨j, hj, by rw [← key_dec (h j hj) hk]; exact hj2⟩
    · obtain ⟨j, hj, hj2⟩ := List.any_eq_true.mp a
      refine List.any_eq_true.mpr ⟨j, hj, ?_⟩
      show decide ((Sum.inr (txt j) : Key) = Sum.inr (txt k)) = true
      rw [key_dec (h j hj) hk]
      exact hj2
  rw [e]
  refine Bool.eq_iff_iff.mpr ⟨fun a => ?_, fun a => ?_⟩
  · obtain ⟨j, hj, hj2⟩ := List.any_eq_true.mp a
    rw [decide_eq_true_eq]
    rw [← of_decide_eq_true hj2]
    exact hj
  · exact List.any_eq_true.mpr ⟨k, of_decide_eq_true a, by simp⟩
def addK (l : List Nat) (k : Nat) : List Nat := if k ∈ l then l else l ++ [k]
theorem put_kd {k : Nat} (hk : k < 2) (f : Nat → V) (v : V) {l : List Nat} (h : ∀ j ∈ l, j < 2) : putK (kd l f) (Sum.inr (txt k) : Key) v = kd (addK l k) (fun j => if j = k then v else f j) := by
  unfold putK
  rw [any_kd hk f h]
  unfold addK
  by_cases c : k ∈ l
  · rw [decide_eq_true c, if_pos rfl, if_pos c]
    unfold kd
    rw [List.map_map]
    refine List.map_congr_left fun j hj => ?_
    have := key_dec (h j hj) hk
    by_cases e : j = k
    · simp [e]
    · have e2 : ¬ ((Sum.inr (txt j) : Key) = Sum.inr (txt k)) := by
        rw [decide_eq_false e] at this
        exact of_decide_eq_false this
      simp only [Function.comp]
      rw [if_neg e2, if_neg e]
  · rw [decide_eq_false c, if_neg Bool.false_ne_true, if_neg c]
    unfold kd
    rw [List.map_append]
    congr 1
    · refine List.map_congr_left fun j hj => ?_
      have : j ≠ k := fun e => c (e ▸ hj)
      simp [this]
    · simp
/-- what the plain list's addresses are -/
def PA.mem (S : PA) (l : List Nat) (a : Addr) : Prop := a = S.P ∨ a = S.kn ∨ a = S.rw ∨ ∃ k ∈ l, a = S.ad k
structure PlainAt (K : PySem.W.Frag) (H : Hp) (S : PA) (st : PSt) : Prop where
  ins : H S.P = some (.ins (He.ga K "Plain") S.dx [("_rules", .ref S.ra), ("_clock", .int st.clock), ("_done", .int st.done), ("_known", .ref S.kn), ("_rows", .ref S.rw)])
  rules : RulesAt K H S.ra st.rs
  kn : ∃ sr : Nat → V, H S.kn = some (.dK (kd st.known sr))
  rws : H S.rw = some (.dK (kd st.known fun k => .ref (S.ad k)))
  row : ∀ k ∈ st.known, H (S.ad k) = some (.dK (rowK (st.row k)))
  no : ∀ k, k ∉ st.known → st.row k = []
  lt : ∀ k ∈ st.known, k < 2
  nd : st.known.Nodup
  ne : S.kn ≠ S.rw
  nea : ∀ k ∈ st.known, S.ad k ≠ S.kn ∧ S.ad k ≠ S.rw
  inj : ∀ j ∈ st.known, ∀ k ∈ st.known, S.ad j = S.ad k → j = k
  clock : 0 ≤ st.clock
  keys : ∀ k, NdK (st.row k) ∧ (∀ p ∈ st.row k, 0 ≤ p.1) ∧ (st.row k).length ≤ 1000
theorem PlainAt.ex {K : PySem.W.Frag} {H H' : Hp} {S : PA} {st : PSt} (e : Ex H H') (h : PlainAt K H S st) : PlainAt K H' S st :=
  { h with ins := e _ _ h.ins, rules := h.rules.ex e, kn := h.kn.elim fun sr hs => ⟨sr, e _ _ hs⟩, rws := e _ _ h.rws, row := fun k hk => e _ _ (h.row k hk) }
theorem known_len {l : List Nat} (h : ∀ k ∈ l, k < 2) (nd : l.Nodup) : l.length ≤ 2 := by
  match l, h, nd with
  | [], _, _ => simp
  | [_], _, _ => simp
  | [_, _], _, _ => simp
  | a :: b :: c :: r, h, nd =>
    have ha := h a (by simp)
    have hb := h b (by simp)
    have hc := h c (by simp)
    simp at nd
    omega
/-! reads of dicts -/
theorem ev_dget {σ : L2.St} {H : Hp} {td ty : TE} {a : Addr} {kvs : List (Key × V)} {k : Key} {v : V} (h : Ev td σ H (.ref a)) (hy : Ev ty σ H (kV k)) (ha : Rd H a (.dK kvs)) (hv : valV kvs k = some v) : Ev (tDGet td ty) σ H v := fun H1 e Q q => h H1 e _ fun H2 e2 => hy H2 (e.trans e2) _ fun H3 e3 =>
  ⟨a, v, rfl, .inl ⟨kvs, k, ex_rd ((e.trans e2).trans e3) ha, rfl, hv.symm⟩, q H3 (e2.trans e3)⟩
theorem ev_din {σ : L2.St} {H : Hp} {td ty : TE} {a : Addr} {kvs : List (Key × V)} {k : Key} (hy : Ev ty σ H (kV k)) (h : Ev td σ H (.ref a)) (ha : Rd H a (.dK kvs)) : Ev (tDIn ty td) σ H (.bl (valV kvs k).isSome) := fun H1 e Q q => hy H1 e _ fun H2 e2 => h H2 (e.trans e2) _ fun H3 e3 =>
  ⟨a, _, rfl, .inl ⟨kvs, k, ex_rd ((e.trans e2).trans e3) ha, rfl, rfl⟩, q H3 (e2.trans e3)⟩
theorem ev_dnotin {σ : L2.St} {H : Hp} {td ty : TE} {a : Addr} {kvs : List (Key × V)} {k : Key} (hy : Ev ty σ H (kV k)) (h : Ev td σ H (.ref a)) (ha : Rd H a (.dK kvs)) : Ev (tDNotIn ty td) σ H (.bl (!(valV kvs k).isSome)) := fun H1 e Q q => hy H1 e _ fun H2 e2 => h H2 (e.trans e2) _ fun H3 e3 =>
  ⟨a, _, rfl, .inl ⟨kvs, k, ex_rd ((e.trans e2).trans e3) ha, rfl, rfl⟩, q H3 (e2.trans e3)⟩
theorem ev_text {K : PySem.W.Frag} {σ : L2.St} {H : Hp} {s : Addr} {k : Nat} {te : TE} {E : XK} (hs : SerAt K H s k) (hk : k < 2) (h : Ev te σ H (.ref s)) : Ev (tMeth (He.ga K "Series") "text" (SV 1 fun vs H z => ∃ a k, vs = [.ref a] ∧ k < 2 ∧ SerAt K H a k ∧ z = .str (txt k)) [] E te tNil) σ H (.str (txt k)) := by
  obtain ⟨dx, L, xs, ha, hL, hx⟩ := id hs
  exact ev_methV h ha rfl ea_nil rfl fun H1 e1 => ⟨s, k, rfl, hk, hs.ex e1, rfl⟩
/-- all but M stands -/
def Fm (M : Addr → Prop) (H H' : Hp) : Prop := ∀ a o, ¬ M a → H a = some o → H' a = some o
theorem Fm.of {M : Addr → Prop} {H H' : Hp} (e : Ex H H') : Fm M H H' := fun a o _ h => e a o h
theorem Fm.trans {M : Addr → Prop} {H H1 H2 : Hp} (a : Fm M H H1) (b : Fm M H1 H2) : Fm M H H2 := fun x o n h => b x o n (a x o n h)
theorem init_fm {H1 : Hp} {P kn rw : Addr} {o1 o2 o3 o4 o5 o6 o7 : HO} (hkn : H1 kn = none) (hrw : H1 rw = none) : Fm (fun b => b = P) H1 (upd (upd (upd (upd (upd (upd (upd H1 P o1) P o2) P o3) kn o4) P o5) rw o6) P o7) := fun b o hb ho => by
  rw [upd_ne hb, upd_ne (fun e => by rw [e, hrw] at ho; cases ho), upd_ne hb, upd_ne (fun e => by rw [e, hkn] at ho; cases ho), upd_ne hb, upd_ne hb, upd_ne hb]
  exact ho
def spPlainI (K : PySem.W.Frag) : Sp := fun vs H Q _ => ∃ P dx r rs, vs = [.ref P, .ref r] ∧ H P = some (.ins (He.ga K "Plain") dx []) ∧ RulesAt K H r rs ∧
  ∀ S H', (∀ b o, b ≠ P → H b = some o → H' b = some o) → S.P = P → H S.kn = none → H S.rw = none → PlainAt K H' S ⟨rs, 0, 0, [], fun _ => []⟩ → Q .non H'
theorem rc_rules {K : PySem.W.Frag} {H : Hp} {s : Addr} {rs : List (Int × Option Int)} (h : RulesAt K H s rs) : RC (fun xs H Q => ∃ a dx fs, xs = [V.ref a, .ref (He.ga K "Rules")] ∧ H a = some (.ins (He.ga K "Rules") dx fs) ∧ Q (.bl true) H) [.ref s, .ref (He.ga K "Rules")] H (.bl true) := by
  obtain ⟨ok, dx, L, xs, ha, _⟩ := h
  exact fun H1 e1 Q q => ⟨s, dx, _, rfl, e1 _ _ ha, q H1 (Ex.refl H1)⟩
theorem das_any {α : Type} {N N' : Addr → Prop} {H : Hp} {f : α → PyData} (h : ∀ x v, DA N H (f x) v → DA N' H (f x) v) : ∀ (l : List α) (vs : List V), DAs N H (l.map f) vs → DAs N' H (l.map f) vs
  | [], vs, hs => by
    simp only [List.map_nil, DAs] at hs ⊢
    exact hs
  | x :: l, vs, hs => by
    simp only [List.map_cons, DAs] at hs ⊢
    obtain ⟨v, ws, rfl, h1, h2⟩ := hs
    exact ⟨v, ws, rfl, h x v h1, das_any h l ws h2⟩
theorem rd_any {N N' : Addr → Prop} {H : Hp} (r : Int × Option Int) (v : V) (h : DA N H (rd r) v) : DA N' H (rd r) v := by
  obtain ⟨l, o⟩ := r
  cases o <;> (simp only [rd, optD, DA, DAs] at h ⊢; exact h)
theorem pd_any {N N' : Addr → Prop} {H : Hp} (r : Str × Str) (v : V) (h : DA N H (pd r) v) : DA N' H (pd r) v := by
  simp only [pd, DA, DAs] at h ⊢
  exact h
theorem das_fm {M : Addr → Prop} {H H' : Hp} {α : Type} {f : α → PyData} {N N' : Addr → Prop} (hany : ∀ x v, DA N H (f x) v → DA (fun _ => False) H (f x) v) (hf : Fm M H H') (ht : ∀ b xs, H b = some (.tup xs) → ¬ M b) {l : List α} {vs : List V} (h : DAs N H (l.map f) vs) : DAs N' H' (l.map f) vs :=
  DAs.imp (fun _ _ n _ => n.elim) (fun a xs z => hf a _ (ht a xs z) z) _ _ (das_any hany l vs h)
theorem RulesAt.fm {K : PySem.W.Frag} {M : Addr → Prop} {H H' : Hp} {a : Addr} {rs : List (Int × Option Int)} (h : RulesAt K H a rs) (hf : Fm M H H') (h1 : ¬ M a) (h2 : ∀ b xs, H b = some (.tup xs) → ¬ M b) : RulesAt K H' a rs := by
  obtain ⟨ok, dx, L, xs, q1, q2, q3⟩ := h
  exact ⟨ok, dx, L, xs, hf _ _ h1 q1, hf _ _ (h2 _ _ q2) q2, das_fm (fun r v h => rd_any r v h) hf h2 q3⟩
theorem SerAt.fm {K : PySem.W.Frag} {M : Addr → Prop} {H H' : Hp} {a : Addr} {k : Nat} (h : SerAt K H a k) (hf : Fm M H H') (h1 : ¬ M a) (h2 : ∀ b xs, H b = some (.tup xs) → ¬ M b) : SerAt K H' a k := by
  obtain ⟨dx, L, xs, q1, q2, q3⟩ := h
  exact ⟨dx, L, xs, hf _ _ h1 q1, hf _ _ (h2 _ _ q2) q2, das_fm (fun r v h => pd_any r v h) hf h2 q3⟩
theorem PlainAt.at {K : PySem.W.Frag} {H : Hp} {S : PA} {st : PSt} (h : PlainAt K H S st) {a : Addr} (m : S.mem st.known a) : (∃ r c d kn rw, H a = some (.ins (He.ga K "Plain") S.dx [("_rules", r), ("_clock", c), ("_done", d), ("_known", kn), ("_rows", rw)])) ∨ ∃ kvs, H a = some (.dK kvs) := by
  rcases m with rfl | rfl | rfl | ⟨k, hk, rfl⟩
  · exact .inl ⟨_, _, _, _, _, h.ins⟩
  · obtain ⟨sr, hs⟩ := h.kn
    exact .inr ⟨_, hs⟩
  · exact .inr ⟨_, h.rws⟩
  · exact .inr ⟨_, h.row k hk⟩
theorem PlainAt.noTup {K : PySem.W.Frag} {H : Hp} {S : PA} {st : PSt} (h : PlainAt K H S st) (b : Addr) (xs : List V) (hb : H b = some (.tup xs)) : ¬ S.mem st.known b := fun m => by
  rcases h.at m with ⟨_, _, _, _, _, e⟩ | ⟨_, e⟩ <;> (rw [hb] at e; cases e)
theorem PlainAt.noLst {K : PySem.W.Frag} {H : Hp} {S : PA} {st : PSt} (h : PlainAt K H S st) (b : Addr) (xs : List V) (hb : H b = some (.lst xs)) : ¬ S.mem st.known b := fun m => by
  rcases h.at m with ⟨_, _, _, _, _, e⟩ | ⟨_, e⟩ <;> (rw [hb] at e; cases e)
theorem PlainAt.noRules {K : PySem.W.Frag} {H : Hp} {S : PA} {st : PSt} (h : PlainAt K H S st) {b : Addr} {rs : List (Int × Option Int)} (hb : RulesAt K H b rs) : ¬ S.mem st.known b := fun m => by
  obtain ⟨_, dx, L, xs, q1, _⟩ := hb
  rcases h.at m with ⟨_, _, _, _, _, e⟩ | ⟨_, e⟩ <;> (rw [q1] at e; simp at e)
theorem PlainAt.noSer {K : PySem.W.Frag} {H : Hp} {S : PA} {st : PSt} (h : PlainAt K H S st) {b : Addr} {k : Nat} (hb : SerAt K H b k) : ¬ S.mem st.known b := fun m => by
  obtain ⟨dx, L, xs, q1, _⟩ := hb
  rcases h.at m with ⟨_, _, _, _, _, e⟩ | ⟨_, e⟩ <;> (rw [q1] at e; simp at e)

section
variable {P : Program} {w : World} {K : PySem.W.Frag} {mg : Str → Option Value} {base : Heap}
theorem sc_Plain_init : FnScope ["self", "rules"] ["self", "rules"] (defScope s_Plain_init) := ⟨rfl, rfl, rfl, by decide +kernel, rfl, by decide +kernel, by decide +kernel⟩
theorem c_Plain (T : Fx K mg) : C8.Mak P w K mg base 1 "Plain" (He.ga K "Plain") (spPlainI K) [] :=
  mak_of T.i_Plain T.k_Plain T.g_Plain sc_Plain_init (fun _ _ _ _ h => by obtain ⟨_, _, _, _, rfl, _⟩ := h; rfl) (fun _ _ _ _ _ _ us hl => match us, hl with | [_, _], _ => rfl) fun cdv A outer s H vs Q E hr h => by
    skip
    refine ⟨_, (pss_cons (ps_if (pt_not (pt_val (pe_callB (C8.call_isC T.o_Rules) (by rfl) T.n_isinstance b_isinstance (pa_cons (pv 1) (pa_cons (pe_glob (v := .ref _) rfl T.g_Rules rfl) pa_nil))))) (pss_one ps_never) pss_nil)
      (pss_cons (ps_fld (pv 0) (pv 1) rfl)
      (pss_cons (ps_fld (pv 0) pe_int rfl)
      (pss_cons (ps_fld (pv 0) pe_int rfl)
      (pss_cons (ps_fld (pv 0) pe_dnewK rfl)
      (pss_one (ps_fld (pv 0) pe_dnewK rfl))))))), ?_⟩
    obtain ⟨P', dx, r, rs, rfl, hP, hr2, q⟩ := h
    refine q_when (b := false) (et_is (et_not (et_B (ev_cb (ea_cons (ev_var rfl) (ea_cons ev_c ea_nil)) (rc_rules hr2)))) rfl) (fun c => by cases c) (fun _ H1 e1 => ?_)
    have hP1 := e1 _ _ hP
    refine ⟨_, rfl, _, rfl, P', _, dx, _, rfl, hP1, T.c_Plain, T.a_Plain_rules, Nat.le_of_ble_eq_true rfl, ?_⟩
    refine ⟨_, rfl, P', _, dx, _, rfl, upd_same, T.c_Plain, T.a_Plain_clock, Nat.le_of_ble_eq_true rfl, ?_⟩
    refine ⟨_, rfl, P', _, dx, _, rfl, upd_same, T.c_Plain, T.a_Plain_done, Nat.le_of_ble_eq_true rfl, ?_⟩
    refine fun kn hkn => ?_
    have nk : kn ≠ P' := fun e => by
      rw [e, upd_same] at hkn
      cases hkn
    refine ⟨_, rfl, P', _, dx, _, rfl, by rw [upd_ne (Ne.symm nk), upd_same], T.c_Plain, T.a_Plain_known, Nat.le_of_ble_eq_true rfl, ?_⟩
    refine fun rw' hrw => ?_
    have nr : rw' ≠ P' := fun e => by
      rw [e, upd_same] at hrw
      cases hrw
    have nkr : rw' ≠ kn := fun e => by
      rw [e, upd_ne nk, upd_same] at hrw
      cases hrw
    refine ⟨_, rfl, P', _, dx, _, rfl, by rw [upd_ne (Ne.symm nr), upd_same], T.c_Plain, T.a_Plain_rows, Nat.le_of_ble_eq_true rfl, ?_⟩
    have hkn1 : H1 kn = none := by rwa [upd_ne nk, upd_ne nk, upd_ne nk] at hkn
    have hrw1 : H1 rw' = none := by rwa [upd_ne nr, upd_ne nkr, upd_ne nr, upd_ne nr, upd_ne nr] at hrw
    have hfr := init_fm (P := P') (o1 := .ins (He.ga K "Plain") dx (putF "_rules" (V.ref r) [])) (o2 := .ins (He.ga K "Plain") dx (putF "_clock" (V.int 0) (putF "_rules" (V.ref r) []))) (o3 := .ins (He.ga K "Plain") dx (putF "_done" (V.int 0) (putF "_clock" (V.int 0) (putF "_rules" (V.ref r) [])))) (o4 := .dK []) (o5 := .ins (He.ga K "Plain") dx (putF "_known" (V.ref kn) (putF "_done" (V.int 0) (putF "_clock" (V.int 0) (putF "_rules" (V.ref r) []))))) (o6 := .dK []) (o7 := .ins (He.ga K "Plain") dx (putF "_rows" (V.ref rw') (putF "_known" (V.ref kn) (putF "_done" (V.int 0) (putF "_clock" (V.int 0) (putF "_rules" (V.ref r) [])))))) hkn1 hrw1
    refine q ⟨P', dx, r, kn, rw', fun _ => 0⟩ _ (fun b o hb ho => hfr b o hb (e1 _ _ ho)) rfl (fresh_back e1 hkn1) (fresh_back e1 hrw1) ?_
    have hru : RulesAt K _ r rs := (hr2.ex e1).fm hfr (fun e => ?_) (fun b xs hb e => ?_)
    rotate_left
    · obtain ⟨_, _, _, _, q1, _⟩ := hr2.ex e1
      rw [e, hP1] at q1
      simp at q1
    · rw [e, hP1] at hb
      cases hb
    refine ⟨upd_same, hru, ⟨fun _ => .non, ?_⟩, ?_, fun k hk => (by cases hk), fun _ _ => rfl, fun k hk => (by cases hk), List.nodup_nil, Ne.symm nkr, fun k hk => (by cases hk), fun j hj => (by cases hj), Int.le_refl 0, fun k => ⟨List.nodup_nil, fun p hp => (by cases hp), Nat.zero_le _⟩⟩
    · show upd _ P' _ kn = _
      rw [upd_ne nk, upd_ne (Ne.symm nkr), upd_ne nk, upd_same] <;> rfl
    · show upd _ P' _ rw' = _
      rw [upd_ne nr, upd_same] <;> rfl
end
end Eg
end

section
set_option Elab.async false
set_option linter.all false
set_option maxRecDepth 100000
set_option maxHeartbeats 4000000
set_option linter.constructorNameAsVariable false
namespace Eg
open PySem PySem.Spec PyProof.Rows L2 Evl C8


theorem pn_any {N N' : Addr → Prop} {H : Hp} (r : Int × Int) (v : V) (h : DA N H (pn r) v) : DA N' H (pn r) v := by
  simp only [pn, DA, DAs] at h ⊢
  exact h
theorem ed_sortN {K : PySem.W.Frag} {σ : L2.St} {H : Hp} {te : TE} {N : Addr → Prop} {β : Type} {enc : β → PyData} {bs : List β} (fr : Fr N H) (hany : ∀ {H' : Hp} (x : β) v, DA TD H' (enc x) v → DA N H' (enc x) v) (h : EvD TD te σ H (.list (bs.map enc))) (h1 : PySem.W.AllAlike (bs.map enc)) (h2 : PySem.W.Sortable (bs.map enc)) (h3 : ∀ b ∈ bs, (enc b).depth ≤ 60) :
    EvD N (tCB (rSortD K enc) (tCons te tNil)) σ H (.list ((bs.mergeSort (PySem.W.dataLe false enc)).map enc)) := fun H1 e Q q => h H1 e _ fun v H2 e2 hd => by
  obtain ⟨a, xs, rfl, n, ha, hs⟩ := hd.lst
  refine ⟨a, xs, bs, rfl, sq_of ha, hs, h1, h2, h3, fun ys p hp hys => q _ _ (e2.trans (Ex.new hp)) ?_⟩
  simp only [DA]
  exact ⟨p, ys, rfl, fr p (fresh_back (e.trans e2) hp), upd_same, das_any (fun x v h => hany x v h) _ _ (hys.ex (Ex.new hp))⟩
theorem gvn_filter {l : List (Int × Int)} (f : Int × Int → Bool) (enc : Int × Int → PyData) : gvn l.length (fun i => f (l.getD i (0, 0))) (fun i => enc (l.getD i (0, 0))) = (l.filter f).map enc := by
  unfold gvn
  have e : l = (List.range l.length).map (fun i => l.getD i (0, 0)) := List.ext_getElem (by simp) fun i h1 h2 => by simp [List.getD_eq_getElem?_getD, h1]
  conv => rhs; rw [e]
  rw [List.filter_map, List.map_map] <;> rfl
theorem row_at {l : List (Int × Int)} {i : Nat} {kv : Key × V} (h : (rowK l)[i]? = some kv) : ∃ p, l[i]? = some p ∧ kv = (Sum.inl p.1, .int p.2) := by
  unfold rowK at h
  rw [List.getElem?_map] at h
  obtain ⟨p, h1, h2⟩ := Option.map_eq_some_iff.mp h
  exact ⟨p, h1, h2.symm⟩
/-- the points of a dict of points in a stretch, the dict read as it stands -/
theorem ed_points {σ : L2.St} {H : Hp} {a : Addr} {l : List (Int × Int)} {j jr jlo jhi : Nat} {lo hi : Int} (nd : NdK l) (hl : l.length ≤ 1000) (ha : H a = some (.dK (rowK l)))
    (hw : ∀ x, wipe ((wipe σ [j]).set j (some x)) [j] = wipe σ [j]) (hj : ∀ x, ((wipe σ [j]).set j (some x))[j]? = some (some x)) (hr0 : σ[jr]? = some (some (.ref a)))
    (hr : ∀ x, ((wipe σ [j]).set j (some x))[jr]? = some (some (.ref a))) (hlo : ∀ x, ((wipe σ [j]).set j (some x))[jlo]? = some (some (.int lo))) (hhi : ∀ x, ((wipe σ [j]).set j (some x))[jhi]? = some (some (.int hi))) :
    EvD TD (tLockE (tLc (iKeys (tVar jr)) (gName j) (tTest (tChain (rI0 fun i j => .bl (decide (i ≤ j))) (rI0 fun i j => .bl (decide (i < j))) (tVar jlo) (tVar j) (tVar jhi))) (tTup (tCons (tVar j) (tCons (tDGet (tVar jr) (tVar j)) tNil))) [j])) σ H (.list ((l.filter (inB lo hi)).map pn)) := by
  refine ed_lock ha fun H1 od e1 => ed_is (ed_lc fr_TD (fun i => inB lo hi (l.getD i (0, 0))) (fun i => pn (l.getD i (0, 0))) (ew_keys (ev_var hr0) upd_same) (by unfold rowK; rw [List.length_map]; omega) fun N' i x H2 e2 fr _ hi hx => ?_) ?_
  · obtain ⟨kv, rfl, hkv⟩ := hx
    obtain ⟨p, hp, rfl⟩ := row_at hkv
    rw [List.getD_eq_getElem?_getD, hp]
    refine ⟨_, fun Q q => q, hw _, et_test (ev_chain (ev_var (hlo _)) (ev_var (hj _)) rv_I0 (fun _ => ev_var (hhi _)) (fun _ => rv_I0)), fun _ => ed_tup (eds_cons (ed_int (ev_var (hj _))) (eds_cons (ed_int (ev_dget (k := (Sum.inl p.1 : Key)) (ev_var (hr _)) (ev_var (hj _)) (.inr ⟨od, e2 _ _ upd_same⟩) (val_row nd hp))) eds_nil)) (by simp)⟩
  · unfold rowK
    rw [List.length_map]
    exact congrArg PyData.list (gvn_filter _ _)
theorem q_get2 {td ty : TE} {tz : TS} {D : Ends} {σ : L2.St} {H : Hp} {d : Addr} {kvs : List (Key × V)} {k : Key} {i : Nat} (h : Ev td σ H (.ref d)) (hd : H d = some (.dK kvs)) (hy : Ev ty σ H (kV k))
    (kk : ∀ p H1, H p = none → Ex H H1 → H1 p = some (.dK []) → tz D (σ.set i (some ((valV kvs k).getD (.ref p)))) H1) : tSeq (tAsg (tDGet2 td ty tDNewK) (gName i)) tz D σ H := h H (Ex.refl H) _ fun H1 e1 => ⟨d, rfl, .inl ⟨_, .inl (e1 _ _ hd)⟩, hy H1 e1 _ fun H2 e2 => fun p hpn =>
  ⟨_, .inl ⟨kvs, k, .inl (Ex.new hpn _ _ ((e1.trans e2) _ _ hd)), rfl, rfl⟩, kk p _ (fresh_back (e1.trans e2) hpn) ((e1.trans e2).trans (Ex.new hpn)) upd_same⟩⟩
theorem alike_pn (l : List (Int × Int)) : PySem.W.AllAlike (l.map pn) := PySem.W.AllAlike.of fun b b' => rfl
theorem sortable_pn (l : List (Int × Int)) : PySem.W.Sortable (l.map pn) := .inl fun d hd => by
  obtain ⟨p, _, rfl⟩ := List.mem_map.mp hd
  exact ⟨_, _, rfl⟩
theorem pfld {K : PySem.W.Frag} {mg : Str → Option Value} (T : Fx K mg) {H : Hp} {S : PA} {st : PSt} {te : TE} {σ : L2.St} (h : PlainAt K H S st) (ho : Ev te σ H (.ref S.P)) : Ev (tFld K te "_rules") σ H (.ref S.ra) ∧ Ev (tFld K te "_clock") σ H (.int st.clock) ∧ Ev (tFld K te "_done") σ H (.int st.done) ∧ Ev (tFld K te "_known") σ H (.ref S.kn) ∧ Ev (tFld K te "_rows") σ H (.ref S.rw) :=
  ⟨ev_fld ho h.ins T.c_Plain T.a_Plain_rules rfl, ev_fld ho h.ins T.c_Plain T.a_Plain_clock rfl, ev_fld ho h.ins T.c_Plain T.a_Plain_done rfl, ev_fld ho h.ins T.c_Plain T.a_Plain_known rfl, ev_fld ho h.ins T.c_Plain T.a_Plain_rows rfl⟩

section
variable {P : Program} {w : World} {K : PySem.W.Frag} {mg : Str → Option Value} {base : Heap}
theorem sc_Plain__between : FnScope ["self", "series", "low", "high", "row", "time"] ["self", "series", "low", "high"] (defScope s_Plain__between) := ⟨rfl, rfl, rfl, by decide +kernel, rfl, by decide +kernel, by decide +kernel⟩
theorem c_Plain_between (T : Fx K mg) : C8.Met P w K mg base 2 (He.ga K "Plain") "_between" (SD 4 fun vs H d => ∃ S st s k lo hi, vs = [.ref S.P, .ref s, .int lo, .int hi] ∧ PlainAt K H S st ∧ SerAt K H s k ∧ k < 2 ∧ d = .list ((between (st.row k) lo hi).map pn)) [] :=
  met_of T.m_Plain__between T.c_Plain sc_Plain__between SD.len (fun _ _ _ _ _ _ us hl => match us, hl with | [_, _, _, _], _ => rfl) fun cdv A outer s H vs Q E hr h => by
    have c_Series_text := c_Series_text (P := P) (w := w) (base := base) T
    refine ⟨_, (pss_cons (ps_set (i := 4) sc_Plain__between.nd rfl (Or.inr rfl) (pe_dget2 (hu_of hr) (pe_fld (pv 0) rfl) (pe_mt0 c_Series_text hr (by decide) (pv 1)) pe_dnewK ⟨rfl, rfl, rfl, rfl⟩))
      (pss_one (ps_ret (pe_callB (cr_sortD pn (hu64 hr)) (by rfl) T.n_sorted b_sorted (pa_cons (pe_lock (pe_lc rfl sc_Plain__between.nd (pi_keys (pv 4)) (blkOk_by (own := [("time", 5)]) (by show blkC ["self", "series", "low", "high", "row", "time"] (defScope s_Plain__between) _ _ = true; decide +kernel)) (fun _ _ _ _ _ => (pg_name (i := 5) sc_Plain__between.nd rfl (Or.inl rfl))) (fun _ _ _ _ _ => (pts_one (pt_chain op_le op_lt (pv 2) (pv 5) (pv 3)))) (fun _ _ _ _ _ => (pe_tup (pa_cons (pv 5) (pa_cons (pe_dget (hu_of hr) (pv 4) (pv 5) (fun _ _ => rfl)) pa_nil)))))) pa_nil))))), ?_⟩
    obtain ⟨hl, _, ⟨S, st, s', k, lo, hi, rfl, hp, hs, hk, rfl⟩, q⟩ := h
    obtain ⟨nd, hpos, hz⟩ := hp.keys k
    refine q_get2 (k := (Sum.inr (txt k) : Key)) (pfld T hp (ev_var rfl)).2.2.2.2 hp.rws (ev_text hs hk (ev_var rfl)) fun p H2 hpn e3 hp2 => ?_
    rw [val_kd hk _ hp.lt]
    have hrow : ∃ a, (Option.getD (if k ∈ st.known then some (V.ref (S.ad k)) else none) (V.ref p)) = .ref a ∧ H2 a = some (.dK (rowK (st.row k))) := by
      by_cases c : k ∈ st.known
      · rw [if_pos c]
        exact ⟨_, rfl, e3 _ _ (hp.row k c)⟩
      · rw [if_neg c, hp.no k c]
        exact ⟨p, rfl, hp2⟩
    obtain ⟨a, ea, ha⟩ := hrow
    rw [ea]
    refine s_retD (N := FrN H) (ed_sortN (fun b hb => fresh_back e3 hb) (fun x v h => pn_any x v h) (ed_points nd hz ha (fun _ => rfl) (fun _ => rfl) rfl (fun _ => rfl) (fun _ => rfl) (fun _ => rfl)) (alike_pn _) (sortable_pn _) (fun _ _ => Nat.le_of_ble_eq_true rfl)) fun v H4 e4 hd => q v H4 (e3.trans e4) hd
end

theorem q_call {sp : Sp} {E : XK} {tr : TA} {tz : TS} {D : Ends} {σ : L2.St} {H : Hp} {vs : List V} (h : EvA tr σ H vs) (k : ∀ H1, Ex H H1 → sp vs H1 (fun _ H' => tz D σ H') E) : tSeq (tDrop (tCall sp [] E tr)) tz D σ H := h H (Ex.refl H) _ fun H1 e1 => by
  have := k H1 e1
  rw [← List.append_nil vs] at this
  exact this
/-- folds: the folds of the row, or Gone -/
def spFolds (K : PySem.W.Frag) : Sp := fun vs H Q E => ∃ (S : PA) (st : PSt) (s : Addr) (k : Nat) (low step : Int) (n : Nat), vs = [.ref S.P, .ref s, .int low, .int (low + n * step), .int step] ∧ PlainAt K H S st ∧ SerAt K H s k ∧ k < 2 ∧ (0 ≤ low ∧ low < 2 ^ 40) ∧ 1 ≤ step ∧ step < 2 ^ 29 ∧ n ≤ 400 ∧
  ((∀ i, i < n → goneOf st.rs (low + i * step) step st.clock = none) → ∀ v H', Ex H H' → DA (FrN H) H' (.list ((List.range n).map fun i => fdD (foldW (st.row k) (low + (i : Nat) * step) (low + (i : Nat) * step + step)))) v → Q v H') ∧
  ∀ i g : Nat, toldErr st.rs st.clock low step n i g → GoneE K H E (low + i * step) g

section
variable {P : Program} {w : World} {K : PySem.W.Frag} {mg : Str → Option Value} {base : Heap}
theorem sc_Plain_folds : FnScope ["self", "series", "low", "high", "step", "at"] ["self", "series", "low", "high", "step"] (defScope s_Plain_folds) := ⟨rfl, rfl, rfl, by decide +kernel, rfl, by decide +kernel, by decide +kernel⟩
theorem hb_Plain_folds (T : Fx K mg) (cdv : Value) (A : Around) (outer : List Env) (s : Shared) (H : Hp) (vs : List V) (Q : VK) (E : XK) (hr : Room 8 (A.deeper (envOfC "Plain.folds" (defScope s_Plain_folds) s.heap.objs.size (He.ma K (He.ga K "Plain") "folds") cdv))) (h : (spFolds K) vs H Q E) :
    ∃ t, PSs (cxOf (L2.CX P w) P w K mg base ["self", "series", "low", "high", "step", "at"] "Plain.folds" (defScope s_Plain_folds) (He.ma K (He.ga K "Plain") "folds") cdv A outer s H E) (defBody s_Plain_folds) t ∧ t { nx := fun _ H' => Q .non H', rt := Q } (start ["self", "series", "low", "high", "step", "at"] vs) H := by
    have c_Plain_between := c_Plain_between (P := P) (w := w) (base := base) T
    have c_check_series := c_check_series (P := P) (w := w) (base := base) T
    have c_check_told := c_check_told (P := P) (w := w) (base := base) T
    have c_check_windows := c_check_windows (P := P) (w := w) (base := base) T
    have c_fold := c_fold (P := P) (w := w) (base := base) T
    refine ⟨_, (pss_cons (ps_expr (pe_c c_check_series hr (by decide) (by rfl) (pa_cons (pv 1) pa_nil)))
      (pss_cons (ps_expr (pe_c c_check_windows hr (by decide) (by rfl) (pa_cons (pv 2) (pa_cons (pv 3) (pa_cons (pv 4) pa_nil)))))
      (pss_cons (ps_expr (pe_cX c_check_told hr (by decide) (by rfl) (passes_call (takes_of rfl rfl rfl rfl) (fun _ _ _ _ h => h)) (pa_cons (pe_fld (pv 0) rfl) (pa_cons (pe_fld (pv 0) rfl) (pa_cons (pv 2) (pa_cons (pv 3) (pa_cons (pv 4) pa_nil)))))))
      (pss_one (ps_ret (pe_lc rfl sc_Plain_folds.nd (pi_range3 (by rfl) T.n_range (pa_cons (pv 2) (pa_cons (pv 3) (pa_cons (pv 4) pa_nil)))) (blkOk_by (own := [("at", 5)]) (by show blkC ["self", "series", "low", "high", "step", "at"] (defScope s_Plain_folds) _ _ = true; decide +kernel)) (fun _ _ _ _ _ => (pg_name (i := 5) sc_Plain_folds.nd rfl (Or.inl rfl))) (fun _ _ _ _ _ => pts_nil) (fun _ _ _ _ _ => (pe_c c_fold hr (by decide) (by rfl) (pa_cons (pe_mt c_Plain_between hr (by decide) (pv 0) (pa_cons (pv 1) (pa_cons (pv 5) (pa_cons (pe_op op_add (pv 5) (pv 4)) pa_nil)))) pa_nil))))))))), ?_⟩
    obtain ⟨S, st, s', k, low, step, n, rfl, hp, hs, hk, hlo, hst, hst2, hn, q1, q2⟩ := h
    refine q_drop (ev_callV (ea_cons (ev_var rfl) ea_nil) rfl fun _ e => ⟨⟨_, _, rfl, hs.ex e⟩, rfl⟩) fun H1 e1 => ?_
    refine q_drop (ev_callV (ea_cons (ev_var rfl) (ea_cons (ev_var rfl) (ea_cons (ev_var rfl) ea_nil))) rfl fun _ e => ⟨_, _, _, rfl, hlo.1, hst, hst2, hn, rfl⟩) fun H2 e2 => ?_
    have e12 := e1.trans e2
    have hp2 := hp.ex e12
    refine q_call (ea_cons (pfld T hp2 (ev_var rfl)).1 (ea_cons (pfld T hp2 (ev_var rfl)).2.1 (ea_cons (ev_var rfl) (ea_cons (ev_var rfl) (ea_cons (ev_var rfl) ea_nil))))) fun H3 e3 => ?_
    have e13 := e12.trans e3
    have hp3 := hp.ex e13
    refine ⟨S.ra, st.rs, st.clock, low, step, n, rfl, hp3.rules, hp3.clock, hlo, hst, hst2, hn, fun hall H4 e4 => ?_, fun i g hg => (q2 i g hg).ex e13⟩
    have e14 := e13.trans e4
    refine s_retD (N := FrN H) (ed_is (ed_lc (fun b hb => fresh_back e14 hb) (fun _ => true) (fun i => fdD (foldW (st.row k) (low + (i : Nat) * step) (low + (i : Nat) * step + step))) (ew_rng3 (ea_cons (ev_var rfl) (ea_cons (ev_var rfl) (ea_cons (ev_var rfl) ea_nil))) (rgC_step hlo.1 hlo.2 hst hst2 hn)) (by omega) fun N' i x H5 e5 fr _ hi hx => ?_) (by rw [gvn_all])) fun v H5 e5 hd => q1 hall v H5 (e14.trans e5) hd
    subst hx
    have hp5 := hp.ex (e14.trans e5)
    have hs5 := hs.ex (e14.trans e5)
    obtain ⟨nd, hpos, hz⟩ := hp5.keys k
    refine ⟨_, fun Q q => q, rfl, et_yes, fun _ => ?_⟩
    have hbet : EvD N' (tMeth (He.ga K "Plain") "_between" (SD 4 fun vs H d => ∃ S st s k lo hi, vs = [.ref S.P, .ref s, .int lo, .int hi] ∧ PlainAt K H S st ∧ SerAt K H s k ∧ k < 2 ∧ d = .list ((between (st.row k) lo hi).map pn)) [] C8.E0 (tVar 0) (tCons (tVar 1) (tCons (tVar 5) (tCons (tOp (rI0 fun i j => .int (i + j)) (tVar 5) (tVar 4)) tNil)))) [some (V.ref S.P), some (.ref s'), some (.int low), some (.int (low + n * step)), some (.int step), some (.int (low + (i : Nat) * step))] H5 (.list ((between (st.row k) (low + (i : Nat) * step) (low + (i : Nat) * step + step)).map pn)) :=
      ed_methV fr (ev_var rfl) hp5.ins rfl (ea_cons (ev_var rfl) (ea_cons (ev_var rfl) (ea_cons (ev_op (ev_var rfl) (ev_var rfl) rv_I0) ea_nil))) rfl fun H6 e6 => ⟨S, st, s', k, _, _, rfl, hp5.ex e6, hs5.ex e6, hk, rfl⟩
    exact ed_callD fr (eds_cons hbet eds_nil) rfl fun vs H6 e6 hvs => ⟨N', _, hvs, between_asc nd _ _, fun p hp => hpos p (between_mem.mp hp).1, Nat.le_trans (between_len _ _ _) hz, rfl⟩
theorem c_Plain_folds (T : Fx K mg) : MetX P w K mg base 9 (He.ga K "Plain") "folds" (spFolds K) :=
  metx_of T.m_Plain_folds T.c_Plain sc_Plain_folds (fun _ _ _ _ h => by obtain ⟨_, _, _, _, _, _, _, rfl, _⟩ := h; rfl) (fun _ _ _ _ _ _ us hl => match us, hl with | [_, _, _, _, _], _ => rfl) (hb_Plain_folds T)
end
end Eg
end

section
set_option Elab.async false
set_option linter.all false
set_option maxRecDepth 100000
set_option maxHeartbeats 4000000
set_option linter.constructorNameAsVariable false
namespace Eg
open PySem PySem.Spec PyProof.Rows L2 Evl C8


def PSt.put (st : PSt) (k : Nat) (t v : Int) : PSt := { st with known := addK st.known k, row := fun j => if j = k then putR (st.row k) t v else st.row j }
def PSt.take (st : PSt) (k : Nat) (lo hi : Int) : PSt := { st with row := fun j => if j = k then takeR (st.row k) lo hi else st.row j }
def PSt.doit (st : PSt) : Dd → PSt
  | .put k t v => { st.put k t v with done := st.done + 1 }
  | .take k lo hi => { st.take k lo hi with done := st.done + 1 }
  | .clk c => { st with clock := c, done := st.done + 1 }
theorem PlainAt.to {K : PySem.W.Frag} {H H' : Hp} {S : PA} {st : PSt} (h : PlainAt K H S st) (hf : Fm (fun a => a = S.kn ∨ a = S.rw ∨ ∃ k ∈ st.known, a = S.ad k) H H') (ad' : Nat → Addr) (st' : PSt) (h1 : st'.rs = st.rs) (h2 : st'.clock = st.clock) (h3 : st'.done = st.done)
    (hkn : ∃ sr : Nat → V, H' S.kn = some (.dK (kd st'.known sr))) (hrw : H' S.rw = some (.dK (kd st'.known fun k => .ref (ad' k)))) (hrow : ∀ k ∈ st'.known, H' (ad' k) = some (.dK (rowK (st'.row k)))) (no : ∀ k, k ∉ st'.known → st'.row k = []) (lt : ∀ k ∈ st'.known, k < 2) (nd : st'.known.Nodup)
    (nea : ∀ k ∈ st'.known, ad' k ≠ S.kn ∧ ad' k ≠ S.rw) (inj : ∀ j ∈ st'.known, ∀ k ∈ st'.known, ad' j = ad' k → j = k) (keys : ∀ k, NdK (st'.row k) ∧ (∀ p ∈ st'.row k, 0 ≤ p.1) ∧ (st'.row k).length ≤ 1000) : PlainAt K H' { S with ad := ad' } st' := by
  have ns : ∀ a, (a = S.kn ∨ a = S.rw ∨ ∃ k ∈ st.known, a = S.ad k) → S.mem st.known a := fun a h => .inr h
  have hnP : ¬ (S.P = S.kn ∨ S.P = S.rw ∨ ∃ k ∈ st.known, S.P = S.ad k) := fun m => by
    rcases m with e | e | ⟨k, hk, e⟩
    · obtain ⟨sr, hs⟩ := h.kn
      rw [← e, h.ins] at hs
      cases hs
    · have := h.rws
      rw [← e, h.ins] at this
      cases this
    · have := h.row k hk
      rw [← e, h.ins] at this
      cases this
  refine ⟨?_, ?_, hkn, hrw, hrow, no, lt, nd, h.ne, nea, inj, by rw [h2]; exact h.clock, keys⟩
  · rw [h2, h3]
    exact hf _ _ hnP h.ins
  · rw [h1]
    exact h.rules.fm hf (fun m => h.noRules h.rules (ns _ m)) (fun b xs hb m => h.noTup b xs hb (ns _ m))
theorem PlainAt.setRow {K : PySem.W.Frag} {H : Hp} {S : PA} {st : PSt} (h : PlainAt K H S st) {k : Nat} (hk : k ∈ st.known) (r : List (Int × Int)) (hr : NdK r ∧ (∀ p ∈ r, 0 ≤ p.1) ∧ r.length ≤ 1000) : PlainAt K (upd H (S.ad k) (.dK (rowK r))) S { st with row := fun j => if j = k then r else st.row j } := by
  refine h.to (S := S) (fun a o m ha => by rw [upd_ne (fun e => m (.inr (.inr ⟨k, hk, e⟩)))]; exact ha) S.ad _ rfl rfl rfl ?_ ?_ (fun j hj => ?_) (fun j hj => ?_) h.lt h.nd h.nea h.inj (fun j => ?_)
  · obtain ⟨sr, hs⟩ := h.kn
    exact ⟨sr, by rw [upd_ne (Ne.symm (h.nea k hk).1)]; exact hs⟩
  · rw [upd_ne (Ne.symm (h.nea k hk).2)]
    exact h.rws
  · show _ = some (HO.dK (rowK (if j = k then r else st.row j)))
    by_cases e : j = k
    · rw [e, upd_same, if_pos rfl]
    · rw [if_neg e, upd_ne (fun c => e (h.inj j hj k hk c))]
      exact h.row j hj
  · show (if j = k then r else st.row j) = []
    rw [if_neg (fun e : j = k => hj (by rw [e]; exact hk))]
    exact h.no j hj
  · show NdK (if j = k then r else st.row j) ∧ (∀ p ∈ (if j = k then r else st.row j), 0 ≤ p.1) ∧ (if j = k then r else st.row j).length ≤ 1000
    by_cases e : j = k
    · rw [if_pos e]
      exact hr
    · rw [if_neg e]
      exact h.keys j
theorem mem_addK {l : List Nat} {k j : Nat} : j ∈ addK l k ↔ j ∈ l ∨ j = k := by
  unfold addK
  by_cases c : k ∈ l
  · rw [if_pos c]
    exact ⟨.inl, fun h => h.elim id fun e => by rw [e]; exact c⟩
  · rw [if_neg c, List.mem_append, List.mem_singleton]
theorem addK_nd {l : List Nat} {k : Nat} (nd : l.Nodup) : (addK l k).Nodup := by
  unfold addK
  by_cases c : k ∈ l
  · rw [if_pos c]
    exact nd
  · rw [if_neg c]
    exact List.nodup_append.mpr ⟨nd, by simp, fun a ha b hb => by
      have : b = k := by simpa using hb
      intro e
      rw [this] at e
      exact c (e ▸ ha)⟩
/-- a new dict p stands for k in the rows -/
theorem PlainAt.setAd {K : PySem.W.Frag} {H H' : Hp} {S : PA} {st : PSt} (h : PlainAt K H S st) {k : Nat} (hk2 : k < 2) (p : Addr) (r : List (Int × Int)) (hr : NdK r ∧ (∀ p ∈ r, 0 ≤ p.1) ∧ r.length ≤ 1000) (hf : Fm (fun a => a = S.kn ∨ a = S.rw) H H')
    (hkn : ∃ sr : Nat → V, H' S.kn = some (.dK (kd (addK st.known k) sr))) (hrw : H' S.rw = some (.dK (kd (addK st.known k) fun j => if j = k then .ref p else .ref (S.ad j)))) (hp0 : H p = none) (hp : H' p = some (.dK (rowK r))) :
    PlainAt K H' { S with ad := fun j => if j = k then p else S.ad j } { st with known := addK st.known k, row := fun j => if j = k then r else st.row j } := by
  have hnp : ∀ a o, H a = some o → p ≠ a := fun a o ha e => by
    rw [e, ha] at hp0
    cases hp0
  obtain ⟨sr0, hs0⟩ := h.kn
  refine h.to (fun a o m ha => hf a o (fun c => m (c.elim .inl fun c => .inr (.inl c))) ha) _ _ rfl rfl rfl hkn (hrw.trans ?_) (fun j hj => ?_) (fun j hj => ?_) (fun j hj => ?_) (addK_nd h.nd) (fun j hj => ?_) (fun i hi j hj e => ?_) (fun j => ?_)
  · refine congrArg some (congrArg HO.dK ?_)
    unfold kd
    refine List.map_congr_left fun j _ => ?_
    by_cases e : j = k
    · simp [e]
    · simp [e]
  · show H' (if j = k then p else S.ad j) = some (HO.dK (rowK (if j = k then r else st.row j)))
    by_cases e : j = k
    · rw [if_pos e, if_pos e]
      exact hp
    · rw [if_neg e, if_neg e]
      have hj' := (mem_addK.mp hj).resolve_right e
      exact hf _ _ (fun m => m.elim (h.nea j hj').1 (h.nea j hj').2) (h.row j hj')
  · show (if j = k then r else st.row j) = []
    have : ¬ (j ∈ st.known ∨ j = k) := fun c => hj (mem_addK.mpr c)
    rw [if_neg (fun c => this (.inr c))]
    exact h.no j fun c => this (.inl c)
  · rcases mem_addK.mp hj with c | c
    · exact h.lt j c
    · exact c ▸ hk2
  · show (if j = k then p else S.ad j) ≠ S.kn ∧ (if j = k then p else S.ad j) ≠ S.rw
    by_cases e : j = k
    · rw [if_pos e]
      exact ⟨hnp _ _ hs0, hnp _ _ h.rws⟩
    · rw [if_neg e]
      exact h.nea j ((mem_addK.mp hj).resolve_right e)
  · have e' : (if i = k then p else S.ad i) = (if j = k then p else S.ad j) := e
    by_cases c : i = k
    · by_cases d : j = k
      · rw [c, d]
      · rw [if_pos c, if_neg d] at e'
        exact absurd e' (hnp _ _ (h.row j ((mem_addK.mp hj).resolve_right d)))
    · by_cases d : j = k
      · rw [if_neg c, if_pos d] at e'
        exact absurd e'.symm (hnp _ _ (h.row i ((mem_addK.mp hi).resolve_right c)))
      · rw [if_neg c, if_neg d] at e'
        exact h.inj i ((mem_addK.mp hi).resolve_right c) j ((mem_addK.mp hj).resolve_right d) e'
  · show NdK (if j = k then r else st.row j) ∧ (∀ p ∈ (if j = k then r else st.row j), 0 ≤ p.1) ∧ (if j = k then r else st.row j).length ≤ 1000
    by_cases e : j = k
    · rw [if_pos e]
      exact hr
    · rw [if_neg e]
      exact h.keys j
theorem PlainAt.setIns {K : PySem.W.Frag} {H : Hp} {S : PA} {st : PSt} (h : PlainAt K H S st) (c d : Int) (hc : 0 ≤ c) : PlainAt K (upd H S.P (.ins (He.ga K "Plain") S.dx [("_rules", .ref S.ra), ("_clock", .int c), ("_done", .int d), ("_known", .ref S.kn), ("_rows", .ref S.rw)])) S { st with clock := c, done := d } := by
  obtain ⟨sr0, hs0⟩ := h.kn
  have n1 : ∀ a kvs, H a = some (.dK kvs) → a ≠ S.P := fun a kvs ha e => by
    rw [e, h.ins] at ha
    cases ha
  refine ⟨upd_same, h.rules.fm (M := fun a => a = S.P) (fun a o m ha => by rw [upd_ne m]; exact ha) (fun e => h.noRules h.rules (.inl e)) (fun b xs hb e => h.noTup b xs hb (.inl e)), ⟨sr0, ?_⟩, ?_, fun k hk => ?_, h.no, h.lt, h.nd, h.ne, h.nea, h.inj, hc, h.keys⟩
  · rw [upd_ne (n1 _ _ hs0)]
    exact hs0
  · rw [upd_ne (n1 _ _ h.rws)]
    exact h.rws
  · rw [upd_ne (n1 _ _ (h.row k hk))]
    exact h.row k hk
theorem s_dput {td ty tv : TE} {D : Ends} {σ : L2.St} {H : Hp} {a : Addr} {kvs : List (Key × V)} {k : Key} {v : V} (hv : Ev tv σ H v) (ho : Ev td σ H (.ref a)) (hy : Ev ty σ H (kV k)) (ha : H a = some (.dK kvs)) (hz : kvs.length ≤ 2000)
    (kk : ∀ H1, Ex H H1 → D.nx σ (upd H1 a (.dK (putK kvs k v)))) : sDPut td ty tv D σ H := hv H (Ex.refl H) _ fun H1 e1 => ho H1 e1 _ fun H2 e2 => hy H2 (e1.trans e2) _ fun H3 e3 =>
  ⟨a, _, rfl, .inl ⟨kvs, k, ((e1.trans e2).trans e3) _ _ ha, rfl, sz_lt (by omega), rfl⟩, kk H3 ((e1.trans e2).trans e3)⟩
theorem s_dputN {td ty : TE} {D : Ends} {σ : L2.St} {H : Hp} {a : Addr} {kvs : List (Key × V)} {k : Key} (ho : Ev td σ H (.ref a)) (hy : Ev ty σ H (kV k)) (ha : H a = some (.dK kvs)) (hz : kvs.length ≤ 2000)
    (kk : ∀ p H1, H p = none → Ex H H1 → H1 p = some (.dK []) → D.nx σ (upd H1 a (.dK (putK kvs k (.ref p))))) : sDPut td ty tDNewK D σ H := fun p hp => by
  have e0 : Ex H (upd H p (.dK [])) := Ex.new hp
  exact ho _ e0 _ fun H2 e2 => hy H2 (e0.trans e2) _ fun H3 e3 =>
    ⟨a, _, rfl, .inl ⟨kvs, k, ((e0.trans e2).trans e3) _ _ ha, rfl, sz_lt (by omega), rfl⟩, kk p H3 hp ((e0.trans e2).trans e3) ((e2.trans e3) _ _ upd_same)⟩
theorem kd_len {l : List Nat} {f : Nat → V} (h : ∀ k ∈ l, k < 2) (nd : l.Nodup) : (kd l f).length ≤ 2000 := by
  unfold kd
  rw [List.length_map]
  have := known_len h nd
  omega
theorem upd_none {H : Hp} {a c : Addr} {o : HO} (h : upd H a o c = none) : H c = none := by
  by_cases e : c = a
  · rw [e, upd_same] at h
    cases h
  · rwa [upd_ne e] at h
def spPut (K : PySem.W.Frag) : Sp := fun vs H Q _ => ∃ (S : PA) (st : PSt) (s : Addr) (k : Nat) (t v : Int), vs = [.ref S.P, .ref s, .int t, .int v] ∧ PlainAt K H S st ∧ SerAt K H s k ∧ k < 2 ∧ 0 ≤ t ∧ (st.row k).length < 1000 ∧
  ∀ (S' : PA) H', S'.P = S.P → S'.dx = S.dx → PlainAt K H' S' (st.put k t v) → Fm (S.mem st.known) H H' → (∀ a, S'.mem (addK st.known k) a → S.mem st.known a ∨ H a = none) → (∀ a, H' a = none → H a = none) → Q .non H'

section
variable {P : Program} {w : World} {K : PySem.W.Frag} {mg : Str → Option Value} {base : Heap}
theorem sc_Plain__put : FnScope ["self", "series", "time", "value", "text"] ["self", "series", "time", "value"] (defScope s_Plain__put) := ⟨rfl, rfl, rfl, by decide +kernel, rfl, by decide +kernel, by decide +kernel⟩
theorem c_Plain_put (T : Fx K mg) : C8.Met P w K mg base 2 (He.ga K "Plain") "_put" (spPut K) [] :=
  met_of T.m_Plain__put T.c_Plain sc_Plain__put (fun _ _ _ _ h => by obtain ⟨_, _, _, _, _, _, rfl, _⟩ := h; rfl) (fun _ _ _ _ _ _ us hl => match us, hl with | [_, _, _, _], _ => rfl) fun cdv A outer s H vs Q E hr h => by
    have c_Series_text := c_Series_text (P := P) (w := w) (base := base) T
    refine ⟨_, (pss_cons (ps_set (i := 4) sc_Plain__put.nd rfl (Or.inl rfl) (pe_mt0 c_Series_text hr (by decide) (pv 1)))
      (pss_cons (ps_if (pt_cmp (pc_dnotin (hu_of hr) (pv 4) (pe_fld (pv 0) rfl))) (pss_cons (ps_dput (hu_of hr) (pe_fld (pv 0) rfl) (pv 4) (pv 1) rfl)
      (pss_one (ps_dput (hu_of hr) (pe_fld (pv 0) rfl) (pv 4) pe_dnewK rfl))) pss_nil)
      (pss_one (ps_dput (hu_of hr) (pe_dget (hu_of hr) (pe_fld (pv 0) rfl) (pv 4) (fun _ _ => rfl)) (pv 2) (pv 3) rfl)))), ?_⟩
    obtain ⟨S, st, s', k, t, v, rfl, hp, hs, hk, ht, hz, q⟩ := h
    refine q_asg (ev_text hs hk (ev_var rfl)) fun H1 e1 => ?_
    have hp1 := hp.ex e1
    obtain ⟨sr, hkn⟩ := hp1.kn
    -- behind the if k is known
    have last : ∀ (S' : PA) (st' : PSt) H2, st' = { st with known := addK st.known k } → S'.P = S.P → S'.dx = S.dx → PlainAt K H2 S' st' → Fm (S.mem st.known) H H2 → (∀ a, S'.mem (addK st.known k) a → S.mem st.known a ∨ H a = none) → (∀ a, H2 a = none → H a = none) →
        sDPut (tDGet (tFld K (tVar 0) "_rows") (tVar 4)) (tVar 2) (tVar 3) { nx := fun _ H' => Q .non H', rt := Q } [some (.ref S.P), some (.ref s'), some (.int t), some (.int v), some (.str (txt k))] H2 := fun S' st' H2 est hSP hSdx hp2 hf hm hn2 => by
      have hkk : k ∈ st'.known := by
        rw [est]
        exact mem_addK.mpr (.inr rfl)
      refine s_dput (k := (Sum.inl t : Key)) (ev_var rfl) (ev_dget (k := (Sum.inr (txt k) : Key)) (pfld T hp2 (ev_var (by rw [hSP] <;> rfl))).2.2.2.2 (ev_var rfl) (.inl hp2.rws) (by rw [val_kd hk _ hp2.lt, if_pos hkk])) (ev_var rfl) (hp2.row k hkk) (by unfold rowK; rw [List.length_map, est]; show (st.row k).length ≤ _; omega) fun H3 e3 => ?_
      rw [putK_row]
      have hp3 := hp2.ex e3
      have hrow : st'.row k = st.row k := by rw [est]
      obtain ⟨nd, hpos, hl⟩ := hp.keys k
      have := hp3.setRow hkk (putR (st'.row k) t v) ⟨ndk_put (hrow ▸ nd) t v, fun p hp => (put_mem hp).elim (fun e => by rw [e]; exact ht) (fun c => hpos p (hrow ▸ c)), by have := put_len (st'.row k) t v; rw [hrow] at this ⊢; omega⟩
      refine q S' _ hSP hSdx ?_ (fun a o m ha => ?_) hm (fun c hc => hn2 c (fresh_back e3 (upd_none hc)))
      · subst est
        exact this
      · rw [upd_ne (fun e => ?_)]
        · exact e3 _ _ (hf a o m ha)
        · rcases hm a (.inr (.inr (.inr ⟨k, mem_addK.mpr (.inr rfl), e⟩))) with c | c
          · exact m c
          · rw [ha] at c
            cases c
    by_cases c : k ∈ st.known
    · refine q_when (b := false) (et_is (et_test (ev_dnotin (k := (Sum.inr (txt k) : Key)) (ev_var rfl) (pfld T hp1 (ev_var rfl)).2.2.2.1 (.inl hkn))) (by rw [val_kd hk _ hp.lt, if_pos c] <;> rfl)) (fun c => by cases c) (fun _ H2 e2 => ?_)
      have ek : addK st.known k = st.known := if_pos c
      exact last S { st with known := addK st.known k } H2 rfl rfl rfl (by rw [ek]; exact hp1.ex e2) (Fm.of (e1.trans e2)) (fun a m => .inl (by rw [ek] at m; exact m)) (fun c hc => fresh_back (e1.trans e2) hc)
    · refine q_when (b := true) (et_is (et_test (ev_dnotin (k := (Sum.inr (txt k) : Key)) (ev_var rfl) (pfld T hp1 (ev_var rfl)).2.2.2.1 (.inl hkn))) (by rw [val_kd hk _ hp.lt, if_neg c] <;> rfl)) (fun _ H2 e2 => ?_) (fun c => by cases c)
      have hp2 := hp1.ex e2
      refine s_dput (D := { nx := _, rt := Q }) (k := (Sum.inr (txt k) : Key)) (ev_var rfl) (pfld T hp2 (ev_var rfl)).2.2.2.1 (ev_var rfl) (e2 _ _ hkn) (kd_len hp.lt hp.nd) fun H3 e3 => ?_
      have hp3 := hp2.ex e3
      have hkn3 := (e2.trans e3) _ _ hkn
      have nPk : S.P ≠ S.kn := fun e => by
        rw [← e, hp3.ins] at hkn3
        cases hkn3
      have hP3 : upd H3 S.kn (.dK (putK (kd st.known sr) (Sum.inr (txt k) : Key) (.ref s'))) S.P = some (.ins (He.ga K "Plain") S.dx [("_rules", .ref S.ra), ("_clock", .int st.clock), ("_done", .int st.done), ("_known", .ref S.kn), ("_rows", .ref S.rw)]) := by
        rw [upd_ne nPk]
        exact hp3.ins
      refine s_dputN (D := { nx := _, rt := Q }) (k := (Sum.inr (txt k) : Key)) (ev_fld (ev_var rfl) hP3 T.c_Plain T.a_Plain_rows rfl) (ev_var rfl) (by rw [upd_ne (Ne.symm hp3.ne)]; exact hp3.rws) (kd_len hp.lt hp.nd) fun p H4 hpn e4 hp4 => ?_
      have hpk : p ≠ S.kn := fun e => by
        rw [e, upd_same] at hpn
        cases hpn
      have hp30 : H3 p = none := by rwa [upd_ne hpk] at hpn
      have hprw : p ≠ S.rw := fun e => by
        rw [e, hp3.rws] at hp30
        cases hp30
      have hsa := hp3.setAd (H' := upd H4 S.rw (.dK (putK (kd st.known fun k => .ref (S.ad k)) (Sum.inr (txt k) : Key) (.ref p)))) hk p [] ⟨List.nodup_nil, fun p hp => (by cases hp), Nat.zero_le _⟩ (fun a o m ha => by
          rw [upd_ne (fun e => m (.inr e))]
          exact e4 _ _ (by rw [upd_ne (fun e => m (.inl e))]; exact ha)) ⟨_, by rw [upd_ne hp.ne]; exact (e4 _ _ upd_same).trans (by rw [put_kd hk _ _ hp.lt])⟩ (by rw [upd_same, put_kd hk _ _ hp.lt]) hp30 (by rw [upd_ne hprw]; exact hp4)
      have e13 := (e1.trans e2).trans e3
      refine last { S with ad := fun j => if j = k then p else S.ad j } _ _ ?_ rfl rfl hsa (fun a o m ha => ?_) (fun a m => ?_) (fun c hc => fresh_back e13 (upd_none (fresh_back e4 (upd_none hc))))
      · have : (fun j => if j = k then [] else st.row j) = st.row := funext fun j => by
          by_cases e : j = k
          · rw [if_pos e, e, hp.no k c]
          · rw [if_neg e]
        rw [this]
      · have ha3 := e13 _ _ ha
        rw [upd_ne (fun e => m (.inr (.inr (.inl e))))]
        exact e4 _ _ (by rw [upd_ne (fun e => m (.inr (.inl e)))]; exact ha3)
      · rcases m with m | m | m | ⟨j, hj, m⟩
        · exact .inl (.inl m)
        · exact .inl (.inr (.inl m))
        · exact .inl (.inr (.inr (.inl m)))
        · have m' : a = if j = k then p else S.ad j := m
          by_cases e : j = k
          · rw [if_pos e] at m'
            exact .inr (m' ▸ fresh_back e13 hp30)
          · rw [if_neg e] at m'
            exact .inl (.inr (.inr (.inr ⟨j, (mem_addK.mp hj).resolve_right e, m'⟩)))
end

theorem ed_take {σ : L2.St} {H : Hp} {a : Addr} {l : List (Int × Int)} {j jr jlo jhi : Nat} {lo hi : Int} (nd : NdK l) (hl : l.length ≤ 1000) (ha : H a = some (.dK (rowK l)))
    (hw : ∀ x, wipe ((wipe σ [j]).set j (some x)) [j] = wipe σ [j]) (hj : ∀ x, ((wipe σ [j]).set j (some x))[j]? = some (some x)) (hr0 : σ[jr]? = some (some (.ref a)))
    (hr : ∀ x, ((wipe σ [j]).set j (some x))[jr]? = some (some (.ref a))) (hlo : ∀ x, ((wipe σ [j]).set j (some x))[jlo]? = some (some (.int lo))) (hhi : ∀ x, ((wipe σ [j]).set j (some x))[jhi]? = some (some (.int hi))) (Q : VK)
    (q : ∀ p H1, H p = none → Ex H H1 → H1 p = some (.dK (rowK (takeR l lo hi))) → Q (.ref p) H1) :
    tLockE (tDc (iKeys (tVar jr)) (gName j) (tNot (tTest (tChain (rI0 fun i j => .bl (decide (i ≤ j))) (rI0 fun i j => .bl (decide (i < j))) (tVar jlo) (tVar j) (tVar jhi)))) (tVar j) (tDGet (tVar jr) (tVar j)) [j]) σ H Q := by
  refine ⟨a, .dK (rowK l), ha, True.intro, fun od => ?_⟩
  refine ew_keys (H := upd H a (.frz od (.dK (rowK l)))) (ev_var hr0) upd_same _ (Ex.refl _) _ fun J H1 e1 hW => fun D hD => ?_
  have hF := e1 _ _ upd_same
  have hDa : D ≠ a := fun e => by
    rw [e, hF] at hD
    cases hD
  refine walkH hW (fun Nx x H' => gName j x (wipe σ [j]) H' fun σ2 H2 => wipe σ2 [j] = wipe σ [j] ∧ tNot (tTest (tChain (rI0 fun i j => .bl (decide (i ≤ j))) (rI0 fun i j => .bl (decide (i < j))) (tVar jlo) (tVar j) (tVar jhi))) σ2 H2 fun b H3 =>
    if b = true then tVar j σ2 H3 fun y H4 => tDGet (tVar jr) (tVar j) σ2 H4 fun z H5 => ∃ kvs k, y = kV k ∧ H5 D = some (.dK kvs) ∧ kvs.length < sizeLine ∧ Nx (upd H5 D (.dK (putK kvs k z))) else Nx H3) (fun i H' => Ex H1 H' ∧ H' D = some (.dK (rowK (takeR (l.take i) lo hi)))) ⟨Ex.new hD, upd_same⟩ (fun i H' _ h => h.1) (fun i x Ha Hb hii y h => ?_) (fun H' h => ?_)
  · obtain ⟨p1, p2⟩ := y
    obtain ⟨y1, kv, rfl, hkv⟩ := h
    obtain ⟨p, hp, rfl⟩ := row_at hkv
    have eb := p1.trans y1
    have hDb := y1 _ _ p2
    refine ⟨hw _, ?_⟩
    refine et_not (et_test (ev_chain (b := decide (p.1 < hi)) (ev_var (hlo _)) (ev_var (hj _)) rv_I0 (fun _ => ev_var (hhi _)) (fun _ => rv_I0))) Hb (Ex.refl Hb) _ fun Hc ec => ?_
    have hDc := ec _ _ hDb
    have hstep := filter_step hp (fun p => !inB lo hi p)
    cases hf : inB lo hi p with
    | true =>
      have hf' : (decide (lo ≤ p.1) && decide (p.1 < hi)) = true := hf
      rw [hf']
      refine ⟨eb.trans ec, ?_⟩
      rw [hDc]
      unfold takeR
      rw [hstep, hf]
      simp
    | false =>
      have hf' : (decide (lo ≤ p.1) && decide (p.1 < hi)) = false := hf
      rw [hf']
      refine ⟨_, hj _, ?_⟩
      refine ev_dget (k := (Sum.inl p.1 : Key)) (ev_var (hr _)) (ev_var (hj _)) (.inr ⟨od, (e1.trans (eb.trans ec)) _ _ upd_same⟩) (val_row nd hp) Hc (Ex.refl Hc) _ fun Hd ed => ?_
      refine ⟨_, (Sum.inl p.1 : Key), rfl, ed _ _ hDc, ?_, Ex.mut ((eb.trans ec).trans ed) hD, ?_⟩
      · unfold rowK takeR
        rw [List.length_map]
        have h1 := List.length_filter_le (fun p => !inB lo hi p) (l.take i)
        rw [List.length_take] at h1
        exact sz_lt (by omega)
      · have hfr : p.1 ∉ (takeR (l.take i) lo hi).map (·.1) := fun hm => by
          obtain ⟨q', hq, he⟩ := List.mem_map.mp hm
          exact ndk_take nd hp (List.mem_map.mpr ⟨q', (List.mem_filter.mp hq).1, he⟩)
        rw [upd_same, putK_fresh hfr]
        unfold takeR
        rw [hstep, hf]
        rfl
  · obtain ⟨p1, p2⟩ := h
    obtain ⟨h1, h2⟩ := ex_lock ha (e1.trans p1)
    refine ⟨h1, q D _ ?_ h2 ?_⟩
    · have := fresh_back e1 hD
      rwa [upd_ne hDa] at this
    · rw [upd_ne hDa, p2]
      unfold rowK
      rw [List.length_map, List.take_length]
theorem s_dputX {td ty tv : TE} {D : Ends} {σ : L2.St} {H : Hp} {a : Addr} {kvs : List (Key × V)} {k : Key} {r : List (Int × Int)} (hv : ∀ Q : VK, (∀ p H1, H p = none → Ex H H1 → H1 p = some (.dK (rowK r)) → Q (.ref p) H1) → tv σ H Q) (ho : Ev td σ H (.ref a)) (hy : Ev ty σ H (kV k)) (ha : H a = some (.dK kvs)) (hz : kvs.length ≤ 2000)
    (kk : ∀ p H1, H p = none → Ex H H1 → H1 p = some (.dK (rowK r)) → D.nx σ (upd H1 a (.dK (putK kvs k (.ref p))))) : sDPut td ty tv D σ H := hv _ fun p H1 hp e1 h1 => ho H1 e1 _ fun H2 e2 => hy H2 (e1.trans e2) _ fun H3 e3 =>
  ⟨a, _, rfl, .inl ⟨kvs, k, ((e1.trans e2).trans e3) _ _ ha, rfl, sz_lt (by omega), rfl⟩, kk p H3 hp ((e1.trans e2).trans e3) ((e2.trans e3) _ _ h1)⟩
def spTake (K : PySem.W.Frag) : Sp := fun vs H Q _ => ∃ (S : PA) (st : PSt) (s : Addr) (k : Nat) (lo hi : Int), vs = [.ref S.P, .ref s, .int lo, .int hi] ∧ PlainAt K H S st ∧ SerAt K H s k ∧ k < 2 ∧
  ∀ (S' : PA) H', S'.P = S.P → S'.dx = S.dx → PlainAt K H' S' (st.take k lo hi) → Fm (S.mem st.known) H H' → (∀ a, S'.mem st.known a → S.mem st.known a ∨ H a = none) → (∀ a, H' a = none → H a = none) → Q .non H'

section
variable {P : Program} {w : World} {K : PySem.W.Frag} {mg : Str → Option Value} {base : Heap}
theorem sc_Plain__take : FnScope ["self", "series", "low", "high", "text", "row", "time"] ["self", "series", "low", "high"] (defScope s_Plain__take) := ⟨rfl, rfl, rfl, by decide +kernel, rfl, by decide +kernel, by decide +kernel⟩
theorem c_Plain_take (T : Fx K mg) : C8.Met P w K mg base 2 (He.ga K "Plain") "_take" (spTake K) [] :=
  met_of T.m_Plain__take T.c_Plain sc_Plain__take (fun _ _ _ _ h => by obtain ⟨_, _, _, _, _, _, rfl, _⟩ := h; rfl) (fun _ _ _ _ _ _ us hl => match us, hl with | [_, _, _, _], _ => rfl) fun cdv A outer s H vs Q E hr h => by
    have c_Series_text := c_Series_text (P := P) (w := w) (base := base) T
    refine ⟨_, (pss_cons (ps_set (i := 4) sc_Plain__take.nd rfl (Or.inl rfl) (pe_mt0 c_Series_text hr (by decide) (pv 1)))
      (pss_one (ps_if (pt_cmp (pc_din (hu_of hr) (pv 4) (pe_fld (pv 0) rfl))) (pss_cons (ps_set (i := 5) sc_Plain__take.nd rfl (Or.inr rfl) (pe_dget (hu_of hr) (pe_fld (pv 0) rfl) (pv 4) (fun _ _ => rfl)))
      (pss_one (ps_dput (hu_of hr) (pe_fld (pv 0) rfl) (pv 4) (pe_lock (pe_dc rfl sc_Plain__take.nd (pi_keys (pv 5)) (blkOk_by (own := [("time", 6)]) (by show blkC ["self", "series", "low", "high", "text", "row", "time"] (defScope s_Plain__take) _ _ = true; decide +kernel)) (fun _ _ _ _ _ => (pg_name (i := 6) sc_Plain__take.nd rfl (Or.inl rfl))) (fun _ _ _ _ _ => (pts_one (pt_not (pt_chain op_le op_lt (pv 2) (pv 6) (pv 3))))) (fun _ _ _ _ _ => (pv 6)) (fun _ _ _ _ _ => (pe_dget (hu_of hr) (pv 5) (pv 6) (fun _ _ => rfl))))) rfl))) pss_nil))), ?_⟩
    obtain ⟨S, st, s', k, lo, hi, rfl, hp, hs, hk, q⟩ := h
    refine q_asg (ev_text hs hk (ev_var rfl)) fun H1 e1 => ?_
    have hp1 := hp.ex e1
    obtain ⟨sr, hkn⟩ := hp1.kn
    by_cases c : k ∈ st.known
    · refine s_when (b := true) (et_is (et_test (ev_din (k := (Sum.inr (txt k) : Key)) (ev_var rfl) (pfld T hp1 (ev_var rfl)).2.2.2.1 (.inl hkn))) (by rw [val_kd hk _ hp.lt, if_pos c] <;> rfl)) (fun _ H2 e2 => ?_) (fun c => by cases c)
      have hp2 := hp1.ex e2
      refine q_asg (ev_dget (k := (Sum.inr (txt k) : Key)) (pfld T hp2 (ev_var rfl)).2.2.2.2 (ev_var rfl) (.inl hp2.rws) (by rw [val_kd hk _ hp2.lt, if_pos c])) fun H3 e3 => ?_
      have hp3 := hp2.ex e3
      obtain ⟨nd, hpos, hl⟩ := hp.keys k
      refine s_dputX (k := (Sum.inr (txt k) : Key)) (r := takeR (st.row k) lo hi) (fun Q' q' => ed_take nd hl (hp3.row k c) (fun _ => rfl) (fun _ => rfl) rfl (fun _ => rfl) (fun _ => rfl) (fun _ => rfl) Q' q') (pfld T hp3 (ev_var rfl)).2.2.2.2 (ev_var rfl) hp3.rws (kd_len hp.lt hp.nd) fun p H4 hpn e4 hp4 => ?_
      have hprw : p ≠ S.rw := fun e => by
        rw [e, hp3.rws] at hpn
        cases hpn
      have ek : addK st.known k = st.known := if_pos c
      have hsa := hp3.setAd (H' := upd H4 S.rw (.dK (putK (kd st.known fun k => .ref (S.ad k)) (Sum.inr (txt k) : Key) (.ref p)))) hk p (takeR (st.row k) lo hi) ⟨ndk_filter nd _, fun p hp => hpos p (List.mem_filter.mp hp).1, Nat.le_trans (List.length_filter_le _ _) hl⟩ (fun a o m ha => by
          rw [upd_ne (fun e => m (.inr e))]
          exact e4 _ _ ha) ⟨sr, by rw [upd_ne hp.ne, ek]; exact ((e2.trans e3).trans e4) _ _ hkn⟩ (by rw [upd_same, put_kd hk _ _ hp.lt]) hpn (by rw [upd_ne hprw]; exact hp4)
      have e13 := (e1.trans e2).trans e3
      refine q { S with ad := fun j => if j = k then p else S.ad j } _ rfl rfl ?_ (fun a o m ha => ?_) (fun a m => ?_) (fun c hc => fresh_back e13 (fresh_back e4 (upd_none hc)))
      · have := hsa
        rw [ek] at this
        exact this
      · rw [upd_ne (fun e => m (.inr (.inr (.inl e))))]
        exact e4 _ _ (e13 _ _ ha)
      · rcases m with m | m | m | ⟨j, hj, m⟩
        · exact .inl (.inl m)
        · exact .inl (.inr (.inl m))
        · exact .inl (.inr (.inr (.inl m)))
        · have m' : a = if j = k then p else S.ad j := m
          by_cases e : j = k
          · rw [if_pos e] at m'
            exact .inr (m' ▸ fresh_back e13 hpn)
          · rw [if_neg e] at m'
            exact .inl (.inr (.inr (.inr ⟨j, hj, m'⟩)))
    · refine s_when (b := false) (et_is (et_test (ev_din (k := (Sum.inr (txt k) : Key)) (ev_var rfl) (pfld T hp1 (ev_var rfl)).2.2.2.1 (.inl hkn))) (by rw [val_kd hk _ hp.lt, if_neg c] <;> rfl)) (fun c => by cases c) (fun _ H2 e2 => ?_)
      have est : st.take k lo hi = st := by
        unfold PSt.take
        have : (fun j => if j = k then takeR (st.row k) lo hi else st.row j) = st.row := funext fun j => by
          by_cases e : j = k
          · rw [if_pos e, e, hp.no k c] <;> rfl
          · rw [if_neg e]
        rw [this]
      exact q S H2 rfl rfl (by rw [est]; exact hp1.ex e2) (Fm.of (e1.trans e2)) (fun a m => .inl m) (fun c hc => fresh_back (e1.trans e2) hc)
end

def spDo (K : PySem.W.Frag) : Sp := fun vs H Q E => ∃ (S : PA) (st : PSt) (a : Addr) (d : Dd), vs = [.ref S.P, .ref a] ∧ PlainAt K H S st ∧ DeedAt K H a d ∧ OkD d ∧ (∀ k, (st.row k).length < 1000) ∧
  (letOf st.rs st.clock d = .ok → ∀ (S' : PA) H', S'.P = S.P → S'.dx = S.dx → PlainAt K H' S' (st.doit d) → Fm (S.mem st.known) H H' → (∀ a, S'.mem (st.doit d).known a → S.mem st.known a ∨ H a = none) → (∀ a, H' a = none → H a = none) → Q .non H') ∧
  (∀ t, letOf st.rs st.clock d = .back t → BackE K H E t) ∧ ∀ t, letOf st.rs st.clock d = .gone t → GoneE K H E t 0
theorem q_meth {sp : Sp} {E : XK} {ta : TE} {tr : TA} {D : Ends} {σ : L2.St} {H : Hp} {vs : List V} {a C dx : Addr} {m : Str} {fs : List (Str × V)} (ho : Ev ta σ H (.ref a)) (ha : H a = some (.ins C dx fs)) (hm : fs.lookup m = none) (h : EvA tr σ H vs) (k : ∀ H1, Ex H H1 → sp (.ref a :: vs) H1 (fun _ H' => D.nx σ H') E) : tDrop (tMeth C m sp [] E ta tr) D σ H :=
  ho H (Ex.refl H) _ fun H1 e1 => ⟨a, dx, fs, rfl, e1 _ _ ha, hm, h H1 e1 _ fun H2 e2 => by
    have := k H2 (e1.trans e2)
    rw [← List.append_nil vs] at this
    exact this⟩

section
variable {P : Program} {w : World} {K : PySem.W.Frag} {mg : Str → Option Value} {base : Heap}
theorem sc_Plain_do : FnScope ["self", "deed"] ["self", "deed"] (defScope s_Plain_do) := ⟨rfl, rfl, rfl, by decide +kernel, rfl, by decide +kernel, by decide +kernel⟩
theorem c_Plain_do (T : Fx K mg) : MetX P w K mg base 7 (He.ga K "Plain") "do" (spDo K) :=
  metx_of T.m_Plain_do T.c_Plain sc_Plain_do (fun _ _ _ _ h => by obtain ⟨_, _, _, _, rfl, _⟩ := h; rfl) (fun _ _ _ _ _ _ us hl => match us, hl with | [_, _], _ => rfl) fun cdv A outer s H vs Q E hr h => by
    have c_Plain_put := c_Plain_put (P := P) (w := w) (base := base) T
    have c_Plain_take := c_Plain_take (P := P) (w := w) (base := base) T
    have c_check_deed := c_check_deed (P := P) (w := w) (base := base) T
    have c_check_let := c_check_let (P := P) (w := w) (base := base) T
    refine ⟨_, (pss_cons (ps_expr (pe_c c_check_deed hr (by decide) (by rfl) (pa_cons (pv 1) pa_nil)))
      (pss_cons (ps_expr (pe_cX c_check_let hr (by decide) (by rfl) (passes_call (takes_of rfl rfl rfl rfl) (fun _ _ _ _ h => h)) (pa_cons (pe_fld (pv 0) rfl) (pa_cons (pe_fld (pv 0) rfl) (pa_cons (pv 1) pa_nil)))))
      (pss_cons (ps_if (pt_cmpR op_eq (pe_ix (ix_tupK K rfl) (pv 1) pe_int (fun _ _ => rfl)) pe_str (nomark _)) (pss_one (ps_expr (pe_mt c_Plain_put hr (by decide) (pv 0) (pa_cons (pe_ix (ix_tupK K rfl) (pv 1) pe_int (fun _ _ => rfl)) (pa_cons (pe_ix (ix_tupK K rfl) (pv 1) pe_int (fun _ _ => rfl)) (pa_cons (pe_ix (ix_tupK K rfl) (pv 1) pe_int (fun _ _ => rfl)) pa_nil)))))) (pss_one (ps_if (pt_cmpR op_eq (pe_ix (ix_tupK K rfl) (pv 1) pe_int (fun _ _ => rfl)) pe_str (nomark _)) (pss_one (ps_expr (pe_mt c_Plain_take hr (by decide) (pv 0) (pa_cons (pe_ix (ix_tupK K rfl) (pv 1) pe_int (fun _ _ => rfl)) (pa_cons (pe_ix (ix_tupK K rfl) (pv 1) pe_int (fun _ _ => rfl)) (pa_cons (pe_ix (ix_tupK K rfl) (pv 1) pe_int (fun _ _ => rfl)) pa_nil)))))) (pss_one (ps_fld (pv 0) (pe_ix (ix_tupK K rfl) (pv 1) pe_int (fun _ _ => rfl)) rfl)))))
      (pss_one (ps_fldaug (pv 0) pe_int in_add))))), ?_⟩
    obtain ⟨S, st, a, d, rfl, hp, hd, ok, hz, q1, q2, q3⟩ := h
    refine q_drop (ev_callV (ea_cons (ev_var rfl) ea_nil) rfl fun _ e => ⟨a, d, rfl, hd.ex e, ok, rfl⟩) fun H1 e1 => ?_
    have hp1 := hp.ex e1
    refine q_call (ea_cons (pfld T hp1 (ev_var rfl)).1 (ea_cons (pfld T hp1 (ev_var rfl)).2.1 (ea_cons (ev_var rfl) ea_nil))) fun H2 e2 => ?_
    have e12 := e1.trans e2
    refine ⟨S.ra, st.rs, st.clock, a, d, rfl, (hp.ex e12).rules, hp.clock, hd.ex e12, ok, fun hok H3 e3 => ?_, fun t ht => (q2 t ht).ex e12, fun t ht => (q3 t ht).ex e12⟩
    have e13 := e12.trans e3
    have hp3 := hp.ex e13
    have hd3 := hd.ex e13
    have fin : ∀ (S' : PA) (st' : PSt) H2, S'.P = S.P → S'.dx = S.dx → PlainAt K H2 S' st' → { st' with done := st'.done + 1 } = st.doit d → Fm (S.mem st.known) H H2 → (∀ a, S'.mem st'.known a → S.mem st.known a ∨ H a = none) → (∀ a, H2 a = none → H a = none) → letOf st.rs st.clock d = .ok →
        sFldAug K (tVar 0) (tC (.int 1)) rAdd "_done" { nx := fun _ H' => Q .non H', rt := Q } [some (.ref S.P), some (.ref a)] H2 := fun S' st' H2 hP hdx hp2 hst hf hm hn2 hok => by
      refine ⟨_, rfl, S'.P, _, _, _, _, by rw [hP], hp2.ins, T.c_Plain, T.a_Plain_done, rfl, st'.done, 1, rfl, rfl, _, _, hp2.ins, by simp, ?_⟩
      have hs := hp2.setIns st'.clock (st'.done + 1) hp2.clock
      rw [show ({ st' with clock := st'.clock, done := st'.done + 1 } : PSt) = { st' with done := st'.done + 1 } from rfl, hst] at hs
      refine q1 hok S' _ hP hdx hs (fun b o m hb => ?_) (fun b m => ?_) (fun c hc => hn2 c (upd_none hc))
      · rw [upd_ne (fun e => m (.inl (by rw [e, hP])))]
        exact hf b o m hb
      · have : (st.doit d).known = st'.known := by rw [← hst]
        rw [this] at m
        exact hm b m
    
    cases d with
    | put k t v =>
      obtain ⟨s', h1, h2⟩ := hd3
      refine q_if (b := true) (et_is (et_test (ev_op (ev_ixT (ev_var rfl) ev_c h1 rfl) ev_c (rv_eq rfl))) (by decide +kernel)) (fun _ H4 e4 => ?_) (fun c => by cases c)
      refine q_meth (ev_var rfl) (e4 _ _ hp3.ins) rfl (ea_cons (ev_ixT (ev_var rfl) ev_c (e4 _ _ h1) rfl) (ea_cons (ev_ixT (ev_var rfl) ev_c (e4 _ _ h1) rfl) (ea_cons (ev_ixT (ev_var rfl) ev_c (e4 _ _ h1) rfl) ea_nil))) fun H5 e5 => ?_
      have e35 := e4.trans e5
      refine ⟨S, st, s', k, t, v, rfl, hp3.ex e35, h2.ex e35, ok.1, ok.2, hz k, fun S' H' hP hdx hp' hf hm hn2 => ?_⟩
      exact fin S' (st.put k t v) H' hP hdx hp' rfl (fun b o m hb => hf b o m ((e13.trans e35) _ _ hb)) (fun b m => (hm b m).imp id fun c => fresh_back (e13.trans e35) c) (fun c hc => fresh_back (e13.trans e35) (hn2 c hc)) hok
    | take k lo hi =>
      obtain ⟨s', h1, h2⟩ := hd3
      refine q_if (b := false) (et_is (et_test (ev_op (ev_ixT (ev_var rfl) ev_c h1 rfl) ev_c (rv_eq rfl))) (by decide +kernel)) (fun c => by cases c) (fun _ H4 e4 => ?_)
      refine s_if (b := true) (et_is (et_test (ev_op (ev_ixT (ev_var rfl) ev_c (e4 _ _ h1) rfl) ev_c (rv_eq rfl))) (by decide +kernel)) (fun _ H5 e5 => ?_) (fun c => by cases c)
      have e35 := e4.trans e5
      refine q_meth (ev_var rfl) (e35 _ _ hp3.ins) rfl (ea_cons (ev_ixT (ev_var rfl) ev_c (e35 _ _ h1) rfl) (ea_cons (ev_ixT (ev_var rfl) ev_c (e35 _ _ h1) rfl) (ea_cons (ev_ixT (ev_var rfl) ev_c (e35 _ _ h1) rfl) ea_nil))) fun H6 e6 => ?_
      have e36 := e35.trans e6
      refine ⟨S, st, s', k, lo, hi, rfl, hp3.ex e36, h2.ex e36, ok.1, fun S' H' hP hdx hp' hf hm hn2 => ?_⟩
      exact fin S' (st.take k lo hi) H' hP hdx hp' rfl (fun b o m hb => hf b o m ((e13.trans e36) _ _ hb)) (fun b m => (hm b m).imp id fun c => fresh_back (e13.trans e36) c) (fun c hc => fresh_back (e13.trans e36) (hn2 c hc)) hok
    | clk t =>
      have h1 : H3 a = some (.tup [.str "clock", .int t]) := hd3
      refine q_if (b := false) (et_is (et_test (ev_op (ev_ixT (ev_var rfl) ev_c h1 rfl) ev_c (rv_eq rfl))) (by decide +kernel)) (fun c => by cases c) (fun _ H4 e4 => ?_)
      refine s_if (b := false) (et_is (et_test (ev_op (ev_ixT (ev_var rfl) ev_c (e4 _ _ h1) rfl) ev_c (rv_eq rfl))) (by decide +kernel)) (fun c => by cases c) (fun _ H5 e5 => ?_)
      have e35 := e4.trans e5
      refine ev_ixT (K := K) (i := 1) (ev_var rfl) ev_c (e35 _ _ h1) rfl H5 (Ex.refl H5) _ fun H6 e6 => ?_
      have hp6 := hp3.ex (e35.trans e6)
      refine ⟨_, rfl, S.P, _, _, _, rfl, hp6.ins, T.c_Plain, T.a_Plain_clock, by simp, ?_⟩
      have e16 := e13.trans (e35.trans e6)
      refine fin S { st with clock := t } _ rfl rfl (hp6.setIns t st.done ok) rfl (fun b o m hb => ?_) (fun b m => .inl m) (fun c hc => fresh_back e16 (upd_none hc)) hok
      rw [upd_ne (fun e => m (.inl e))]
      exact e16 _ _ hb
end
end Eg
end

section
set_option Elab.async false
set_option linter.all false
set_option maxRecDepth 100000
set_option maxHeartbeats 4000000
set_option linter.constructorNameAsVariable false
namespace Eg
open PySem PySem.Spec PyProof.Rows L2 Evl C8


theorem rd_tup {N : Addr → Prop} {H : Hp} {r : Int × Option Int} {v : V} (h : DA N H (rd r) v) : ∃ L, v = .ref L ∧ H L = some (.tup [.int r.1, optV r.2]) := by
  obtain ⟨a, xs, rfl, ha, hx⟩ := DA.tup (ds := [.int r.1, optD r.2]) h
  refine ⟨a, rfl, ?_⟩
  rw [ha]
  obtain ⟨l, o⟩ := r
  cases o <;> (simp only [DAs, optD, DA] at hx; obtain ⟨_, _, rfl, rfl, _, _, rfl, rfl, rfl⟩ := hx; rfl)
theorem ev_rdIx {K : PySem.W.Frag} {N : Addr → Prop} {σ : L2.St} {H : Hp} {ta tb : TE} {rs : List (Int × Option Int)} {g : Nat} (h : EvD N ta σ H (.list (rs.map rd))) (hb : Ev tb σ H (.int (g : Int))) (hg : g < rs.length) : EvD N (tOp (rIxL K) ta tb) σ H (rd (gr rs g)) := ed_ixL h hb (rd_atI hg)
theorem ev_rdLen {K : PySem.W.Frag} {N : Addr → Prop} {σ : L2.St} {H : Hp} {ta tb : TE} {rs : List (Int × Option Int)} {g : Nat} (h : EvD N ta σ H (.list (rs.map rd))) (hb : Ev tb σ H (.int (g : Int))) (hg : g < rs.length) : Ev (tOp (rIxT K) (tOp (rIxL K) ta tb) (tC (.int 0))) σ H (.int (gr rs g).1) := dv_int (ed_ixT (ds := [.int (gr rs g).1, optD (gr rs g).2]) (ev_rdIx h hb hg) ev_c rfl)
/-- a, b = e, e a pair -/
theorem q_asgT2 {K : PySem.W.Frag} {te : TE} {tz : TS} {D : Ends} {σ : L2.St} {H : Hp} {i j : Nat} {x y : V} {N : Addr → Prop} {d : PyData} (h : EvD N te σ H d) (hp : ∀ v H1, Ex H H1 → DA N H1 d v → ∃ L, v = .ref L ∧ H1 L = some (.tup [x, y])) (kk : ∀ H1, Ex H H1 → tz D ((σ.set i (some x)).set j (some y)) H1) : tSeq (tAsg te (gTup K 2 (gCons (gName i) (gCons (gName j) gNil)))) tz D σ H := h H (Ex.refl H) _ fun v H1 e1 hd => by
  obtain ⟨L, rfl, hL⟩ := hp v H1 e1 hd
  exact g_tup2 (Q := fun σ' H' => tz D σ' H') (st_of hL) (kk H1 e1)

section
variable {P : Program} {w : World} {K : PySem.W.Frag} {mg : Str → Option Value} {base : Heap}
theorem sc_law_edge : FnScope ["_law_rules_here", "_law_grain", "_law_clock", "_law_unit", "_law_length", "_law_keep"] ["_law_rules_here", "_law_grain", "_law_clock"] (defScope s__law_edge) := ⟨rfl, rfl, rfl, by decide +kernel, rfl, by decide +kernel, by decide +kernel⟩
theorem c_law_edge (T : Fx K mg) : C8.Cal P w K mg base 1 "_law_edge" (SV 3 fun vs H z => ∃ N rs g c, DAs N H [.list (rs.map rd), .int ((g : Nat) : Int), .int c] vs ∧ OkRs rs ∧ g < rs.length ∧ z = .int (edgeOf rs g c)) [] :=
  cal_of T.d__law_edge sc_law_edge SV.len (fun _ _ _ _ _ _ us hl => match us, hl with | [_, _, _], _ => rfl) fun cdv A outer s H vs Q E hr h => by
    skip
    refine ⟨_, (pss_cons (ps_asg (pe_ix (ix_listK K rfl) (pv 0) (pv 1) (fun _ _ => rfl)) (pg_tupK K 2 rfl rfl (pgs_cons (pg_name (i := 4) sc_law_edge.nd rfl (Or.inl rfl)) (pgs_cons (pg_name (i := 5) sc_law_edge.nd rfl (Or.inl rfl)) pgs_nil)) rfl rfl))
      (pss_cons (ps_set (i := 3) sc_law_edge.nd rfl (Or.inl rfl) (pe_ifExp (pt_cmpR op_lt (pe_op op_add (pv 1) pe_int) (pe_callB (call_len_seqK K rfl) (by rfl) T.n_len b_len (pa_cons (pv 0) pa_nil)) (nomark _)) (pe_ix (ix_tupK K rfl) (pe_ix (ix_listK K rfl) (pv 0) (pe_op op_add (pv 1) pe_int) (fun _ _ => rfl)) pe_int (fun _ _ => rfl)) (pv 4)))
      (pss_one (ps_ret (pe_ifExp (PW.pt (pw_or (pt_cmpR op_isN (pv 5) pe_non (nomark _)) (pw_or1 (pt_cmpR op_lt (pv 2) (pv 5) (nomark _))))) pe_int (pe_op op_mul (pe_op op_fdiv (pe_op op_sub (pv 2) (pv 5)) (pv 3)) (pv 3))))))), ?_⟩
    obtain ⟨hl, _, ⟨N, rs, g, c, hv, ok, hg, rfl⟩, q⟩ := h
    simp only [DAs, DA.eq_3] at hv
    obtain ⟨v, _, rfl, hd, _, _, rfl, rfl, _, _, rfl, rfl, rfl⟩ := hv
    have hst := ok.step g
    refine q_asgT2 (ev_rdIx (ed_var rfl hd) (ev_var rfl) hg) (fun v H1 _ h => rd_tup h) fun H1 e1 => ?_
    obtain ⟨a, xs, rfl, hn, ha, hx⟩ := hd.lst
    have hlen : xs.length = rs.length := by rw [hx.length, List.length_map]
    refine q_asg (v := .int (stepOf rs g)) (ev_if (b := decide ((g : Int) + 1 < (rs.length : Int))) (et_is (et_test (ev_op (ev_op (ev_var rfl) ev_c rv_I0) (ev_lenD (ev_var rfl) (.inl (e1 _ _ ha))) rv_I0)) (by rw [hlen])) (fun hb => ?_) (fun hb => ?_)) fun H2 e2 => ?_
    · have hb' : (g : Int) + 1 < (rs.length : Int) := of_decide_eq_true hb
      have e : stepOf rs g = (gr rs (g + 1)).1 := by
        unfold stepOf
        rw [show min (g + 1) (rs.length - 1) = g + 1 by omega]
      rw [e]
      exact ev_rdLen (ed_var rfl (hd.ex e1)) (ev_is (ev_op (ev_var rfl) ev_c rv_I0) (by simp)) (by omega)
    · have hb' : ¬ (g : Int) + 1 < (rs.length : Int) := of_decide_eq_false hb
      have e : stepOf rs g = (gr rs g).1 := by
        unfold stepOf
        rw [show min (g + 1) (rs.length - 1) = g by omega]
      rw [e]
      exact ev_var rfl
    have hk : edgeOf rs g c = (match (gr rs g).2 with | none => 0 | some k => if k > c then 0 else (c - k) / stepOf rs g * stepOf rs g) := rfl
    have e12 := e1.trans e2
    cases hk2 : (gr rs g).2 with
    | none =>
      rw [hk2] at hk
      rw [hk] at q
      exact s_ret (ev_if (b := true) (et_is (et_or (a := true) (b := true) (et_test (ev_op (ev_var rfl) ev_c (rv_isO (o := none)))) (fun c => by cases c)) rfl) (fun _ => ev_c) (fun c => by cases c)) fun H3 e3 => q H3 (e12.trans e3)
    | some k =>
      rw [hk2] at hk
      have hk' : edgeOf rs g c = if k > c then 0 else (c - k) / stepOf rs g * stepOf rs g := hk
      rw [hk'] at q
      refine s_ret (ev_if (b := decide (k > c)) (et_is (et_or (a := false) (et_test (ev_op (ev_var rfl) ev_c (rv_isO (o := some k)))) fun _ => et_test (ev_op (ev_var rfl) (ev_var rfl) rv_I0)) (by simp)) (fun hb => ev_is ev_c ?_) (fun hb => ev_is (ev_op (ev_op (ev_op (ev_var rfl) (ev_var rfl) rv_I0) (ev_var rfl) (rv_I ⟨by omega, by omega⟩)) (ev_var rfl) (rv_I (.inr ⟨by omega, by omega⟩))) ?_)) fun H3 e3 => q H3 (e12.trans e3)
      · rw [if_pos (of_decide_eq_true hb)]
      · rw [if_neg (of_decide_eq_false hb)]
end

def natD (l : List Nat) : List PyData := l.map fun g => .int ((g : Nat) : Int)
theorem gvn_pick (l : List Nat) (f : Nat → Bool) : gvn l.length (fun i => f (l.getD i 0)) (fun i => .int (((l.getD i 0 : Nat)) : Int)) = natD (l.filter f) := by
  unfold gvn natD
  have e : l = (List.range l.length).map (fun i => l.getD i 0) := List.ext_getElem (by simp) fun i h1 h2 => by simp [List.getD_eq_getElem?_getD, h1]
  conv => rhs; rw [e]
  rw [List.filter_map, List.map_map] <;> rfl
theorem natD_at {l : List Nat} {i : Nat} {d : PyData} (h : (natD l)[i]? = some d) : ∃ g, l[i]? = some g ∧ d = .int ((g : Nat) : Int) := by
  unfold natD at h
  rw [List.getElem?_map] at h
  obtain ⟨g, h1, h2⟩ := Option.map_eq_some_iff.mp h
  exact ⟨g, h1, h2.symm⟩
theorem shaped_nat (l : List Nat) : SeqAt.shaped (.list (natD l)) = true := by
  unfold SeqAt.shaped natD
  rw [Bool.and_eq_true, decide_eq_true_eq]
  refine ⟨?_, ?_⟩
  · simp only [PyData.canLay0]
    exact lay_all (fun x => by simp [PyData.canLay0]) l
  · simp only [PyData.depth]
    have := depth_all (f := fun g : Nat => PyData.int (g : Int)) (k := 0) (fun x => by simp [PyData.depth]) l
    omega
/-- xs != [] and xs == [] of data -/
theorem et_neD {K : PySem.W.Frag} {N : Addr → Prop} {σ : L2.St} {H : Hp} {te : TE} {ds : List PyData} (h : EvD N te σ H (.list ds)) (hs : SeqAt.shaped (.list ds) = true) : EvT (tTest (tOp (rNeD K) te (tLst tNil))) σ H (!PyData.eqv (.list ds) (.list [])) := fun H1 e1 Q k => h H1 e1 _ fun v H2 e2 hd => ⟨by decide, fun p hp => ⟨_, _, DA.dp _ _ (hd.ex (Ex.new hp)), .lst (xs := []) (.inl (.inl upd_same)) .nil, hs, by decide, _, rfl, k _ (e2.trans (Ex.new hp))⟩⟩
theorem et_eqD {K : PySem.W.Frag} {N : Addr → Prop} {σ : L2.St} {H : Hp} {te : TE} {ds : List PyData} (h : EvD N te σ H (.list ds)) (hs : SeqAt.shaped (.list ds) = true) : EvT (tTest (tOp (rEqD K) te (tLst tNil))) σ H (PyData.eqv (.list ds) (.list [])) := fun H1 e1 Q k => h H1 e1 _ fun v H2 e2 hd => ⟨by decide, fun p hp => ⟨_, _, DA.dp _ _ (hd.ex (Ex.new hp)), .lst (xs := []) (.inl (.inl upd_same)) .nil, hs, by decide, _, rfl, k _ (e2.trans (Ex.new hp))⟩⟩
theorem eqv_nil {d : PyData} {ds : List PyData} : PyData.eqv (.list (d :: ds)) (.list []) = false := by simp [PyData.eqv, PyData.eqvAll]
theorem eqv_nil0 : PyData.eqv (.list []) (.list []) = true := by simp [PyData.eqv, PyData.eqvAll]

section
variable {P : Program} {w : World} {K : PySem.W.Frag} {mg : Str → Option Value} {base : Heap}
theorem sc_law_gone : FnScope ["_law_rules_here", "_law_clock", "_law_low", "_law_unit", "_law_fits", "_law_stand", "_law_k"] ["_law_rules_here", "_law_clock", "_law_low", "_law_unit"] (defScope s__law_gone) := ⟨rfl, rfl, rfl, by decide +kernel, rfl, by decide +kernel, by decide +kernel⟩
theorem c_law_gone (T : Fx K mg) : C8.Cal P w K mg base 2 "_law_gone" (SV 4 fun vs H z => ∃ N rs c low unit, DAs N H [.list (rs.map rd), .int c, .int low, .int unit] vs ∧ OkRs rs ∧ z = optV ((goneOf rs low unit c).map fun g => ((g : Nat) : Int))) [] :=
  cal_of T.d__law_gone sc_law_gone SV.len (fun _ _ _ _ _ _ us hl => match us, hl with | [_, _, _, _], _ => rfl) fun cdv A outer s H vs Q E hr h => by
    have c_law_edge := c_law_edge (P := P) (w := w) (base := base) T
    refine ⟨_, (pss_cons (ps_setLc (i := 4) rfl sc_law_gone.nd rfl rfl (sw_true rfl rfl rfl (by decide +kernel)) (pi_range1 (by rfl) T.n_range (pa_cons (pe_callB (call_len_seqK K rfl) (by rfl) T.n_len b_len (pa_cons (pv 0) pa_nil)) pa_nil)) (blkOk_by (own := [("_law_k", 6)]) (by show blkC ["_law_rules_here", "_law_clock", "_law_low", "_law_unit", "_law_fits", "_law_stand", "_law_k"] (defScope s__law_gone) _ _ = true; decide +kernel)) (fun _ _ _ _ _ => (pg_name (i := 6) sc_law_gone.nd rfl (Or.inl rfl))) (fun _ _ _ _ _ => (pts_one (PW.pt (pw_and (pt_cmpR op_eq (pe_op op_mod (pe_callTy call_int1 (by rfl) T.n_int b_int (pa_cons (pv 2) pa_nil)) (pe_ix (ix_tupK K rfl) (pe_ix (ix_listK K rfl) (pv 0) (pv 6) (fun _ _ => rfl)) pe_int (fun _ _ => rfl))) pe_int (nomark _)) (pw_and1 (pt_cmpR op_eq (pe_op op_mod (pe_callTy call_int1 (by rfl) T.n_int b_int (pa_cons (pv 3) pa_nil)) (pe_ix (ix_tupK K rfl) (pe_ix (ix_listK K rfl) (pv 0) (pv 6) (fun _ _ => rfl)) pe_int (fun _ _ => rfl))) pe_int (nomark _))))))) (fun _ _ _ _ _ => (pv 6)))
      (pss_cons (ps_setLc (i := 5) rfl sc_law_gone.nd rfl rfl (sw_true rfl rfl rfl (by decide +kernel)) (pi_listK K rfl (pv 4)) (blkOk_by (own := [("_law_k", 6)]) (by show blkC ["_law_rules_here", "_law_clock", "_law_low", "_law_unit", "_law_fits", "_law_stand", "_law_k"] (defScope s__law_gone) _ _ = true; decide +kernel)) (fun _ _ _ _ _ => (pg_name (i := 6) sc_law_gone.nd rfl (Or.inl rfl))) (fun _ _ _ _ _ => (pts_one (pt_cmpR op_ge (pv 2) (pe_c c_law_edge hr (by decide) (by rfl) (pa_cons (pv 0) (pa_cons (pv 6) (pa_cons (pv 1) pa_nil)))) (nomark _)))) (fun _ _ _ _ _ => (pv 6)))
      (pss_one (ps_ret (pe_ifExp (pt_cmpR (op_neD (hu64 hr)) (pv 5) (pe_lst pa_nil) (nomark _)) pe_non (pe_ix (ix_listK K rfl) (pv 4) (pe_un un_neg pe_int) (fun _ _ => rfl))))))), ?_⟩
    obtain ⟨hl, _, ⟨N, rs, c, low, unit, hv, ok, rfl⟩, q⟩ := h
    simp only [DAs, DA.eq_3] at hv
    obtain ⟨v, _, rfl, hd, _, _, rfl, rfl, _, _, rfl, rfl, _, _, rfl, rfl, rfl⟩ := hv
    obtain ⟨a, xs, rfl, hn, ha, hx⟩ := hd.lst
    have hlen : xs.length = rs.length := by rw [hx.length, List.length_map]
    have l4 := ok.l4
    refine q_asgD (N := TD) (d := .list (natD (fits rs low unit))) (ed_is (ed_lc fr_TD (fitB rs low unit) (fun i => .int ((i : Nat) : Int)) (ew_rng1 (n := (rs.length : Int)) (ea_cons (ev_is (ev_lenD (ev_var rfl) (.inl ha)) (by rw [hlen])) ea_nil) (by omega)) (by omega) fun N' i x H1 e1 fr _ hi hx2 => ?_) rfl) fun v1 H1 e1 hd1 => ?_
    · subst hx2
      have hi' : i < rs.length := by omega
      have hp := ok.pos hi'
      have r0 : ∀ {σ : L2.St} {tb : TE}, σ[0]? = some (some (V.ref a)) → Ev tb σ H1 (.int (i : Int)) → Ev (tOp (rIxT K) (tOp (rIxL K) (tVar 0) tb) (tC (.int 0))) σ H1 (.int (gr rs i).1) := fun h1 h2 => ev_rdLen (ed_var h1 (hd.ex e1)) h2 hi'
      refine ⟨_, fun Q q => q, rfl, et_and (et_test (ev_op (ev_op (ev_cb (ea_cons (ev_var rfl) ea_nil) rc_int1) (r0 rfl (ev_var rfl)) (rv_I (by omega))) ev_c rv_eqI)) fun _ => et_test (ev_op (ev_op (ev_cb (ea_cons (ev_var rfl) ea_nil) rc_int1) (r0 rfl (ev_var rfl)) (rv_I (by omega))) ev_c rv_eqI), fun _ => ed_int (ev_var rfl)⟩
    refine q_asgD (N := TD) (d := .list (natD ((fits rs low unit).filter fun g => decide (edgeOf rs g c ≤ low)))) (ed_is (ed_lc fr_TD (fun i => decide (edgeOf rs ((fits rs low unit).getD i 0) c ≤ low)) (fun i => .int (((fits rs low unit).getD i 0 : Nat) : Int)) (ew_lst (ed_var rfl hd1)) ?_ fun N' i x H2 e2 fr _ hi hx2 => ?_) ?_) fun v2 H2 e2 hd2 => ?_
    · unfold natD
      rw [List.length_map]
      have := fits_len (rs := rs) low unit
      omega
    · obtain ⟨d, hd3, hdx⟩ := hx2
      obtain ⟨g, hg, rfl⟩ := natD_at hd3
      simp only [DA] at hdx
      subst hdx
      have hgl := fits_lt (List.mem_of_getElem? hg)
      rw [List.getD_eq_getElem?_getD, hg]
      refine ⟨_, fun Q q => q, rfl, et_test (ev_op (ev_var rfl) (ev_callVD (ds := [.list (rs.map rd), .int ((g : Nat) : Int), .int c]) (eds_cons (ed_var rfl (hd.ex (e1.trans e2))) (eds_cons (ed_int (ev_var rfl)) (eds_cons (ed_int (ev_var rfl)) eds_nil))) rfl fun vs H3 e3 hvs => ⟨_, rs, g, c, hvs, ok, hgl, rfl⟩) rv_I0), fun _ => ed_int (ev_var rfl)⟩
    · have : (natD (fits rs low unit)).length = (fits rs low unit).length := by
        unfold natD
        rw [List.length_map]
      rw [this]
      exact congrArg PyData.list (gvn_pick (fits rs low unit) (fun g => decide (edgeOf rs g c ≤ low)))
    have hgo : goneOf rs low unit c = if (fits rs low unit).any (fun g => decide (edgeOf rs g c ≤ low)) then none else (fits rs low unit).getLast? := rfl
    have hle : (fits rs low unit).any (fun g => decide (edgeOf rs g c ≤ low)) = !decide (((fits rs low unit).filter fun g => decide (edgeOf rs g c ≤ low)) = []) := by
      rw [Bool.eq_iff_iff]
      simp [List.filter_eq_nil_iff]
    refine s_ret (ev_if (b := (fits rs low unit).any (fun g => decide (edgeOf rs g c ≤ low))) (et_is (et_neD (ed_var rfl hd2) (shaped_nat _)) ?_) (fun hb => ?_) (fun hb => ?_)) fun H3 e3 => q H3 ((e1.trans e2).trans e3)
    · rw [hle]
      cases (fits rs low unit).filter fun g => decide (edgeOf rs g c ≤ low) with
      | nil => simp [natD, eqv_nil0]
      | cons g l => simp [natD, eqv_nil]
    · rw [hgo, if_pos hb]
      exact ev_c
    · rw [hgo, if_neg (by rw [hb]; exact Bool.false_ne_true)]
      have hl := List.getLast?_eq_some_getLast (fits_ne ok low unit)
      rw [hl]
      have hat : L2.atI (natD (fits rs low unit)) (-1) = some (.int (((fits rs low unit).getLast (fits_ne ok low unit) : Nat) : Int)) := by
        have hlen : 0 < (fits rs low unit).length := List.length_pos_iff.mpr (fits_ne ok low unit)
        unfold L2.atI ixN natD
        rw [if_neg (by decide), List.length_map, if_pos (by omega)]
        show ((fits rs low unit).map _)[((-1 : Int) + ((fits rs low unit).length : Int)).toNat]? = _
        rw [show ((-1 : Int) + ((fits rs low unit).length : Int)).toNat = (fits rs low unit).length - 1 by omega, List.getElem?_map, ← List.getLast?_eq_getElem?, hl] <;> rfl
      exact dv_int (ed_ixL (ed_var rfl (hd1.ex e2)) (ev_un ev_c ru_neg) hat)
end

def joinF : Option Fd → Option Fd → Option Fd
  | none, b => b
  | some a, none => some a
  | some a, some b => some ⟨a.n + b.n, a.s + b.s, if b.mn < a.mn then b.mn else a.mn, if b.mx > a.mx then b.mx else a.mx, a.fi, b.la⟩
theorem fd_nonV {N : Addr → Prop} {H : Hp} {f : Option Fd} {v : V} (h : DA N H (fdD f) v) : decide (v = .non) = f.isNone := by
  cases f with
  | none =>
    simp only [fdD, DA] at h
    rw [h]
    rfl
  | some f =>
    obtain ⟨a, xs, rfl, _⟩ := DA.tup h
    simp
/-- `is None` of a fold -/
theorem et_fdN {N : Addr → Prop} {σ : L2.St} {H : Hp} {i : Nat} {f : Option Fd} {v : V} (hi : σ[i]? = some (some v)) (h : DA N H (fdD f) v) : EvT (tTest (tOp (fun x y H Q => y = .non ∧ Q (.bl (decide (x = .non))) H) (tVar i) (tC .non))) σ H f.isNone := fun H1 e1 Q k => ⟨v, hi, rfl, _, rfl, by
  rw [fd_nonV h]
  exact k H1 (Ex.refl H1)⟩
def fdL (f : Fd) : List PyData := [.int f.n, .int f.s, .int f.mn, .int f.mx, pn f.fi, pn f.la]

section
variable {P : Program} {w : World} {K : PySem.W.Frag} {mg : Str → Option Value} {base : Heap}
theorem sc_law_joined : FnScope ["_law_one", "_law_other"] ["_law_one", "_law_other"] (defScope s__law_joined) := ⟨rfl, rfl, rfl, by decide +kernel, rfl, by decide +kernel, by decide +kernel⟩
theorem c_law_joined (T : Fx K mg) : C8.Cal P w K mg base 1 "_law_joined" (SD 2 fun vs H d => ∃ N f g, DAs N H [fdD f, fdD g] vs ∧ d = fdD (joinF f g)) [] :=
  cal_of T.d__law_joined sc_law_joined SD.len (fun _ _ _ _ _ _ us hl => match us, hl with | [_, _], _ => rfl) fun cdv A outer s H vs Q E hr h => by
    skip
    refine ⟨_, (pss_cons (ps_if (PW.pt (pw_or (pt_cmpR op_isN (pv 0) pe_non (nomark _)) (pw_or1 (pt_cmpR op_isN (pv 1) pe_non (nomark _))))) (pss_one (ps_ret (pe_ifExp (pt_cmpR op_isN (pv 0) pe_non (nomark _)) (pv 1) (pv 0)))) pss_nil)
      (pss_one (ps_ret (pe_tup (pa_cons (pe_op op_add (pe_ix (ix_tupK K rfl) (pv 0) pe_int (fun _ _ => rfl)) (pe_ix (ix_tupK K rfl) (pv 1) pe_int (fun _ _ => rfl))) (pa_cons (pe_op op_add (pe_ix (ix_tupK K rfl) (pv 0) pe_int (fun _ _ => rfl)) (pe_ix (ix_tupK K rfl) (pv 1) pe_int (fun _ _ => rfl))) (pa_cons (pe_callB (call_min2 rfl) (by rfl) T.n_min b_min (pa_cons (pe_ix (ix_tupK K rfl) (pv 0) pe_int (fun _ _ => rfl)) (pa_cons (pe_ix (ix_tupK K rfl) (pv 1) pe_int (fun _ _ => rfl)) pa_nil))) (pa_cons (pe_callB (call_max2 rfl) (by rfl) T.n_max b_max (pa_cons (pe_ix (ix_tupK K rfl) (pv 0) pe_int (fun _ _ => rfl)) (pa_cons (pe_ix (ix_tupK K rfl) (pv 1) pe_int (fun _ _ => rfl)) pa_nil))) (pa_cons (pe_ix (ix_tupK K rfl) (pv 0) pe_int (fun _ _ => rfl)) (pa_cons (pe_ix (ix_tupK K rfl) (pv 1) pe_int (fun _ _ => rfl)) pa_nil)))))))))), ?_⟩
    obtain ⟨hl, _, ⟨N, f, g, hv, rfl⟩, q⟩ := h
    simp only [DAs] at hv
    obtain ⟨v, _, rfl, hf, u, _, rfl, hg, rfl⟩ := hv
    refine q_when (b := (f.isNone || g.isNone)) (et_or (et_fdN rfl hf) fun _ => et_fdN rfl hg) (fun hb H1 e1 => ?_) (fun hb H1 e1 => ?_)
    · refine s_retD (N := FrN H) (d := fdD (joinF f g)) (ed_if (et_fdN rfl (hf.ex e1)) (fun hb => ?_) (fun hb => ?_)) fun v H2 e2 hd => q v H2 (e1.trans e2) hd
      · cases f with
        | none => exact ed_var rfl (fd_any (hg.ex e1))
        | some f => cases hb
      · cases f with
        | none => cases hb
        | some f =>
          cases g with
          | none => exact ed_var rfl (fd_any (hf.ex e1))
          | some g => cases hb
    cases f with
    | none => cases hb
    | some f =>
      cases g with
      | none => cases hb
      | some g =>
        have hf1 : DA TD H1 (.tuple (fdL f)) v := fd_any (f := some f) (hf.ex e1)
        have hg1 : DA TD H1 (.tuple (fdL g)) u := fd_any (f := some g) (hg.ex e1)
        have pI : ∀ (p : Int × Int), EvD TD (tOp (rIxT K) (tVar 0) (tC (.int 4))) (start ["_law_one", "_law_other"] [v, u]) H1 (pn f.fi) := fun _ => ed_ixT (ed_var rfl hf1) ev_c rfl
        refine s_retD (N := TD) (d := fdD (joinF (some f) (some g))) ?_ fun v H2 e2 hd => q v H2 (e1.trans e2) (fd_any hd)
        unfold joinF fdD
        exact ed_tup (eds_cons (ed_int (ev_op (dv_int (ed_ixT (ed_var rfl hf1) ev_c rfl)) (dv_int (ed_ixT (ed_var rfl hg1) ev_c rfl)) rv_I0)) (eds_cons (ed_int (ev_op (dv_int (ed_ixT (ed_var rfl hf1) ev_c rfl)) (dv_int (ed_ixT (ed_var rfl hg1) ev_c rfl)) rv_I0))
          (eds_cons (ed_int (ev_cb (ea_cons (dv_int (ed_ixT (ed_var rfl hf1) ev_c rfl)) (ea_cons (dv_int (ed_ixT (ed_var rfl hg1) ev_c rfl)) ea_nil)) rc_min2)) (eds_cons (ed_int (ev_cb (ea_cons (dv_int (ed_ixT (ed_var rfl hf1) ev_c rfl)) (ea_cons (dv_int (ed_ixT (ed_var rfl hg1) ev_c rfl)) ea_nil)) rc_max2))
          (eds_cons (ed_ixT (ed_var rfl hf1) ev_c rfl) (eds_cons (ed_ixT (ed_var rfl hg1) ev_c rfl) eds_nil)))))) (by simp)
end

theorem das_intsI {N : Addr → Prop} {H : Hp} : ∀ zs : List Int, DAs N H (zs.map .int) (zs.map V.int)
  | [] => by simp only [List.map_nil, DAs]
  | z :: zs => by
    simp only [List.map_cons, DAs, DA]
    exact ⟨_, _, rfl, rfl, das_intsI zs⟩
def rSortedDIK : List V → Hp → VK → Prop := fun xs H Q => ∃ (a : Addr) (kvs : List (Key × V)) (ks : List Int), xs = [.ref a] ∧ Rd H a (.dK kvs) ∧ kvs.map (·.1) = ks.map Sum.inl ∧ ks.length < 64 ∧
    ∀ (ns : List Int) p, ns.Perm ks → ns.Pairwise (· ≤ ·) → H p = none → Q (.ref p) (upd H p (.lst (ns.map V.int)))
theorem shaped_pn (l : List (Int × Int)) : SeqAt.shaped (.list (l.map pn)) = true := by
  unfold SeqAt.shaped
  rw [Bool.and_eq_true, decide_eq_true_eq]
  refine ⟨?_, ?_⟩
  · show PyData.canLay0 (.list (l.map pn)) = true
    simp only [PyData.canLay0]
    exact lay_all (fun x => by simp [pn, PyData.canLay0, PyData.canLayAll0]) l
  · show PyData.depth (.list (l.map pn)) ≤ 64
    simp only [PyData.depth]
    have := depth_all (f := pn) (k := 1) (fun x => by simp [pn, PyData.depth, PyData.depthAll]) l
    omega
/-- the row sorted by time -/
def srt (l : List (Int × Int)) : List (Int × Int) := l.mergeSort (PySem.W.dataLe false pn)
theorem srt_filter {l : List (Int × Int)} (nd : NdK l) (lo hi : Int) {s : List (Int × Int)} (hp : s.Perm l) (ha : Asc s) : s.filter (inB lo hi) = between l lo hi :=
  asc_unique (List.Pairwise.filter _ ha) (between_asc nd lo hi) ((hp.filter _).trans (between_perm l lo hi).symm)
theorem row_val0 {l : List (Int × Int)} (nd : NdK l) {t : Int} (ht : t ∈ l.map (·.1)) : ∃ v, valV (rowK l) (Sum.inl t : Key) = some (.int v) ∧ (t, v) ∈ l := by
  obtain ⟨p, hp, rfl⟩ := List.mem_map.mp ht
  obtain ⟨i, hi, he⟩ := List.getElem_of_mem hp
  exact ⟨p.2, val_row nd (by rw [List.getElem?_eq_getElem hi, he]), hp⟩
theorem srt_perm (l : List (Int × Int)) : (srt l).Perm l := List.mergeSort_perm _ _
theorem srt_asc {l : List (Int × Int)} (nd : NdK l) : Asc (srt l) := by
  have tot := PySem.W.sortLe_total (PyProof.Rows.listOrd PyProof.Rows.itemOrd) false (fun b : Int × Int => PySem.W.keyToks (pn b))
  have hs : (srt l).Pairwise (fun a b => PySem.W.dataLe false pn a b = true) := List.pairwise_mergeSort (fun a b c => tot.trans a b c) (fun a b => by
    have := tot.total a b
    simpa using this) _
  have hn : NdK (srt l) := (List.Perm.nodup_iff (List.Perm.map (fun p : Int × Int => p.1) (srt_perm l))).mpr nd
  have hn' : (srt l).Pairwise (fun a b => a.1 ≠ b.1) := List.pairwise_map.mp hn
  exact (hs.and hn').imp fun {a b} h => by
    have := le_pn h.1
    have := h.2
    omega
/-- the times, sorted -/
theorem sorted_row {l : List (Int × Int)} (nd : NdK l) {ns : List Int} (hp : ns.Perm (l.map (·.1))) (hs : ns.Pairwise (· ≤ ·)) : (srt l).map (·.1) = ns := by
  have hnd : ns.Nodup := hp.nodup_iff.mpr nd
  have a1 : Asc (ns.map fun t => (t, (0 : Int))) := by
    refine List.pairwise_map.mpr ((hs.and hnd).imp fun {a b} h => ?_)
    have := h.1
    have := h.2
    show a < b
    omega
  have a2 : Asc ((srt l).map fun p => (p.1, (0 : Int))) := List.pairwise_map.mpr (srt_asc nd)
  have hpp : (ns.map fun t => (t, (0 : Int))).Perm ((srt l).map fun p => (p.1, (0 : Int))) := by
    have h1 : ((srt l).map (·.1)).Perm (l.map (·.1)) := (srt_perm l).map _
    have h2 := (hp.trans h1.symm).map fun t => (t, (0 : Int))
    rw [List.map_map] at h2
    exact h2
  have e := congrArg (List.map (·.1)) (asc_unique a1 a2 hpp)
  rw [List.map_map, List.map_map] at e
  have e1 : ns.map ((fun p : Int × Int => p.1) ∘ fun t => (t, (0 : Int))) = ns := by
    show ns.map (fun t => t) = ns
    exact List.map_id' ns
  rw [e1] at e
  exact e.symm
theorem srt_between {l : List (Int × Int)} (nd : NdK l) (lo hi : Int) : (srt l).filter (inB lo hi) = between l lo hi := srt_filter nd lo hi (srt_perm l) (srt_asc nd)
theorem between_fold (l : List (Int × Int)) (lo hi : Int) : foldW l lo hi = foldL (between l lo hi) := rfl

section
variable {P : Program} {w : World} {K : PySem.W.Frag} {mg : Str → Option Value} {base : Heap}
theorem sc_law_fold : FnScope ["_law_row", "_law_low", "_law_high", "_law_points", "_law_values", "_law_time", "_law_value"] ["_law_row", "_law_low", "_law_high"] (defScope s__law_fold) := ⟨rfl, rfl, rfl, by decide +kernel, rfl, by decide +kernel, by decide +kernel⟩
theorem c_law_fold (T : Fx K mg) : C8.Cal P w K mg base 1 "_law_fold" (SD 3 fun vs H d => ∃ a l lo hi, vs = [.ref a, .int lo, .int hi] ∧ H a = some (.dK (rowK l)) ∧ NdK l ∧ l.length < 64 ∧ d = fdD (foldW l lo hi)) [] :=
  cal_of T.d__law_fold sc_law_fold SD.len (fun _ _ _ _ _ _ us hl => match us, hl with | [_, _, _], _ => rfl) fun cdv A outer s H vs Q E hr h => by
    skip
    refine ⟨_, (pss_cons (ps_setLc (i := 3) rfl sc_law_fold.nd rfl rfl (sw_true rfl rfl rfl (by decide +kernel)) (pi_listK K rfl (pe_callB (call_sortedDI rfl) (by rfl) T.n_sorted b_sorted (pa_cons (pv 0) pa_nil))) (blkOk_by (own := [("_law_time", 5)]) (by show blkC ["_law_row", "_law_low", "_law_high", "_law_points", "_law_values", "_law_time", "_law_value"] (defScope s__law_fold) _ _ = true; decide +kernel)) (fun _ _ _ _ _ => (pg_name (i := 5) sc_law_fold.nd rfl (Or.inl rfl))) (fun _ _ _ _ _ => (pts_one (pt_chain op_le op_lt (pv 1) (pv 5) (pv 2)))) (fun _ _ _ _ _ => (pe_tup (pa_cons (pv 5) (pa_cons (pe_dget (hu_of hr) (pv 0) (pv 5) (fun _ _ => rfl)) pa_nil)))))
      (pss_cons (ps_if (pt_cmpR (op_eqD (hu64 hr)) (pv 3) (pe_lst pa_nil) (nomark _)) (pss_one (ps_ret pe_non)) pss_nil)
      (pss_cons (ps_setLc (i := 4) rfl sc_law_fold.nd rfl rfl (sw_true rfl rfl rfl (by decide +kernel)) (pi_listK K rfl (pv 3)) (blkOk_by (own := [("_law_time", 5), ("_law_value", 6)]) (by show blkC ["_law_row", "_law_low", "_law_high", "_law_points", "_law_values", "_law_time", "_law_value"] (defScope s__law_fold) _ _ = true; decide +kernel)) (fun _ _ _ _ _ => (pg_tupK K 2 rfl rfl (pgs_cons (pg_name (i := 5) sc_law_fold.nd rfl (Or.inl rfl)) (pgs_cons (pg_name (i := 6) sc_law_fold.nd rfl (Or.inl rfl)) pgs_nil)) rfl rfl)) (fun _ _ _ _ _ => pts_nil) (fun _ _ _ _ _ => (pv 6)))
      (pss_one (ps_ret (pe_tup (pa_cons (pe_callB (call_len_seqK K rfl) (by rfl) T.n_len b_len (pa_cons (pv 3) pa_nil)) (pa_cons (pe_callB (cr_sum rfl) (by rfl) T.n_sum b_sum (pa_cons (pv 4) pa_nil)) (pa_cons (pe_callB (cr_min rfl) (by rfl) T.n_min b_min (pa_cons (pv 4) pa_nil)) (pa_cons (pe_callB (cr_max rfl) (by rfl) T.n_max b_max (pa_cons (pv 4) pa_nil)) (pa_cons (pe_ix (ix_listK K rfl) (pv 3) pe_int (fun _ _ => rfl)) (pa_cons (pe_ix (ix_listK K rfl) (pv 3) (pe_un un_neg pe_int) (fun _ _ => rfl)) pa_nil)))))))))))), ?_⟩
    obtain ⟨hl, _, ⟨a, l, lo, hi, rfl, ha, nd, hz, rfl⟩, q⟩ := h
    have hsl : (srt l).length = l.length := (srt_perm l).length_eq
    have hk : (rowK l).map (·.1) = (l.map (·.1)).map Sum.inl := by
      unfold rowK
      rw [List.map_map, List.map_map] <;> rfl
    have hsort : EvD TD (tCB rSortedDIK (tCons (tVar 0) tNil)) (start ["_law_row", "_law_low", "_law_high", "_law_points", "_law_values", "_law_time", "_law_value"] [.ref a, .int lo, .int hi]) H (.list ((srt l).map fun p => .int p.1)) := fun H1 e1 Q k => ⟨_, rfl, a, rowK l, l.map (·.1), rfl, .inl (e1 _ _ ha), hk, by rw [List.length_map]; exact hz, fun ns p hp hs hpn => k _ _ (Ex.new hpn) (by
      have e := sorted_row nd hp hs
      subst e
      simp only [DA]
      refine ⟨p, _, rfl, True.intro, upd_same, ?_⟩
      have e2 : ((srt l).map fun p => PyData.int p.1) = ((srt l).map (·.1)).map .int := by rw [List.map_map] <;> rfl
      rw [e2]
      exact das_intsI _)⟩
    refine q_asgD (N := TD) (d := .list ((between l lo hi).map pn)) (ed_is (ed_lc fr_TD (fun i => inB lo hi ((srt l).getD i (0, 0))) (fun i => pn ((srt l).getD i (0, 0))) (ew_lst hsort) (by rw [List.length_map]; omega) fun N' i x H1 e1 fr _ hi hx => ?_) ?_) fun v1 H1 e1 hd1 => ?_
    · obtain ⟨d, hd, hdx⟩ := hx
      rw [List.getElem?_map] at hd
      obtain ⟨p, hp, rfl⟩ := Option.map_eq_some_iff.mp hd
      simp only [DA] at hdx
      subst hdx
      have hmem : p ∈ l := (srt_perm l).mem_iff.mp (List.mem_of_getElem? hp)
      obtain ⟨j, hj, hje⟩ := List.getElem_of_mem hmem
      rw [List.getD_eq_getElem?_getD, hp]
      exact ⟨_, fun Q q => q, rfl, et_test (ev_chain (ev_var rfl) (ev_var rfl) rv_I0 (fun _ => ev_var rfl) (fun _ => rv_I0)), fun _ => ed_tup (eds_cons (ed_int (ev_var rfl)) (eds_cons (ed_int (ev_dget (k := (Sum.inl p.1 : Key)) (ev_var rfl) (ev_var rfl) (.inl (e1 _ _ ha)) (val_row nd (i := j) (by rw [List.getElem?_eq_getElem hj, hje])))) eds_nil)) (by simp)⟩
    · rw [List.length_map, gvn_filter, srt_between nd]
    have hb : ∀ {H'}, Ex H1 H' → DA TD H' (.list ((between l lo hi).map pn)) v1 := fun e => hd1.ex e
    cases hbt : between l lo hi with
    | nil =>
      refine q_when (b := true) (et_is (et_eqD (ed_var rfl (hb (Ex.refl H1))) (shaped_pn _)) (by rw [hbt]; exact eqv_nil0)) (fun _ H2 e2 => s_ret ev_c fun H3 e3 => q _ H3 ((e1.trans e2).trans e3) (by rw [between_fold, hbt]; simp only [foldL, fdD, DA])) (fun c => by cases c)
    | cons p r =>
      refine q_when (b := false) (et_is (et_eqD (ed_var rfl (hb (Ex.refl H1))) (shaped_pn _)) (by rw [hbt]; exact eqv_nil)) (fun c => by cases c) (fun _ H2 e2 => ?_)
      rw [hbt] at hb
      obtain ⟨f, hf, ok⟩ := foldL_ok p r
      have hz2 : (p :: r).length ≤ 1000 := by
        rw [← hbt]
        have := between_len l lo hi
        omega
      refine q_asgD (N := TD) (d := .list (((p :: r).map (·.2)).map .int)) (ed_is (ed_lc fr_TD (fun _ => true) (fun i => .int ((p :: r).getD i (0, 0)).2) (ew_lst (ed_var rfl (hb e2))) (by rw [List.length_map]; omega) fun N' i x H4 e4 fr _ hi hx => ?_) ?_) fun v4 H4 e4 hd4 => ?_
      · obtain ⟨d, hd, hdx⟩ := hx
        rw [List.getElem?_map] at hd
        obtain ⟨q', hq, rfl⟩ := Option.map_eq_some_iff.mp hd
        obtain ⟨M, zs, rfl, hM, hzs⟩ := DA.tup (ds := [.int q'.1, .int q'.2]) hdx
        simp only [DAs, DA] at hzs
        obtain ⟨_, _, rfl, rfl, _, _, rfl, rfl, rfl⟩ := hzs
        refine ⟨_, fun Q q => g_tup2 (st_of hM) q, rfl, et_yes, fun _ => ?_⟩
        rw [List.getD_eq_getElem?_getD, hq]
        exact ed_int (ev_var rfl)
      · refine congrArg PyData.list ?_
        rw [List.length_map, List.map_map]
        exact gvn_map _ _ _ fun i p hp => by rw [List.getD_eq_getElem?_getD, hp] <;> rfl
      have hb4 := hb (e2.trans e4)
      rw [between_fold, hbt, hf] at q
      have hfi : f.fi = p := (Option.some.inj ok.fi).symm
      have hla : L2.atI ((p :: r).map pn) (-1) = some (pn f.la) := by
        have h0 : 0 < (p :: r).length := by simp
        unfold L2.atI ixN
        rw [if_neg (by decide), List.length_map, if_pos (by omega)]
        show ((p :: r).map pn)[((-1 : Int) + ((p :: r).length : Int)).toNat]? = _
        rw [show ((-1 : Int) + ((p :: r).length : Int)).toNat = (p :: r).length - 1 by omega, List.getElem?_map, ok.la] <;> rfl
      refine s_retD (N := TD) (d := fdD (some f)) ?_ fun v7 H7 e7 hd7 => q v7 H7 (((e1.trans e2).trans e4).trans e7) (fd_any hd7)
      unfold fdD
      refine ed_tup (eds_cons (ed_int (ev_is (ev_lenDD (ed_var rfl hb4)) ?_)) (eds_cons (ed_int (ev_is (ev_sum (ed_var rfl hd4)) ?_)) (eds_cons (ed_int (ev_mn (ed_var rfl hd4) ok.mn)) (eds_cons (ed_int (ev_mx (ed_var rfl hd4) ok.mx)) (eds_cons (ed_ixL (ed_var rfl hb4) ev_c (by rw [hfi]; exact (atI_nat ((p :: r).map pn) 0).trans rfl)) (eds_cons (ed_ixL (ed_var rfl hb4) (ev_un ev_c ru_neg) hla) eds_nil)))))) (by simp)
      · rw [List.length_map, ok.n]
      · rw [ok.s]
end
end Eg
end

section
set_option Elab.async false
set_option linter.all false
set_option maxRecDepth 100000
set_option maxHeartbeats 4000000
set_option linter.constructorNameAsVariable false
namespace Eg
open PySem PySem.Spec PyProof.Rows L2 Evl C8


/-- the box at b, drawn from at most n times -/
def BoxAt (H : Hp) (b : Addr) (n : Int) : Prop := ∃ (g : Int) (f : Bool) (r c : Int), H b = some (.lst [.int g, .bl f, .int r, .int c]) ∧ 0 ≤ g ∧ 0 ≤ r ∧ r < 2147483629 ∧ 0 ≤ c ∧ c ≤ n
theorem BoxAt.ex {H H' : Hp} {b : Addr} {n : Int} (e : Ex H H') (h : BoxAt H b n) : BoxAt H' b n := by
  obtain ⟨g, f, r, c, h1, h2⟩ := h
  exact ⟨g, f, r, c, e _ _ h1, h2⟩
theorem BoxAt.fm {M : Addr → Prop} {H H' : Hp} {b : Addr} {n : Int} (h : BoxAt H b n) (e : Fm M H H') (m : ¬ M b) : BoxAt H' b n := by
  obtain ⟨g, f, r, c, h1, h2⟩ := h
  exact ⟨g, f, r, c, e _ _ m h1, h2⟩
theorem BoxAt.le {H : Hp} {b : Addr} {n m : Int} (h : BoxAt H b n) (e : n ≤ m) : BoxAt H b m := by
  obtain ⟨g, f, r, c, h1, h2, h3, h4, h5, h6⟩ := h
  exact ⟨g, f, r, c, h1, h2, h3, h4, h5, Int.le_trans h6 e⟩
theorem BoxAt.noTup {H : Hp} {b : Addr} {n : Int} (h : BoxAt H b n) (a : Addr) (xs : List V) (ha : H a = some (.tup xs)) : ¬ a = b := fun e => by
  obtain ⟨g, f, r, c, h1, _⟩ := h
  rw [e, h1] at ha
  cases ha
def OB (b : Addr) : Addr → Prop := fun a => a = b
def cellOf (ns : List Int) (k : Nat) : Int := if (k : Int) < (ns.length : Int) then ns.getD k 0 else 6007 * (k : Int) + (ns.take 1).sum % 1000033
theorem ev_sumL {K : PySem.W.Frag} {te : TE} {σ : L2.St} {H : Hp} {ns : List Int} (h : EvL te σ H (ns.map V.int)) : Ev (tCB (rSum K) (tCons te tNil)) σ H (.int ns.sum) := fun H1 e1 Q q => h H1 e1 _ fun p H2 _ e2 hp => ⟨p, ns, rfl, sq_of hp, q H2 e2⟩

section
variable {P : Program} {w : World} {K : PySem.W.Frag} {mg : Str → Option Value} {base : Heap}
theorem sc_law_cell : FnScope ["_law_script", "_law_k"] ["_law_script", "_law_k"] (defScope s__law_cell) := ⟨rfl, rfl, rfl, by decide +kernel, rfl, by decide +kernel, by decide +kernel⟩
theorem c_law_cell (T : Fx K mg) : C8.Cal P w K mg base 1 "_law_cell" (SV 2 fun vs H z => ∃ a ns k, vs = [.ref a, .int ((k : Nat) : Int)] ∧ SqL K H a (ns.map V.int) ∧ z = .int (cellOf ns k)) [] :=
  cal_of T.d__law_cell sc_law_cell SV.len (fun _ _ _ _ _ _ us hl => match us, hl with | [_, _], _ => rfl) fun cdv A outer s H vs Q E hr h => by
    skip
    refine ⟨_, (pss_one (ps_ret (pe_ifExp (pt_cmpR op_lt (pv 1) (pe_callB (call_len_seqK K rfl) (by rfl) T.n_len b_len (pa_cons (pv 0) pa_nil)) (nomark _)) (pe_ix (ix_listK K rfl) (pv 0) (pv 1) (fun _ _ => rfl)) (pe_op op_add (pe_op op_mul pe_int (pv 1)) (pe_op op_mod (pe_callB (cr_sum rfl) (by rfl) T.n_sum b_sum (pa_cons (pe_slice sl_list (pv 0) po_none (po_some pe_int)) pa_nil)) pe_int))))), ?_⟩
    obtain ⟨hl, _, ⟨a, ns, k, rfl, ha, rfl⟩, q⟩ := h
    refine s_ret (ev_if (b := decide ((k : Int) < (ns.length : Int))) (et_is (et_test (ev_op (ev_var rfl) (ev_cb (ea_cons (ev_var rfl) ea_nil) (rc_len (.inl ha))) rv_I0)) (by rw [List.length_map])) (fun hb => ?_) (fun hb => ?_)) q
    · have hb' := of_decide_eq_true hb
      refine ev_is (ev_op (ev_var rfl) (ev_var rfl) (rv_ixL (v := .int (ns.getD k 0)) ha ?_)) (by unfold cellOf; rw [if_pos hb'])
      rw [atI_nat, List.getElem?_map, List.getD_eq_getElem?_getD, List.getElem?_eq_getElem (by omega)] <;> rfl
    · have hb' := of_decide_eq_false hb
      have hcut : cutV (ns.map V.int) none (some 1) = (ns.take 1).map V.int := by
        cases ns with
        | nil => rfl
        | cons n ns => 
          unfold cutV HT.sIx
          simp
      refine ev_is (ev_op (ev_op ev_c (ev_var rfl) (rv_I (.inl ⟨by omega, by omega⟩))) (ev_op (ev_sumL (ns := ns.take 1) (by rw [← hcut]; exact el_sl (ev_var rfl) eo_none (eo_some ev_c) ha)) ev_c (rv_I (by omega))) rv_I0) (by unfold cellOf; rw [if_neg hb'])
end

def spBox : Sp := fun vs H Q _ => ∃ g : Int, vs = [.int g] ∧ ∀ b H', H b = none → Ex H H' → BoxAt H' b 0 → Q (.ref b) H'

section
variable {P : Program} {w : World} {K : PySem.W.Frag} {mg : Str → Option Value} {base : Heap}
theorem sc_law_box : FnScope ["_law_great"] ["_law_great"] (defScope s__law_box) := ⟨rfl, rfl, rfl, by decide +kernel, rfl, by decide +kernel, by decide +kernel⟩
theorem c_law_box (T : Fx K mg) : C8.Cal P w K mg base 1 "_law_box" spBox [] :=
  cal_of T.d__law_box sc_law_box (fun _ _ _ _ h => by obtain ⟨_, rfl, _⟩ := h; rfl) (fun _ _ _ _ _ _ us hl => match us, hl with | [_], _ => rfl) fun cdv A outer s H vs Q E hr h => by
    skip
    refine ⟨_, (pss_one (ps_ret (pe_lst (pa_cons (pe_callB call_abs (by rfl) T.n_abs b_abs (pa_cons (pv 0) pa_nil)) (pa_cons (pe_cmpR op_ge (pe_callB call_abs (by rfl) T.n_abs b_abs (pa_cons (pv 0) pa_nil)) (pe_op op_pow pe_int pe_int) (nomark _)) (pa_cons (pe_op op_mod (pe_callTy call_int1 (by rfl) T.n_int b_int (pa_cons (pe_callB call_abs (by rfl) T.n_abs b_abs (pa_cons (pv 0) pa_nil)) pa_nil)) pe_int) (pa_cons pe_int pa_nil))))))), ?_⟩
    obtain ⟨g, rfl, q⟩ := h
    have ab : ∀ {H1 : Hp}, Ev (tCB (fun xs H Q => ∃ i : Int, xs = [V.int i] ∧ Q (.int (if i < 0 then -i else i)) H) (tCons (tVar 0) tNil)) (start ["_law_great"] [.int g]) H1 (.int (if g < 0 then -g else g)) := ev_cb (ea_cons (ev_var rfl) ea_nil) rc_abs
    refine s_retL (el_lst (ea_cons ab (ea_cons (ev_op ab (ev_op ev_c ev_c (rv_I ⟨by decide, by decide, by decide⟩)) rv_I0) (ea_cons (ev_op (ev_cb (ea_cons ab ea_nil) rc_int1) ev_c (rv_I (by decide))) (ea_cons ev_c ea_nil)))) (by simp)) fun b H1 hb e1 h1 => q b H1 hb e1 ⟨_, _, _, _, h1, ?_, ?_, ?_, Int.le_refl 0, Int.le_refl 0⟩
    · split <;> omega
    · exact Int.emod_nonneg _ (by decide)
    · exact Int.emod_lt_of_pos _ (by decide)
end

def spTk : Sp := fun vs H Q _ => ∃ (b : Addr) (many n : Int), vs = [.ref b, .int many] ∧ BoxAt H b n ∧ n < 1048576 ∧ 1 ≤ many ∧ many < 1000000 ∧ ∀ d H', 0 ≤ d → d < many → Fm (OB b) H H' → BoxAt H' b (n + 1) → Q (.int d) H'

section
variable {P : Program} {w : World} {K : PySem.W.Frag} {mg : Str → Option Value} {base : Heap}
theorem sc_law_take : FnScope ["_law_box_here", "_law_many", "_law_mixed_here", "_law_digit"] ["_law_box_here", "_law_many"] (defScope s__law_take) := ⟨rfl, rfl, rfl, by decide +kernel, rfl, by decide +kernel, by decide +kernel⟩
theorem c_law_take (T : Fx K mg) : C8.Cal P w K mg base 1 "_law_take" spTk [] :=
  cal_of T.d__law_take sc_law_take (fun _ _ _ _ h => by obtain ⟨_, _, _, rfl, _⟩ := h; rfl) (fun _ _ _ _ _ _ us hl => match us, hl with | [_, _], _ => rfl) fun cdv A outer s H vs Q E hr h => by
    skip
    refine ⟨_, (pss_cons (ps_if (PW.pt (pw_and (pt_val (pe_ix (ix_listK K rfl) (pv 0) pe_int (fun _ _ => rfl))) (pw_and1 (pt_cmpR op_gt (pe_ix (ix_listK K rfl) (pv 0) pe_int (fun _ _ => rfl)) pe_int (nomark _))))) (pss_cons (ps_set (i := 3) sc_law_take.nd rfl (Or.inl rfl) (pe_op op_mod (pe_callTy call_int1 (by rfl) T.n_int b_int (pa_cons (pe_ix (ix_listK K rfl) (pv 0) pe_int (fun _ _ => rfl)) pa_nil)) (pv 1)))
      (pss_cons (ps_asg (pe_op op_fdiv (pe_ix (ix_listK K rfl) (pv 0) pe_int (fun _ _ => rfl)) (pv 1)) (pg_sub (pv 0) pe_int set_list))
      (pss_one (ps_ret (pv 3))))) pss_nil)
      (pss_cons (ps_asg (pe_op op_add (pe_ix (ix_listK K rfl) (pv 0) pe_int (fun _ _ => rfl)) pe_int) (pg_sub (pv 0) pe_int set_list))
      (pss_cons (ps_set (i := 2) sc_law_take.nd rfl (Or.inl rfl) (pe_op op_mod (pe_callTy call_int1 (by rfl) T.n_int b_int (pa_cons (pe_op op_pow (pe_op op_add (pe_op op_add (pe_ix (ix_listK K rfl) (pv 0) pe_int (fun _ _ => rfl)) (pe_op op_mul pe_int (pe_ix (ix_listK K rfl) (pv 0) pe_int (fun _ _ => rfl)))) pe_int) pe_int) pa_nil)) pe_int))
      (pss_one (ps_ret (pe_op op_mod (pe_op op_fdiv (pe_op op_mod (pe_callTy call_int1 (by rfl) T.n_int b_int (pa_cons (pe_op op_pow (pe_op op_add (pe_op op_mul (pv 2) pe_int) (pe_op op_mul pe_int (pe_ix (ix_listK K rfl) (pv 0) pe_int (fun _ _ => rfl)))) pe_int) pa_nil)) pe_int) pe_int) (pv 1))))))), ?_⟩
    obtain ⟨b, many, n, rfl, ⟨g, f, r, c, hb, hg, hr0, hr1, hc0, hc1⟩, hn, hm, hm2, q⟩ := h
    have ix : ∀ {σ : L2.St} {H1 : Hp} {i : Int} {x : V}, σ[0]? = some (some (V.ref b)) → H1 b = some (.lst [.int g, .bl f, .int r, .int c]) → L2.atI [V.int g, .bl f, .int r, .int c] i = some x → Ev (tOp (rIxL K) (tVar 0) (tC (.int i))) σ H1 x := fun h1 h2 h3 => ev_ixL (ev_var h1) ev_c h2 h3
    refine q_when (et_and (et_B (ix rfl hb rfl)) fun _ => et_test (ev_op (ix rfl hb rfl) ev_c rv_I0)) (fun hbb H1 e1 => ?_) (fun hbb H1 e1 => ?_)
    · have hb1 := e1 _ _ hb
      refine q_asg (ev_op (ev_cb (ea_cons (ix rfl hb1 rfl) ea_nil) rc_int1) (ev_var rfl) (rv_I (by omega))) fun H2 e2 => ?_
      have hb2 := e2 _ _ hb1
      refine q_setL (j := 0) hb2 (ev_op (ix rfl hb2 rfl) (ev_var rfl) (rv_I ⟨by omega, by omega⟩)) (ev_var rfl) ev_c (by simp) fun H3 e3 => ?_
      refine s_ret (ev_var rfl) fun H4 e4 => q _ H4 (Int.emod_nonneg _ (by omega)) (Int.emod_lt_of_pos _ (by omega)) (fun a o m ha => e4 _ _ ?_) ⟨_, _, _, _, e4 _ _ upd_same, Int.ediv_nonneg hg (by omega), hr0, hr1, hc0, by omega⟩
      rw [upd_ne m]
      exact ((e1.trans e2).trans e3) _ _ ha
    · have hb1 := e1 _ _ hb
      refine q_setL (j := 3) hb1 (ev_op (ix rfl hb1 rfl) ev_c rv_I0) (ev_var rfl) ev_c (by simp) fun H2 e2 => ?_
      have hb2 : upd H2 b (.lst ([V.int g, .bl f, .int r, .int c].set 3 (.int (c + 1)))) b = some (.lst [.int g, .bl f, .int r, .int (c + 1)]) := upd_same
      generalize hH3 : upd H2 b (.lst ([V.int g, .bl f, .int r, .int c].set 3 (.int (c + 1)))) = H3 at hb2 ⊢
      have hf3 : Fm (OB b) H H3 := fun a o m ha => by
        rw [← hH3, upd_ne m]
        exact (e1.trans e2) _ _ ha
      have ix3 : ∀ {σ : L2.St} {H1 : Hp} {i : Int} {x : V}, Ex H3 H1 → σ[0]? = some (some (V.ref b)) → L2.atI [V.int g, .bl f, .int r, .int (c + 1)] i = some x → Ev (tOp (rIxL K) (tVar 0) (tC (.int i))) σ H1 x := fun e h1 h3 => ev_ixL (ev_var h1) ev_c (e _ _ hb2) h3
      refine q_asg (ev_op (ev_cb (ea_cons (ev_op (ev_op (ev_op (ix3 (Ex.refl _) rfl rfl) (ev_op ev_c (ix3 (Ex.refl _) rfl rfl) (rv_I (.inl ⟨by decide, by decide⟩))) rv_I0) ev_c rv_I0) ev_c (rv_I ⟨by decide, by decide, by omega⟩)) ea_nil) rc_int1) ev_c (rv_I (by decide))) fun H4 e4 => ?_
      generalize hmx : (r + 15485863 * (c + 1) + 179424673) ^ (5 : Int).toNat % 2147483647 = mx
      have m0 : 0 ≤ mx := by rw [← hmx]; exact Int.emod_nonneg _ (by decide)
      have m1 : mx < 2147483647 := by rw [← hmx]; exact Int.emod_lt_of_pos _ (by decide)
      refine s_ret (ev_op (ev_op (ev_op (ev_cb (ea_cons (ev_op (ev_op (ev_op (ev_var rfl) ev_c (rv_I (.inr ⟨by decide, by decide⟩))) (ev_op ev_c (ix3 e4 rfl rfl) (rv_I (.inl ⟨by decide, by decide⟩))) rv_I0) ev_c (rv_I ⟨by decide, by decide, by omega⟩)) ea_nil) rc_int1) ev_c (rv_I (by decide))) ev_c (rv_I ⟨by decide, by decide⟩)) (ev_var rfl) (rv_I (by omega))) fun H5 e5 => q _ H5 (Int.emod_nonneg _ (by omega)) (Int.emod_lt_of_pos _ (by omega)) (fun a o m ha => (e4.trans e5) _ _ (hf3 a o m ha)) ⟨g, f, r, c + 1, (e4.trans e5) _ _ hb2, hg, hr0, hr1, by omega, by omega⟩
end

/-- one of many taken, in a reading -/
theorem c_tk {E : XK} {tr : TA} {σ : L2.St} {H : Hp} {b : Addr} {many n : Int} {Q : VK} (h : EvA tr σ H [.ref b, .int many]) (hb : BoxAt H b n) (hn : n < 1048576) (h1 : 1 ≤ many) (h2 : many < 1000000) (k : ∀ d H', 0 ≤ d → d < many → Fm (OB b) H H' → BoxAt H' b (n + 1) → Q (.int d) H') : tCall spTk [] E tr σ H Q := h H (Ex.refl H) _ fun H1 e1 =>
  ⟨b, many, n, rfl, hb.ex e1, hn, h1, h2, fun d H' d0 d1 hf hb' => k d H' d0 d1 ((Fm.of e1).trans hf) hb'⟩
/-- data made since H stand, whatever happens at what H knew -/
theorem da_fm {H H' H0 : Hp} {M : Addr → Prop} {d : PyData} {v : V} (h : DA (FrN H0) H d v) (hf : Fm M H H') (hm : ∀ a, M a → H0 a ≠ none) (ht : ∀ a xs, H a = some (.tup xs) → ¬ M a) : DA (FrN H0) H' d v :=
  DA.imp (fun a xs n z => ⟨n, hf a _ (fun m => hm a m n) z⟩) (fun a xs z => hf a _ (ht a xs z) z) _ _ h
theorem BoxAt.some {H : Hp} {b : Addr} {n : Int} (h : BoxAt H b n) : ∀ a, OB b a → H a ≠ none := fun a m e => by
  obtain ⟨g, f, r, c, h1, _⟩ := h
  have m' : a = b := m
  rw [m', h1] at e
  cases e
def spMade (K : PySem.W.Frag) : Sp := fun vs H Q _ => ∃ (b : Addr) (k : Nat) (n : Int), vs = [.ref b, .int (k : Int)] ∧ k < 2 ∧ BoxAt H b n ∧ n < 1048576 ∧ ∀ s H', H s = none → Fm (OB b) H H' → BoxAt H' b (n + 1) → SerAt K H' s k → Q (.ref s) H'
theorem merge_tags : ∀ k, k < 2 → mergeK [] (((tagsOf k).reverse).map kS) = ((tagsOf k).reverse).map kS := by
  intro k hk
  match k, hk with
  | 0, _ => rfl
  | 1, _ =>
    have h : ((Sum.inr tg1.1 : Key) = Sum.inr tg0.1) = False := by
      have : tg1.1 ≠ tg0.1 := by decide +kernel
      simp [this]
    show mergeK [] [kS tg1, kS tg0] = [kS tg1, kS tg0]
    simp [mergeK, putK, kS, h]
theorem pd_pairs {N : Addr → Prop} {K : PySem.W.Frag} {H : Hp} : ∀ (kw : List (Str × Str)) (xs : List V), DAs N H (kw.map pd) xs → ∃ ps : List Addr, xs = ps.map V.ref ∧ Paired (fun p (kv : Key × V) => SqT K H p [kV kv.1, kv.2]) ps (kw.map kS)
  | [], xs, h => by
    simp only [List.map_nil, DAs] at h
    exact ⟨[], h, .nil⟩
  | p :: kw, xs, h => by
    simp only [List.map_cons, DAs] at h
    obtain ⟨v, vs, rfl, hv, hr⟩ := h
    obtain ⟨a, ys, rfl, ha, hy⟩ := DA.tup (ds := [.str p.1, .str p.2]) hv
    simp only [DAs, DA] at hy
    obtain ⟨_, _, rfl, rfl, _, _, rfl, rfl, rfl⟩ := hy
    obtain ⟨ps, rfl, hps⟩ := pd_pairs kw vs hr
    exact ⟨a :: ps, rfl, .cons (st_of ha) hps⟩
theorem das_rev {N : Addr → Prop} {H : Hp} : ∀ {ds : List PyData} {xs : List V}, DAs N H ds xs → DAs N H ds.reverse xs.reverse
  | [], xs, h => by
    simp only [DAs] at h
    subst h
    simp only [List.reverse_nil, DAs]
  | d :: ds, xs, h => by
    simp only [DAs] at h
    obtain ⟨v, vs, rfl, hv, hr⟩ := h
    rw [List.reverse_cons, List.reverse_cons]
    exact DAs.append (das_rev hr) (by simp only [DAs]; exact ⟨v, [], rfl, hv, rfl⟩)
theorem two_tags {N : Addr → Prop} {σ : L2.St} {H : Hp} (fr : Fr N H) : EvD N (tLst (tCons (tLst (tCons (tTup (tCons (tC (.str "host")) (tCons (tC (.str "a")) tNil))) tNil)) (tCons (tLst (tCons (tTup (tCons (tC (.str "host")) (tCons (tC (.str "a")) tNil))) (tCons (tTup (tCons (tC (.str "zone")) (tCons (tC (.str "x")) tNil))) tNil))) tNil))) σ H (.list [.list ((tagsOf 0).map pd), .list ((tagsOf 1).map pd)]) :=
  have h0 : EvD N (tTup (tCons (tC (.str "host")) (tCons (tC (.str "a")) tNil))) σ H (pd tg0) := ed_tup (eds_cons (ed_str ev_c) (eds_cons (ed_str ev_c) eds_nil)) (by simp)
  have h1 : EvD N (tTup (tCons (tC (.str "zone")) (tCons (tC (.str "x")) tNil))) σ H (pd tg1) := ed_tup (eds_cons (ed_str ev_c) (eds_cons (ed_str ev_c) eds_nil)) (by simp)
  ed_lst fr (eds_cons (ed_lst fr (eds_cons h0 eds_nil) (Nat.le_of_ble_eq_true rfl)) (eds_cons (ed_lst fr (eds_cons h0 (eds_cons h1 eds_nil)) (Nat.le_of_ble_eq_true rfl)) eds_nil)) (by simp)

section
variable {P : Program} {w : World} {K : PySem.W.Frag} {mg : Str → Option Value} {base : Heap}
theorem sc_law_made : FnScope ["_law_box_here", "_law_k", "_law_tags"] ["_law_box_here", "_law_k"] (defScope s__law_made) := ⟨rfl, rfl, rfl, by decide +kernel, rfl, by decide +kernel, by decide +kernel⟩
theorem c_law_made (T : Fx K mg) : C8.Cal P w K mg base 6 "_law_made" (spMade K) [] :=
  cal_of T.d__law_made sc_law_made (fun _ _ _ _ h => by obtain ⟨_, _, _, rfl, _⟩ := h; rfl) (fun _ _ _ _ _ _ us hl => match us, hl with | [_, _], _ => rfl) fun cdv A outer s H vs Q E hr h => by
    have c_Series := c_Series (P := P) (w := w) (base := base) T
    have c_law_take := c_law_take (P := P) (w := w) (base := base) T
    refine ⟨_, (pss_cons (ps_set (i := 2) sc_law_made.nd rfl (Or.inl rfl) (pe_ix (ix_listK K rfl) (pe_lst (pa_cons (pe_lst (pa_cons (pe_tup (pa_cons pe_str (pa_cons pe_str pa_nil))) pa_nil)) (pa_cons (pe_lst (pa_cons (pe_tup (pa_cons pe_str (pa_cons pe_str pa_nil))) (pa_cons (pe_tup (pa_cons pe_str (pa_cons pe_str pa_nil))) pa_nil))) pa_nil))) (pv 1) (fun _ _ => rfl)))
      (pss_one (ps_ret (pe_mk c_Series hr (by decide) (by rfl) (pa_cons pe_str (pa_cons (pe_ifExp (pt_cmpR op_eq (pe_c c_law_take hr (by decide) (by rfl) (pa_cons (pv 0) (pa_cons pe_int pa_nil))) pe_int (nomark _)) (pv 2) (pe_callTy (call_dictP rfl) (by rfl) T.n_dict b_dict (pa_cons (pe_revL (pv 2)) pa_nil))) pa_nil)))))), ?_⟩
    obtain ⟨b, k, n, rfl, hk, hb, hn, q⟩ := h
    refine q_asgD (N := FrN H) (d := .list ((tagsOf k).map pd)) (ed_ixL (two_tags fr_self) (ev_var rfl) ?_) fun v H1 e1 hd => ?_
    · rw [atI_nat]
      match k, hk with
      | 0, _ => rfl
      | 1, _ => rfl
    have hb1 := hb.ex e1
    -- what is made of the two arguments
    have made : ∀ (v2 : V) H2, Fm (OB b) H1 H2 → BoxAt H2 b (n + 1) → (∃ kw, TagsAt H2 v2 kw ∧ (kw = tagsOf k ∨ kw = (tagsOf k).reverse)) → ∀ x dx, H2 x = none → H2 dx = none → dx ≠ x →
        spSer K [.ref x, .str "load", v2] (upd (upd H2 dx (.own x)) x (.ins (He.ga K "Series") dx [])) (fun v H3 => v = .non ∧ Q (.ref x) H3) C8.E0 := fun v2 H2 hf hb2 ht x dx hx hdx hne => by
      have eN : Ex H2 (upd (upd H2 dx (.own x)) x (.ins (He.ga K "Series") dx [])) := Ex.mut (Ex.new hdx) hx
      refine ⟨x, dx, v2, k, rfl, upd_same, hk, ?_, fun H3 hfr hs => ⟨rfl, ?_⟩⟩
      · obtain ⟨kw, ht, hkw⟩ := ht
        exact ⟨kw, ht.elim (fun h => .inl (h.ex eN)) (fun ⟨a, h1, h2⟩ => .inr ⟨a, h1, eN _ _ h2⟩), hkw⟩
      · have e23 : Ex H2 H3 := fun a o ha => hfr a o (fun c => by rw [c, hx] at ha; cases ha) (eN _ _ ha)
        refine q x H3 ?_ (((Fm.of e1).trans hf).trans (Fm.of e23)) (hb2.ex e23) hs
        cases c : H x with
        | none => rfl
        | some o =>
          have c2 : ¬ OB b x := fun m => by
            obtain ⟨g, f, r, cc, h1, _⟩ := hb2
            have m' : x = b := m
            rw [m', h1] at hx
            cases hx
          rw [hf x o c2 (e1 _ _ c)] at hx
          cases hx
    refine c_tk (ea_cons (ev_var rfl) (ea_cons ev_c ea_nil)) hb1 hn (by decide) (by decide) fun d H2 d0 d1 hf hb2 => ?_
    have hd2 := da_fm hd hf hb.some hb1.noTup
    have hdT : DA TD H2 (.list ((tagsOf k).map pd)) v := hd2.to fun _ _ => True.intro
    refine ⟨rfl, _, rfl, ?_⟩
    by_cases c : d = 0
    · dsimp only
      rw [if_pos (by simp [c])]
      exact ⟨v, rfl, made v H2 hf hb2 ⟨_, .inl hdT, .inl rfl⟩⟩
    · dsimp only
      rw [if_neg (by simp [c])]
      obtain ⟨a, xs, rfl, _, ha, hxs⟩ := hdT.lst
      refine ⟨_, rfl, a, xs, rfl, sq_of ha, fun p hp => ?_⟩
      have hrev : DAs TD (upd H2 p (.lst xs.reverse)) ((tagsOf k).reverse.map pd) xs.reverse := by
        rw [List.map_reverse]
        exact das_rev (hxs.ex (Ex.new hp))
      obtain ⟨ps, eps, hps⟩ := pd_pairs (K := K) _ _ hrev
      refine ⟨p, ps, _, rfl, .inl (.inl (by rw [upd_same, eps])), hps, fun w hw => ?_⟩
      rw [merge_tags k hk]
      have e1' := Ex.new hp (o := .lst xs.reverse)
      have e2' := Ex.new hw (o := .dK ((tagsOf k).reverse.map kS))
      exact made (.ref w) _ (hf.trans (Fm.of (e1'.trans e2'))) (hb2.ex (e1'.trans e2')) ⟨_, .inr ⟨w, rfl, upd_same⟩, .inr rfl⟩
end

theorem r_opD {r : R2} {ta tb : TE} {D : Ends} {σ : L2.St} {H : Hp} {N : Addr → Prop} {d : PyData} (h : EvD N ta σ H d) (k : ∀ v H1, Ex H H1 → DA N H1 d v → tb σ H1 (fun y H2 => r v y H2 D.rt)) : tRet (tOp r ta tb) D σ H := h H (Ex.refl H) _ k
def menu : Nat → List (Int × Option Int)
  | 0 => [(1, some 8), (4, some 20), (8, none)]
  | 1 => [(1, some 6), (2, some 8), (6, some 14), (12, some 40)]
  | 2 => [(1, some 10), (5, some 15)]
  | 3 => [(1, some 3), (6, some 60)]
  | 4 => [(1, some 4), (3, some 12), (9, some 30)]
  | 5 => [(1, some 1), (2, some 3), (4, some 7)]
  | 6 => [(1, some 5), (10, none)]
  | _ => [(1, some 2), (2, none)]
theorem menu_ok (i : Nat) : OkRs (menu i) := okRs_of (by
  match i with
  | 0 => decide +kernel
  | 1 => decide +kernel
  | 2 => decide +kernel
  | 3 => decide +kernel
  | 4 => decide +kernel
  | 5 => decide +kernel
  | 6 => decide +kernel
  | _ + 7 => exact (by decide +kernel : okRules [(1, some 2), (2, none)] = true))
def spRulesL : Sp := fun vs H Q _ => ∃ (b : Addr) (n : Int), vs = [.ref b] ∧ BoxAt H b n ∧ n < 1048576 ∧ ∀ i v H', i < 8 → Fm (OB b) H H' → BoxAt H' b (n + 1) → DA (FrN H) H' (.list ((menu i).map rd)) v → Q v H'

section
variable {P : Program} {w : World} {K : PySem.W.Frag} {mg : Str → Option Value} {base : Heap}
theorem sc_law_rules : FnScope ["_law_box_here"] ["_law_box_here"] (defScope s__law_rules) := ⟨rfl, rfl, rfl, by decide +kernel, rfl, by decide +kernel, by decide +kernel⟩
theorem c_law_rules (T : Fx K mg) : C8.Cal P w K mg base 2 "_law_rules" spRulesL [] :=
  cal_of T.d__law_rules sc_law_rules (fun _ _ _ _ h => by obtain ⟨_, _, rfl, _⟩ := h; rfl) (fun _ _ _ _ _ _ us hl => match us, hl with | [_], _ => rfl) fun cdv A outer s H vs Q E hr h => by
    have c_law_take := c_law_take (P := P) (w := w) (base := base) T
    refine ⟨_, (pss_one (ps_ret (pe_ix (ix_listK K rfl) (pe_lst (pa_cons (pe_lst (pa_cons (pe_tup (pa_cons pe_int (pa_cons pe_int pa_nil))) (pa_cons (pe_tup (pa_cons pe_int (pa_cons pe_int pa_nil))) (pa_cons (pe_tup (pa_cons pe_int (pa_cons pe_non pa_nil))) pa_nil)))) (pa_cons (pe_lst (pa_cons (pe_tup (pa_cons pe_int (pa_cons pe_int pa_nil))) (pa_cons (pe_tup (pa_cons pe_int (pa_cons pe_int pa_nil))) (pa_cons (pe_tup (pa_cons pe_int (pa_cons pe_int pa_nil))) (pa_cons (pe_tup (pa_cons pe_int (pa_cons pe_int pa_nil))) pa_nil))))) (pa_cons (pe_lst (pa_cons (pe_tup (pa_cons pe_int (pa_cons pe_int pa_nil))) (pa_cons (pe_tup (pa_cons pe_int (pa_cons pe_int pa_nil))) pa_nil))) (pa_cons (pe_lst (pa_cons (pe_tup (pa_cons pe_int (pa_cons pe_int pa_nil))) (pa_cons (pe_tup (pa_cons pe_int (pa_cons pe_int pa_nil))) pa_nil))) (pa_cons (pe_lst (pa_cons (pe_tup (pa_cons pe_int (pa_cons pe_int pa_nil))) (pa_cons (pe_tup (pa_cons pe_int (pa_cons pe_int pa_nil))) (pa_cons (pe_tup (pa_cons pe_int (pa_cons pe_int pa_nil))) pa_nil)))) (pa_cons (pe_lst (pa_cons (pe_tup (pa_cons pe_int (pa_cons pe_int pa_nil))) (pa_cons (pe_tup (pa_cons pe_int (pa_cons pe_int pa_nil))) (pa_cons (pe_tup (pa_cons pe_int (pa_cons pe_int pa_nil))) pa_nil)))) (pa_cons (pe_lst (pa_cons (pe_tup (pa_cons pe_int (pa_cons pe_int pa_nil))) (pa_cons (pe_tup (pa_cons pe_int (pa_cons pe_non pa_nil))) pa_nil))) (pa_cons (pe_lst (pa_cons (pe_tup (pa_cons pe_int (pa_cons pe_int pa_nil))) (pa_cons (pe_tup (pa_cons pe_int (pa_cons pe_non pa_nil))) pa_nil))) pa_nil))))))))) (pe_c c_law_take hr (by decide) (by rfl) (pa_cons (pv 0) (pa_cons pe_int pa_nil))) (fun _ _ => rfl)))), ?_⟩
    obtain ⟨b, n, rfl, hb, hn, q⟩ := h
    refine r_opD (N := FrN H) (d := .list ((List.range 8).map fun i => .list ((menu i).map rd))) ?_ fun v H1 e1 hd => ?_
    · apply ed_is
      case h => repeat' first | exact eds_nil | apply eds_cons | apply ed_tup | exact ed_lst fr_self (by assumption) (by assumption) | apply ed_lst fr_self | exact ed_int ev_c | exact ed_non ev_c | exact Nat.le_of_ble_eq_true rfl
      case e => rfl
    refine c_tk (ea_cons (ev_var rfl) (ea_cons ev_c ea_nil)) (hb.ex e1) hn (by decide) (by decide) fun d H2 d0 d1 hf hb2 => ?_
    obtain ⟨a, xs, rfl, hn2, ha, hx⟩ := (da_fm hd hf hb.some (hb.ex e1).noTup).lst
    have hdi : (d.toNat : Int) = d := Int.toNat_of_nonneg d0
    obtain ⟨x, h1, h2⟩ := hx.get (i := d.toNat) (d := .list ((menu d.toNat).map rd)) (by
      rw [List.getElem?_map, List.getElem?_range (by omega)] <;> rfl)
    exact ⟨a, xs, d, x, rfl, rfl, sq_of ha, by rw [← hdi, atI_nat]; exact h1, q d.toNat x H2 (by omega) ((Fm.of e1).trans hf) hb2 h2⟩
end
end Eg
end

section
set_option Elab.async false
set_option linter.all false
set_option maxRecDepth 100000
set_option maxHeartbeats 4000000
set_option linter.constructorNameAsVariable false
namespace Eg
open PySem PySem.Spec PyProof.Rows L2 Evl C8


def dD : Dd → PyData
  | .put k t v => .tuple [.str "put", .int ((k : Nat) : Int), .int t, .int v]
  | .take k lo hi => .tuple [.str "take", .int ((k : Nat) : Int), .int lo, .int hi]
  | .clk c => .tuple [.str "clock", .int c]
/-- how great a deed's numbers are -/
def DdB (edge clock : Int) : Dd → Prop
  | .put _ t v => t ≤ edge + 16 ∧ v.natAbs ≤ 100000000000
  | .take _ lo hi => lo ≤ edge + 16 ∧ hi ≤ edge + 40
  | .clk c => c ≤ clock + 17
theorem c_pick {K : PySem.W.Frag} {ns : List Int} {E : XK} {ta : TE} {tr : TA} {σ : L2.St} {H : Hp} {b : Addr} {n : Int} {Q : VK} (hl : EvD (FrN H) ta σ H (.list (ns.map .int))) (h : EvA tr σ H [.ref b, .int ns.length]) (hb : BoxAt H b n) (hn : n < 1048576) (h1 : 1 ≤ (ns.length : Int)) (h2 : (ns.length : Int) < 1000000)
    (k : ∀ x H', x ∈ ns → Fm (OB b) H H' → BoxAt H' b (n + 1) → Q (.int x) H') : tOp (rIxL K) ta (tCall spTk [] E tr) σ H Q := hl H (Ex.refl H) _ fun v H1 e1 hd => c_tk (EvA.mono e1 h) (hb.ex e1) hn h1 h2 fun d H2 d0 d1 hf hb2 => by
  obtain ⟨a, xs, rfl, _, ha, hx⟩ := (da_fm hd hf hb.some (hb.ex e1).noTup).lst
  have hdi : (d.toNat : Int) = d := Int.toNat_of_nonneg d0
  have hlt : d.toNat < ns.length := by omega
  refine ⟨a, xs, d, .int ns[d.toNat], rfl, rfl, sq_of ha, ?_, k _ H2 (List.getElem_mem hlt) ((Fm.of e1).trans hf) hb2⟩
  have e : L2.atI xs ((d.toNat : Nat) : Int) = some (.int ns[d.toNat]) := by
    rw [atI_nat, hx.ints, List.getElem?_map, List.getElem?_eq_getElem hlt] <;> rfl
  rw [hdi] at e
  exact e
def spDeed : Sp := fun vs H Q _ => ∃ (b o : Addr) (edge n clock : Int) (x : V), vs = [.ref b, .ref o, .int edge] ∧ BoxAt H b n ∧ n < 1048000 ∧ 0 ≤ edge ∧ edge < 1000000 ∧ 0 ≤ clock ∧ H o = some (.lst [x, .int clock]) ∧
  ∀ d v H', OkD d → DdB edge clock d → Fm (OB b) H H' → BoxAt H' b (n + 5) → DA (FrN H) H' (dD d) v → Q v H'
theorem da_pair {N : Addr → Prop} {H : Hp} {p : Addr} {vs : List V} {ds : List PyData} (h : DAs N H ds vs) (hp : H p = none) : DA N (upd H p (.tup vs)) (.tuple ds) (.ref p) := by
  simp only [DA]
  exact ⟨p, vs, rfl, upd_same, h.ex (Ex.new hp)⟩
theorem int_abs {x : Int} (h : x ∈ ([0, 1, 7, -3, 100000000000, 5] : List Int)) : x.natAbs ≤ 100000000000 := by
  simp at h
  omega
theorem int_seventeen {x : Int} (h : x ∈ ([1, 2, 3, 5, 9, 4, 17, -2] : List Int)) : x ≤ 17 := by
  simp at h
  omega

section
variable {P : Program} {w : World} {K : PySem.W.Frag} {mg : Str → Option Value} {base : Heap}
theorem sc_law_deed : FnScope ["_law_box_here", "_law_own", "_law_edge_here", "_law_time", "_law_late", "_law_way", "_law_k"] ["_law_box_here", "_law_own", "_law_edge_here"] (defScope s__law_deed) := ⟨rfl, rfl, rfl, by decide +kernel, rfl, by decide +kernel, by decide +kernel⟩
theorem c_law_deed (T : Fx K mg) : C8.Cal P w K mg base 2 "_law_deed" spDeed [] :=
  cal_of T.d__law_deed sc_law_deed (fun _ _ _ _ h => by obtain ⟨_, _, _, _, _, _, rfl, _⟩ := h; rfl) (fun _ _ _ _ _ _ us hl => match us, hl with | [_, _, _], _ => rfl) fun cdv A outer s H vs Q E hr h => by
    have c_law_take := c_law_take (P := P) (w := w) (base := base) T
    refine ⟨_, (pss_cons (ps_par (i := 5) (j := 6) (by rfl) sc_law_deed.nd rfl rfl (by decide) rfl rfl (pa_cons (pe_c c_law_take hr (by decide) (by rfl) (pa_cons (pv 0) (pa_cons pe_int pa_nil))) (pa_cons (pe_c c_law_take hr (by decide) (by rfl) (pa_cons (pv 0) (pa_cons pe_int pa_nil))) pa_nil)) (by rfl))
      (pss_cons (ps_set (i := 3) sc_law_deed.nd rfl (Or.inl rfl) (pe_op op_add (pv 2) (pe_c c_law_take hr (by decide) (by rfl) (pa_cons (pv 0) (pa_cons pe_int pa_nil)))))
      (pss_cons (ps_if (pt_cmpR op_lt (pv 5) pe_int (nomark _)) (pss_one (ps_ret (pe_tup (pa_cons pe_str (pa_cons (pv 6) (pa_cons (pv 3) (pa_cons (pe_ix (ix_listK K rfl) (pe_lst (pa_cons pe_int (pa_cons pe_int (pa_cons pe_int (pa_cons (pe_un un_neg pe_int) (pa_cons (pe_op op_pow pe_int pe_int) (pa_cons pe_int pa_nil))))))) (pe_c c_law_take hr (by decide) (by rfl) (pa_cons (pv 0) (pa_cons pe_int pa_nil))) (fun _ _ => rfl)) pa_nil))))))) pss_nil)
      (pss_cons (ps_if (pt_cmpR op_lt (pv 5) pe_int (nomark _)) (pss_one (ps_ret (pe_tup (pa_cons pe_str (pa_cons (pv 6) (pa_cons (pv 3) (pa_cons (pe_op op_add (pe_op op_add (pv 3) pe_int) (pe_c c_law_take hr (by decide) (by rfl) (pa_cons (pv 0) (pa_cons pe_int pa_nil)))) pa_nil))))))) pss_nil)
      (pss_cons (ps_set (i := 4) sc_law_deed.nd rfl (Or.inl rfl) (pe_callB (call_max2 rfl) (by rfl) T.n_max b_max (pa_cons pe_int (pa_cons (pe_op op_sub (pe_op op_sub (pv 2) pe_int) (pe_c c_law_take hr (by decide) (by rfl) (pa_cons (pv 0) (pa_cons pe_int pa_nil)))) pa_nil))))
      (pss_cons (ps_if (pt_cmpR op_eq (pv 5) pe_int (nomark _)) (pss_one (ps_ret (pe_tup (pa_cons pe_str (pa_cons (pv 6) (pa_cons (pv 4) (pa_cons pe_int pa_nil))))))) pss_nil)
      (pss_cons (ps_if (pt_cmpR op_eq (pv 5) pe_int (nomark _)) (pss_one (ps_ret (pe_tup (pa_cons pe_str (pa_cons (pv 6) (pa_cons (pv 4) (pa_cons (pe_op op_add (pe_op op_add (pv 2) pe_int) (pe_c c_law_take hr (by decide) (by rfl) (pa_cons (pv 0) (pa_cons pe_int pa_nil)))) pa_nil))))))) pss_nil)
      (pss_one (ps_ret (pe_tup (pa_cons pe_str (pa_cons (pe_callB (call_max2 rfl) (by rfl) T.n_max b_max (pa_cons pe_int (pa_cons (pe_op op_add (pe_ix (ix_listK K rfl) (pv 1) pe_int (fun _ _ => rfl)) (pe_ix (ix_listK K rfl) (pe_lst (pa_cons pe_int (pa_cons pe_int (pa_cons pe_int (pa_cons pe_int (pa_cons pe_int (pa_cons pe_int (pa_cons pe_int (pa_cons (pe_un un_neg pe_int) pa_nil))))))))) (pe_c c_law_take hr (by decide) (by rfl) (pa_cons (pv 0) (pa_cons pe_int pa_nil))) (fun _ _ => rfl))) pa_nil))) pa_nil)))))))))))), ?_⟩
    obtain ⟨b, o, edge, n, clock, x, rfl, hb, hn, h0, h1, hc0, ho, q⟩ := h
    have tk : ∀ {σ : L2.St} {H1 : Hp} {m : Int} {Q : VK} {many : Int} {E : XK}, σ[0]? = some (some (V.ref b)) → BoxAt H1 b m → m < 1048576 → 1 ≤ many → many < 1000000 → (∀ d H', 0 ≤ d → d < many → Fm (OB b) H1 H' → BoxAt H' b (m + 1) → Q (.int d) H') → tCall spTk [] E (tCons (tVar 0) (tCons (tC (.int many)) tNil)) σ H1 Q := fun h1 h2 h3 h4 h5 h6 => c_tk (ea_cons (ev_var h1) (ea_cons ev_c ea_nil)) h2 h3 h4 h5 h6
    have fin : ∀ {H1 : Hp} {ds : List PyData} {vs : List V} {d : Dd} {p : Addr}, dD d = .tuple ds → OkD d → DdB edge clock d → Fm (OB b) H H1 → BoxAt H1 b (n + 5) → DAs (FrN H) H1 ds vs → H1 p = none → Q (.ref p) (upd H1 p (.tup vs)) := fun hd ok bd hf hb hds hp => q _ _ _ ok bd (hf.trans (Fm.of (Ex.new hp))) (hb.ex (Ex.new hp)) (hd ▸ da_pair hds hp)
    refine tk rfl hb (by omega) (by decide) (by decide) fun way H1 w0 w1 hf1 hb1 => tk rfl hb1 (by omega) (by decide) (by decide) fun k H2 k0 k1 hf2 hb2 => ⟨_, _, rfl, ?_⟩
    have hk : ((k.toNat : Nat) : Int) = k := Int.toNat_of_nonneg k0
    have hk2 : k.toNat < 2 := by omega
    refine ⟨_, rfl, tk rfl hb2 (by omega) (by decide) (by decide) fun tt H3 t0 t1 hf3 hb3 => ⟨_, _, rfl, rfl, ?_⟩⟩
    have hf13 := (hf1.trans hf2).trans hf3
    refine q_when (et_test (ev_op (ev_var rfl) ev_c rv_I0)) (fun _ H4 e4 => ?_) (fun _ H4 e4 => ?_)
    · refine ⟨_, rfl, _, rfl, c_pick (ns := [0, 1, 7, -3, 100000000000, 5]) ?_ (ea_cons (ev_var rfl) (ea_cons ev_c ea_nil)) (hb3.ex e4) (by omega) (by decide) (by decide) fun v H5 hv hf5 hb5 => ⟨sz_of (Nat.le_of_ble_eq_true rfl), fun p hp => ?_⟩⟩
      · apply ed_is
        case h => exact ed_lst fr_self (eds_cons (ed_int ev_c) (eds_cons (ed_int ev_c) (eds_cons (ed_int ev_c) (eds_cons (ed_int (ev_un ev_c ru_neg)) (eds_cons (ed_int (ev_op ev_c ev_c (rv_I ⟨by decide, by decide, by decide⟩))) (eds_cons (ed_int ev_c) eds_nil)))))) (by simp)
        case e => rfl
      · refine fin (d := .put k.toNat (edge + tt) v) rfl ⟨hk2, by omega⟩ ⟨by omega, int_abs hv⟩ ((hf13.trans (Fm.of e4)).trans hf5) (hb5.le (by omega)) ?_ hp
        simp only [DAs, DA]
        exact ⟨_, _, rfl, rfl, _, _, rfl, by rw [hk], _, _, rfl, rfl, _, _, rfl, rfl, rfl⟩
    refine q_when (et_test (ev_op (ev_var rfl) ev_c rv_I0)) (fun _ H5 e5 => ?_) (fun _ H5 e5 => ?_)
    · have hb5 := (hb3.ex e4).ex e5
      refine ⟨_, rfl, _, rfl, _, rfl, _, _, rfl, rfl, tk rfl hb5 (by omega) (by decide) (by decide) fun d H6 d0 d1 hf6 hb6 => ⟨_, _, rfl, rfl, sz_of (Nat.le_of_ble_eq_true rfl), fun p hp => ?_⟩⟩
      refine fin (d := .take k.toNat (edge + tt) (edge + tt + 1 + d)) rfl ⟨hk2, by omega, by omega⟩ ⟨by omega, by omega⟩ ((hf13.trans (Fm.of (e4.trans e5))).trans hf6) (hb6.le (by omega)) ?_ hp
      simp only [DAs, DA]
      exact ⟨_, _, rfl, rfl, _, _, rfl, by rw [hk], _, _, rfl, rfl, _, _, rfl, rfl, rfl⟩
    have hb5 := (hb3.ex e4).ex e5
    refine ⟨_, rfl, _, _, rfl, rfl, tk rfl hb5 (by omega) (by decide) (by decide) fun d H6 d0 d1 hf6 hb6 => ⟨_, _, rfl, rfl, _, _, rfl, ?_⟩⟩
    have hf16 := (hf13.trans (Fm.of (e4.trans e5))).trans hf6
    generalize hlate : (if edge - 1 - d > 0 then edge - 1 - d else (0 : Int)) = late
    have l0 : 0 ≤ late := by
      rw [← hlate]
      split <;> omega
    have l1 : late ≤ edge := by
      rw [← hlate]
      split <;> omega
    refine q_when (et_test (ev_op (ev_var rfl) ev_c rv_eqI)) (fun _ H7 e7 => ?_) (fun _ H7 e7 => ?_)
    · refine ⟨_, rfl, _, rfl, sz_of (Nat.le_of_ble_eq_true rfl), fun p hp => ?_⟩
      refine fin (d := .put k.toNat late 9) rfl ⟨hk2, l0⟩ ⟨by omega, by decide⟩ (hf16.trans (Fm.of e7)) ((hb6.ex e7).le (by omega)) ?_ hp
      simp only [DAs, DA]
      exact ⟨_, _, rfl, rfl, _, _, rfl, by rw [hk], _, _, rfl, rfl, _, _, rfl, rfl, rfl⟩
    refine q_when (et_test (ev_op (ev_var rfl) ev_c rv_eqI)) (fun _ H8 e8 => ?_) (fun _ H8 e8 => ?_)
    · refine ⟨_, rfl, _, rfl, _, rfl, _, _, rfl, rfl, tk rfl ((hb6.ex e7).ex e8) (by omega) (by decide) (by decide) fun d2 H9 d20 d21 hf9 hb9 => ⟨_, _, rfl, rfl, sz_of (Nat.le_of_ble_eq_true rfl), fun p hp => ?_⟩⟩
      refine fin (d := .take k.toNat late (edge + 1 + d2)) rfl ⟨hk2, l0, by omega⟩ ⟨by omega, by omega⟩ ((hf16.trans (Fm.of (e7.trans e8))).trans hf9) (hb9.le (by omega)) ?_ hp
      simp only [DAs, DA]
      exact ⟨_, _, rfl, rfl, _, _, rfl, by rw [hk], _, _, rfl, rfl, _, _, rfl, rfl, rfl⟩
    have ho8 : H8 o = some (.lst [x, .int clock]) := (e7.trans e8) _ _ (hf16 _ _ (fun m => by
      obtain ⟨g, f, r, c, h1, _⟩ := hb
      have m' : o = b := m
      rw [m', h1] at ho
      simp at ho) ho)
    refine ⟨_, rfl, o, [x, .int clock], 1, .int clock, rfl, rfl, sq_of ho8, rfl, c_pick (ns := [1, 2, 3, 5, 9, 4, 17, -2]) ?_ (ea_cons (ev_var rfl) (ea_cons ev_c ea_nil)) ((hb6.ex e7).ex e8) (by omega) (by decide) (by decide) fun v H9 hv hf9 hb9 => ⟨_, _, rfl, rfl, _, _, rfl, sz_of (Nat.le_of_ble_eq_true rfl), fun p hp => ?_⟩⟩
    · apply ed_is
      case h => exact ed_lst fr_self (eds_cons (ed_int ev_c) (eds_cons (ed_int ev_c) (eds_cons (ed_int ev_c) (eds_cons (ed_int ev_c) (eds_cons (ed_int ev_c) (eds_cons (ed_int ev_c) (eds_cons (ed_int ev_c) (eds_cons (ed_int (ev_un ev_c ru_neg)) eds_nil)))))))) (by simp)
      case e => rfl
    have hv2 := int_seventeen hv
    refine fin (d := .clk (if clock + v > 0 then clock + v else 0)) rfl (by show (0 : Int) ≤ _; split <;> omega) (by show _ ≤ clock + 17; split <;> omega) ((hf16.trans (Fm.of (e7.trans e8))).trans hf9) (hb9.le (by omega)) ?_ hp
    simp only [DAs, DA]
    exact ⟨_, _, rfl, rfl, _, _, rfl, rfl, rfl⟩
end

structure OA where
  o : Addr
  ol : Addr
  d0 : Addr
  d1 : Addr
def OA.d (O : OA) (k : Nat) : Addr := if k = 0 then O.d0 else O.d1
/-- the law's own list -/
structure OwnAt (H : Hp) (O : OA) (clock : Int) (row : Nat → List (Int × Int)) : Prop where
  o : H O.o = some (.lst [.ref O.ol, .int clock])
  ol : H O.ol = some (.lst [.ref O.d0, .ref O.d1])
  d : ∀ k, k < 2 → H (O.d k) = some (.dK (rowK (row k)))
  ne : O.d0 ≠ O.d1
def OA.mem (O : OA) (a : Addr) : Prop := a = O.o ∨ a = O.ol ∨ a = O.d0 ∨ a = O.d1
theorem OwnAt.ex {H H' : Hp} {O : OA} {c : Int} {row : Nat → List (Int × Int)} (e : Ex H H') (h : OwnAt H O c row) : OwnAt H' O c row := ⟨e _ _ h.o, e _ _ h.ol, fun k hk => e _ _ (h.d k hk), h.ne⟩
theorem OA.memd (O : OA) {k : Nat} (hk : k < 2) : O.mem (O.d k) := by
  unfold OA.d
  split
  · exact .inr (.inr (.inl rfl))
  · exact .inr (.inr (.inr rfl))
theorem OwnAt.fm {M : Addr → Prop} {H H' : Hp} {O : OA} {c : Int} {row : Nat → List (Int × Int)} (h : OwnAt H O c row) (e : Fm M H H') (m : ∀ a, O.mem a → ¬ M a) : OwnAt H' O c row := ⟨e _ _ (m _ (.inl rfl)) h.o, e _ _ (m _ (.inr (.inl rfl))) h.ol, fun k hk => e _ _ (m _ (O.memd hk)) (h.d k hk), h.ne⟩
theorem OwnAt.noTup {H : Hp} {O : OA} {c : Int} {row : Nat → List (Int × Int)} (h : OwnAt H O c row) (a : Addr) (xs : List V) (ha : H a = some (.tup xs)) : ¬ O.mem a := fun m => by
  have h0 := h.d 0 (by decide)
  have h1 := h.d 1 (by decide)
  rcases m with rfl | rfl | rfl | rfl
  · rw [h.o] at ha
    cases ha
  · rw [h.ol] at ha
    cases ha
  · have : O.d 0 = O.d0 := rfl
    rw [← this, h0] at ha
    cases ha
  · have : O.d 1 = O.d1 := rfl
    rw [← this, h1] at ha
    cases ha
theorem OwnAt.some {H : Hp} {O : OA} {c : Int} {row : Nat → List (Int × Int)} (h : OwnAt H O c row) (a : Addr) (m : O.mem a) : H a ≠ none := fun ha => by
  have h0 := h.d 0 (by decide)
  have h1 := h.d 1 (by decide)
  rcases m with rfl | rfl | rfl | rfl
  · rw [h.o] at ha
    cases ha
  · rw [h.ol] at ha
    cases ha
  · have : O.d 0 = O.d0 := rfl
    rw [← this, h0] at ha
    cases ha
  · have : O.d 1 = O.d1 := rfl
    rw [← this, h1] at ha
    cases ha
def setRow (row : Nat → List (Int × Int)) (k : Nat) (r : List (Int × Int)) : Nat → List (Int × Int) := fun j => if j = k then r else row j
theorem OwnAt.setD {H : Hp} {O : OA} {c : Int} {row : Nat → List (Int × Int)} (h : OwnAt H O c row) {k : Nat} (hk : k < 2) (r : List (Int × Int)) : OwnAt (upd H (O.d k) (.dK (rowK r))) O c (setRow row k r) := by
  have hd := h.d k hk
  have n1 : O.o ≠ O.d k := fun e => by
    rw [← e, h.o] at hd
    cases hd
  have n2 : O.ol ≠ O.d k := fun e => by
    rw [← e, h.ol] at hd
    cases hd
  refine ⟨by rw [upd_ne n1]; exact h.o, by rw [upd_ne n2]; exact h.ol, fun j hj => ?_, h.ne⟩
  unfold setRow
  by_cases e : j = k
  · rw [e, upd_same, if_pos rfl]
  · rw [if_neg e, upd_ne]
    · exact h.d j hj
    · unfold OA.d
      have := h.ne
      by_cases a : j = 0
      · rw [if_pos a, if_neg (by omega)]
        exact this
      · rw [if_neg a, if_pos (by omega)]
        exact this.symm
theorem OwnAt.setC {H : Hp} {O : OA} {c : Int} {row : Nat → List (Int × Int)} (h : OwnAt H O c row) (c' : Int) : OwnAt (upd H O.o (.lst [.ref O.ol, .int c'])) O c' row := by
  have n2 : O.ol ≠ O.o := fun e => by
    have := h.ol
    rw [e, h.o] at this
    simp at this
  refine ⟨upd_same, by rw [upd_ne n2]; exact h.ol, fun j hj => ?_, h.ne⟩
  rw [upd_ne]
  · exact h.d j hj
  · intro e
    have := h.d j hj
    rw [e, h.o] at this
    cases this
theorem val_mem {l : List (Int × Int)} (nd : NdK l) {p : Int × Int} (h : p ∈ l) : valV (rowK l) (Sum.inl p.1 : Key) = some (.int p.2) := by
  obtain ⟨i, hi, he⟩ := List.getElem_of_mem h
  exact val_row nd (by rw [List.getElem?_eq_getElem hi, he])
theorem dropK_row (l : List (Int × Int)) (t : Int) : dropK (rowK l) (Sum.inl t : Key) = rowK (l.filter fun p => decide (p.1 ≠ t)) := by
  unfold dropK rowK
  rw [List.filter_map]
  congr 1
  refine List.filter_congr fun p _ => ?_
  simp
/-- the times of a dict of points that a test lets through -/
theorem ed_keys {σ : L2.St} {H : Hp} {a : Addr} {l : List (Int × Int)} {j jr : Nat} {tt : TT} (f : Int × Int → Bool) (hl : l.length ≤ 1000) (ha : H a = some (.dK (rowK l))) (hr0 : σ[jr]? = some (some (.ref a)))
    (hw : ∀ x, wipe ((wipe σ [j]).set j (some x)) [j] = wipe σ [j]) (hj : ∀ x, ((wipe σ [j]).set j (some x))[j]? = some (some x))
    (ht : ∀ p H' od, Ex (upd H a (.frz od (.dK (rowK l)))) H' → EvT tt ((wipe σ [j]).set j (some (.int p.1))) H' (f p)) :
    EvD TD (tLockE (tLc (iKeys (tVar jr)) (gName j) tt (tVar j) [j])) σ H (.list (((l.filter f).map (·.1)).map .int)) := by
  refine ed_lock ha fun H1 od e1 => ed_is (ed_lc fr_TD (fun i => f (l.getD i (0, 0))) (fun i => .int (l.getD i (0, 0)).1) (ew_keys (ev_var hr0) upd_same) (by unfold rowK; rw [List.length_map]; omega) fun N' i x H2 e2 fr _ hi hx => ?_) ?_
  · obtain ⟨kv, rfl, hkv⟩ := hx
    obtain ⟨p, hp, rfl⟩ := row_at hkv
    rw [List.getD_eq_getElem?_getD, hp]
    refine ⟨_, fun Q q => q, hw _, ht p H2 od (fun b o hb => ?_), fun _ => ed_int (ev_var (hj _))⟩
    refine e2 b o ?_
    by_cases hba : b = a
    · rw [hba, upd_same] at hb ⊢
      exact hb
    · rw [upd_ne hba] at hb ⊢
      exact e1 _ _ hb
  · unfold rowK
    rw [List.length_map, List.map_map]
    exact congrArg PyData.list (gvn_filter f fun p => .int p.1)
def dueD : Out → PyData
  | .ok => .list [.str "done", .none]
  | .back t => .list [.str "back", .int t]
  | .gone t => .list [.str "gone", .int t, .int 0]
/-- the own list behind a deed that is let -/
def ownC (c : Int) : Dd → Int
  | .clk t => t
  | _ => c
def ownR (row : Nat → List (Int × Int)) : Dd → Nat → List (Int × Int)
  | .put k t v => setRow row k (putR (row k) t v)
  | .take k lo hi => setRow row k (takeR (row k) lo hi)
  | .clk _ => row
def aft {α : Type} (r : Out) (a b : α) : α := match r with
  | .ok => a
  | _ => b
def spDue (K : PySem.W.Frag) : Sp := fun vs H Q _ => ∃ (N : Addr → Prop) (r w : V) (O : OA) (rs : List (Int × Option Int)) (d : Dd) (clock : Int) (row : Nat → List (Int × Int)), vs = [r, .ref O.o, w] ∧ DA N H (.list (rs.map rd)) r ∧ OkRs rs ∧ OwnAt H O clock row ∧ DA N H (dD d) w ∧ OkD d ∧ (∀ k, NdK (row k) ∧ (row k).length ≤ 1000) ∧
  ∀ v H', Fm O.mem H H' → OwnAt H' O (aft (letOf rs clock d) (ownC clock d) clock) (aft (letOf rs clock d) (ownR row d) row) → DA (FrN H) H' (dueD (letOf rs clock d)) v → Q v H'

end Eg
end

section
set_option Elab.async false
set_option linter.all false
set_option maxRecDepth 100000
set_option maxHeartbeats 4000000
set_option linter.constructorNameAsVariable false
namespace Eg
open PySem PySem.Spec PyProof.Rows L2 Evl C8


def dV : Dd → List V
  | .put k t v => [.str "put", .int ((k : Nat) : Int), .int t, .int v]
  | .take k lo hi => [.str "take", .int ((k : Nat) : Int), .int lo, .int hi]
  | .clk c => [.str "clock", .int c]
theorem dD_tup {N : Addr → Prop} {H : Hp} {d : Dd} {w : V} (h : DA N H (dD d) w) : ∃ L, w = .ref L ∧ H L = some (.tup (dV d)) := by
  cases d <;> (simp only [dD, DA, DAs] at h; obtain ⟨L, xs, rfl, hL, h⟩ := h; refine ⟨L, rfl, ?_⟩; rw [hL])
  · obtain ⟨_, _, rfl, rfl, _, _, rfl, rfl, _, _, rfl, rfl, _, _, rfl, rfl, rfl⟩ := h
    rfl
  · obtain ⟨_, _, rfl, rfl, _, _, rfl, rfl, _, _, rfl, rfl, _, _, rfl, rfl, rfl⟩ := h
    rfl
  · obtain ⟨_, _, rfl, rfl, _, _, rfl, rfl, rfl⟩ := h
    rfl
theorem rs_fm {N : Addr → Prop} {M : Addr → Prop} {H H' : Hp} {rs : List (Int × Option Int)} {r : V} (h : DA N H (.list (rs.map rd)) r) (hf : Fm M H H') (hm : ∀ a xs, H a = some (.lst xs) → N a → ¬ M a) (ht : ∀ a xs, H a = some (.tup xs) → ¬ M a) : DA N H' (.list (rs.map rd)) r :=
  DA.imp (fun a xs n z => ⟨n, hf a _ (hm a xs z n) z⟩) (fun a xs z => hf a _ (ht a xs z) z) _ _ h
theorem own_d {K : PySem.W.Frag} {σ : L2.St} {H : Hp} {O : OA} {c : Int} {row : Nat → List (Int × Int)} {i : Nat} {tb : TE} {k : Nat} (h : OwnAt H O c row) (hi : σ[i]? = some (some (V.ref O.o))) (hk : k < 2) (hb : Ev tb σ H (.int ((k : Nat) : Int))) : Ev (tOp (rIxL K) (tOp (rIxL K) (tVar i) (tC (.int 0))) tb) σ H (.ref (O.d k)) := by
  refine ev_ixL (ev_ixL (ev_var hi) ev_c h.o rfl) hb h.ol ?_
  rw [atI_nat]
  match k, hk with
  | 0, _ => rfl
  | 1, _ => rfl
theorem s_forD {K : PySem.W.Frag} {N : Addr → Prop} {te : TE} {g : TG} {tb : TS} {D : Ends} {σ : L2.St} {H : Hp} {ds : List PyData} (h : EvD N te σ H (.list ds))
    (kk : ∀ p xs H1, Ex H H1 → N p → H1 p = some (.lst xs) → DAs N H1 ds xs → ∃ Pv : Nat → L2.St → Hp → Prop, Pv 0 σ H1 ∧ (∀ i σ' H', i ≤ xs.length → Pv i σ' H' → SqL K H' p xs) ∧
      (∀ i x σ' H', xs[i]? = some x → Pv i σ' H' → g x σ' H' fun σ2 H2 => tb { D with nx := Pv (i + 1), ct := Pv (i + 1), bk := D.nx } σ2 H2) ∧ ∀ σ' H', Pv xs.length σ' H' → D.nx σ' H') : tFor (iList K te) g tb D σ H := h H (Ex.refl H) _ fun v H1 e1 hd => by
  obtain ⟨p, xs, rfl, hn, hp, hxs⟩ := hd.lst
  obtain ⟨Pv, a, b, c, d⟩ := kk p xs H1 e1 hn hp hxs
  exact ⟨p, rfl, ⟨xs, sq_of hp⟩, for_list Pv a b c d⟩
theorem done_list {σ : L2.St} {H : Hp} {N : Addr → Prop} (fr : Fr N H) : EvD N (tLst (tCons (tC (.str "done")) (tCons (tC .non) tNil))) σ H (dueD .ok) := ed_lst fr (eds_cons (ed_str ev_c) (eds_cons (ed_non ev_c) eds_nil)) (by simp)
theorem filter_drop {l : List (Int × Int)} {ns : List Int} {i : Nat} {t : Int} (h : ns[i]? = some t) : (l.filter fun p => decide (p.1 ∉ ns.take i)).filter (fun p => decide (p.1 ≠ t)) = l.filter fun p => decide (p.1 ∉ ns.take (i + 1)) := by
  rw [List.filter_filter]
  refine List.filter_congr fun p _ => ?_
  rw [List.take_succ, h]
  simp
  by_cases a : p.1 = t <;> simp [a]
theorem filter_all {l : List (Int × Int)} {lo hi : Int} {ns : List Int} (h : ns = (l.filter (inB lo hi)).map (·.1)) : l.filter (fun p => decide (p.1 ∉ ns)) = takeR l lo hi := by
  unfold takeR
  refine List.filter_congr fun p hp => ?_
  have : p.1 ∈ ns ↔ inB lo hi p = true := by
    rw [h]
    constructor
    · intro hm
      obtain ⟨q, hq, he⟩ := List.mem_map.mp hm
      have := (List.mem_filter.mp hq).2
      unfold inB at this ⊢
      rw [he] at this
      exact this
    · exact fun hb => List.mem_map.mpr ⟨p, List.mem_filter.mpr ⟨hp, hb⟩, rfl⟩
  by_cases c : inB lo hi p = true
  · simp [c, this.mpr c]
  · have c2 : p.1 ∉ ns := fun m => c (this.mp m)
    simp [c, c2]

section
variable {P : Program} {w : World} {K : PySem.W.Frag} {mg : Str → Option Value} {base : Heap}
theorem sc_law_due : FnScope ["_law_rules_here", "_law_own", "_law_deed_here", "_law_row", "_law_time"] ["_law_rules_here", "_law_own", "_law_deed_here"] (defScope s__law_due) := ⟨rfl, rfl, rfl, by decide +kernel, rfl, by decide +kernel, by decide +kernel⟩
theorem c_law_due (T : Fx K mg) : C8.Cal P w K mg base 2 "_law_due" (spDue K) [] :=
  cal_of T.d__law_due sc_law_due (fun _ _ _ _ h => by obtain ⟨_, _, _, _, _, _, _, _, rfl, _⟩ := h; rfl) (fun _ _ _ _ _ _ us hl => match us, hl with | [_, _, _], _ => rfl) fun cdv A outer s H vs Q E hr h => by
    have c_law_edge := c_law_edge (P := P) (w := w) (base := base) T
    refine ⟨_, (pss_cons (ps_if (pt_cmpR op_eq (pe_ix (ix_tupK K rfl) (pv 2) pe_int (fun _ _ => rfl)) pe_str (nomark _)) (pss_cons (ps_if (pt_cmpR op_lt (pe_ix (ix_tupK K rfl) (pv 2) pe_int (fun _ _ => rfl)) (pe_ix (ix_listK K rfl) (pv 1) pe_int (fun _ _ => rfl)) (nomark _)) (pss_one (ps_ret (pe_lst (pa_cons pe_str (pa_cons (pe_ix (ix_tupK K rfl) (pv 2) pe_int (fun _ _ => rfl)) pa_nil))))) pss_nil)
      (pss_cons (ps_asg (pe_ix (ix_tupK K rfl) (pv 2) pe_int (fun _ _ => rfl)) (pg_sub (pv 1) pe_int set_list))
      (pss_one (ps_ret (pe_lst (pa_cons pe_str (pa_cons pe_non pa_nil))))))) pss_nil)
      (pss_cons (ps_if (pt_cmpR op_lt (pe_ix (ix_tupK K rfl) (pv 2) pe_int (fun _ _ => rfl)) (pe_c c_law_edge hr (by decide) (by rfl) (pa_cons (pv 0) (pa_cons pe_int (pa_cons (pe_ix (ix_listK K rfl) (pv 1) pe_int (fun _ _ => rfl)) pa_nil)))) (nomark _)) (pss_one (ps_ret (pe_lst (pa_cons pe_str (pa_cons (pe_ix (ix_tupK K rfl) (pv 2) pe_int (fun _ _ => rfl)) (pa_cons pe_int pa_nil)))))) pss_nil)
      (pss_cons (ps_set (i := 3) sc_law_due.nd rfl (Or.inl rfl) (pe_ix (ix_listK K rfl) (pe_ix (ix_listK K rfl) (pv 1) pe_int (fun _ _ => rfl)) (pe_ix (ix_tupK K rfl) (pv 2) pe_int (fun _ _ => rfl)) (fun _ _ => rfl)))
      (pss_cons (ps_if (pt_cmpR op_eq (pe_ix (ix_tupK K rfl) (pv 2) pe_int (fun _ _ => rfl)) pe_str (nomark _)) (pss_one (ps_for PassesOwn.never rfl (pi_listK K rfl (pe_lock (pe_lc rfl sc_law_due.nd (pi_keys (pv 3)) (blkOk_by (own := [("_law_time", 4)]) (by show blkC ["_law_rules_here", "_law_own", "_law_deed_here", "_law_row", "_law_time"] (defScope s__law_due) _ _ = true; decide +kernel)) (fun _ _ _ _ _ => (pg_name (i := 4) sc_law_due.nd rfl (Or.inl rfl))) (fun _ _ _ _ _ => (pts_one (pt_chain op_le op_lt (pe_ix (ix_tupK K rfl) (pv 2) pe_int (fun _ _ => rfl)) (pv 4) (pe_ix (ix_tupK K rfl) (pv 2) pe_int (fun _ _ => rfl))))) (fun _ _ _ _ _ => (pv 4))))) (pg_name (i := 4) sc_law_due.nd rfl (Or.inl rfl)) (pss_one (ps_expr (pe_dpop1 (pv 3) (pv 4) ⟨rfl, rfl, rfl, rfl⟩))))) (pss_one (ps_dput (hu_of hr) (pv 3) (pe_ix (ix_tupK K rfl) (pv 2) pe_int (fun _ _ => rfl)) (pe_ix (ix_tupK K rfl) (pv 2) pe_int (fun _ _ => rfl)) rfl)))
      (pss_one (ps_ret (pe_lst (pa_cons pe_str (pa_cons pe_non pa_nil))))))))), ?_⟩
    obtain ⟨N, r, w', O, rs, d, clock, row, rfl, hrs, okr, ho, hd, ok, hkeys, q⟩ := h
    have ret : ∀ (H1 : Hp) (σ : L2.St) (C' : Int) (R' : Nat → List (Int × Int)), Fm O.mem H H1 → (∀ a, H1 a = none → H a = none) → OwnAt H1 O C' R' → (∀ v H', Fm O.mem H H' → OwnAt H' O C' R' → DA (FrN H) H' (dueD .ok) v → Q v H') → tRet (tLst (tCons (tC (.str "done")) (tCons (tC .non) tNil))) { nx := fun _ H' => Q .non H', rt := Q } σ H1 := fun H1 σ C' R' hf hn h1 q => s_retD (N := FrN H) (done_list (fun a ha => hn a ha)) fun v H2 e2 hd => q v H2 (hf.trans (Fm.of e2)) (h1.ex e2) hd
    cases d with
    | clk t =>
      obtain ⟨L, rfl, hL⟩ := dD_tup hd
      refine q_when (b := true) (et_is (et_test (ev_op (ev_ixT (ev_var rfl) ev_c hL rfl) ev_c (rv_eq rfl))) (by decide +kernel)) (fun _ H1 e1 => ?_) (fun c => by cases c)
      refine q_when (D := { nx := _, rt := Q }) (b := decide (t < clock)) (et_test (ev_op (ev_ixT (ev_var rfl) ev_c (e1 _ _ hL) rfl) (ev_ixL (ev_var rfl) ev_c (e1 _ _ ho.o) rfl) rv_I0)) (fun hb H2 e2 => ?_) (fun hb H2 e2 => ?_)
      · have hlet : letOf rs clock (.clk t) = .back t := if_pos (of_decide_eq_true hb)
        rw [hlet] at q
        have e12 := e1.trans e2
        exact s_retD (N := FrN H) (d := dueD (.back t)) (ed_lst (fun a ha => fresh_back e12 ha) (eds_cons (ed_str ev_c) (eds_cons (ed_int (ev_ixT (ev_var rfl) ev_c (e12 _ _ hL) rfl)) eds_nil)) (by simp)) fun v H3 e3 hd => q v H3 (Fm.of (e12.trans e3)) (ho.ex (e12.trans e3)) hd
      have hlet : letOf rs clock (.clk t) = .ok := if_neg (of_decide_eq_false hb)
      rw [hlet] at q
      have e12 := e1.trans e2
      refine q_setL (D := { nx := _, rt := Q }) (j := 1) (e12 _ _ ho.o) (ev_ixT (ev_var rfl) ev_c (e12 _ _ hL) rfl) (ev_var rfl) ev_c (by simp) fun H3 e3 => ?_
      have e13 := e12.trans e3
      refine ret _ _ t row (fun a o m ha => ?_) (fun a ha => ?_) ((ho.ex e13).setC t) q
      · rw [upd_ne (fun e => m (.inl e))]
        exact e13 _ _ ha
      · by_cases c : a = O.o
        · rw [c] at ha
          have ha' : upd H3 O.o (.lst [.ref O.ol, .int t]) O.o = none := ha
          rw [upd_same] at ha'
          cases ha'
        · rw [upd_ne c] at ha
          exact fresh_back e13 ha
    | put k t x =>
      obtain ⟨L, rfl, hL⟩ := dD_tup hd
      have hL2 : ∀ {H'}, Ex H H' → H' L = some (.tup (dV (.put k t x))) := fun e => e _ _ hL
      refine q_when (b := false) (et_is (et_test (ev_op (ev_ixT (ev_var rfl) ev_c hL rfl) ev_c (rv_eq rfl))) (by decide +kernel)) (fun c => by cases c) (fun _ H1 e1 => ?_)
      refine q_when (b := decide (t < edgeOf rs 0 clock)) (et_test (ev_op (ev_ixT (ev_var rfl) ev_c (hL2 e1) rfl) (ev_callVD (N := N) (ds := [.list (rs.map rd), .int ((0 : Nat) : Int), .int clock]) (eds_cons (ed_var rfl (hrs.ex e1)) (eds_cons (ed_int ev_c) (eds_cons (ed_int (ev_ixL (ev_var rfl) ev_c (e1 _ _ ho.o) rfl)) eds_nil))) rfl fun vs H2 e2 hvs => ⟨N, rs, 0, clock, hvs, okr, okr.l1, rfl⟩) rv_I0)) (fun hb H2 e2 => ?_) (fun hb H2 e2 => ?_)
      · have hlet : letOf rs clock (.put k t x) = .gone t := if_pos (of_decide_eq_true hb)
        rw [hlet] at q
        have e12 := e1.trans e2
        exact s_retD (N := FrN H) (d := dueD (.gone t)) (ed_lst (fun a ha => fresh_back e12 ha) (eds_cons (ed_str ev_c) (eds_cons (ed_int (ev_ixT (ev_var rfl) ev_c (hL2 e12) rfl)) (eds_cons (ed_int ev_c) eds_nil))) (by simp)) fun v H3 e3 hd => q v H3 (Fm.of (e12.trans e3)) (ho.ex (e12.trans e3)) hd
      have hlet : letOf rs clock (.put k t x) = .ok := if_neg (of_decide_eq_false hb)
      rw [hlet] at q
      have e12 := e1.trans e2
      refine q_asg (own_d (ho.ex e12) rfl ok.1 (ev_ixT (ev_var rfl) ev_c (hL2 e12) rfl)) fun H3 e3 => ?_
      have e13 := e12.trans e3
      have ho3 := ho.ex e13
      obtain ⟨nd, hlen⟩ := hkeys k
    
      refine q_if (D := { nx := fun _ H' => Q .non H', rt := Q }) (b := false) (et_is (et_test (ev_op (ev_ixT (ev_var rfl) ev_c (hL2 e13) rfl) ev_c (rv_eq rfl))) (by decide +kernel)) (fun c => by cases c) (fun _ H4 e4 => ?_)
      have e14 := e13.trans e4
      refine s_dput (k := (Sum.inl t : Key)) (v := .int x) (ev_ixT (ev_var rfl) ev_c (hL2 e14) rfl) (ev_var rfl) (ev_ixT (ev_var rfl) ev_c (hL2 e14) rfl) ((ho.ex e14).d k ok.1) (by unfold rowK; rw [List.length_map]; omega) fun H5 e5 => ?_
      have e15 := e14.trans e5
      rw [putK_row]
      dsimp only
      refine ret _ _ clock (setRow row k (putR (row k) t x)) (fun a o m ha => ?_) (fun a ha => ?_) ((ho.ex e15).setD ok.1 _) q
      · rw [upd_ne (fun e => m (by rw [e]; exact O.memd ok.1))]
        exact e15 _ _ ha
      · by_cases c : a = O.d k
        · rw [c, upd_same] at ha
          cases ha
        · rw [upd_ne c] at ha
          exact fresh_back e15 ha
    | take k t x =>
      obtain ⟨L, rfl, hL⟩ := dD_tup hd
      have hL2 : ∀ {H'}, Ex H H' → H' L = some (.tup (dV (.take k t x))) := fun e => e _ _ hL
      refine q_when (b := false) (et_is (et_test (ev_op (ev_ixT (ev_var rfl) ev_c hL rfl) ev_c (rv_eq rfl))) (by decide +kernel)) (fun c => by cases c) (fun _ H1 e1 => ?_)
      refine q_when (b := decide (t < edgeOf rs 0 clock)) (et_test (ev_op (ev_ixT (ev_var rfl) ev_c (hL2 e1) rfl) (ev_callVD (N := N) (ds := [.list (rs.map rd), .int ((0 : Nat) : Int), .int clock]) (eds_cons (ed_var rfl (hrs.ex e1)) (eds_cons (ed_int ev_c) (eds_cons (ed_int (ev_ixL (ev_var rfl) ev_c (e1 _ _ ho.o) rfl)) eds_nil))) rfl fun vs H2 e2 hvs => ⟨N, rs, 0, clock, hvs, okr, okr.l1, rfl⟩) rv_I0)) (fun hb H2 e2 => ?_) (fun hb H2 e2 => ?_)
      · have hlet : letOf rs clock (.take k t x) = .gone t := if_pos (of_decide_eq_true hb)
        rw [hlet] at q
        have e12 := e1.trans e2
        exact s_retD (N := FrN H) (d := dueD (.gone t)) (ed_lst (fun a ha => fresh_back e12 ha) (eds_cons (ed_str ev_c) (eds_cons (ed_int (ev_ixT (ev_var rfl) ev_c (hL2 e12) rfl)) (eds_cons (ed_int ev_c) eds_nil))) (by simp)) fun v H3 e3 hd => q v H3 (Fm.of (e12.trans e3)) (ho.ex (e12.trans e3)) hd
      have hlet : letOf rs clock (.take k t x) = .ok := if_neg (of_decide_eq_false hb)
      rw [hlet] at q
      have e12 := e1.trans e2
      refine q_asg (own_d (ho.ex e12) rfl ok.1 (ev_ixT (ev_var rfl) ev_c (hL2 e12) rfl)) fun H3 e3 => ?_
      have e13 := e12.trans e3
      have ho3 := ho.ex e13
      obtain ⟨nd, hlen⟩ := hkeys k
    
      refine q_if (D := { nx := fun _ H' => Q .non H', rt := Q }) (b := true) (et_is (et_test (ev_op (ev_ixT (ev_var rfl) ev_c (hL2 e13) rfl) ev_c (rv_eq rfl))) (by decide +kernel)) (fun _ H4 e4 => ?_) (fun c => by cases c)
      have e14 := e13.trans e4
      have hLd : L ≠ O.d k := fun c => by
        have := ho.d k ok.1
        rw [← c, hL] at this
        cases this
      have hsrc := ed_keys (tt := tTest (tChain (rI0 fun i j => .bl (decide (i ≤ j))) (rI0 fun i j => .bl (decide (i < j))) (tOp (rIxT K) (tVar 2) (tC (.int 2))) (tVar 4) (tOp (rIxT K) (tVar 2) (tC (.int 3))))) (σ := [some r, some (.ref O.o), some (.ref L), some (.ref (O.d k)), none]) (j := 4) (jr := 3) (inB t x) hlen ((ho.ex e14).d k ok.1) rfl (fun _ => rfl) (fun _ => rfl) (fun p H' od e => et_test (ev_chain (ev_ixT (ev_var rfl) ev_c (e _ _ (by rw [upd_ne hLd]; exact hL2 e14)) rfl) (ev_var rfl) rv_I0 (fun _ => ev_ixT (ev_var rfl) ev_c (e _ _ (by rw [upd_ne hLd]; exact hL2 e14)) rfl) (fun _ => rv_I0)))
      refine s_forD hsrc fun p xs H5 e5 _ hp hxs => ?_
      have hxs' := hxs.ints
      have e15 := e14.trans e5
      have ho5 := ho.ex e15
      have hpk : p ≠ O.d k := fun c => by
        have := ho5.d k ok.1
        rw [← c, hp] at this
        cases this
      generalize hns : ((row k).filter (inB t x)).map (·.1) = ns at hxs'
      have hnd : ns.Nodup := by
        rw [← hns]
        exact ndk_filter nd _
      have hmem : ∀ i tt, ns[i]? = some tt → ∃ q, q ∈ row k ∧ q.1 = tt := fun i tt h => by
        have := List.mem_of_getElem? h
        rw [← hns] at this
        obtain ⟨q, hq, he⟩ := List.mem_map.mp this
        exact ⟨q, (List.mem_filter.mp hq).1, he⟩
      refine ⟨fun i σ' H' => Fm (fun a => a = O.d k) H5 H' ∧ (∃ w4, σ' = [some r, some (.ref O.o), some (.ref L), some (.ref (O.d k)), w4]) ∧ H' (O.d k) = some (.dK (rowK ((row k).filter fun q => decide (q.1 ∉ ns.take i)))), ⟨Fm.of (Ex.refl _), ⟨_, rfl⟩, ?_⟩, fun i σ' H' _ h => sq_of (h.1 _ _ hpk hp), fun i y σ' H' hi h => ?_, fun σ' H' h => ?_⟩
      · rw [ho5.d k ok.1, List.take_zero, List.filter_eq_self.mpr (fun _ _ => by simp)]
      · obtain ⟨h1, ⟨w4, rfl⟩, h3⟩ := h
        have hi' : (ns.map V.int)[i]? = some y := by rw [← hxs']; exact hi
        rw [List.getElem?_map] at hi'
        obtain ⟨tt, htt, rfl⟩ := Option.map_eq_some_iff.mp hi'
        obtain ⟨q, hq, hqt⟩ := hmem i tt htt
        have hni : tt ∉ ns.take i := fun hm => by
          obtain ⟨j, hj, hje⟩ := List.getElem_of_mem hm
          rw [List.length_take] at hj
          rw [List.getElem_take] at hje
          obtain ⟨hil, hie⟩ := List.getElem?_eq_some_iff.mp htt
          exact (List.pairwise_iff_getElem.mp hnd) j i (by omega) hil (by omega) (by rw [hje, hie])
        have hval := val_mem (ndk_filter nd fun q => decide (q.1 ∉ ns.take i)) (p := q) (List.mem_filter.mpr ⟨hq, by rw [hqt]; simp [hni]⟩)
        rw [hqt] at hval
        refine ⟨_, rfl, O.d k, rfl, .inl ⟨_, .inl h3⟩, _, rfl, _, (Sum.inl tt : Key), _, h3, rfl, hval, ?_⟩
        refine ⟨fun a o m ha => ?_, ⟨_, rfl⟩, ?_⟩
        · rw [upd_ne m]
          exact h1 a o m ha
        · rw [upd_same, dropK_row, filter_drop htt]
      · obtain ⟨h1, ⟨w4, rfl⟩, h3⟩ := h
        have hlen2 : xs.length = ns.length := by rw [hxs', List.length_map]
        rw [hlen2, List.take_length, filter_all hns.symm] at h3
        have hown : OwnAt H' O clock (setRow row k (takeR (row k) t x)) := by
          refine ⟨h1 _ _ (fun c => ?_) ho5.o, h1 _ _ (fun c => ?_) ho5.ol, fun j hj => ?_, ho.ne⟩
          · have := ho5.d k ok.1
            rw [← c, ho5.o] at this
            cases this
          · have := ho5.d k ok.1
            rw [← c, ho5.ol] at this
            cases this
          · unfold setRow
            by_cases e : j = k
            · rw [e, if_pos rfl]
              exact h3
            · rw [if_neg e]
              refine h1 _ _ (fun c => ?_) (ho5.d j hj)
              have hk2 : k < 2 := ok.1
              have hc : O.d j = O.d k := c
              unfold OA.d at hc
              have hne := ho.ne
              by_cases a : j = 0
              · rw [if_pos a, if_neg (by omega)] at hc
                exact hne hc
              · rw [if_neg a, if_pos (by omega)] at hc
                exact hne hc.symm
        dsimp only
        refine ret _ _ clock (setRow row k (takeR (row k) t x)) (fun a o m ha => h1 _ _ (fun e => m (by rw [e]; exact O.memd ok.1)) (e15 _ _ ha)) (fun a ha => ?_) hown q
        cases c : H5 a with
        | none => exact fresh_back e15 c
        | some o =>
          by_cases c2 : a = O.d k
          · rw [c2, h3] at ha
            cases ha
          · rw [h1 _ _ c2 c] at ha
            cases ha
end
end Eg
end

section
set_option Elab.async false
set_option linter.all false
set_option maxRecDepth 100000
set_option maxHeartbeats 4000000
/-! methods called in a try: what they let out, at the slots as they are -/
namespace Eg
open PySem PySem.Spec PyProof.Rows L2 Evl C8
section
variable {X : Cx} {CX : CXT} {k : Nat} {f C : Addr} {fd : FuncData} {ps ks : List Str} {sp : Sp} {E : L2.St → XK} {m : Str} {pos apos : Pos} {e o : Expr} {es : List Expr} {kws : List Keyword} {ta : TE} {t tk : TA} {g : List Value → List Value → List Value} {gV : List V → List V → List V}
def tMethS (C : Addr) (m : Str) (sp : Sp) (E : L2.St → XK) (ta : TE) (t : TA) : TE := fun σ H Q => ta σ H fun x H1 => ∃ a dx fs, x = .ref a ∧ H1 a = some (.ins C dx fs) ∧ fs.lookup m = none ∧ t σ H1 fun vs H2 => sp (x :: vs) H2 Q (E σ)
def tMethKS (C : Addr) (m : Str) (sp : Sp) (gV : List V → List V → List V) (E : L2.St → XK) (ta : TE) (tk : TA) : TE := fun σ H Q => ta σ H fun x H1 => ∃ (a dx : Addr) (fs : List (Str × V)), x = .ref a ∧ H1 a = some (.ins C dx fs) ∧ fs.lookup m = none ∧
  tk σ H1 fun zs H2 => sp (gV [x] zs) H2 Q (E σ)
theorem pe_methAt {pl : Sem Bool} (he : PE X o ta) (c : Cls X.K C) (hm : Meth X.K C m f) (F : FnOk X.prog X.w X.K X.mg X.base CX k f fd ps sp) (hr : Room k X.A) (hb : Binds X.K fd ps []) (hx : ∀ σ, PassesAt CX X σ (E σ)) (ha : L2.PA X (e :: es) t)
    (hst : starEach (e :: es) X.env = (false, eval e X.env) :: starEach es X.env := by rfl) (hpl : (backTo pos (starEach es X.env)).any (·.1) = false := by rfl)
    (ht : eval (.Call (.Attribute o m apos) (e :: es) [] pos) X.env = (do
      let ov ← eval o X.env
      standAt apos.atName
      let (f, first) ← holding [ov] (getMethod ov m pl)
      callWith pos f first (backTo pos (starEach (e :: es) X.env)) (backToKw pos (keywordEach [] X.env))) := by rfl) :
    PE X (.Call (.Attribute o m apos) (e :: es) [] pos) (tMethS C m sp E ta t) := by
  refine ⟨fun pins s σ H Q I h => ?_⟩
  refine PySem.W.methodCall_KW (pl := pl) (thn (he.run pins s σ H _ I h) fun u s1 hh => ?_) ht
  obtain ⟨x, H1, I1, rx, a, dx, fs, ex, ea, l, q⟩ := hh
  subst ex
  obtain rfl : u = Value.ref a := rx
  refine getmeth_ok I1 ea c hm l ?_
  refine PySem.W.callWith_K (first := [.ref a]) (h₀ := X.base) I.ok.mod.kin hm.kp (thn (ha.run pos pins s1 σ H1 _ I1 q) fun us s2 hh => ?_) hst hpl
  obtain ⟨vs, H2, I2, r, q2⟩ := hh
  exact ⟨I2.kIn, run_fnS (us := .ref a :: us) (vs := .ref a :: vs) F hr hb (hx σ) I2 (.cons rfl r) q2⟩
theorem run_fnkS {pins : List (Addr × Obj)} {σ : L2.St} {H : Hp} {s : Shared} {Q : VK} {us ws : List Value} {vs zs : List V} (F : FnOk X.prog X.w X.K X.mg X.base CX k f fd ps sp) (hr : Room k X.A) (hb : KBinds X.K fd ps ks g gV) (hx : PassesAt CX X σ (E σ))
    (I : Inv X pins σ H s) (r : Vals vs us) (rz : Vals zs ws) (h : sp (gV vs zs) H Q (E σ)) : wpAny (model X.prog X.w) X.A (call (.ref f) us (ks.zip ws)) (EP X pins σ Q) X.xe s := by
  have r2 := hb.rel r rz
  have hl : (g us ws).length = ps.length := by rw [← r2.length]; exact F.len _ _ _ _ h
  refine wpAny_call (codeAny_mono (F.run X.A X.stack s H ⟨us, ks.zip ws⟩ (g us ws) (gV vs zs) Q (E σ) hr I.env0 (hb.to s us ws I.kIn hl) r2 h) fun r s' hq => ?_)
  cases r with
  | error e => exact hx pins H s e s' I hq
  | ok fl =>
    cases fl with
    | ret u => exact I.after hq
    | next => exact False.elim hq
    | brk => exact False.elim hq
    | cont => exact False.elim hq
theorem pe_methKAt {pl : Sem Bool} (he : PE X o ta) (c : Cls X.K C) (hm : Meth X.K C m f) (F : FnOk X.prog X.w X.K X.mg X.base CX k f fd ps sp) (hr : Room k X.A) (hb : KBinds X.K fd ps ks g gV) (hx : ∀ σ, PassesAt CX X σ (E σ)) (hkw : PK X kws tk)
    (hall : (backToKw pos (keywordEach kws X.env)).all (·.1.isSome) = true := by rfl) (hks : (backToKw pos (keywordEach kws X.env)).filterMap (·.1) = ks := by rfl)
    (hpl : ((backTo pos (starEach [] X.env)).any (·.1) || (backToKw pos (keywordEach kws X.env)).any (·.1.isNone)) = false := by rfl)
    (ht : eval (.Call (.Attribute o m apos) [] kws pos) X.env = (do
      let ov ← eval o X.env
      standAt apos.atName
      let (f, first) ← holding [ov] (getMethod ov m pl)
      callWith pos f first (backTo pos (starEach [] X.env)) (backToKw pos (keywordEach kws X.env))) := by rfl) :
    PE X (.Call (.Attribute o m apos) [] kws pos) (tMethKS C m sp gV E ta tk) := by
  refine ⟨fun pins s σ H Q I h => ?_⟩
  refine PySem.W.methodCall_KW (pl := pl) (thn (he.run pins s σ H _ I h) fun u s1 hh => ?_) ht
  obtain ⟨x, H1, I1, rx, a, dx, fs, ex, ea, l, q⟩ := hh
  subst ex
  have eu : u = Value.ref a := rx
  subst eu
  refine getmeth_ok I1 ea c hm l ?_
  refine PySem.W.callWith_KW0 (first := [.ref a]) (h₀ := X.base) I.ok.mod.kin hm.kp hall ?_ hpl
  refine thn (hkw.run pos pins s1 σ H1 _ I1 q) fun ws s2 hh => ?_
  obtain ⟨zs, H2, I2, rz, q2⟩ := hh
  refine ⟨I2.kIn, ?_⟩
  rw [hks]
  exact run_fnkS (us := [.ref a]) (vs := [.ref a]) F hr hb (hx σ) I2 (.cons rfl .nil) rz q2
theorem pe_mtAt {W : WX} {pl : Sem Bool} (c : MetX X.prog X.w X.K X.mg X.base k C m sp) {j : Nat} (hr : Room j X.A) (hk : k ≤ j) (tk' : Takes X W) (he : PE X o ta) (ha : L2.PA X (e :: es) t)
    (hst : starEach (e :: es) X.env = (false, eval e X.env) :: starEach es X.env := by rfl) (hpl : (backTo pos (starEach es X.env)).any (·.1) = false := by rfl)
    (ht : eval (.Call (.Attribute o m apos) (e :: es) [] pos) X.env = (do
      let ov ← eval o X.env
      standAt apos.atName
      let (f, first) ← holding [ov] (getMethod ov m pl)
      callWith pos f first (backTo pos (starEach (e :: es) X.env)) (backToKw pos (keywordEach [] X.env))) := by rfl) :
    PE X (.Call (.Attribute o m apos) (e :: es) [] pos) (tMethS C m sp (WE W) ta t) := by
  obtain ⟨f, fd, ps, hc, hm, F, b⟩ := c.ex
  exact pe_methAt (pl := pl) he hc hm F (hr.mono hk) b (fun σ => passAt tk' σ) ha hst hpl ht
/-- a method that may be called by its keywords alone -/
structure MetXK (P : Program) (w : World) (K : PySem.W.Frag) (mg : Str → Option Value) (base : Heap) (k : Nat) (C : Addr) (m : Str) (sp : Sp) (ks : List Str) (gV : List V → List V → List V) : Prop where
  ex : ∃ (f : Addr) (fd : FuncData) (ps : List Str) (g : List Value → List Value → List Value), Cls K C ∧ Meth K C m f ∧ FnOk P w K mg base (L2.CX P w) k f fd ps sp ∧ KBinds K fd ps ks g gV
theorem pe_mtKAt {W : WX} {pl : Sem Bool} (c : MetXK X.prog X.w X.K X.mg X.base k C m sp ks gV) {j : Nat} (hr : Room j X.A) (hk : k ≤ j) (tk' : Takes X W) (he : PE X o ta) (hkw : PK X kws tk)
    (hall : (backToKw pos (keywordEach kws X.env)).all (·.1.isSome) = true := by rfl) (hks : (backToKw pos (keywordEach kws X.env)).filterMap (·.1) = ks := by rfl)
    (hpl : ((backTo pos (starEach [] X.env)).any (·.1) || (backToKw pos (keywordEach kws X.env)).any (·.1.isNone)) = false := by rfl)
    (ht : eval (.Call (.Attribute o m apos) [] kws pos) X.env = (do
      let ov ← eval o X.env
      standAt apos.atName
      let (f, first) ← holding [ov] (getMethod ov m pl)
      callWith pos f first (backTo pos (starEach [] X.env)) (backToKw pos (keywordEach kws X.env))) := by rfl) :
    PE X (.Call (.Attribute o m apos) [] kws pos) (tMethKS C m sp gV (WE W) ta tk) := by
  obtain ⟨f, fd, ps, g, hc, hm, F, b⟩ := c.ex
  exact pe_methKAt (pl := pl) he hc hm F (hr.mono hk) b (fun σ => passAt tk' σ) hkw hall hks hpl ht
end
end Eg
end

section
set_option Elab.async false
set_option linter.all false
set_option maxRecDepth 100000
set_option maxHeartbeats 4000000
set_option linter.constructorNameAsVariable false
namespace Eg
open PySem PySem.Spec PyProof.Rows L2 Evl C8


theorem q_asgIf {i : Nat} {t : TT} {ta tb : TE} {tz : TS} {D : Ends} {σ : L2.St} {H : Hp} {b : Bool} (h : EvT t σ H b) (h1 : b = true → ∀ H1, Ex H H1 → ta σ H1 (fun v H2 => tz D (σ.set i (some v)) H2)) (h2 : b = false → ∀ H1, Ex H H1 → tb σ H1 (fun v H2 => tz D (σ.set i (some v)) H2)) : tSeq (tAsg (tIf t ta tb) (gName i)) tz D σ H := h H (Ex.refl H) _ fun H1 e => by
  cases b with
  | true => exact h1 rfl H1 e
  | false => exact h2 rfl H1 e
theorem ob_none {H H' : Hp} {b : Addr} {n : Int} (hf : Fm (OB b) H H') (hb : BoxAt H' b n) (a : Addr) (ha : H' a = none) : H a = none := by
  cases c : H a with
  | none => rfl
  | some o =>
    by_cases m : OB b a
    · obtain ⟨g, f, r, cc, h1, _⟩ := hb
      have m' : a = b := m
      rw [m', h1] at ha
      cases ha
    · rw [hf a o m c] at ha
      cases ha
theorem own_none {H H' : Hp} {O : OA} {c : Int} {row : Nat → List (Int × Int)} (hf : Fm O.mem H H') (ho : OwnAt H' O c row) (a : Addr) (ha : H' a = none) : H a = none := by
  cases e : H a with
  | none => rfl
  | some o =>
    by_cases m : O.mem a
    · exact absurd ha (ho.some a m)
    · rw [hf a o m e] at ha
      cases ha
theorem c_made {K : PySem.W.Frag} {E : XK} {tr : TA} {σ : L2.St} {H : Hp} {b : Addr} {n : Int} {k : Nat} {Q : VK} (h : EvA tr σ H [.ref b, .int ((k : Nat) : Int)]) (hb : BoxAt H b n) (hn : n < 1048576) (hk : k < 2) (kk : ∀ s H', H s = none → Fm (OB b) H H' → BoxAt H' b (n + 1) → SerAt K H' s k → Q (.ref s) H') : tCall (spMade K) [] E tr σ H Q := h H (Ex.refl H) _ fun H1 e1 =>
  ⟨b, k, n, rfl, hk, hb.ex e1, hn, fun s H' hs hf hb' hse => kk s H' (fresh_back e1 hs) ((Fm.of e1).trans hf) hb' hse⟩
theorem c_hand {K : PySem.W.Frag} {σ : L2.St} {H : Hp} {b L : Addr} {n : Int} {k : Nat} {tag x y : V} {Q : VK} (h0 : σ[0]? = some (some (V.ref b))) (h2 : σ[2]? = some (some (V.ref L))) (hL : H L = some (.tup [tag, .int ((k : Nat) : Int), x, y])) (hb : BoxAt H b n) (hn : n < 1048576) (hk : k < 2)
    (kk : ∀ a H', Fm (OB b) H H' → BoxAt H' b (n + 1) → (∃ s, H' a = some (.tup [tag, .ref s, x, y]) ∧ SerAt K H' s k) → Q (.ref a) H') :
    tOp (rCatT K) (tTup (tCons (tOp (rIxT K) (tVar 2) (tC (.int 0))) (tCons (tCall (spMade K) [] C8.E0 (tCons (tVar 0) (tCons (tOp (rIxT K) (tVar 2) (tC (.int 1))) tNil))) tNil))) (tSl (rSlT K) (tVar 2) (tPart (tC (.int 2))) tNoPart) σ H Q := by
  refine ev_ixT (K := K) (i := 0) (ev_var h2) ev_c hL rfl H (Ex.refl H) _ fun H1 e1 => ?_
  refine c_made (ea_cons (ev_var h0) (ea_cons (ev_ixT (ev_var h2) ev_c (e1 _ _ hL) rfl) ea_nil)) (hb.ex e1) hn hk fun s H2 hs hf hb2 hser => ⟨sz_of (Nat.le_of_ble_eq_true rfl), fun p hp => ?_⟩
  have hL2 := hf _ _ ((hb.ex e1).noTup L _ (e1 _ _ hL)) (e1 _ _ hL)
  have e3 := Ex.new hp (o := .tup [tag, .ref s])
  refine ⟨_, h2, 2, rfl, L, _, rfl, st_of (e3 _ _ hL2), (by show ¬ (HT.sIx 4 0 (some 2) = 0 ∧ HT.sIx 4 4 none = 4); decide), fun p2 hp2 => ?_⟩
  have e4 := Ex.new hp2 (o := .tup (cutV [tag, .int ((k : Nat) : Int), x, y] (some 2) none))
  refine ⟨p, p2, [tag, .ref s], [x, y], rfl, rfl, st_of (e4 _ _ upd_same), st_of upd_same, by simp, sz_of (Nat.le_of_ble_eq_true rfl), fun h => (by cases h), fun _ p3 hp3 => ?_⟩
  have e5 := Ex.new hp3 (o := .tup ([tag, .ref s] ++ [x, y]))
  have e35 := (e3.trans e4).trans e5
  exact kk p3 _ (((Fm.of e1).trans hf).trans (Fm.of e35)) (hb2.ex e35) ⟨s, upd_same, hser.ex e35⟩
def MU (b : Addr) (S : PA) (l : List Nat) : Addr → Prop := fun a => a = b ∨ S.mem l a
def spToldL (K : PySem.W.Frag) : Sp := fun vs H Q _ => ∃ (N : Addr → Prop) (b : Addr) (S : PA) (st : PSt) (n : Int) (d : Dd) (w : V), vs = [.ref b, .ref S.P, w] ∧ BoxAt H b n ∧ n < 1048000 ∧ PlainAt K H S st ∧ DA N H (dD d) w ∧ OkD d ∧ (∀ k, (st.row k).length < 1000) ∧
  ∀ v (S' : PA) H', Fm (MU b S st.known) H H' → BoxAt H' b (n + 1) → S'.P = S.P → S'.dx = S.dx → PlainAt K H' S' (aft (letOf st.rs st.clock d) (st.doit d) st) → (∀ a, S'.mem (aft (letOf st.rs st.clock d) (st.doit d) st).known a → S.mem st.known a ∨ H a = none) → (∀ a, H' a = none → H a = none) → DA (FrN H) H' (dueD (letOf st.rs st.clock d)) v → Q v H'
theorem boxLst {H : Hp} {b : Addr} {n : Int} (h : BoxAt H b n) : ∃ xs, H b = some (.lst xs) := by
  obtain ⟨g, f, r, c, h1, _⟩ := h
  exact ⟨_, h1⟩
theorem names_g {K : PySem.W.Frag} {X : Cx} {x : Str} (hg : Gl X x) (hm : X.mg x = some (.ref (He.ga K x))) (hd : (x == ("__debug__" : Str)) = false := by decide) : Names X x (.ref (He.ga K x)) := ⟨hg, hd, .inl hm⟩
theorem PlainAt.fm {K : PySem.W.Frag} {M : Addr → Prop} {H H' : Hp} {S : PA} {st : PSt} (h : PlainAt K H S st) (hf : Fm M H H') (m : ∀ a, S.mem st.known a → ¬ M a) (mt : ∀ a xs, H a = some (.tup xs) → ¬ M a) (mr : ¬ M S.ra) : PlainAt K H' S st :=
  { h with ins := hf _ _ (m _ (.inl rfl)) h.ins, rules := h.rules.fm hf mr mt, kn := h.kn.elim fun sr hs => ⟨sr, hf _ _ (m _ (.inr (.inl rfl))) hs⟩, rws := hf _ _ (m _ (.inr (.inr (.inl rfl)))) h.rws, row := fun k hk => hf _ _ (m _ (.inr (.inr (.inr ⟨k, hk, rfl⟩)))) (h.row k hk) }
theorem PlainAt.noBox {K : PySem.W.Frag} {H : Hp} {S : PA} {st : PSt} {b : Addr} {n : Int} (h : PlainAt K H S st) (hb : BoxAt H b n) : (∀ a, S.mem st.known a → ¬ OB b a) ∧ ¬ OB b S.ra := by
  obtain ⟨xs, hx⟩ := boxLst hb
  refine ⟨fun a m e => ?_, fun e => ?_⟩
  · have e' : a = b := e
    rw [e'] at m
    exact h.noLst b xs hx m
  · have e' : S.ra = b := e
    obtain ⟨_, dx, L, ys, h1, _⟩ := h.rules
    rw [e', hx] at h1
    cases h1

section
variable {P : Program} {w : World} {K : PySem.W.Frag} {mg : Str → Option Value} {base : Heap}
theorem sc_law_told : FnScope ["_law_box_here", "_law_plain", "_law_deed_here", "_law_handed", "e"] ["_law_box_here", "_law_plain", "_law_deed_here"] (defScope s__law_told) := ⟨rfl, rfl, rfl, by decide +kernel, rfl, by decide +kernel, by decide +kernel⟩
theorem c_law_told (T : Fx K mg) : C8.Cal P w K mg base 8 "_law_told" (spToldL K) [] :=
  cal_of T.d__law_told sc_law_told (fun _ _ _ _ h => by obtain ⟨_, _, _, _, _, _, _, rfl, _⟩ := h; rfl) (fun _ _ _ _ _ _ us hl => match us, hl with | [_, _, _], _ => rfl) fun cdv A outer s H vs Q E hr h => by
    have c_Plain_do := c_Plain_do (P := P) (w := w) (base := base) T
    have c_law_made := c_law_made (P := P) (w := w) (base := base) T
    refine ⟨_, (pss_cons (ps_set (i := 3) sc_law_told.nd rfl (Or.inl rfl) (pe_ifExp (pt_cmpR op_eq (pe_ix (ix_tupK K rfl) (pv 2) pe_int (fun _ _ => rfl)) pe_str (nomark _)) (pv 2) (pe_op op_catT (pe_tup (pa_cons (pe_ix (ix_tupK K rfl) (pv 2) pe_int (fun _ _ => rfl)) (pa_cons (pe_c c_law_made hr (by decide) (by rfl) (pa_cons (pv 0) (pa_cons (pe_ix (ix_tupK K rfl) (pv 2) pe_int (fun _ _ => rfl)) pa_nil))) pa_nil))) (pe_slice sl_tup (pv 2) (po_some pe_int) po_none))))
      (pss_one (ps_try_as2 (i := 4) rfl rfl sc_law_told.nd rfl rfl (names_g (K := K) rfl T.g_Gone) (names_g (K := K) rfl T.g_ClockBack) (fun W pn xe tk pass => (pss_one (ps_ret (pe_lst (pa_cons pe_str (pa_cons (pe_mtAt c_Plain_do hr (by decide) tk (pv 1) (pa_cons (pv 3) pa_nil)) pa_nil)))))) (fun a oe cls d pn hz hv => (pss_one (ps_ret (pe_lst (pa_cons pe_str (pa_cons (pe_xf T.x_Gone T.a_Gone_time hz hv (pv 4)) (pa_cons (pe_xf T.x_Gone T.a_Gone_grain hz hv (pv 4)) pa_nil))))))) (fun a oe cls d pn hz hv => (pss_one (ps_ret (pe_lst (pa_cons pe_str (pa_cons (pe_xf T.x_ClockBack T.a_ClockBack_now hz hv (pv 4)) pa_nil))))))))), ?_⟩
    obtain ⟨N, b, S, st, n, d, w', rfl, hb, hn, hp, hd, ok, hz, q⟩ := h
    obtain ⟨L, rfl, hL⟩ := dD_tup hd
    -- behind the deed handed
    have go : ∀ (a : Addr) H1, Fm (OB b) H H1 → BoxAt H1 b (n + 1) → DeedAt K H1 a d → (∀ c, H1 c = none → H c = none) → tRet (tLst (tCons (tC (.str "done")) (tCons (tMethS (He.ga K "Plain") "do" (spDo K) (WE (wTwo K (.ref (He.ga K "Gone")) (.ref (He.ga K "ClockBack")) 4 (fun a cls d => tRet (tLst (tCons (tC (.str "gone")) (tCons (tXf a cls d (He.ga K "Gone") "time" (tVar 4)) (tCons (tXf a cls d (He.ga K "Gone") "grain" (tVar 4)) tNil))))) (fun a cls d => tRet (tLst (tCons (tC (.str "back")) (tCons (tXf a cls d (He.ga K "ClockBack") "now" (tVar 4)) tNil)))) { nx := fun _ H' => Q .non H', rt := Q })) (tVar 1) (tCons (tVar 3) tNil)) tNil))) { nx := fun _ H' => Q .non H', rt := Q } [some (.ref b), some (.ref S.P), some (.ref L), some (.ref a), none] H1 := fun a H1 hf hb1 hdd hno => by
      obtain ⟨nb1, nb2⟩ := hp.noBox hb
      have hp1 := hp.fm hf nb1 hb.noTup nb2
      have hU : Fm (MU b S st.known) H H1 := fun c o m hc => hf c o (fun e => m (.inl e)) hc
      have lst : ∀ (ds : List PyData) (vs : List V) H2 p, Ex H1 H2 → DAs (FrN H) H2 ds vs → H2 p = none → DA (FrN H) (upd H2 p (.lst vs)) (.list ds) (.ref p) := fun ds vs H2 p e h hp => by
        simp only [DA]
        exact ⟨p, vs, rfl, hno _ (fresh_back e hp), upd_same, h.ex (Ex.new hp)⟩
      refine ⟨_, rfl, S.P, S.dx, _, rfl, hp1.ins, rfl, _, rfl, S, st, a, d, rfl, hp1, hdd, ok, hz, fun hok S' H2 hP hdx hp2 hf2 hm hn2 => ⟨sz_of (Nat.le_of_ble_eq_true rfl), fun p hpn => ?_⟩, fun t ht dd H2 e2 hxd => ?_, fun t ht dd H2 e2 hxd => ?_⟩
      · rw [hok] at q
        have hb2 : BoxAt H2 b (n + 1) := hb1.fm hf2 fun m => by
          obtain ⟨xs, hx⟩ := boxLst hb
          exact hp.noLst b xs hx m
        have eN := Ex.new hpn (o := .lst [.str "done", .non])
        refine q (.ref p) S' _ (hU.trans (Fm.trans (fun c o m hc => hf2 c o (fun e => m (.inr e)) hc) (Fm.of eN))) (hb2.ex eN) hP hdx (hp2.ex eN) (fun c m => (hm c m).imp id (hno c)) (fun c hc => hno c (hn2 c (fresh_back eN hc))) ?_
        have hpH : H p = none := hno p (hn2 p hpn)
        simp only [dueD, DA, DAs]
        exact ⟨p, _, rfl, hpH, upd_same, _, _, rfl, rfl, _, _, rfl, rfl, rfl⟩
      · rw [ht] at q
        refine .inr ⟨T.t_ClockBack_Gone, T.t_ClockBack_ClockBack, fun ea hea => ⟨_, rfl, rfl, rfl, dd, _, _, rfl, hxd, rfl, sz_of (Nat.le_of_ble_eq_true rfl), fun p hpn => ?_⟩⟩
        have e12 := e2.trans (Ex.new hpn (o := .lst [.str "back", .int t]))
        exact q (.ref p) S _ (hU.trans (Fm.of e12)) (hb1.ex e12) rfl rfl (hp1.ex e12) (fun c m => .inl m) (fun c hc => hno c (fresh_back e12 hc)) (lst [.str "back", .int t] _ H2 p e2 (by simp only [DAs, DA]; exact ⟨_, _, rfl, rfl, _, _, rfl, rfl, rfl⟩) hpn)
      · rw [ht] at q
        refine .inl ⟨T.t_Gone_Gone, fun ea hea => ⟨_, rfl, rfl, rfl, dd, _, _, rfl, hxd, rfl, _, rfl, rfl, rfl, dd, _, _, rfl, hxd, rfl, sz_of (Nat.le_of_ble_eq_true rfl), fun p hpn => ?_⟩⟩
        have e12 := e2.trans (Ex.new hpn (o := .lst [.str "gone", .int t, .int 0]))
        exact q (.ref p) S _ (hU.trans (Fm.of e12)) (hb1.ex e12) rfl rfl (hp1.ex e12) (fun c m => .inl m) (fun c hc => hno c (fresh_back e12 hc)) (lst [.str "gone", .int t, .int 0] _ H2 p e2 (by simp only [DAs, DA]; exact ⟨_, _, rfl, rfl, _, _, rfl, rfl, _, _, rfl, rfl, rfl⟩) hpn)
    cases d with
    | clk t =>
      refine q_asgIf (D := { nx := _, rt := Q }) (b := true) (et_is (et_test (ev_op (ev_ixT (ev_var rfl) ev_c hL rfl) ev_c (rv_eq rfl))) (by decide +kernel)) (fun _ H1 e1 => ⟨_, rfl, ?_⟩) (fun c => by cases c)
      exact go L H1 (Fm.of e1) ((hb.ex e1).le (by omega)) (e1 _ _ hL) (fun c hc => fresh_back e1 hc)
    | put k t x =>
      refine q_asgIf (D := { nx := _, rt := Q }) (b := false) (et_is (et_test (ev_op (ev_ixT (ev_var rfl) ev_c hL rfl) ev_c (rv_eq rfl))) (by decide +kernel)) (fun c => by cases c) (fun _ H1 e1 => ?_)
      exact c_hand rfl rfl (e1 _ _ hL) (hb.ex e1) (by omega) ok.1 fun a H2 hf hb2 hd2 => go a H2 ((Fm.of e1).trans hf) hb2 hd2 (fun c hc => fresh_back e1 (ob_none hf hb2 c hc))
    | take k t x =>
      refine q_asgIf (D := { nx := _, rt := Q }) (b := false) (et_is (et_test (ev_op (ev_ixT (ev_var rfl) ev_c hL rfl) ev_c (rv_eq rfl))) (by decide +kernel)) (fun c => by cases c) (fun _ H1 e1 => ?_)
      exact c_hand rfl rfl (e1 _ _ hL) (hb.ex e1) (by omega) ok.1 fun a H2 hf hb2 hd2 => go a H2 ((Fm.of e1).trans hf) hb2 hd2 (fun c hc => fresh_back e1 (ob_none hf hb2 c hc))
end
end Eg
end

section
set_option Elab.async false
set_option linter.all false
set_option maxRecDepth 100000
set_option maxHeartbeats 4000000
set_option linter.constructorNameAsVariable false
namespace Eg
open PySem PySem.Spec PyProof.Rows L2 Evl C8


/-- the keywords high, step, low, series in the parameters' order -/
def gF {α : Type} : List α → List α → List α
  | [a], [h, s, l, x] => [a, x, l, h, s]
  | _, _ => []
theorem gF_shape {α : Type} {us ws : List α} (h : (gF us ws).length = 5) : ∃ a x l hh s, us = [a] ∧ ws = [hh, s, l, x] := by
  unfold gF at h
  split at h
  · exact ⟨_, _, _, _, _, rfl, rfl⟩
  · cases h
theorem gF_rel {vs : List V} {us : List Value} {zs : List V} {ws : List Value} (r : Vals vs us) (rz : Vals zs ws) : Vals (gF vs zs) (gF us ws) := by
  by_cases h : (gF vs zs).length = 5
  · obtain ⟨a, x, l, hh, s, rfl, rfl⟩ := gF_shape h
    cases r with
    | cons r1 r =>
      cases r
      cases rz with
      | cons z1 rz =>
        cases rz with
        | cons z2 rz =>
          cases rz with
          | cons z3 rz =>
            cases rz with
            | cons z4 rz =>
              cases rz
              exact .cons r1 (.cons z4 (.cons z3 (.cons z1 (.cons z2 .nil))))
  · have h2 : ¬ (gF us ws).length = 5 := fun c => by
      obtain ⟨a, x, l, hh, s, rfl, rfl⟩ := gF_shape c
      cases r with
      | cons r1 r =>
        cases r
        cases rz with
        | cons z1 rz =>
          cases rz with
          | cons z2 rz =>
            cases rz with
            | cons z3 rz =>
              cases rz with
              | cons z4 rz =>
                cases rz
                exact h rfl
    have e1 : gF vs zs = [] := by
      unfold gF at h ⊢
      split at h
      · exact absurd rfl h
      · rfl
    have e2 : gF us ws = [] := by
      unfold gF at h2 ⊢
      split at h2
      · exact absurd rfl h2
      · rfl
    rw [e1, e2]
    exact .nil
section
variable {P : Program} {w : World} {K : PySem.W.Frag} {mg : Str → Option Value} {base : Heap}
theorem kb_folds {f : Addr} {fd : FuncData} (F : FunD K "folds" "Plain.folds" (defArgs s_Plain_folds) (defBody s_Plain_folds) (defScope s_Plain_folds) [] [] f fd) : KBinds K fd ["self", "series", "low", "high", "step"] ["high", "step", "low", "series"] gF gF := ⟨fun s us ws X hl => by
  obtain ⟨a, x, l, hh, st, rfl, rfl⟩ := gF_shape hl
  obtain ⟨oc, od, dV, kV, doc, pm, an, cdv, ct, osl, rfl, lk, hcd, hD, hK⟩ := F.ex
  rcases hD with ⟨_, rfl⟩ | ⟨e, _⟩
  · exact .of_eq rfl
  · exact absurd rfl e, gF_rel⟩
theorem ck_Plain_folds (T : Fx K mg) : MetXK P w K mg base 9 (He.ga K "Plain") "folds" (spFolds K) ["high", "step", "low", "series"] gF := by
  obtain ⟨fd, F⟩ := T.m_Plain_folds.ex
  exact ⟨_, fd, ["self", "series", "low", "high", "step"], gF, T.c_Plain, T.m_Plain_folds.me, F.ok sc_Plain_folds (fun _ _ _ _ h => by obtain ⟨_, _, _, _, _, _, _, rfl, _⟩ := h; rfl) (hb_Plain_folds T), kb_folds F⟩
end
def ftOk (fs : List PyData) : PyData := .list [.str "told", .list fs]
def ftGone (t g : Int) : PyData := .list [.str "gone", .int t, .int g]
/-- the folds of a row of windows -/
def foldsD (l : List (Int × Int)) (low step : Int) (n : Nat) : List PyData := (List.range n).map fun i => fdD (foldW l (low + (i : Nat) * step) (low + (i : Nat) * step + step))
def spFT (K : PySem.W.Frag) : Sp := fun vs H Q _ => ∃ (S : PA) (st : PSt) (s : Addr) (k : Nat) (low step : Int) (n : Nat) (way : Int), vs = [.ref S.P, .ref s, .int low, .int (low + n * step), .int step, .int way] ∧ PlainAt K H S st ∧ SerAt K H s k ∧ k < 2 ∧ (0 ≤ low ∧ low < 2 ^ 40) ∧ 1 ≤ step ∧ step < 2 ^ 29 ∧ n ≤ 400 ∧
  ((∀ i, i < n → goneOf st.rs (low + i * step) step st.clock = none) → ∀ v H', Ex H H' → DA (FrN H) H' (ftOk (foldsD (st.row k) low step n)) v → Q v H') ∧
  ∀ i g : Nat, toldErr st.rs st.clock low step n i g → ∀ v H', Ex H H' → DA (FrN H) H' (ftGone (low + i * step) (g : Nat)) v → Q v H'
theorem takes_no {P : Program} {X : Cx} : Takes X (fun _ _ _ _ => False) := fun u s' x => by
  obtain ⟨a, B, sI, pins, σ, H, cls, d, _, _, _, _, _, _, _, _, w⟩ := x
  exact w.elim

section
variable {P : Program} {w : World} {K : PySem.W.Frag} {mg : Str → Option Value} {base : Heap}
theorem sc_law_folds_told : FnScope ["_law_plain", "_law_one", "_law_low", "_law_high", "_law_unit", "_law_way", "e"] ["_law_plain", "_law_one", "_law_low", "_law_high", "_law_unit", "_law_way"] (defScope s__law_folds_told) := ⟨rfl, rfl, rfl, by decide +kernel, rfl, by decide +kernel, by decide +kernel⟩
theorem c_law_folds_told (T : Fx K mg) : C8.Cal P w K mg base 10 "_law_folds_told" (spFT K) [] :=
  cal_of T.d__law_folds_told sc_law_folds_told (fun _ _ _ _ h => by obtain ⟨_, _, _, _, _, _, _, _, rfl, _⟩ := h; rfl) (fun _ _ _ _ _ _ us hl => match us, hl with | [_, _, _, _, _, _], _ => rfl) fun cdv A outer s H vs Q E hr h => by
    have c_Plain_folds := c_Plain_folds (P := P) (w := w) (base := base) T
    have ck_Plain_folds := ck_Plain_folds (P := P) (w := w) (base := base) T
    refine ⟨_, (pss_one (ps_try_as (i := 6) rfl rfl sc_law_folds_told.nd rfl rfl (names_g (K := K) rfl T.g_Gone) (takes_no (P := P)) (fun W pn xe tk pass => (pss_cons (ps_if (pt_cmpR op_eq (pv 5) pe_int (nomark _)) (pss_one (ps_ret (pe_lst (pa_cons pe_str (pa_cons (pe_mtAt c_Plain_folds hr (by decide) tk (pv 0) (pa_cons (pv 1) (pa_cons (pv 2) (pa_cons (pv 3) (pa_cons (pv 4) pa_nil))))) pa_nil))))) pss_nil) (pss_one (ps_ret (pe_lst (pa_cons pe_str (pa_cons (pe_mtKAt ck_Plain_folds hr (by decide) tk (pv 0) (pk_cons (pv 3) (pk_cons (pv 4) (pk_cons (pv 2) (pk_cons (pv 1) pk_nil))))) pa_nil))))))) (fun a oe cls d pn hz hv => (pss_one (ps_ret (pe_lst (pa_cons pe_str (pa_cons (pe_xf T.x_Gone T.a_Gone_time hz hv (pv 6)) (pa_cons (pe_xf T.x_Gone T.a_Gone_grain hz hv (pv 6)) pa_nil))))))))), ?_⟩
    obtain ⟨S, st, s', k, low, step, n, way, rfl, hp, hs, hk, hlo, hst, hst2, hn, q1, q2⟩ := h
    have fin : ∀ H1 (σ : L2.St), Ex H H1 → (∀ a : V, (σ.set 6 (some a))[6]? = some (some a)) → spFolds K [.ref S.P, .ref s', .int low, .int (low + n * step), .int step] H1 (fun v H2 => ([V.str "told", v] : List V).length ≤ sizeLine ∧ ∀ p, H2 p = none → Q (.ref p) (upd H2 p (.lst [.str "told", v])))
        (WE (wAs K (.ref (He.ga K "Gone")) 6 (fun a cls d => tRet (tLst (tCons (tC (.str "gone")) (tCons (tXf a cls d (He.ga K "Gone") "time" (tVar 6)) (tCons (tXf a cls d (He.ga K "Gone") "grain" (tVar 6)) tNil))))) (fun _ _ _ _ => False) { nx := fun _ H' => Q .non H', rt := Q }) σ) := fun H1 σ e1 hσ => by
      refine ⟨S, st, s', k, low, step, n, rfl, hp.ex e1, hs.ex e1, hk, hlo, hst, hst2, hn, fun hall v H2 e2 hd => ⟨sz_of (Nat.le_of_ble_eq_true rfl), fun p hpn => ?_⟩, fun i g hg d H2 e2 hxd => ⟨true, T.t_Gone_Gone, fun _ ea hea => ⟨_, hσ _, rfl, rfl, d, _, _, rfl, hxd, rfl, _, hσ _, rfl, rfl, d, _, _, rfl, hxd, rfl, sz_of (Nat.le_of_ble_eq_true rfl), fun p hpn => ?_⟩, fun c => by cases c⟩⟩
      · have eN := Ex.new hpn (o := .lst [.str "told", v])
        have e12 := e1.trans e2
        refine q1 hall (.ref p) _ (e12.trans eN) ?_
        have hd2 : DA (FrN H) (upd H2 p (.lst [.str "told", v])) (.list (foldsD (st.row k) low step n)) v := (hd.to fun a ha => fresh_back e1 ha).ex eN
        simp only [ftOk, DA, DAs]
        simp only [DA] at hd2
        exact ⟨p, _, rfl, fresh_back e12 hpn, upd_same, _, _, rfl, rfl, v, _, rfl, hd2, rfl⟩
      · have eN := Ex.new hpn (o := .lst [.str "gone", .int (low + i * step), .int ((g : Nat) : Int)])
        have e12 := e1.trans e2
        refine q2 i g hg (.ref p) _ (e12.trans eN) ?_
        simp only [ftGone, DA, DAs]
        exact ⟨p, _, rfl, fresh_back e12 hpn, upd_same, _, _, rfl, rfl, _, _, rfl, rfl, _, _, rfl, rfl, rfl⟩
    refine q_when (b := decide (way = 0)) (et_test (ev_op (ev_var rfl) ev_c rv_eqI)) (fun _ H1 e1 => ?_) (fun _ H1 e1 => ?_)
    · exact ⟨_, rfl, S.P, S.dx, _, rfl, (hp.ex e1).ins, rfl, _, rfl, _, rfl, _, rfl, _, rfl, fin H1 _ e1 (fun _ => rfl)⟩
    · exact ⟨_, rfl, S.P, S.dx, _, rfl, (hp.ex e1).ins, rfl, _, rfl, _, rfl, _, rfl, _, rfl, fin H1 _ e1 (fun _ => rfl)⟩
end
end Eg
end

section
set_option Elab.async false
set_option linter.all false
set_option maxRecDepth 100000
set_option maxHeartbeats 4000000
set_option linter.constructorNameAsVariable false
namespace Eg
open PySem PySem.Spec PyProof.Rows L2 Evl C8


structure Le where
  k : Nat
  low : Int
  unit : Int
  f : Option Fd
def leD (e : Le) : PyData := .tuple [.int ((e.k : Nat) : Int), .int e.low, .int e.unit, fdD e.f]
/-- an entry of the ledger as it comes in -/
structure LeOk (rs : List (Int × Option Int)) (clock : Int) (row : Nat → List (Int × Int)) (e : Le) : Prop where
  k : e.k < 2
  low : 0 ≤ e.low
  u1 : 1 ≤ e.unit
  u2 : e.unit < 3000
  below : e.low + e.unit ≤ edgeOf rs 0 clock
  f : e.f = foldW (row e.k) e.low (e.low + e.unit)
theorem OwnAt.noBox {H : Hp} {O : OA} {c : Int} {row : Nat → List (Int × Int)} {b : Addr} {n : Int} (h : OwnAt H O c row) (hb : BoxAt H b n) : ∀ a, O.mem a → ¬ OB b a := fun a m e => by
  obtain ⟨g, f, r, cc, h1, _⟩ := hb
  have e' : a = b := e
  subst e'
  have h0 := h.d 0 (by decide)
  have h2 := h.d 1 (by decide)
  rcases m with m | m | m | m
  · rw [m, h.o] at h1
    simp at h1
  · rw [m, h.ol] at h1
    simp at h1
  · have : O.d 0 = a := m.symm
    rw [this, h1] at h0
    cases h0
  · have : O.d 1 = a := m.symm
    rw [this, h1] at h2
    cases h2
def spOld (K : PySem.W.Frag) : Sp := fun vs H Q _ => ∃ (N : Addr → Prop) (b : Addr) (r : V) (O : OA) (rs : List (Int × Option Int)) (clock n : Int) (row : Nat → List (Int × Int)), vs = [.ref b, r, .ref O.o] ∧ DA N H (.list (rs.map rd)) r ∧ ¬ N b ∧ OkRs rs ∧ BoxAt H b n ∧ n < 1048000 ∧ OwnAt H O clock row ∧ (∀ k, NdK (row k) ∧ (row k).length < 64) ∧
  ∀ (es : List Le) v H', es.length ≤ 1 → (∀ e ∈ es, LeOk rs clock row e) → Fm (OB b) H H' → BoxAt H' b (n + 4) → DA (FrN H) H' (.list (es.map leD)) v → Q v H'
theorem et_goneN {σ : L2.St} {H : Hp} {te : TE} {o : Option Int} (h : Ev te σ H (optV o)) : EvT (tTest (tOp (fun x y H Q => y = .non ∧ Q (.bl (!decide (x = .non))) H) te (tC .non))) σ H o.isSome := et_is (et_test (ev_op h ev_c (z := .bl o.isSome) fun H1 _ Q q => ⟨rfl, by
  cases o with
  | none => exact q H1 (Ex.refl H1)
  | some c => exact q H1 (Ex.refl H1)⟩)) rfl
theorem rs_ob {N : Addr → Prop} {H H' : Hp} {rs : List (Int × Option Int)} {r : V} {b : Addr} {n : Int} (h : DA N H (.list (rs.map rd)) r) (hf : Fm (OB b) H H') (hN : ¬ N b) (hb : BoxAt H b n) : DA N H' (.list (rs.map rd)) r := rs_fm h hf (fun a xs _ n e => hN (by have e' : a = b := e; rw [← e']; exact n)) hb.noTup
theorem div_below {e u l : Int} (hl : 1 ≤ l) : (e - u) / l * l ≤ e - u := by
  have := Int.emod_add_mul_ediv (e - u) l
  have h2 := Int.emod_nonneg (e - u) (show l ≠ 0 by omega)
  have h3 : l * ((e - u) / l) = (e - u) / l * l := Int.mul_comm _ _
  omega

section
variable {P : Program} {w : World} {K : PySem.W.Frag} {mg : Str → Option Value} {base : Heap}
theorem sc_law_old : FnScope ["_law_box_here", "_law_rules_here", "_law_own", "_law_unit", "_law_low", "_law_k", "_law_grain", "_law_length", "_law_edge_here"] ["_law_box_here", "_law_rules_here", "_law_own"] (defScope s__law_old) := ⟨rfl, rfl, rfl, by decide +kernel, rfl, by decide +kernel, by decide +kernel⟩
theorem c_law_old (T : Fx K mg) : C8.Cal P w K mg base 3 "_law_old" (spOld K) [] :=
  cal_of T.d__law_old sc_law_old (fun _ _ _ _ h => by obtain ⟨_, _, _, _, _, _, _, _, rfl, _⟩ := h; rfl) (fun _ _ _ _ _ _ us hl => match us, hl with | [_, _, _], _ => rfl) fun cdv A outer s H vs Q E hr h => by
    have c_law_edge := c_law_edge (P := P) (w := w) (base := base) T
    have c_law_fold := c_law_fold (P := P) (w := w) (base := base) T
    have c_law_gone := c_law_gone (P := P) (w := w) (base := base) T
    have c_law_take := c_law_take (P := P) (w := w) (base := base) T
    refine ⟨_, (pss_cons (ps_par (i := 5) (j := 6) (by rfl) sc_law_old.nd rfl rfl (by decide) rfl rfl (pa_cons (pe_c c_law_take hr (by decide) (by rfl) (pa_cons (pv 0) (pa_cons pe_int pa_nil))) (pa_cons (pe_c c_law_take hr (by decide) (by rfl) (pa_cons (pv 0) (pa_cons (pe_callB (call_len_seqK K rfl) (by rfl) T.n_len b_len (pa_cons (pv 1) pa_nil)) pa_nil))) pa_nil)) (by rfl))
      (pss_cons (ps_par (i := 7) (j := 8) (by rfl) sc_law_old.nd rfl rfl (by decide) rfl rfl (pa_cons (pe_ix (ix_tupK K rfl) (pe_ix (ix_listK K rfl) (pv 1) (pv 6) (fun _ _ => rfl)) pe_int (fun _ _ => rfl)) (pa_cons (pe_c c_law_edge hr (by decide) (by rfl) (pa_cons (pv 1) (pa_cons pe_int (pa_cons (pe_ix (ix_listK K rfl) (pv 2) pe_int (fun _ _ => rfl)) pa_nil)))) pa_nil)) (by rfl))
      (pss_cons (ps_set (i := 3) sc_law_old.nd rfl (Or.inl rfl) (pe_op op_mul (pv 7) (pe_ix (ix_listK K rfl) (pe_lst (pa_cons pe_int (pa_cons pe_int (pa_cons pe_int (pa_cons pe_int pa_nil))))) (pe_c c_law_take hr (by decide) (by rfl) (pa_cons (pv 0) (pa_cons pe_int pa_nil))) (fun _ _ => rfl))))
      (pss_cons (ps_set (i := 4) sc_law_old.nd rfl (Or.inl rfl) (pe_op op_sub (pe_op op_mul (pe_op op_fdiv (pe_op op_sub (pv 8) (pv 3)) (pv 7)) (pv 7)) (pe_op op_mul (pv 7) (pe_c c_law_take hr (by decide) (by rfl) (pa_cons (pv 0) (pa_cons pe_int pa_nil))))))
      (pss_cons (ps_if (PW.pt (pw_or (pt_cmpR op_lt (pv 4) pe_int (nomark _)) (pw_or1 (pt_cmpR op_notN (pe_c c_law_gone hr (by decide) (by rfl) (pa_cons (pv 1) (pa_cons (pe_ix (ix_listK K rfl) (pv 2) pe_int (fun _ _ => rfl)) (pa_cons (pv 4) (pa_cons (pv 3) pa_nil))))) pe_non (nomark _))))) (pss_one (ps_ret (pe_lst pa_nil))) pss_nil)
      (pss_one (ps_ret (pe_lst (pa_cons (pe_tup (pa_cons (pv 5) (pa_cons (pv 4) (pa_cons (pv 3) (pa_cons (pe_c c_law_fold hr (by decide) (by rfl) (pa_cons (pe_ix (ix_listK K rfl) (pe_ix (ix_listK K rfl) (pv 2) pe_int (fun _ _ => rfl)) (pv 5) (fun _ _ => rfl)) (pa_cons (pv 4) (pa_cons (pe_op op_add (pv 4) (pv 3)) pa_nil)))) pa_nil))))) pa_nil))))))))), ?_⟩
    obtain ⟨N, b, r, O, rs, clock, n, row, rfl, hrs, hNb, okr, hb, hn, ho, hkeys, q⟩ := h
    have tk : ∀ {σ : L2.St} {H1 : Hp} {m : Int} {Q : VK} {many : Int} {E : XK} {tm : TE}, σ[0]? = some (some (V.ref b)) → Ev tm σ H1 (.int many) → BoxAt H1 b m → m < 1048576 → 1 ≤ many → many < 1000000 → (∀ d H', 0 ≤ d → d < many → Fm (OB b) H1 H' → BoxAt H' b (m + 1) → Q (.int d) H') → tCall spTk [] E (tCons (tVar 0) (tCons tm tNil)) σ H1 Q := fun h1 hm h2 h3 h4 h5 h6 => c_tk (ea_cons (ev_var h1) (ea_cons hm ea_nil)) h2 h3 h4 h5 h6
    have rl : ∀ {σ : L2.St} {H1 : Hp}, σ[1]? = some (some r) → DA N H1 (.list (rs.map rd)) r → Ev (tCB (rLenK K) (tCons (tVar 1) tNil)) σ H1 (.int (rs.length : Int)) := fun h1 h2 => ev_is (ev_lenDD (ed_var h1 h2)) (by rw [List.length_map])
    have l1 := okr.l1
    have l4 := okr.l4
    refine tk rfl ev_c hb (by omega) (by decide) (by decide) fun k H1 k0 k1 hf1 hb1 => ?_
    have hrs1 := rs_ob hrs hf1 hNb hb
    refine tk rfl (rl rfl hrs1) hb1 (by omega) (by omega) (by omega) fun g H2 g0 g1 hf2 hb2 => ⟨_, _, rfl, ?_⟩
    have hf12 := hf1.trans hf2
    have hrs2 := rs_ob hrs1 hf2 hNb hb1
    have ho2 := ho.fm hf12 (ho.noBox hb)
    have hg : ((g.toNat : Nat) : Int) = g := Int.toNat_of_nonneg g0
    have hgl : g.toNat < rs.length := by omega
    have hk : ((k.toNat : Nat) : Int) = k := Int.toNat_of_nonneg k0
    have hk2 : k.toNat < 2 := by omega
    have lp := okr.pos hgl
    have lt := okr.lt _ hgl
    refine q_par (ea_cons (ev_rdLen (g := g.toNat) (ed_var rfl hrs2) (ev_is (ev_var rfl) (by rw [hg])) hgl) (ea_cons (ev_callVD (N := N) (ds := [.list (rs.map rd), .int ((0 : Nat) : Int), .int clock]) (eds_cons (ed_var rfl hrs2) (eds_cons (ed_int ev_c) (eds_cons (ed_int (ev_ixL (ev_var rfl) ev_c ho2.o rfl)) eds_nil))) rfl fun vs H3 e3 hvs => ⟨N, rs, 0, clock, hvs, okr, okr.l1, rfl⟩) ea_nil)) fun H3 e3 => ?_
    have hb3 := hb2.ex e3
    refine ⟨_, rfl, c_pick (ns := [1, 1, 2, 3]) ?_ (ea_cons (ev_var rfl) (ea_cons ev_c ea_nil)) hb3 (by omega) (by decide) (by decide) fun x H4 hx hf4 hb4 => ⟨_, _, rfl, rfl, .inl ⟨by omega, by omega⟩, ?_⟩⟩
    · exact ed_lst fr_self (eds_cons (ed_int ev_c) (eds_cons (ed_int ev_c) (eds_cons (ed_int ev_c) (eds_cons (ed_int ev_c) eds_nil)))) (by simp)
    have hx' : 1 ≤ x ∧ x ≤ 3 := by
      simp at hx
      omega
    dsimp only
    generalize hu : (gr rs g.toNat).1 * x = unit
    have u1 : 1 ≤ unit := by
      rw [← hu]
      have := Int.mul_le_mul lp hx'.1 (by decide) (by omega)
      omega
    have u2 : unit < 3000 := by
      rw [← hu]
      have := Int.mul_le_mul (show (gr rs g.toNat).1 ≤ 999 by omega) hx'.2 (by omega) (by decide)
      omega
    have hf14 := (hf12.trans (Fm.of e3)).trans hf4
    have hb4' : BoxAt H4 b (n + 3) := hb4.le (by omega)
    refine ⟨_, rfl, _, rfl, _, _, rfl, rfl, _, rfl, _, _, rfl, rfl, ⟨by omega, by omega⟩, _, rfl, _, _, rfl, rfl, .inr ⟨by omega, by omega⟩, _, rfl, tk rfl ev_c hb4' (by omega) (by decide) (by decide) fun d H5 d0 d1 hf5 hb5 => ⟨_, _, rfl, rfl, .inl ⟨by omega, by omega⟩, _, _, rfl, rfl, ?_⟩⟩
    have hf15 := hf14.trans hf5
    have hrs5 := rs_ob hrs hf15 hNb hb
    have ho5 := ho.fm hf15 (ho.noBox hb)
    dsimp only
    generalize hlow : (edgeOf rs 0 clock - unit) / (gr rs g.toNat).1 * (gr rs g.toNat).1 - (gr rs g.toNat).1 * d = low
    have hbelow : low + unit ≤ edgeOf rs 0 clock := by
      have h1 := div_below (e := edgeOf rs 0 clock) (u := unit) lp
      have h2 : 0 ≤ (gr rs g.toNat).1 * d := Int.mul_nonneg (by omega) d0
      omega
    have hb5' : BoxAt H5 b (n + 4) := hb5.le (by omega)
    have nil : ∀ H6, Ex H5 H6 → ∀ {σ : L2.St}, tRet (tLst tNil) { nx := fun _ H' => Q .non H', rt := Q } σ H6 := fun H6 e6 σ => s_retD (N := FrN H) (d := .list []) (ed_lst (fun a ha => ob_none hf15 hb5' a (fresh_back e6 ha)) eds_nil (by simp)) fun v H7 e7 hd => q [] v H7 (by simp) (fun e he => by cases he) (hf15.trans (Fm.of (e6.trans e7))) (hb5'.ex (e6.trans e7)) hd
    refine q_when (et_or (et_test (ev_op (ev_var rfl) ev_c rv_I0)) fun _ => et_goneN (ev_callVD (N := N) (ds := [.list (rs.map rd), .int clock, .int low, .int unit]) (eds_cons (ed_var rfl hrs5) (eds_cons (ed_int (ev_ixL (ev_var rfl) ev_c ho5.o rfl)) (eds_cons (ed_int (ev_var rfl)) (eds_cons (ed_int (ev_var rfl)) eds_nil)))) rfl fun vs H6 e6 hvs => ⟨N, rs, clock, low, unit, hvs, okr, rfl⟩)) (fun _ H6 e6 => nil H6 e6) (fun hc H6 e6 => ?_)
    have h0low : 0 ≤ low := by
      rw [Bool.or_eq_false_iff] at hc
      have := of_decide_eq_false hc.1
      omega
    have ho6 := ho5.ex e6
    refine s_retD (N := FrN H) (d := .list ([(⟨k.toNat, low, unit, foldW (row k.toNat) low (low + unit)⟩ : Le)].map leD)) (ed_lst (fun a ha => ob_none hf15 hb5' a (fresh_back e6 ha)) (eds_cons (ed_tup (eds_cons (ed_int (ev_is (ev_var rfl) (by rw [hk]))) (eds_cons (ed_int (ev_var rfl)) (eds_cons (ed_int (ev_var rfl)) (eds_cons (ed_callV (fun a ha => ob_none hf15 hb5' a (fresh_back e6 ha)) (ea_cons (own_d ho6 rfl hk2 (ev_is (ev_var rfl) (by rw [hk]))) (ea_cons (ev_var rfl) (ea_cons (ev_op (ev_var rfl) (ev_var rfl) rv_I0) ea_nil))) rfl fun H7 e7 => ⟨_, row k.toNat, low, low + unit, rfl, e7 _ _ (ho6.d _ hk2), (hkeys _).1, (hkeys _).2, rfl⟩) eds_nil)))) (by simp)) eds_nil) (by simp)) fun v H7 e7 hd => q [⟨k.toNat, low, unit, foldW (row k.toNat) low (low + unit)⟩] v H7 (by simp) (fun e he => ?_) (hf15.trans (Fm.of (e6.trans e7))) (hb5'.ex (e6.trans e7)) hd
    have he' : e = ⟨k.toNat, low, unit, foldW (row k.toNat) low (low + unit)⟩ := by simpa using he
    subst he'
    exact ⟨hk2, h0low, u1, u2, hbelow, rfl⟩
end
end Eg
end

section
set_option Elab.async false
set_option linter.all false
set_option maxRecDepth 100000
set_option maxHeartbeats 4000000
/-! data that repr shows -/
namespace Eg
open PySem PySem.Spec PyProof.Rows L2 Evl C8
structure Shw (W k : Nat) (d : PyData) : Prop where
  lay : d.canLay0 = true
  sh : d.intsShort 16 = true
  so : d.showable = true
  dep : d.depth ≤ k
  w : d.weight ≤ W
structure ShwAll (W k : Nat) (ds : List PyData) : Prop where
  lay : PyData.canLayAll0 ds = true
  sh : PyData.intsShortAll 16 ds = true
  so : PyData.showableAll ds = true
  dep : PyData.depthAll ds ≤ k
  w : PyData.weightAll ds ≤ W
theorem sa_nil {k : Nat} : ShwAll 0 k [] := ⟨by simp only [PyData.canLayAll0], by simp only [PyData.intsShortAll], by simp only [PyData.showableAll], by simp only [PyData.depthAll]; omega, by simp only [PyData.weightAll]; omega⟩
theorem sa_cons {a b k : Nat} {d : PyData} {ds : List PyData} (h : Shw a k d) (hs : ShwAll b k ds) : ShwAll (a + 1 + b) k (d :: ds) := by
  refine ⟨?_, ?_, ?_, ?_, ?_⟩
  · simp only [PyData.canLayAll0, h.lay, hs.lay, Bool.and_self]
  · simp only [PyData.intsShortAll, h.sh, hs.sh, Bool.and_self]
  · simp only [PyData.showableAll, h.so, hs.so, Bool.and_self]
  · simp only [PyData.depthAll]
    have := h.dep
    have := hs.dep
    omega
  · simp only [PyData.weightAll]
    have := h.w
    have := hs.w
    omega
theorem Shw.up {a b k j : Nat} {d : PyData} (h : Shw a k d) (h1 : a ≤ b) (h2 : k ≤ j) : Shw b j d := ⟨h.lay, h.sh, h.so, Nat.le_trans h.dep h2, Nat.le_trans h.w h1⟩
theorem sw_tup {W k : Nat} {ds : List PyData} (h : ShwAll W k ds) : Shw W (k + 1) (.tuple ds) := by
  refine ⟨?_, ?_, ?_, ?_, ?_⟩
  · simp only [PyData.canLay0, h.lay]
  · simp only [PyData.intsShort, h.sh]
  · simp only [PyData.showable, h.so]
  · simp only [PyData.depth]
    have := h.dep
    omega
  · simp only [PyData.weight]
    exact h.w
theorem sw_lst {W k : Nat} {ds : List PyData} (h : ShwAll W k ds) : Shw W (k + 1) (.list ds) := by
  refine ⟨?_, ?_, ?_, ?_, ?_⟩
  · simp only [PyData.canLay0, h.lay]
  · simp only [PyData.intsShort, h.sh]
  · simp only [PyData.showable, h.so]
  · simp only [PyData.depth]
    have := h.dep
    omega
  · simp only [PyData.weight]
    exact h.w
theorem sa_map {α : Type} {f : α → PyData} {a k : Nat} : ∀ {l : List α}, (∀ x ∈ l, Shw a k (f x)) → ShwAll (l.length * (a + 1)) k (l.map f)
  | [], _ => by
    simp only [List.map_nil, List.length_nil, Nat.zero_mul]
    exact sa_nil
  | x :: l, h => by
    have := sa_cons (h x (List.mem_cons_self ..)) (sa_map (l := l) fun y hy => h y (List.mem_cons_of_mem _ hy))
    have e : (x :: l).length * (a + 1) = a + 1 + l.length * (a + 1) := by rw [List.length_cons, Nat.succ_mul, Nat.add_comm]
    rw [e]
    exact this
theorem sw_int {i : Int} {k : Nat} (h : i.natAbs < 10 ^ 15) : Shw 50 k (.int i) := by
  have hl : i.natAbs.log2 < 50 := by
    by_cases h0 : i.natAbs = 0
    · rw [h0]
      decide
    · exact (Nat.log2_lt h0).mpr (Nat.lt_of_lt_of_le h (by decide))
  refine ⟨by simp only [PyData.canLay0], ?_, ?_, by simp only [PyData.depth]; omega, ?_⟩
  · simp only [PyData.intsShort, decide_eq_true_eq]
    show (Str.ofString (toString i)).length ≤ 16
    rw [PySem.ofString_length]
    exact int_text_length_le10 (k := 15) (by decide) h
  · simp only [PyData.showable, decide_eq_true_eq]
    omega
  · simp only [PyData.weight]
    split <;> omega
theorem sw_non {k : Nat} : Shw 0 k .none := ⟨by simp only [PyData.canLay0], by simp only [PyData.intsShort], by simp only [PyData.showable], by simp only [PyData.depth]; omega, by simp only [PyData.weight]; omega⟩
theorem sw_str {k : Nat} {s : Str} (h : PyData.strOk s = true) (hl : s.cps.size ≤ 20) : Shw 20 k (.str s) := ⟨by simp only [PyData.canLay0, h], by simp only [PyData.intsShort], by simp only [PyData.showable], by simp only [PyData.depth]; omega, by simp only [PyData.weight]; exact hl⟩
theorem Shw.fits {W k : Nat} {d : PyData} (h : Shw W k d) (h1 : W ≤ 500000) (h2 : k ≤ 60) : d.showable = true ∧ d.depth ≤ 60 ∧ d.shown.length ≤ sizeLine := by
  refine ⟨h.so, Nat.le_trans h.dep h2, ?_⟩
  have := PyData.shown_le 16 (by decide) d (PyData.leavesShort_of_canLay0 16 d h.lay h.sh)
  have hw := h.w
  rw [sizeLine_eq]
  omega
/-- a fold whose numbers are not too great -/
structure FdB (f : Fd) : Prop where
  n : f.n.natAbs < 10 ^ 15
  s : f.s.natAbs < 10 ^ 15
  mn : f.mn.natAbs < 10 ^ 15
  mx : f.mx.natAbs < 10 ^ 15
  fi : f.fi.1.natAbs < 10 ^ 15 ∧ f.fi.2.natAbs < 10 ^ 15
  la : f.la.1.natAbs < 10 ^ 15 ∧ f.la.2.natAbs < 10 ^ 15
def FdOB (f : Option Fd) : Prop := ∀ g, f = some g → FdB g
theorem sw_fd {f : Option Fd} (h : FdOB f) : Shw 500 2 (fdD f) := by
  cases f with
  | none => exact (sw_non (k := 2)).up (by omega) (by omega)
  | some f =>
    have hb := h f rfl
    have p : ∀ q : Int × Int, q.1.natAbs < 10 ^ 15 ∧ q.2.natAbs < 10 ^ 15 → Shw 102 1 (pn q) := fun q hq => (sw_tup (k := 0) (sa_cons (sw_int hq.1) (sa_cons (sw_int hq.2) sa_nil))).up (by omega) (by omega)
    exact (sw_tup (sa_cons (sw_int hb.n) (sa_cons (sw_int hb.s) (sa_cons (sw_int hb.mn) (sa_cons (sw_int hb.mx) (sa_cons (p _ hb.fi) (sa_cons (p _ hb.la) sa_nil))))))).up (by omega) (by omega)
/-- a row whose points are not too great -/
def RowB (l : List (Int × Int)) : Prop := (∀ p ∈ l, 0 ≤ p.1 ∧ p.1 < 1000000000 ∧ p.2.natAbs ≤ 100000000000) ∧ l.length < 64
theorem sum_abs : ∀ (l : List Int), (∀ x ∈ l, x.natAbs ≤ 100000000000) → l.sum.natAbs ≤ l.length * 100000000000
  | [], _ => by simp
  | x :: l, h => by
    have h1 := h x (List.mem_cons_self ..)
    have h2 := sum_abs l fun y hy => h y (List.mem_cons_of_mem _ hy)
    rw [List.sum_cons, List.length_cons, Nat.succ_mul]
    have := Int.natAbs_add_le x l.sum
    omega
theorem foldW_b {l : List (Int × Int)} (h : RowB l) (lo hi : Int) : FdOB (foldW l lo hi) := by
  intro g hg
  unfold foldW at hg
  cases hb : between l lo hi with
  | nil =>
    rw [hb] at hg
    cases hg
  | cons p r =>
    rw [hb] at hg
    obtain ⟨f, hf, ok⟩ := foldL_ok p r
    rw [hf] at hg
    cases hg
    have mem : ∀ q ∈ p :: r, 0 ≤ q.1 ∧ q.1 < 1000000000 ∧ q.2.natAbs ≤ 100000000000 := fun q hq => h.1 q (between_mem.mp (hb ▸ hq)).1
    have vals : ∀ x ∈ (p :: r).map (·.2), x.natAbs ≤ 100000000000 := fun x hx => by
      obtain ⟨q, hq, rfl⟩ := List.mem_map.mp hx
      exact (mem q hq).2.2
    have len : (p :: r).length < 64 := by
      have := between_len l lo hi
      rw [hb] at this
      have := h.2
      omega
    have hs := sum_abs _ vals
    rw [List.length_map] at hs
    have hfi := mem _ (List.mem_of_getElem? ok.fi)
    have hla := mem _ (List.mem_of_getElem? ok.la)
    have hmn := vals _ ok.mn.1
    have hmx := vals _ ok.mx.1
    have hn := ok.n
    have hsv := ok.s
    refine ⟨by omega, by rw [hsv]; omega, by omega, by omega, ⟨by omega, by omega⟩, by omega, by omega⟩
/-- repr of data -/
theorem c_repr {N : Addr → Prop} {H : Hp} {v : V} {ds : List PyData} {W k : Nat} {Q : VK} (h : DA N H (.list ds) v) (hs : Shw W k (.list ds)) (h1 : W ≤ 500000) (h2 : k ≤ 60) (q : Q (.str (PyData.list ds).shown) H) : rRepr [v] H Q := by
  obtain ⟨a, xs, rfl, _⟩ := h.lst
  obtain ⟨s1, s2, s3⟩ := hs.fits h1 h2
  exact ⟨a, .list ds, rfl, h.to fun _ _ => True.intro, s1, s2, s3, q⟩
theorem ev_repr {N : Addr → Prop} {σ : L2.St} {H : Hp} {te : TE} {ds : List PyData} {W k : Nat} (h : EvD N te σ H (.list ds)) (hs : Shw W k (.list ds)) (h1 : W ≤ 500000) (h2 : k ≤ 60) : Ev (tCB rRepr (tCons te tNil)) σ H (.str (PyData.list ds).shown) := fun H1 e1 Q q => h H1 e1 _ fun v H2 e2 hd => c_repr hd hs h1 h2 (q H2 e2)
theorem da_ob {N : Addr → Prop} {H H' : Hp} {d : PyData} {v : V} {b : Addr} {n : Int} (h : DA N H d v) (hf : Fm (OB b) H H') (hN : ¬ N b) (hb : BoxAt H b n) : DA N H' d v :=
  DA.imp (fun a xs n z => ⟨n, hf a _ (fun e => hN (by have e' : a = b := e; rw [← e']; exact n)) z⟩) (fun a xs z => hf a _ (hb.noTup a xs z) z) _ _ h
theorem str_told : PyData.strOk "told" = true ∧ ("told" : Str).cps.size ≤ 20 := by decide +kernel
theorem str_gone : PyData.strOk "gone" = true ∧ ("gone" : Str).cps.size ≤ 20 := by decide +kernel
theorem str_back : PyData.strOk "back" = true ∧ ("back" : Str).cps.size ≤ 20 := by decide +kernel
theorem str_done : PyData.strOk "done" = true ∧ ("done" : Str).cps.size ≤ 20 := by decide +kernel
end Eg
end

section
set_option Elab.async false
set_option linter.all false
set_option maxRecDepth 100000
set_option maxHeartbeats 4000000
set_option linter.constructorNameAsVariable false
namespace Eg
open PySem PySem.Spec PyProof.Rows L2 Evl C8


theorem g_tup4 {K : PySem.W.Frag} {σ : L2.St} {H : Hp} {i j l m : Nat} {L : Addr} {x y z u : V} {Q : L2.St → Hp → Prop} (hT : SqT K H L [x, y, z, u]) (h : Q ((((σ.set i (some x)).set j (some y)).set l (some z)).set m (some u)) H) : gTup K 4 (gCons (gName i) (gCons (gName j) (gCons (gName l) (gCons (gName m) gNil)))) (.ref L) σ H Q :=
  ⟨L, [x, y, z, u], rfl, hT, rfl, x, [y, z, u], rfl, y, [z, u], rfl, z, [u], rfl, u, [], rfl, rfl, h⟩
theorem q_forD {K : PySem.W.Frag} {N : Addr → Prop} {te : TE} {g : TG} {tb tz : TS} {D : Ends} {σ : L2.St} {H : Hp} {ds : List PyData} (h : EvD N te σ H (.list ds))
    (kk : ∀ p xs H1, Ex H H1 → N p → H1 p = some (.lst xs) → DAs N H1 ds xs → ∃ Pv : Nat → L2.St → Hp → Prop, Pv 0 σ H1 ∧ (∀ i σ' H', i ≤ xs.length → Pv i σ' H' → SqL K H' p xs) ∧
      (∀ i x σ' H', xs[i]? = some x → Pv i σ' H' → g x σ' H' fun σ2 H2 => tb { D with nx := Pv (i + 1), ct := Pv (i + 1), bk := tz D } σ2 H2) ∧ ∀ σ' H', Pv xs.length σ' H' → tz D σ' H') : tSeq (tFor (iList K te) g tb) tz D σ H := s_forD (D := { D with nx := tz D }) h kk
/-- an entry of the ledger as it stands -/
structure LeIn (row : Nat → List (Int × Int)) (e : Le) : Prop where
  k : e.k < 2
  low : 0 ≤ e.low
  lt : e.low < 100000000
  u1 : 1 ≤ e.unit
  u2 : e.unit < 3000
  f : e.f = foldW (row e.k) e.low (e.low + e.unit)
def spLed (K : PySem.W.Frag) : Sp := fun vs H Q _ => ∃ (N : Addr → Prop) (b : Addr) (S : PA) (st : PSt) (r lg : V) (O : OA) (row : Nat → List (Int × Int)) (es : List Le) (n way : Int), vs = [.ref b, .ref S.P, r, .ref O.o, lg, .int way] ∧ BoxAt H b n ∧ n < 1047000 ∧ PlainAt K H S st ∧ DA N H (.list (st.rs.map rd)) r ∧ ¬ N b ∧ OwnAt H O st.clock row ∧ (∀ k, st.row k = row k) ∧ (∀ k, RowB (row k)) ∧ DA N H (.list (es.map leD)) lg ∧ es.length ≤ 12 ∧ (∀ e ∈ es, LeIn row e) ∧
  ∀ H', Fm (OB b) H H' → BoxAt H' b (n + 12) → Q (.bl true) H'
def dueF (e : Le) : Option Nat → List PyData
  | none => [.str "told", .list [fdD e.f]]
  | some g => [.str "gone", .int e.low, .int ((g : Nat) : Int)]
theorem sw_due {row : Nat → List (Int × Int)} (hb : ∀ k, RowB (row k)) {e : Le} (he : LeIn row e) {o : Option Nat} (ho : ∀ g, o = some g → g < 1000) : Shw 2000 4 (.list (dueF e o)) := by
  have hf : FdOB e.f := by
    rw [he.f]
    exact foldW_b (hb _) _ _
  cases o with
  | none => exact (sw_lst (k := 3) (sa_cons (sw_str str_told.1 str_told.2) (sa_cons ((sw_lst (k := 2) (sa_cons (sw_fd hf) sa_nil)).up (Nat.le_refl _) (by omega)) sa_nil))).up (by omega) (by omega)
  | some g =>
    have := ho g rfl
    have := he.low
    have := he.lt
    exact (sw_lst (k := 0) (sa_cons (sw_str str_gone.1 str_gone.2) (sa_cons (sw_int (by omega)) (sa_cons (sw_int (by omega)) sa_nil)))).up (by omega) (by omega)
theorem gone_lt {rs : List (Int × Option Int)} (ok : OkRs rs) {low step c : Int} {g : Nat} (h : goneOf rs low step c = some g) : g < rs.length := by
  unfold goneOf at h
  split at h
  · cases h
  · exact fits_lt (List.mem_of_getLast? h)
theorem ft_one (l : List (Int × Int)) (low u : Int) : foldsD l low u 1 = [fdD (foldW l low (low + u))] := by
  unfold foldsD
  have : low + ((0 : Nat) : Int) * u = low := by simp
  show [fdD (foldW l (low + ((0 : Nat) : Int) * u) (low + ((0 : Nat) : Int) * u + u))] = _
  rw [this]

section
variable {P : Program} {w : World} {K : PySem.W.Frag} {mg : Str → Option Value} {base : Heap}
theorem sc_law_ledger_right : FnScope ["_law_box_here", "_law_plain", "_law_rules_here", "_law_own", "_law_ledger", "_law_way", "_law_k", "_law_low", "_law_unit", "_law_fold_here", "_law_grain", "_law_due_here"] ["_law_box_here", "_law_plain", "_law_rules_here", "_law_own", "_law_ledger", "_law_way"] (defScope s__law_ledger_right) := ⟨rfl, rfl, rfl, by decide +kernel, rfl, by decide +kernel, by decide +kernel⟩
theorem c_law_ledger_right (T : Fx K mg) : CalG P w K mg base 11 "_law_ledger_right" (spLed K) :=
  calg_of T.d__law_ledger_right.ex T.d__law_ledger_right.mgf sc_law_ledger_right (fun _ _ _ _ h => by obtain ⟨_, _, _, _, _, _, _, _, _, _, _, rfl, _⟩ := h; rfl) (fun _ _ _ _ _ _ us hl => match us, hl with | [_, _, _, _, _, _], _ => rfl) fun fd F => fn_ofG F sc_law_ledger_right (fun _ _ _ _ h => by obtain ⟨_, _, _, _, _, _, _, _, _, _, _, rfl, _⟩ := h; rfl) fun cdv A outer s H vs Q hgd hr h => by
    have c_law_folds_told := c_law_folds_told (P := P) (w := w) (base := base) T
    have c_law_gone := c_law_gone (P := P) (w := w) (base := base) T
    have c_law_made := c_law_made (P := P) (w := w) (base := base) T
    refine ⟨_, (pss_cons (ps_for PassesOwn.never rfl (pi_listK K rfl (pv 4)) (pg_tupK K 4 rfl rfl (pgs_cons (pg_name (i := 6) sc_law_ledger_right.nd rfl (Or.inl rfl)) (pgs_cons (pg_name (i := 7) sc_law_ledger_right.nd rfl (Or.inl rfl)) (pgs_cons (pg_name (i := 8) sc_law_ledger_right.nd rfl (Or.inl rfl)) (pgs_cons (pg_name (i := 9) sc_law_ledger_right.nd rfl (Or.inl rfl)) pgs_nil)))) rfl rfl) (pss_cons (ps_set (i := 10) sc_law_ledger_right.nd rfl (Or.inl rfl) (pe_c c_law_gone hr (by decide) (by rfl) (pa_cons (pv 2) (pa_cons (pe_ix (ix_listK K rfl) (pv 3) pe_int (fun _ _ => rfl)) (pa_cons (pv 7) (pa_cons (pv 8) pa_nil))))))
      (pss_cons (ps_set (i := 11) sc_law_ledger_right.nd rfl (Or.inl rfl) (pe_ifExp (pt_cmpR op_isN (pv 10) pe_non (nomark _)) (pe_lst (pa_cons pe_str (pa_cons (pe_lst (pa_cons (pv 9) pa_nil)) pa_nil))) (pe_lst (pa_cons pe_str (pa_cons (pv 7) (pa_cons (pv 10) pa_nil))))))
      (pss_one (ps_if (pt_cmpR op_ne (pe_callB (call_repr hgd (hu64 hr)) (by rfl) T.n_repr b_repr (pa_cons (pe_c c_law_folds_told hr (by decide) (by rfl) (pa_cons (pv 1) (pa_cons (pe_c c_law_made hr (by decide) (by rfl) (pa_cons (pv 0) (pa_cons (pv 6) pa_nil))) (pa_cons (pv 7) (pa_cons (pe_op op_add (pv 7) (pv 8)) (pa_cons (pv 8) (pa_cons (pv 5) pa_nil))))))) pa_nil)) (pe_callB (call_repr hgd (hu64 hr)) (by rfl) T.n_repr b_repr (pa_cons (pv 11) pa_nil)) (nomark _)) (pss_one (ps_ret pe_bl)) pss_nil)))))
      (pss_one (ps_ret pe_bl))), ?_⟩
    obtain ⟨N, b, S, st, r, lg, O, row, es, n, way, rfl, hb, hn, hp, hrs, hNb, ho, hrow, hrb, hlg, hes, hin, q⟩ := h
    have okr := hp.rules.1
    obtain ⟨nb1, nb2⟩ := hp.noBox hb
    refine q_forD (ed_var rfl hlg) fun p xs H1 e1 hNp hp1 hxs => ?_
    have hlen : xs.length = es.length := by rw [hxs.length, List.length_map]
    refine ⟨fun i σ' H' => Fm (OB b) H1 H' ∧ BoxAt H' b (n + i) ∧ ∃ w6 w7 w8 w9 w10 w11, σ' = [some (.ref b), some (.ref S.P), some r, some (.ref O.o), some lg, some (.int way), w6, w7, w8, w9, w10, w11], ⟨Fm.of (Ex.refl _), (hb.ex e1).le (by omega), _, _, _, _, _, _, rfl⟩, fun i σ' H' _ h => sq_of (h.1 _ _ (fun e => hNb (by have e' : p = b := e; rw [← e']; exact hNp)) hp1), fun i x σ' H' hi h => ?_, fun σ' H' h => ?_⟩
    rotate_left
    · obtain ⟨hf, hb2, w6, w7, w8, w9, w10, w11, rfl⟩ := h
      exact s_ret ev_c fun H2 e2 => q H2 (((Fm.of e1).trans hf).trans (Fm.of e2)) ((hb2.ex e2).le (by omega))
    obtain ⟨hf, hb2, w6, w7, w8, w9, w10, w11, rfl⟩ := h
    have hil : i < es.length := by
      have := (List.getElem?_eq_some_iff.mp hi).1
      omega
    have he := hin _ (List.getElem_mem hil)
    obtain ⟨x', hx', hdx⟩ := hxs.get (i := i) (d := leD es[i]) (by rw [List.getElem?_map, List.getElem?_eq_getElem hil] <;> rfl)
    rw [hi] at hx'
    cases hx'
    generalize es[i] = e at he hdx
    have hfH := (Fm.of e1).trans hf
    have hdx2 := da_ob hdx hf hNb (hb.ex e1)
    have hrs2 := da_ob hrs hfH hNb hb
    have ho2 := ho.fm hfH (ho.noBox hb)
    have hp2 := hp.fm hfH nb1 hb.noTup nb2
    obtain ⟨L, ys, rfl, hL, hys⟩ := DA.tup (ds := [.int ((e.k : Nat) : Int), .int e.low, .int e.unit, fdD e.f]) hdx2
    simp only [DAs, DA.eq_3] at hys
    obtain ⟨_, _, rfl, rfl, _, _, rfl, rfl, _, _, rfl, rfl, fv, _, rfl, hfv, rfl⟩ := hys
    refine g_tup4 (st_of hL) ?_
    refine q_asg (v := optV ((goneOf st.rs e.low e.unit st.clock).map fun g => ((g : Nat) : Int))) (ev_callVD (N := N) (ds := [.list (st.rs.map rd), .int st.clock, .int e.low, .int e.unit]) (eds_cons (ed_var rfl hrs2) (eds_cons (ed_int (ev_ixL (ev_var rfl) ev_c ho2.o rfl)) (eds_cons (ed_int (ev_var rfl)) (eds_cons (ed_int (ev_var rfl)) eds_nil)))) rfl fun vs H3 e3 hvs => ⟨N, _, _, _, _, hvs, okr, rfl⟩) fun H3 e3 => ?_
    refine q_asgD (N := FrN H') (d := .list (dueF e (goneOf st.rs e.low e.unit st.clock))) ?_ fun dv H4 e4 hdue => ?_
    · cases hgo : goneOf st.rs e.low e.unit st.clock with
      | none => exact ed_if (b := true) (et_test (ev_op (ev_var rfl) ev_c (rv_isO (o := none)))) (fun _ => ed_lst (fun a ha => fresh_back e3 ha) (eds_cons (ed_str ev_c) (eds_cons (ed_lst (fun a ha => fresh_back e3 ha) (eds_cons (ed_var rfl (fd_any (hfv.ex e3))) eds_nil) (Nat.le_of_ble_eq_true rfl)) eds_nil)) (Nat.le_of_ble_eq_true rfl)) (fun c => by cases c)
      | some g => exact ed_if (b := false) (et_test (ev_op (ev_var rfl) ev_c (rv_isO (o := some ((g : Nat) : Int))))) (fun c => by cases c) (fun _ => ed_lst (fun a ha => fresh_back e3 ha) (eds_cons (ed_str ev_c) (eds_cons (ed_int (ev_var rfl)) (eds_cons (ed_int (ev_var rfl)) eds_nil))) (Nat.le_of_ble_eq_true rfl))
    have e34 := e3.trans e4
    have hb4 := hb2.ex e34
    have hp4 := hp2.ex e34
    have l4 := okr.l4
    have hshw := sw_due hrb he (o := goneOf st.rs e.low e.unit st.clock) (fun g hg => by have := gone_lt okr hg; omega)
    refine ⟨_, rfl, c_made (ea_cons (ev_var rfl) (ea_cons (ev_var rfl) ea_nil)) hb4 (by omega) he.k fun s' H5 hs5 hf5 hb5 hser => ⟨_, rfl, _, rfl, _, rfl, _, _, rfl, rfl, _, rfl, _, rfl, ?_⟩⟩
    have hp5 := hp4.fm hf5 (fun a m e' => nb1 a m e') hb4.noTup nb2
    have elow : e.low + ((1 : Nat) : Int) * e.unit = e.low + e.unit := by omega
    have elow0 : e.low + ((0 : Nat) : Int) * e.unit = e.low := by omega
    have hdue2 : ∀ {H6}, Ex H5 H6 → DA (FrN H') H6 (.list (dueF e (goneOf st.rs e.low e.unit st.clock))) dv := fun e6 => da_fm hdue (hf5.trans (Fm.of e6)) (fun a m => hb2.some a m) hb4.noTup
    have hnx : ∀ {H6}, Ex H5 H6 → Fm (OB b) H1 H6 ∧ BoxAt H6 b (n + ((i + 1 : Nat) : Int)) := fun e6 => ⟨((hf.trans (Fm.of e34)).trans hf5).trans (Fm.of e6), (hb5.ex e6).le (by omega)⟩
    refine ⟨S, st, s', e.k, e.low, e.unit, 1, way, (by rw [elow]; rfl), hp5, hser, he.k, ⟨he.low, by have := he.lt; omega⟩, he.u1, by have := he.u2; omega, by decide, fun hall v H6 e6 hd => ?_, fun i' g hg v H6 e6 hd => ?_⟩
    · have hgo : goneOf st.rs e.low e.unit st.clock = none := by
        have := hall 0 (by decide)
        rwa [elow0] at this
      rw [ft_one, hrow, ← he.f] at hd
      rw [hgo] at hshw hdue2
      dsimp only [tNil]
      refine c_repr (ds := dueF e none) hd hshw (by omega) (by omega) ?_
      refine ev_repr (ed_var rfl (hdue2 e6)) hshw (by omega) (by omega) H6 (Ex.refl H6) _ fun H7 e7 => ⟨rfl, _, rfl, ?_⟩
      rw [if_neg (by simp)]
      exact ⟨(hnx (e6.trans e7)).1, (hnx (e6.trans e7)).2, _, _, _, _, _, _, rfl⟩
    · obtain ⟨h1, _, h2⟩ := hg
      have hi0 : i' = 0 := by omega
      subst hi0
      rw [elow0] at h2 hd
      rw [h2] at hshw hdue2
      dsimp only [tNil]
      refine c_repr (ds := dueF e (some g)) hd hshw (by omega) (by omega) ?_
      refine ev_repr (ed_var rfl (hdue2 e6)) hshw (by omega) (by omega) H6 (Ex.refl H6) _ fun H7 e7 => ⟨rfl, _, rfl, ?_⟩
      rw [if_neg (by simp)]
      exact ⟨(hnx (e6.trans e7)).1, (hnx (e6.trans e7)).2, _, _, _, _, _, _, rfl⟩
end
end Eg
end

section
set_option Elab.async false
set_option linter.all false
set_option maxRecDepth 100000
set_option maxHeartbeats 4000000
/-! windows and parts in plain Lean -/
namespace Eg
open PySem PySem.Spec PyProof.Rows L2 Evl C8
def join2 (a b : Fd) : Fd := ⟨a.n + b.n, a.s + b.s, if b.mn < a.mn then b.mn else a.mn, if b.mx > a.mx then b.mx else a.mx, a.fi, b.la⟩
theorem join2_step (a g : Fd) (q : Int × Int) : fstep (join2 a g) q = join2 a (fstep g q) := by
  unfold fstep join2
  simp only [Fd.mk.injEq]
  refine ⟨by omega, by omega, ?_, ?_, trivial, trivial⟩
  · repeat' split
    all_goals omega
  · repeat' split
    all_goals omega
theorem join2_fold (a : Fd) : ∀ (r : List (Int × Int)) (g : Fd), r.foldl fstep (join2 a g) = join2 a (r.foldl fstep g)
  | [], _ => rfl
  | q :: r, g => by
    rw [List.foldl_cons, List.foldl_cons, join2_step]
    exact join2_fold a r _
theorem foldL_app : ∀ a b : List (Int × Int), foldL (a ++ b) = joinF (foldL a) (foldL b)
  | [], b => rfl
  | p :: a, [] => by
    rw [List.append_nil]
    rfl
  | p :: a, q :: b => by
    show some ((a ++ q :: b).foldl fstep _) = some (join2 _ _)
    rw [List.foldl_append, List.foldl_cons]
    have : fstep (a.foldl fstep ⟨1, p.2, p.2, p.2, p, p⟩) q = join2 (a.foldl fstep ⟨1, p.2, p.2, p.2, p, p⟩) ⟨1, q.2, q.2, q.2, q, q⟩ := rfl
    rw [this, join2_fold]
theorem filter_two {a b c : Int} (h1 : a ≤ b) (h2 : b ≤ c) : ∀ l : List (Int × Int), (l.filter (inB a b) ++ l.filter (inB b c)).Perm (l.filter (inB a c))
  | [] => by simp
  | x :: l => by
    have ih := filter_two h1 h2 l
    have e : ∀ u v : Int, inB u v x = (decide (u ≤ x.1) && decide (x.1 < v)) := fun _ _ => rfl
    by_cases c1 : inB a b x = true
    · have c2 : inB b c x = false := by
        rw [e] at c1 ⊢
        simp at c1 ⊢
        omega
      have c3 : inB a c x = true := by
        rw [e] at c1 ⊢
        simp at c1 ⊢
        omega
      rw [List.filter_cons_of_pos c1, List.filter_cons_of_neg (by rw [c2]; decide), List.filter_cons_of_pos c3]
      exact List.Perm.cons x ih
    · by_cases c2 : inB b c x = true
      · have c3 : inB a c x = true := by
          rw [e] at c2 ⊢
          simp at c2 ⊢
          omega
        rw [List.filter_cons_of_neg c1, List.filter_cons_of_pos c2, List.filter_cons_of_pos c3]
        exact List.perm_middle.trans (List.Perm.cons x ih)
      · have c3 : ¬ inB a c x = true := by
          rw [e] at c1 c2 ⊢
          simp at c1 c2 ⊢
          omega
        rw [List.filter_cons_of_neg c1, List.filter_cons_of_neg c2, List.filter_cons_of_neg c3]
        exact ih
theorem between_two {l : List (Int × Int)} (nd : NdK l) {a b c : Int} (h1 : a ≤ b) (h2 : b ≤ c) : between l a b ++ between l b c = between l a c := by
  refine asc_unique ?_ (between_asc nd _ _) ?_
  · refine List.pairwise_append.mpr ⟨between_asc nd _ _, between_asc nd _ _, fun p hp q hq => ?_⟩
    have := between_mem.mp hp
    have := between_mem.mp hq
    omega
  · exact ((between_perm l a b).append (between_perm l b c)).trans ((filter_two h1 h2 l).trans (between_perm l a c).symm)
theorem foldW_two {l : List (Int × Int)} (nd : NdK l) {a b c : Int} (h1 : a ≤ b) (h2 : b ≤ c) : joinF (foldW l a b) (foldW l b c) = foldW l a c := by
  unfold foldW
  rw [← foldL_app, between_two nd h1 h2]
theorem foldW_nil (l : List (Int × Int)) (a : Int) : foldW l a a = none := by
  unfold foldW
  have : between l a a = [] := by
    cases h : between l a a with
    | nil => rfl
    | cons p r =>
      have := between_mem.mp (h ▸ List.mem_cons_self .. : p ∈ between l a a)
      omega
  rw [this]
  rfl
/-- the joined folds of equal parts -/
def parts (l : List (Int × Int)) (low p : Int) (n : Nat) : Option Fd := ((List.range n).map fun i => foldW l (low + (i : Nat) * p) (low + (i : Nat) * p + p)).foldl joinF none
theorem parts_eq {l : List (Int × Int)} (nd : NdK l) {low p : Int} (hp : 0 ≤ p) : ∀ n : Nat, parts l low p n = foldW l low (low + n * p)
  | 0 => by
    unfold parts
    have : low + ((0 : Nat) : Int) * p = low := by simp
    rw [this, foldW_nil]
    rfl
  | n + 1 => by
    have ih := parts_eq nd (low := low) hp n
    have hn : 0 ≤ (n : Int) * p := Int.mul_nonneg (by omega) hp
    have e : low + (n : Int) * p + p = low + ((n + 1 : Nat) : Int) * p := by
      have : ((n + 1 : Nat) : Int) * p = (n : Int) * p + p := by
        rw [Int.natCast_add, Int.add_mul]
        simp
      omega
    unfold parts at ih ⊢
    rw [List.range_succ, List.map_append, List.foldl_append, ih]
    show joinF (foldW l low (low + n * p)) (foldW l (low + (n : Nat) * p) (low + (n : Nat) * p + p)) = _
    rw [foldW_two nd (by omega) (by omega), e]
/-! ### which windows are told -/
theorem step_mod {rs : List (Int × Option Int)} (ok : OkRs rs) {g : Nat} (hg : g < rs.length) : stepOf rs g % (gr rs g).1 = 0 := by
  unfold stepOf
  have lp := ok.pos hg
  by_cases h : g + 1 < rs.length
  · rw [show min (g + 1) (rs.length - 1) = g + 1 by omega]
    have := ok.fol (g + 1) (by omega) h
    unfold okFol at this
    simp only [Bool.and_eq_true, decide_eq_true_eq] at this
    exact this.1
  · rw [show min (g + 1) (rs.length - 1) = g by omega]
    exact Int.emod_self
theorem edge_mod {rs : List (Int × Option Int)} (ok : OkRs rs) {g : Nat} (hg : g < rs.length) (c : Int) : edgeOf rs g c % (gr rs g).1 = 0 := by
  unfold edgeOf
  split
  · exact Int.zero_emod _
  · split
    · exact Int.zero_emod _
    · rw [Int.mul_emod, step_mod ok hg]
      simp
theorem edge_le {rs : List (Int × Option Int)} (ok : OkRs rs) (g : Nat) {c : Int} (hc : 0 ≤ c) (hk : ∀ k, (gr rs g).2 = some k → 0 ≤ k) : 0 ≤ edgeOf rs g c ∧ edgeOf rs g c ≤ c := by
  unfold edgeOf
  have hst := (ok.step g).1
  split
  · exact ⟨Int.le_refl 0, hc⟩
  · rename_i k h
    have := hk k h
    split
    · exact ⟨Int.le_refl 0, hc⟩
    · have h1 := div_below (e := c - k) (u := 0) (l := stepOf rs g) hst
      rw [Int.sub_zero] at h1
      have h2 : 0 ≤ (c - k) / stepOf rs g * stepOf rs g := Int.mul_nonneg (Int.ediv_nonneg (by omega) (by omega)) (by omega)
      omega
theorem OkRs.keep {rs : List (Int × Option Int)} (ok : OkRs rs) {g : Nat} (hg : g < rs.length) : ∀ k, (gr rs g).2 = some k → 0 ≤ k := fun k h => by
  have := ok.row g hg
  unfold okRow at this
  rw [h] at this
  simp at this
  omega
theorem told_of {rs : List (Int × Option Int)} {g : Nat} (hg : g < rs.length) {low unit c : Int} (h1 : low % (gr rs g).1 = 0) (h2 : unit % (gr rs g).1 = 0) (h3 : edgeOf rs g c ≤ low) : goneOf rs low unit c = none := by
  unfold goneOf
  rw [if_pos]
  refine List.any_eq_true.mpr ⟨g, ?_, decide_eq_true h3⟩
  unfold fits fitB
  rw [List.mem_filter]
  exact ⟨List.mem_range.mpr hg, by simp [h1, h2]⟩
theorem told_inv {rs : List (Int × Option Int)} (ok : OkRs rs) {low unit c : Int} (h : goneOf rs low unit c = none) : ∃ g, g < rs.length ∧ low % (gr rs g).1 = 0 ∧ unit % (gr rs g).1 = 0 ∧ edgeOf rs g c ≤ low := by
  unfold goneOf at h
  split at h
  · rename_i ha
    obtain ⟨g, hg, hb⟩ := List.any_eq_true.mp ha
    unfold fits fitB at hg
    rw [List.mem_filter] at hg
    have := hg.2
    simp at this
    exact ⟨g, List.mem_range.mp hg.1, this.1, this.2, of_decide_eq_true hb⟩
  · have := fits_ne ok low unit
    rw [List.getLast?_eq_none_iff] at h
    exact absurd h this
/-- a told first window: all windows of the row are told -/
theorem told_all {rs : List (Int × Option Int)} (ok : OkRs rs) {low part c : Int} (hp : 0 ≤ part) (h : goneOf rs low part c = none) (i : Nat) : goneOf rs (low + i * part) part c = none := by
  obtain ⟨g, hg, h1, h2, h3⟩ := told_inv ok h
  have hn : 0 ≤ (i : Int) * part := Int.mul_nonneg (by omega) hp
  refine told_of hg ?_ h2 (by omega)
  rw [Int.add_emod, Int.mul_emod, h1, h2]
  simp
theorem told_low {rs : List (Int × Option Int)} (ok : OkRs rs) {g : Nat} (hg : g < rs.length) {c : Int} (x y : Int) (hx : 0 ≤ x) : goneOf rs (edgeOf rs g c + (gr rs g).1 * x) ((gr rs g).1 * y) c = none := by
  have lp := ok.pos hg
  refine told_of hg ?_ (Int.mul_emod_right _ _) ?_
  · rw [Int.add_emod, edge_mod ok hg]
    simp
  · have := Int.mul_nonneg (show 0 ≤ (gr rs g).1 by omega) hx
    omega
end Eg
end

section
set_option Elab.async false
set_option linter.all false
set_option maxRecDepth 100000
set_option maxHeartbeats 4000000
set_option linter.constructorNameAsVariable false
namespace Eg
open PySem PySem.Spec PyProof.Rows L2 Evl C8


def spParts (K : PySem.W.Frag) : Sp := fun vs H Q _ => ∃ (N : Addr → Prop) (b : Addr) (S : PA) (st : PSt) (r : V) (O : OA) (row : Nat → List (Int × Int)) (n : Int), vs = [.ref b, .ref S.P, r, .ref O.o] ∧ BoxAt H b n ∧ n < 1047000 ∧ PlainAt K H S st ∧ DA N H (.list (st.rs.map rd)) r ∧ ¬ N b ∧ OwnAt H O st.clock row ∧ (∀ k, st.row k = row k) ∧ (∀ k, RowB (row k) ∧ NdK (row k)) ∧ st.clock < 1000000 ∧
  ∀ H', Fm (OB b) H H' → BoxAt H' b (n + 20) → Q (.bl true) H'


theorem sw_folds {l : List (Int × Int)} (h : RowB l) (low p : Int) (n : Nat) : Shw (n * 501) 3 (.list (foldsD l low p n)) := by
  have := sw_lst (k := 2) (sa_map (a := 500) (k := 2) (f := fun i : Nat => fdD (foldW l (low + (i : Nat) * p) (low + (i : Nat) * p + p))) (l := List.range n) fun i _ => sw_fd (foldW_b h _ _))
  rw [List.length_range] at this
  exact this
theorem sw_ftOk {l : List (Int × Int)} (h : RowB l) (low p : Int) {n : Nat} (hn : n ≤ 400) : Shw 300000 4 (.list [.str "told", .list (foldsD l low p n)]) :=
  (sw_lst (k := 3) (sa_cons (sw_str str_told.1 str_told.2) (sa_cons (sw_folds h low p n) sa_nil))).up (by omega) (by omega)
theorem sw_oneF {l : List (Int × Int)} (h : RowB l) (low hi : Int) : Shw 600 3 (.list [fdD (foldW l low hi)]) := (sw_lst (k := 2) (sa_cons (sw_fd (foldW_b h _ _)) sa_nil)).up (by omega) (by omega)
theorem foldsD_len (l : List (Int × Int)) (low p : Int) (n : Nat) : (foldsD l low p n).length = n := by
  unfold foldsD
  rw [List.length_map, List.length_range]
theorem foldsD_at {l : List (Int × Int)} {low p : Int} {n i : Nat} (h : i < n) : (foldsD l low p n)[i]? = some (fdD (foldW l (low + (i : Nat) * p) (low + (i : Nat) * p + p))) := by
  unfold foldsD
  rw [List.getElem?_map, List.getElem?_range h] <;> rfl
theorem parts_succ (l : List (Int × Int)) (low p : Int) (n : Nat) : parts l low p (n + 1) = joinF (parts l low p n) (foldW l (low + (n : Nat) * p) (low + (n : Nat) * p + p)) := by
  unfold parts
  rw [List.range_succ, List.map_append, List.foldl_append]
  rfl
theorem str_eq_ff (a : Str) : (!decide (V.str a = V.str a)) = false := by simp

section
variable {P : Program} {w : World} {K : PySem.W.Frag} {mg : Str → Option Value} {base : Heap}
theorem sc_law_parts_right : FnScope ["_law_box_here", "_law_plain", "_law_rules_here", "_law_own", "_law_whole", "_law_part", "_law_k", "_law_grain", "_law_length", "_law_edge_here", "_law_unit", "_law_low", "_law_due_here", "_law_one", "_law_told_here", "_law_found", "_law_at"] ["_law_box_here", "_law_plain", "_law_rules_here", "_law_own"] (defScope s__law_parts_right) := ⟨rfl, rfl, rfl, by decide +kernel, rfl, by decide +kernel, by decide +kernel⟩
theorem c_law_parts_right (T : Fx K mg) : CalG P w K mg base 11 "_law_parts_right" (spParts K) :=
  calg_of T.d__law_parts_right.ex T.d__law_parts_right.mgf sc_law_parts_right (fun _ _ _ _ h => by obtain ⟨_, _, _, _, _, _, _, _, rfl, _⟩ := h; rfl) (fun _ _ _ _ _ _ us hl => match us, hl with | [_, _, _, _], _ => rfl) fun fd F => fn_ofG F sc_law_parts_right (fun _ _ _ _ h => by obtain ⟨_, _, _, _, _, _, _, _, rfl, _⟩ := h; rfl) fun cdv A outer s H vs Q hgd hr h => by
    have c_law_edge := c_law_edge (P := P) (w := w) (base := base) T
    have c_law_fold := c_law_fold (P := P) (w := w) (base := base) T
    have c_law_folds_told := c_law_folds_told (P := P) (w := w) (base := base) T
    have c_law_gone := c_law_gone (P := P) (w := w) (base := base) T
    have c_law_joined := c_law_joined (P := P) (w := w) (base := base) T
    have c_law_made := c_law_made (P := P) (w := w) (base := base) T
    have c_law_take := c_law_take (P := P) (w := w) (base := base) T
    refine ⟨_, (pss_cons (ps_asg (pe_tup (pa_cons (pe_c c_law_take hr (by decide) (by rfl) (pa_cons (pv 0) (pa_cons pe_int pa_nil))) (pa_cons (pe_c c_law_take hr (by decide) (by rfl) (pa_cons (pv 0) (pa_cons (pe_callB (call_len_seqK K rfl) (by rfl) T.n_len b_len (pa_cons (pv 2) pa_nil)) pa_nil))) pa_nil))) (pg_tupK K 2 rfl rfl (pgs_cons (pg_name (i := 6) sc_law_parts_right.nd rfl (Or.inr rfl)) (pgs_cons (pg_name (i := 7) sc_law_parts_right.nd rfl (Or.inl rfl)) pgs_nil)) rfl rfl))
      (pss_cons (ps_par (i := 8) (j := 9) (by rfl) sc_law_parts_right.nd rfl rfl (by decide) rfl rfl (pa_cons (pe_ix (ix_tupK K rfl) (pe_ix (ix_listK K rfl) (pv 2) (pv 7) (fun _ _ => rfl)) pe_int (fun _ _ => rfl)) (pa_cons (pe_c c_law_edge hr (by decide) (by rfl) (pa_cons (pv 2) (pa_cons (pv 7) (pa_cons (pe_ix (ix_listK K rfl) (pv 3) pe_int (fun _ _ => rfl)) pa_nil)))) pa_nil)) (by rfl))
      (pss_cons (ps_par (i := 10) (j := 11) (by rfl) sc_law_parts_right.nd rfl rfl (by decide) rfl rfl (pa_cons (pe_op op_mul (pv 8) (pe_ix (ix_listK K rfl) (pe_lst (pa_cons pe_int (pa_cons pe_int (pa_cons pe_int (pa_cons pe_int pa_nil))))) (pe_c c_law_take hr (by decide) (by rfl) (pa_cons (pv 0) (pa_cons pe_int pa_nil))) (fun _ _ => rfl))) (pa_cons (pe_op op_add (pv 9) (pe_op op_mul (pv 8) (pe_c c_law_take hr (by decide) (by rfl) (pa_cons (pv 0) (pa_cons pe_int pa_nil))))) pa_nil)) (by rfl))
      (pss_cons (ps_if (pt_cmpR op_notN (pe_c c_law_gone hr (by decide) (by rfl) (pa_cons (pv 2) (pa_cons (pe_ix (ix_listK K rfl) (pv 3) pe_int (fun _ _ => rfl)) (pa_cons (pv 11) (pa_cons (pv 10) pa_nil))))) pe_non (nomark _)) (pss_one (ps_ret pe_bl)) pss_nil)
      (pss_cons (ps_set (i := 4) sc_law_parts_right.nd rfl (Or.inl rfl) (pe_c c_law_folds_told hr (by decide) (by rfl) (pa_cons (pv 1) (pa_cons (pe_c c_law_made hr (by decide) (by rfl) (pa_cons (pv 0) (pa_cons (pv 6) pa_nil))) (pa_cons (pv 11) (pa_cons (pe_op op_add (pv 11) (pv 10)) (pa_cons (pv 10) (pa_cons pe_int pa_nil))))))))
      (pss_cons (ps_if (pt_cmpR op_ne (pe_callB (call_repr hgd (hu64 hr)) (by rfl) T.n_repr b_repr (pa_cons (pv 4) pa_nil)) (pe_callB (call_repr hgd (hu64 hr)) (by rfl) T.n_repr b_repr (pa_cons (pe_lst (pa_cons pe_str (pa_cons (pe_lst (pa_cons (pe_c c_law_fold hr (by decide) (by rfl) (pa_cons (pe_ix (ix_listK K rfl) (pe_ix (ix_listK K rfl) (pv 3) pe_int (fun _ _ => rfl)) (pv 6) (fun _ _ => rfl)) (pa_cons (pv 11) (pa_cons (pe_op op_add (pv 11) (pv 10)) pa_nil)))) pa_nil)) pa_nil))) pa_nil)) (nomark _)) (pss_one (ps_ret pe_bl)) pss_nil)
      (pss_cons (ps_for PassesOwn.never rfl (pi_listK K rfl (pe_lst (pa_cons (pv 8) (pa_cons (pe_op op_mul pe_int (pv 8)) (pa_cons (pe_op op_fdiv (pv 10) pe_int) (pa_cons (pe_callB (call_max2 rfl) (by rfl) T.n_max b_max (pa_cons pe_int (pa_cons (pe_op op_fdiv (pv 10) pe_int) pa_nil))) (pa_cons pe_int (pa_cons (pv 10) pa_nil)))))))) (pg_name (i := 5) sc_law_parts_right.nd rfl (Or.inr rfl)) (pss_one (ps_if (PW.pt (pw_and (pt_cmpR op_eq (pe_op op_mod (pe_callTy call_int1 (by rfl) T.n_int b_int (pa_cons (pv 10) pa_nil)) (pv 5)) pe_int (nomark _)) (pw_and (pt_cmpR op_le (pe_op op_fdiv (pv 10) (pv 5)) pe_int (nomark _)) (pw_and1 (pt_cmpR op_isN (pe_c c_law_gone hr (by decide) (by rfl) (pa_cons (pv 2) (pa_cons (pe_ix (ix_listK K rfl) (pv 3) pe_int (fun _ _ => rfl)) (pa_cons (pv 11) (pa_cons (pv 5) pa_nil))))) pe_non (nomark _)))))) (pss_cons (ps_par (i := 14) (j := 15) (by rfl) sc_law_parts_right.nd rfl rfl (by decide) rfl rfl (pa_cons (pe_c c_law_folds_told hr (by decide) (by rfl) (pa_cons (pv 1) (pa_cons (pe_c c_law_made hr (by decide) (by rfl) (pa_cons (pv 0) (pa_cons (pv 6) pa_nil))) (pa_cons (pv 11) (pa_cons (pe_op op_add (pv 11) (pv 10)) (pa_cons (pv 5) (pa_cons pe_int pa_nil))))))) (pa_cons pe_non pa_nil)) (by rfl))
      (pss_cons (ps_setLc (i := 12) rfl sc_law_parts_right.nd rfl rfl (sw_true rfl rfl rfl (by decide +kernel)) (pi_range3 (by rfl) T.n_range (pa_cons (pv 11) (pa_cons (pe_op op_add (pv 11) (pv 10)) (pa_cons (pv 5) pa_nil)))) (blkOk_by (own := [("_law_at", 16)]) (by show blkC ["_law_box_here", "_law_plain", "_law_rules_here", "_law_own", "_law_whole", "_law_part", "_law_k", "_law_grain", "_law_length", "_law_edge_here", "_law_unit", "_law_low", "_law_due_here", "_law_one", "_law_told_here", "_law_found", "_law_at"] (defScope s__law_parts_right) _ _ = true; decide +kernel)) (fun _ _ _ _ _ => (pg_name (i := 16) sc_law_parts_right.nd rfl (Or.inl rfl))) (fun _ _ _ _ _ => pts_nil) (fun _ _ _ _ _ => (pe_c c_law_fold hr (by decide) (by rfl) (pa_cons (pe_ix (ix_listK K rfl) (pe_ix (ix_listK K rfl) (pv 3) pe_int (fun _ _ => rfl)) (pv 6) (fun _ _ => rfl)) (pa_cons (pv 16) (pa_cons (pe_op op_add (pv 16) (pv 5)) pa_nil))))))
      (pss_cons (ps_if (pt_cmpR op_ne (pe_callB (call_repr hgd (hu64 hr)) (by rfl) T.n_repr b_repr (pa_cons (pv 14) pa_nil)) (pe_callB (call_repr hgd (hu64 hr)) (by rfl) T.n_repr b_repr (pa_cons (pe_lst (pa_cons pe_str (pa_cons (pv 12) pa_nil))) pa_nil)) (nomark _)) (pss_one (ps_ret pe_bl)) pss_nil)
      (pss_cons (ps_for PassesOwn.never rfl (pi_listK K rfl (pe_ix (ix_listK K rfl) (pv 14) pe_int (fun _ _ => rfl))) (pg_name (i := 13) sc_law_parts_right.nd rfl (Or.inl rfl)) (pss_one (ps_set (i := 15) sc_law_parts_right.nd rfl (Or.inl rfl) (pe_c c_law_joined hr (by decide) (by rfl) (pa_cons (pv 15) (pa_cons (pv 13) pa_nil))))))
      (pss_one (ps_if (pt_cmpR op_ne (pe_callB (call_repr hgd (hu64 hr)) (by rfl) T.n_repr b_repr (pa_cons (pe_lst (pa_cons (pv 15) pa_nil)) pa_nil)) (pe_callB (call_repr hgd (hu64 hr)) (by rfl) T.n_repr b_repr (pa_cons (pe_ix (ix_listK K rfl) (pv 4) pe_int (fun _ _ => rfl)) pa_nil)) (nomark _)) (pss_one (ps_ret pe_bl)) pss_nil)))))) pss_nil)))
      (pss_one (ps_ret pe_bl))))))))), ?_⟩
    obtain ⟨N, b, S, st, r, O, row, n, rfl, hb, hn, hp, hrs, hNb, ho, hrow, hrb, hcl, q⟩ := h
    have okr := hp.rules.1
    obtain ⟨nb1, nb2⟩ := hp.noBox hb
    have hc0 := hp.clock
    have l1 := okr.l1
    have l4 := okr.l4
    have tk : ∀ {σ : L2.St} {H1 : Hp} {m : Int} {Q : VK} {many : Int} {E : XK} {tm : TE}, σ[0]? = some (some (V.ref b)) → Ev tm σ H1 (.int many) → BoxAt H1 b m → m < 1048576 → 1 ≤ many → many < 1000000 → (∀ d H', 0 ≤ d → d < many → Fm (OB b) H1 H' → BoxAt H' b (m + 1) → Q (.int d) H') → tCall spTk [] E (tCons (tVar 0) (tCons tm tNil)) σ H1 Q := fun h1 hm h2 h3 h4 h5 h6 => c_tk (ea_cons (ev_var h1) (ea_cons hm ea_nil)) h2 h3 h4 h5 h6
    have rl : ∀ {σ : L2.St} {H1 : Hp}, σ[2]? = some (some r) → DA N H1 (.list (st.rs.map rd)) r → Ev (tCB (rLenK K) (tCons (tVar 2) tNil)) σ H1 (.int (st.rs.length : Int)) := fun h1 h2 => ev_is (ev_lenDD (ed_var h1 h2)) (by rw [List.length_map])
    refine tk rfl ev_c hb (by omega) (by decide) (by decide) fun k H1 k0 k1 hf1 hb1 => ?_
    have hrs1 := da_ob hrs hf1 hNb hb
    refine tk rfl (rl rfl hrs1) hb1 (by omega) (by omega) (by omega) fun g H2 g0 g1 hf2 hb2 => ⟨sz_of (Nat.le_of_ble_eq_true rfl), fun tp htp => ?_⟩
    refine g_tup2 (st_of upd_same) ?_
    have eT := Ex.new htp (o := .tup [.int k, .int g])
    dsimp only
    generalize hH3 : upd H2 tp (.tup [.int k, .int g]) = H3 at eT ⊢
    have hf3 := (hf1.trans hf2).trans (Fm.of eT)
    have hb3 := hb2.ex eT
    have hrs3 := da_ob hrs hf3 hNb hb
    have ho3 := ho.fm hf3 (ho.noBox hb)
    have hg : ((g.toNat : Nat) : Int) = g := Int.toNat_of_nonneg g0
    have hgl : g.toNat < st.rs.length := by omega
    have hk : ((k.toNat : Nat) : Int) = k := Int.toNat_of_nonneg k0
    have hk2 : k.toNat < 2 := by omega
    have lp := okr.pos hgl
    have lt := okr.lt _ hgl
    obtain ⟨rb, nd⟩ := hrb k.toNat
    have hed := edge_le okr g.toNat hc0 (okr.keep hgl)
    refine q_par (x := .int (gr st.rs g.toNat).1) (y := .int (edgeOf st.rs g.toNat st.clock)) (ea_cons (ev_rdLen (g := g.toNat) (ed_var rfl hrs3) (ev_is (ev_var rfl) (by rw [hg])) hgl) (ea_cons (ev_callVD (N := N) (ds := [.list (st.rs.map rd), .int ((g.toNat : Nat) : Int), .int st.clock]) (eds_cons (ed_var rfl hrs3) (eds_cons (ed_int (ev_is (ev_var rfl) (by rw [hg]))) (eds_cons (ed_int (ev_ixL (ev_var rfl) ev_c ho3.o rfl)) eds_nil))) rfl fun vs H4 e4 hvs => ⟨N, st.rs, g.toNat, st.clock, hvs, okr, hgl, rfl⟩) ea_nil)) fun H4 e4 => ?_
    have hb4 := hb3.ex e4
    generalize hlen : (gr st.rs g.toNat).1 = len at lp lt
    generalize hedge : edgeOf st.rs g.toNat st.clock = edge at hed
    refine ⟨_, rfl, c_pick (ns := [6, 2, 4, 12]) (ed_lst fr_self (eds_cons (ed_int ev_c) (eds_cons (ed_int ev_c) (eds_cons (ed_int ev_c) (eds_cons (ed_int ev_c) eds_nil)))) (by simp)) (ea_cons (ev_var rfl) (ea_cons ev_c ea_nil)) hb4 (by omega) (by decide) (by decide) fun y H5 hy hf5 hb5 => ⟨_, _, rfl, rfl, .inl ⟨by omega, by omega⟩, _, rfl, _, rfl, tk rfl ev_c hb5 (by omega) (by decide) (by decide) fun x H6 x0 x1 hf6 hb6 => ⟨_, _, rfl, rfl, .inl ⟨by omega, by omega⟩, _, _, rfl, rfl, _, _, rfl, ?_⟩⟩⟩
    have hy' : 2 ≤ y ∧ y ≤ 12 := by
      simp at hy
      omega
    have hlow0 : goneOf st.rs (edge + len * x) (len * y) st.clock = none := by
      rw [← hlen, ← hedge]
      exact told_low okr hgl x y x0
    dsimp only
    have hx1 : 0 ≤ len * x := Int.mul_nonneg (by omega) x0
    have hx2 : len * x ≤ 1000 * 3 := Int.mul_le_mul (by omega) (by omega) x0 (by omega)
    have hy1 : 1 * 2 ≤ len * y := Int.mul_le_mul lp hy'.1 (by decide) (by omega)
    have hy2 : len * y ≤ 1000 * 12 := Int.mul_le_mul (by omega) hy'.2 (by omega) (by omega)
    generalize hlow : edge + len * x = low at hlow0
    generalize hunit : len * y = unit at hlow0 hy1 hy2
    have low0 : 0 ≤ low := by omega
    have low1 : low < 1100000 := by omega
    have hf46 := ((Fm.of e4).trans hf5).trans hf6
    have hf6' := hf3.trans hf46
    have hrs6 := da_ob hrs hf6' hNb hb
    have ho6 := ho.fm hf6' (ho.noBox hb)
    refine q_when (b := false) (et_is (et_goneN (ev_callVD (N := N) (ds := [.list (st.rs.map rd), .int st.clock, .int low, .int unit]) (eds_cons (ed_var rfl hrs6) (eds_cons (ed_int (ev_ixL (ev_var rfl) ev_c ho6.o rfl)) (eds_cons (ed_int (ev_var rfl)) (eds_cons (ed_int (ev_var rfl)) eds_nil)))) rfl fun vs H7 e7 hvs => ⟨N, st.rs, st.clock, low, unit, hvs, okr, rfl⟩)) (by rw [hlow0]; rfl)) (fun c => by cases c) (fun _ H7 e7 => ?_)
    have hb7 := hb6.ex e7
    have hf7 := hf6'.trans (Fm.of e7)
    have hp7 := hp.fm hf7 nb1 hb.noTup nb2
    refine ⟨_, rfl, c_made (ea_cons (ev_var rfl) (ea_cons (ev_is (ev_var rfl) (by rw [hk])) ea_nil)) hb7 (by omega) hk2 fun s' H8 hs8 hf8 hb8 hser => ⟨_, rfl, _, rfl, _, rfl, _, _, rfl, rfl, _, rfl, ?_⟩⟩
    have hf8' := hf7.trans hf8
    have hp8 := hp.fm hf8' nb1 hb.noTup nb2
    have elow : low + ((1 : Nat) : Int) * unit = low + unit := by omega
    have elow0 : low + ((0 : Nat) : Int) * unit = low := by omega
    refine ⟨S, st, s', k.toNat, low, unit, 1, 0, (by rw [elow]; rfl), hp8, hser, hk2, ⟨low0, by omega⟩, by omega, by omega, by decide, fun hall v H9 e9 hd => ?_, fun i' g' hg' => ?_⟩
    rotate_left
    · obtain ⟨h1, _, h2⟩ := hg'
      have hi0 : i' = 0 := by omega
      subst hi0
      rw [elow0, hlow0] at h2
      cases h2
    rw [ft_one, hrow] at hd
    have hf9 := hf8'.trans (Fm.of e9)
    have hb9 := hb8.ex e9
    have ho9 := ho.fm hf9 (ho.noBox hb)
    have hd9 : DA (FrN H8) H9 (.list [.str "told", .list [fdD (foldW (row k.toNat) low (low + unit))]]) v := hd
    have sh1 : Shw 2000 4 (.list [.str "told", .list [fdD (foldW (row k.toNat) low (low + unit))]]) := (sw_lst (k := 3) (sa_cons (sw_str str_told.1 str_told.2) (sa_cons (sw_oneF rb low (low + unit)) sa_nil))).up (by omega) (by omega)
    have own : ∀ {σ : L2.St} {H' : Hp} {i : Nat}, OwnAt H' O st.clock row → σ[3]? = some (some (V.ref O.o)) → σ[6]? = some (some (.int k)) → Ev (tOp (rIxL K) (tOp (rIxL K) (tVar 3) (tC (.int 0))) (tVar 6)) σ H' (.ref (O.d k.toNat)) := fun h1 h2 h3 => own_d h1 h2 hk2 (ev_is (ev_var h3) (by rw [hk]))
    refine q_when (b := false) (et_is (et_test (ev_op (ev_repr (ed_var rfl hd9) sh1 (by omega) (by omega)) (ev_repr (ds := [.str "told", .list [fdD (foldW (row k.toNat) low (low + unit))]]) (ed_lst (N := TD) fr_TD (eds_cons (ed_str ev_c) (eds_cons (ed_lst fr_TD (eds_cons (ed_callV fr_TD (ea_cons (own (i := 0) ho9 rfl rfl) (ea_cons (ev_var rfl) (ea_cons (ev_op (ev_var rfl) (ev_var rfl) rv_I0) ea_nil))) rfl fun H10 e10 => ⟨_, row k.toNat, low, low + unit, rfl, e10 _ _ (ho9.d _ hk2), nd, rb.2, rfl⟩) eds_nil) (by simp)) eds_nil)) (by simp)) sh1 (by omega) (by omega)) (rv_ne rfl))) (str_eq_ff _)) (fun c => by cases c) (fun _ H10 e10 => ?_)
    -- the parts
    have hb10 := hb9.ex e10
    have hf10 := hf9.trans (Fm.of e10)
    have hd10 := hd9.ex e10
    generalize hmx : (if unit / 3 > 1 then unit / 3 else (1 : Int)) = mx
    have mx1 : 1 ≤ mx := by
      rw [← hmx]
      split <;> omega
    have mx2 : mx ≤ 12000 := by
      rw [← hmx]
      split <;> omega
    refine q_forD (N := TD) (ds := [len, 2 * len, unit / 2, mx, 1, unit].map .int) (ed_is (ed_lst fr_TD (eds_cons (ed_int (ev_var rfl)) (eds_cons (ed_int (ev_op ev_c (ev_var rfl) (rv_I (.inl ⟨by decide, by decide⟩)))) (eds_cons (ed_int (ev_op (ev_var rfl) ev_c (rv_I ⟨by decide, by decide⟩))) (eds_cons (ed_int (ev_is (ev_cb (ea_cons ev_c (ea_cons (ev_op (ev_var rfl) ev_c (rv_I ⟨by decide, by decide⟩)) ea_nil)) rc_max2) (congrArg V.int hmx))) (eds_cons (ed_int ev_c) (eds_cons (ed_int (ev_var rfl)) eds_nil)))))) (by simp)) rfl) fun pl xs H11 e11 _ hpl hxs => ?_
    have hxs' := hxs.ints
    have hb11 := hb10.ex e11
    have hf11 := hf10.trans (Fm.of e11)
    have hd11 := hd10.ex e11
    have hplb : ¬ OB b pl := fun c => by
      have c' : pl = b := c
      obtain ⟨g', f', r', c2, h1, _⟩ := hb11
      rw [c', h1] at hpl
      have := congrArg List.length (HO.lst.inj (Option.some.inj hpl))
      rw [hxs'] at this
      simp at this
    have hl6 : xs.length = 6 := by rw [hxs'] <;> rfl
    refine ⟨fun i σ' H' => Fm (OB b) H11 H' ∧ BoxAt H' b (n + 10 + i) ∧ ∃ w5 w12 w13 w14 w15 w16, σ' = [some (.ref b), some (.ref S.P), some r, some (.ref O.o), some v, w5, some (.int k), some (.int g), some (.int len), some (.int edge), some (.int unit), some (.int low), w12, w13, w14, w15, w16], ⟨Fm.of (Ex.refl _), hb11.le (by omega), _, _, _, _, _, _, rfl⟩, fun i σ' H' _ h => sq_of (h.1 _ _ hplb hpl), fun i x σ' H' hi h => ?_, fun σ' H' h => ?_⟩
    rotate_left
    · obtain ⟨hf, hb2, w5, w12, w13, w14, w15, w16, rfl⟩ := h
      exact s_ret ev_c fun H2 e2 => q H2 ((hf11.trans hf).trans (Fm.of e2)) ((hb2.ex e2).le (by omega))
    obtain ⟨hf, hb2', w5, w12, w13, w14, w15, w16, rfl⟩ := h
    have hil : i < 6 := by
      have := (List.getElem?_eq_some_iff.mp hi).1
      omega
    rw [hxs', List.getElem?_map] at hi
    obtain ⟨part, hpart, rfl⟩ := Option.map_eq_some_iff.mp hi
    have hpm := List.mem_of_getElem? hpart
    have hpb : 1 ≤ part ∧ part ≤ 12000 := by
      simp at hpm
      omega
    clear hpm hpart hi
    have hfA := hf11.trans hf
    have hrsA := da_ob hrs hfA hNb hb
    have hoA := ho.fm hfA (ho.noBox hb)
    have hpA := hp.fm hfA nb1 hb.noTup nb2
    refine s_when (b := decide (unit % part = 0) && (decide (unit / part ≤ 400) && (goneOf st.rs low part st.clock).isNone)) (et_and (et_test (ev_op (ev_op (ev_cb (ea_cons (ev_var rfl) ea_nil) rc_int1) (ev_var rfl) (rv_I (by omega))) ev_c rv_eqI)) fun _ => et_and (et_test (ev_op (ev_op (ev_var rfl) (ev_var rfl) (rv_I ⟨by omega, by omega⟩)) ev_c rv_I0)) fun _ => et_is (et_test (ev_op (ev_callVD (N := N) (ds := [.list (st.rs.map rd), .int st.clock, .int low, .int part]) (eds_cons (ed_var rfl hrsA) (eds_cons (ed_int (ev_ixL (ev_var rfl) ev_c hoA.o rfl)) (eds_cons (ed_int (ev_var rfl)) (eds_cons (ed_int (ev_var rfl)) eds_nil)))) rfl fun vs H7 e7 hvs => ⟨N, st.rs, st.clock, low, part, hvs, okr, rfl⟩) ev_c rv_isO)) (by cases goneOf st.rs low part st.clock <;> rfl)) (fun hc HA eA => ?_) (fun hc HA eA => ?_)
    rotate_left
    · exact ⟨hf.trans (Fm.of eA), (hb2'.ex eA).le (by omega), _, _, _, _, _, _, rfl⟩
    simp only [Bool.and_eq_true, decide_eq_true_eq] at hc
    obtain ⟨hmod, hle, hgo⟩ := hc
    have hgo' : goneOf st.rs low part st.clock = none := by
      cases hx : goneOf st.rs low part st.clock with
      | none => rfl
      | some g' =>
        rw [hx] at hgo
        cases hgo
    have hq0 : 0 ≤ unit / part := Int.ediv_nonneg (by omega) (by omega)
    have hn' : (((unit / part).toNat : Nat) : Int) = unit / part := Int.toNat_of_nonneg hq0
    have hun : ((unit / part).toNat : Int) * part = unit := by
      rw [hn']
      have := Int.emod_add_mul_ediv unit part
      rw [hmod, Int.zero_add, Int.mul_comm] at this
      exact this
    generalize hnn : (unit / part).toNat = nn at hn' hun
    have nn4 : nn ≤ 400 := by omega
    have elowU : low + (nn : Int) * part = low + unit := by rw [hun]
    have hbA := hb2'.ex eA
    have hpA' := hpA.ex eA
    refine ⟨_, rfl, c_made (ea_cons (ev_var rfl) (ea_cons (ev_is (ev_var rfl) (by rw [hk])) ea_nil)) hbA (by omega) hk2 fun s2 HB hsB hfB hbB hserB => ⟨_, rfl, _, rfl, _, rfl, _, _, rfl, rfl, _, rfl, ?_⟩⟩
    have hpB := hpA'.fm hfB (fun a m e' => nb1 a m e') hbA.noTup nb2
    refine ⟨S, st, s2, k.toNat, low, part, nn, 1, (by rw [elowU]; rfl), hpB, hserB, hk2, ⟨low0, by omega⟩, by omega, by omega, nn4, fun hall v2 HC eC hdC => ?_, fun i' g' hg' => ?_⟩
    rotate_left
    · obtain ⟨h1, _, h2⟩ := hg'
      rw [told_all okr (by omega) hgo' i'] at h2
      cases h2
    rw [hrow] at hdC
    have hdC' : DA (FrN HB) HC (.list [.str "told", .list (foldsD (row k.toNat) low part nn)]) v2 := hdC
    refine ⟨v2, .non, rfl, ?_⟩
    have hfC := ((hfA.trans (Fm.of eA)).trans hfB).trans (Fm.of eC)
    have hoC := ho.fm hfC (ho.noBox hb)
    have hrg : RgC low (low + unit) part nn := by
      have := rgC_step (lo := low) (step := part) (n := nn) low0 (by omega) (by omega) (by omega) nn4
      rwa [elowU] at this
    refine q_asgD (N := FrN HC) (d := .list (foldsD (row k.toNat) low part nn)) (ed_is (ed_lc fr_self (fun _ => true) (fun j => fdD (foldW (row k.toNat) (low + (j : Nat) * part) (low + (j : Nat) * part + part))) (ew_rng3 (ea_cons (ev_var rfl) (ea_cons (ev_op (ev_var rfl) (ev_var rfl) rv_I0) (ea_cons (ev_var rfl) ea_nil))) hrg) (by omega) fun N' j x HD eD fr _ hj hx => ?_) (by rw [gvn_all]; rfl)) fun dv HD eD hdD => ?_
    · subst hx
      exact ⟨_, fun Q q => q, rfl, et_yes, fun _ => ed_callV fr (ea_cons (own (i := 0) (hoC.ex eD) rfl rfl) (ea_cons (ev_var rfl) (ea_cons (ev_op (ev_var rfl) (ev_var rfl) rv_I0) ea_nil))) rfl fun HE eE => ⟨_, row k.toNat, _, _, rfl, eE _ _ ((hoC.ex eD).d _ hk2), nd, rb.2, rfl⟩⟩
    have sh2 := sw_ftOk rb low part nn4
    have hdD2 := hdC'.ex eD
    refine q_when (b := false) (et_is (et_test (ev_op (ev_repr (ed_var rfl hdD2) sh2 (by omega) (by omega)) (ev_repr (ds := [.str "told", .list (foldsD (row k.toNat) low part nn)]) (ed_lst (N := TD) fr_TD (eds_cons (ed_str ev_c) (eds_cons (ed_var rfl (hdD.to fun _ _ => True.intro)) eds_nil)) (by simp)) sh2 (by omega) (by omega)) (rv_ne rfl))) (str_eq_ff _)) (fun c => by cases c) (fun _ HE eE => ?_)
    have hdE := hdD2.ex eE
    refine q_forD (N := FrN HB) (ds := foldsD (row k.toNat) low part nn) (ed_ixL (ds := [.str "told", .list (foldsD (row k.toNat) low part nn)]) (ed_var rfl hdE) ev_c rfl) fun pq ys HF eF _ hpq hys => ?_
    have hylen : ys.length = nn := by rw [hys.length, foldsD_len]
    refine ⟨fun j σ' H' => Ex HF H' ∧ ∃ w13 fv, σ' = [some (.ref b), some (.ref S.P), some r, some (.ref O.o), some v, some (.int part), some (.int k), some (.int g), some (.int len), some (.int edge), some (.int unit), some (.int low), some dv, w13, some v2, some fv, w16] ∧ DA TD H' (fdD (parts (row k.toNat) low part j)) fv, ⟨Ex.refl _, _, _, rfl, by simp [parts, fdD, DA]⟩, fun j σ' H' _ h => sq_of (h.1 _ _ hpq), fun j x σ' H' hj h => ?_, fun σ' H' h => ?_⟩
    · obtain ⟨eG, w13, fv, rfl, hfv⟩ := h
      have hjn : j < nn := by
        have := (List.getElem?_eq_some_iff.mp hj).1
        omega
      obtain ⟨x', hx', hdx⟩ := hys.get (foldsD_at hjn)
      rw [hj] at hx'
      cases hx'
      have hdx' : DA TD H' (fdD (foldW (row k.toNat) (low + (j : Nat) * part) (low + (j : Nat) * part + part))) x := fd_any (hdx.ex eG)
      refine s_asgD (N := TD) (d := fdD (parts (row k.toNat) low part (j + 1))) (by
        rw [parts_succ]
        exact ed_callD fr_TD (eds_cons (ed_var rfl hfv) (eds_cons (ed_var rfl hdx') eds_nil)) rfl fun vs HG eG2 hvs => ⟨TD, _, _, hvs, rfl⟩) fun v3 HG eG2 hd3 => ⟨eG.trans eG2, _, _, rfl, hd3⟩
    · obtain ⟨eG, w13, fv, rfl, hfv⟩ := h
      rw [hylen, parts_eq nd (by omega), elowU] at hfv
      have eAll := ((eD.trans eE).trans eF).trans eG
      have hdG : DA (FrN H8) H' (.list [.str "told", .list [fdD (foldW (row k.toNat) low (low + unit))]]) v := by
        have h1 := da_fm hd11 ((hf.trans (Fm.of eA)).trans hfB) (fun a m => hb8.some a m) hb11.noTup
        exact (h1.ex eC).ex eAll
      refine s_when (b := false) (et_is (et_test (ev_op (ev_repr (ds := [fdD (foldW (row k.toNat) low (low + unit))]) (ed_lst (N := TD) fr_TD (eds_cons (ed_var rfl hfv) eds_nil) (by simp)) (sw_oneF rb low (low + unit)) (by omega) (by omega)) (ev_repr (ds := [fdD (foldW (row k.toNat) low (low + unit))]) (ed_ixL (ds := [.str "told", .list [fdD (foldW (row k.toNat) low (low + unit))]]) (ed_var rfl hdG) ev_c rfl) (sw_oneF rb low (low + unit)) (by omega) (by omega)) (rv_ne rfl))) (str_eq_ff _)) (fun c => by cases c) (fun _ HH eH => ?_)
      exact ⟨(((hf.trans (Fm.of eA)).trans hfB).trans (Fm.of eC)).trans (Fm.of (eAll.trans eH)), (hbB.ex ((eC.trans eAll).trans eH)).le (by omega), _, _, _, _, _, _, rfl⟩
end
end Eg
end

section
set_option Elab.async false
set_option linter.all false
set_option maxRecDepth 100000
set_option maxHeartbeats 4000000
/-! what stands between the deeds of a round -/
namespace Eg
open PySem PySem.Spec PyProof.Rows L2 Evl C8
theorem filter_put {l : List (Int × Int)} {t v lo hi : Int} (h : hi ≤ t) : (putR l t v).filter (inB lo hi) = l.filter (inB lo hi) := by
  unfold putR
  split
  · induction l with
    | nil => rfl
    | cons p l ih =>
      rename_i hany
      have ih' : (l.map fun p => if p.1 = t then (p.1, v) else p).filter (inB lo hi) = l.filter (inB lo hi) := by
        by_cases c : (l.any fun p => decide (p.1 = t)) = true
        · exact ih c
        · have : (l.map fun p => if p.1 = t then (p.1, v) else p) = l := by
            refine (List.map_congr_left fun p hp => ?_).trans (List.map_id' l)
            rw [if_neg]
            intro e
            exact c (List.any_eq_true.mpr ⟨p, hp, by simp [e]⟩)
          rw [this]
      rw [List.map_cons]
      by_cases e : p.1 = t
      · have n1 : ¬ inB lo hi p = true := by
          unfold inB
          simp
          omega
        have n2 : ¬ inB lo hi (p.1, v) = true := by
          unfold inB
          simp
          omega
        rw [if_pos e, List.filter_cons_of_neg n2, List.filter_cons_of_neg n1, ih']
      · rw [if_neg e]
        by_cases c : inB lo hi p = true
        · rw [List.filter_cons_of_pos c, List.filter_cons_of_pos c, ih']
        · rw [List.filter_cons_of_neg c, List.filter_cons_of_neg c, ih']
  · rw [List.filter_append]
    have n1 : ¬ inB lo hi (t, v) = true := by
      unfold inB
      simp
      omega
    rw [List.filter_cons_of_neg n1, List.filter_nil, List.append_nil]
theorem filter_take {l : List (Int × Int)} {a c lo hi : Int} (h : hi ≤ a) : (takeR l a c).filter (inB lo hi) = l.filter (inB lo hi) := by
  unfold takeR
  rw [List.filter_filter]
  refine List.filter_congr fun p _ => ?_
  by_cases e : inB lo hi p = true
  · have : inB a c p = false := by
      unfold inB at e ⊢
      simp at e ⊢
      omega
    rw [e, this]
    rfl
  · have e' : inB lo hi p = false := by simpa using e
    rw [e']
    rfl
theorem foldW_put {l : List (Int × Int)} {t v lo hi : Int} (h : hi ≤ t) : foldW (putR l t v) lo hi = foldW l lo hi := by
  unfold foldW between
  rw [filter_put h]
theorem foldW_take {l : List (Int × Int)} {a c lo hi : Int} (h : hi ≤ a) : foldW (takeR l a c) lo hi = foldW l lo hi := by
  unfold foldW between
  rw [filter_take h]
theorem edge_mono {rs : List (Int × Option Int)} (ok : OkRs rs) {c c' : Int} (hc : 0 ≤ c) (h : c ≤ c') : edgeOf rs 0 c ≤ edgeOf rs 0 c' := by
  have h0 := (edge_le ok 0 (show 0 ≤ c' by omega) (ok.keep ok.l1)).1
  have hst := (ok.step 0).1
  unfold edgeOf at h0 ⊢
  split
  · exact Int.le_refl _
  · rename_i k hk
    rw [hk] at h0
    by_cases a : k > c
    · rw [if_pos a]
      exact h0
    · rw [if_neg a, if_neg (by omega)]
      exact Int.mul_le_mul_of_nonneg_right (Int.ediv_le_ediv (by omega) (by omega)) (by omega)
def NN (H0 : Hp) (O : OA) : Addr → Prop := fun a => H0 a = none ∧ a ≠ O.o ∧ a ≠ O.ol
structure Wd (K : PySem.W.Frag) (H0 H : Hp) (b : Addr) (rs : List (Int × Option Int)) (r lg : V) (O : OA) (S : PA) (st : PSt) (row : Nat → List (Int × Int)) (es : List Le) (n : Int) (m : Nat) : Prop where
  box : BoxAt H b n
  h0 : ∀ a, OB b a → H0 a ≠ none
  fm : Fm (OB b) H0 H
  plain : PlainAt K H S st
  ers : st.rs = rs
  rules : DA (NN H0 O) H (.list (rs.map rd)) r
  own : OwnAt H O st.clock row
  rows : ∀ k, st.row k = row k
  rb : ∀ k, NdK (row k) ∧ (∀ p ∈ row k, 0 ≤ p.1 ∧ p.1 < 1000000000 ∧ p.2.natAbs ≤ 100000000000) ∧ (row k).length ≤ m
  clock : st.clock ≤ 17 * m
  sep : ∀ a, O.mem a → ¬ S.mem st.known a
  sm : ∀ a, S.mem st.known a → H0 a = none
  om : ∀ a, O.mem a → H0 a = none
  led : DA (NN H0 O) H (.list (es.map leD)) lg
  el : es.length ≤ 12
  ei : ∀ e ∈ es, LeIn row e ∧ e.low + e.unit ≤ edgeOf rs 0 st.clock
section
variable {K : PySem.W.Frag} {H0 H H' H1 H2 : Hp} {b : Addr} {rs : List (Int × Option Int)} {r lg : V} {O : OA} {S S' : PA} {st : PSt} {row : Nat → List (Int × Int)} {es : List Le} {n n' : Int} {m : Nat}
theorem Wd.dom (w : Wd K H0 H b rs r lg O S st row es n m) (a : Addr) (ha : H a = none) : H0 a = none := ob_none w.fm w.box a ha
theorem Wd.fr (w : Wd K H0 H b rs r lg O S st row es n m) : Fr (NN H0 O) H := fun a ha => ⟨w.dom a ha, ⟨fun e => (by rw [e, w.own.o] at ha; cases ha), fun e => (by rw [e, w.own.ol] at ha; cases ha)⟩⟩
theorem Wd.nb (w : Wd K H0 H b rs r lg O S st row es n m) : ¬ NN H0 O b := fun h => w.h0 b rfl h.1
theorem Wd.okr (w : Wd K H0 H b rs r lg O S st row es n m) : OkRs rs := w.ers ▸ w.plain.rules.1
theorem Wd.rowB (w : Wd K H0 H b rs r lg O S st row es n m) (hm : m < 64) (k : Nat) : RowB (row k) := ⟨(w.rb k).2.1, by have := (w.rb k).2.2; omega⟩
theorem Wd.ob (w : Wd K H0 H b rs r lg O S st row es n m) (hf : Fm (OB b) H H') (hb : BoxAt H' b n') : Wd K H0 H' b rs r lg O S st row es n' m := by
  obtain ⟨nb1, nb2⟩ := w.plain.noBox w.box
  exact { w with box := hb, fm := w.fm.trans hf, plain := w.plain.fm hf nb1 w.box.noTup nb2, rules := da_ob w.rules hf w.nb w.box, own := w.own.fm hf (w.own.noBox w.box), led := da_ob w.led hf w.nb w.box }
theorem Wd.ex (w : Wd K H0 H b rs r lg O S st row es n m) (e : Ex H H') : Wd K H0 H' b rs r lg O S st row es n m := w.ob (Fm.of e) (w.box.ex e)
theorem Wd.le (w : Wd K H0 H b rs r lg O S st row es n m) (e : n ≤ n') : Wd K H0 H b rs r lg O S st row es n' m := { w with box := w.box.le e }
/-- data through a deed told -/
theorem Wd.da (w : Wd K H0 H b rs r lg O S st row es n m) (hf : Fm (MU b S st.known) H H1) {d : PyData} {v : V} (h : DA (NN H0 O) H d v) : DA (NN H0 O) H1 d v :=
  DA.imp (fun a xs n z => ⟨n, hf a _ (fun mu => mu.elim (fun e => w.nb (e ▸ n)) (fun s => w.plain.noLst a xs z s)) z⟩) (fun a xs z => hf a _ (fun mu => mu.elim (fun e => w.box.noTup a xs z e) (fun s => w.plain.noTup a xs z s)) z) _ _ h
theorem Wd.own1 (w : Wd K H0 H b rs r lg O S st row es n m) (hf : Fm (MU b S st.known) H H1) : OwnAt H1 O st.clock row := w.own.fm hf fun a ma mu => mu.elim (fun e => w.own.noBox w.box a ma e) (fun s => w.sep a ma s)
theorem dD_of {N : Addr → Prop} {H : Hp} {d : Dd} {L : Addr} (h : H L = some (.tup (dV d))) : DA N H (dD d) (.ref L) := by
  cases d <;> (simp only [dD, DA, DAs]; refine ⟨L, _, rfl, h, ?_⟩)
  · exact ⟨_, _, rfl, rfl, _, _, rfl, rfl, _, _, rfl, rfl, _, _, rfl, rfl, rfl⟩
  · exact ⟨_, _, rfl, rfl, _, _, rfl, rfl, _, _, rfl, rfl, _, _, rfl, rfl, rfl⟩
  · exact ⟨_, _, rfl, rfl, _, _, rfl, rfl, rfl⟩
theorem ownLst {c : Int} (h : OwnAt H O c row) {a : Addr} {xs : List V} (ha : H a = some (.lst xs)) (h1 : a ≠ O.o) (h2 : a ≠ O.ol) : ¬ O.mem a := fun mm => by
  have q0 := h.d 0 (by decide)
  have q1 := h.d 1 (by decide)
  rcases mm with e | e | e | e
  · exact h1 e
  · exact h2 e
  · have : O.d 0 = a := e.symm
    rw [this, ha] at q0
    cases q0
  · have : O.d 1 = a := e.symm
    rw [this, ha] at q1
    cases q1
theorem da_own {c : Int} (h : OwnAt H1 O c row) (hf : Fm O.mem H1 H2) {d : PyData} {v : V} (hd : DA (NN H0 O) H1 d v) : DA (NN H0 O) H2 d v :=
  DA.imp (fun a xs n z => ⟨n, hf a _ (ownLst h z n.2.1 n.2.2) z⟩) (fun a xs z => hf a _ (h.noTup a xs z) z) _ _ hd
/-- a deed told and due: what stands behind it -/
theorem Wd.did (w : Wd K H0 H b rs r lg O S st row es n m) {d : Dd} (ok : OkD d) (hd : match d with | .put _ t v => t < 1000000000 ∧ v.natAbs ≤ 100000000000 | .take .. => True | .clk c => c ≤ st.clock + 17)
    (hf1 : Fm (MU b S st.known) H H1) (hb1 : BoxAt H1 b n') (hp1 : PlainAt K H1 S' (aft (letOf st.rs st.clock d) (st.doit d) st)) (hm1 : ∀ a, S'.mem (aft (letOf st.rs st.clock d) (st.doit d) st).known a → S.mem st.known a ∨ H a = none)
    (hf2 : Fm O.mem H1 H2) (ho2 : OwnAt H2 O (aft (letOf rs st.clock d) (ownC st.clock d) st.clock) (aft (letOf rs st.clock d) (ownR row d) row)) :
    Wd K H0 H2 b rs r lg O S' (aft (letOf st.rs st.clock d) (st.doit d) st) (aft (letOf rs st.clock d) (ownR row d) row) es n' (m + 1) := by
  have okr := w.okr
  have ho1 := w.own1 hf1
  have sep1 : ∀ a, O.mem a → ¬ S'.mem (aft (letOf st.rs st.clock d) (st.doit d) st).known a := fun a ma ms => (hm1 a ms).elim (w.sep a ma) (fun e => w.own.some a ma e)
  have nbO : ¬ O.mem b := fun mm => ho1.noBox hb1 b mm rfl
  have raO : ¬ O.mem S'.ra := fun mm => by
    obtain ⟨_, dx, L, xs, q1, _⟩ := hp1.rules
    have z0 := ho1.d 0 (by decide)
    have z1 := ho1.d 1 (by decide)
    rcases mm with e | e | e | e
    · rw [e, ho1.o] at q1
      cases q1
    · rw [e, ho1.ol] at q1
      cases q1
    · have : O.d 0 = S'.ra := e.symm
      rw [this, q1] at z0
      cases z0
    · have : O.d 1 = S'.ra := e.symm
      rw [this, q1] at z1
      cases z1
  have hp2 := hp1.fm hf2 (fun a ms ma => sep1 a ma ms) ho1.noTup raO
  have hb2 := hb1.fm hf2 nbO
  have hclk : (aft (letOf st.rs st.clock d) (st.doit d) st).clock = aft (letOf rs st.clock d) (ownC st.clock d) st.clock := by
    rw [w.ers]
    cases letOf rs st.clock d <;> cases d <;> rfl
  have hrow : ∀ k, (aft (letOf st.rs st.clock d) (st.doit d) st).row k = aft (letOf rs st.clock d) (ownR row d) row k := fun k => by
    rw [w.ers]
    cases letOf rs st.clock d with
    | ok =>
      cases d with
      | put j t v =>
        show (if k = j then putR (st.row j) t v else st.row k) = (if k = j then putR (row j) t v else row k)
        rw [w.rows, w.rows]
      | take j lo hi =>
        show (if k = j then takeR (st.row j) lo hi else st.row k) = (if k = j then takeR (row j) lo hi else row k)
        rw [w.rows, w.rows]
      | clk c => exact w.rows k
    | back t => exact w.rows k
    | gone t => exact w.rows k
  have hrs : (aft (letOf st.rs st.clock d) (st.doit d) st).rs = rs := by
    rw [w.ers]
    cases letOf rs st.clock d <;> cases d <;> exact w.ers
  have hmle : ∀ k, (row k).length ≤ m + 1 := fun k => by
    have := (w.rb k).2.2
    omega
  refine ⟨hb2, w.h0, ?_, hp2, hrs, da_own ho1 hf2 (w.da hf1 w.rules), by rw [hclk]; exact ho2, hrow, fun k => ?_, ?_, sep1, fun a ms => ?_, w.om, da_own ho1 hf2 (w.da hf1 w.led), w.el, fun e he => ?_⟩
  · exact fun a o nb ha => by
      have hH := w.fm a o nb ha
      have h1 := hf1 a o (fun mu => mu.elim nb (fun s => by rw [w.sm a s] at ha; cases ha)) hH
      exact hf2 a o (fun mo => by rw [w.om a mo] at ha; cases ha) h1
  · cases letOf rs st.clock d with
    | back t => exact ⟨(w.rb k).1, (w.rb k).2.1, hmle k⟩
    | gone t => exact ⟨(w.rb k).1, (w.rb k).2.1, hmle k⟩
    | ok =>
      cases d with
      | clk c => exact ⟨(w.rb k).1, (w.rb k).2.1, hmle k⟩
      | put j t v =>
        show NdK (if k = j then putR (row j) t v else row k) ∧ (∀ p ∈ (if k = j then putR (row j) t v else row k), _) ∧ (if k = j then putR (row j) t v else row k).length ≤ m + 1
        by_cases c : k = j
        · rw [if_pos c]
          refine ⟨ndk_put (w.rb j).1 t v, fun p hp => ?_, ?_⟩
          · rcases put_mem hp with e | e
            · rw [e]
              exact ⟨ok.2, hd.1, hd.2⟩
            · exact (w.rb j).2.1 p e
          · have := put_len (row j) t v
            have := (w.rb j).2.2
            omega
        · rw [if_neg c]
          exact ⟨(w.rb k).1, (w.rb k).2.1, hmle k⟩
      | take j lo hi =>
        show NdK (if k = j then takeR (row j) lo hi else row k) ∧ (∀ p ∈ (if k = j then takeR (row j) lo hi else row k), _) ∧ (if k = j then takeR (row j) lo hi else row k).length ≤ m + 1
        by_cases c : k = j
        · rw [if_pos c]
          refine ⟨ndk_filter (w.rb j).1 _, fun p hp => (w.rb j).2.1 p (List.mem_filter.mp hp).1, ?_⟩
          have := List.length_filter_le (fun p => !inB lo hi p) (row j)
          have := (w.rb j).2.2
          unfold takeR
          omega
        · rw [if_neg c]
          exact ⟨(w.rb k).1, (w.rb k).2.1, hmle k⟩
  · rw [hclk]
    have := w.clock
    cases letOf rs st.clock d with
    | back t =>
      show st.clock ≤ _
      omega
    | gone t =>
      show st.clock ≤ _
      omega
    | ok =>
      cases d with
      | clk c =>
        show c ≤ _
        have : c ≤ st.clock + 17 := hd
        omega
      | put j t v =>
        show st.clock ≤ _
        omega
      | take j lo hi =>
        show st.clock ≤ _
        omega
  · rcases hm1 a ms with s | s
    · exact w.sm a s
    · exact w.dom a s
  · obtain ⟨hin, hbel⟩ := w.ei e he
    rw [hclk]
    cases hl : letOf rs st.clock d with
    | back t => exact ⟨hin, hbel⟩
    | gone t => exact ⟨hin, hbel⟩
    | ok =>
      cases d with
      | clk c =>
        have hcc : ¬ c < st.clock := fun h => by
          have : letOf rs st.clock (.clk c) = .back c := if_pos h
          rw [this] at hl
          cases hl
        have := edge_mono okr w.plain.clock (show st.clock ≤ c by omega)
        exact ⟨hin, Int.le_trans hbel this⟩
      | put j t v =>
        have ht : ¬ t < edgeOf rs 0 st.clock := fun h => by
          have : letOf rs st.clock (.put j t v) = .gone t := if_pos h
          rw [this] at hl
          cases hl
        refine ⟨⟨hin.k, hin.low, hin.lt, hin.u1, hin.u2, ?_⟩, hbel⟩
        show e.f = foldW (if e.k = j then putR (row j) t v else row e.k) _ _
        by_cases c : e.k = j
        · rw [if_pos c, foldW_put (by omega), ← c]
          exact hin.f
        · rw [if_neg c]
          exact hin.f
      | take j lo hi =>
        have ht : ¬ lo < edgeOf rs 0 st.clock := fun h => by
          have : letOf rs st.clock (.take j lo hi) = .gone lo := if_pos h
          rw [this] at hl
          cases hl
        refine ⟨⟨hin.k, hin.low, hin.lt, hin.u1, hin.u2, ?_⟩, hbel⟩
        show e.f = foldW (if e.k = j then takeR (row j) lo hi else row e.k) _ _
        by_cases c : e.k = j
        · rw [if_pos c, foldW_take (by omega), ← c]
          exact hin.f
        · rw [if_neg c]
          exact hin.f
end
end Eg
end

section
set_option Elab.async false
set_option linter.all false
set_option maxRecDepth 100000
set_option maxHeartbeats 4000000
set_option linter.constructorNameAsVariable false
namespace Eg
open PySem PySem.Spec PyProof.Rows L2 Evl C8


def dueL : Out → List PyData
  | .ok => [.str "done", .none]
  | .back t => [.str "back", .int t]
  | .gone t => [.str "gone", .int t, .int 0]
theorem dueD_eq (o : Out) : dueD o = .list (dueL o) := by cases o <;> rfl
theorem sw_dueL {o : Out} (h : ∀ t, o = .back t ∨ o = .gone t → t.natAbs < 10 ^ 15) : Shw 2000 4 (.list (dueL o)) := by
  cases o with
  | ok => exact (sw_lst (k := 0) (sa_cons (sw_str str_done.1 str_done.2) (sa_cons sw_non sa_nil))).up (by omega) (by omega)
  | back t => exact (sw_lst (k := 0) (sa_cons (sw_str str_back.1 str_back.2) (sa_cons (sw_int (h t (.inl rfl))) sa_nil))).up (by omega) (by omega)
  | gone t => exact (sw_lst (k := 0) (sa_cons (sw_str str_gone.1 str_gone.2) (sa_cons (sw_int (h t (.inr rfl))) (sa_cons (sw_int (by decide)) sa_nil)))).up (by omega) (by omega)
theorem let_num {rs : List (Int × Option Int)} {c : Int} {d : Dd} {t : Int} (h : letOf rs c d = .back t ∨ letOf rs c d = .gone t) : match d with | .put _ u _ => t = u | .take _ u _ => t = u | .clk u => t = u := by
  cases d with
  | put k u v =>
    unfold letOf at h
    simp only at h ⊢
    split at h <;> simp at h
    exact h.symm
  | take k u v =>
    unfold letOf at h
    simp only at h ⊢
    split at h <;> simp at h
    exact h.symm
  | clk u =>
    unfold letOf at h
    simp only at h ⊢
    split at h <;> simp at h
    exact h.symm
theorem c_both {K : PySem.W.Frag} {H0 H : Hp} {b L : Addr} {rs : List (Int × Option Int)} {r lg : V} {O : OA} {S : PA} {st : PSt} {row : Nat → List (Int × Int)} {es : List Le} {n : Int} {m : Nat} {D : Ends} {σ : L2.St} {d : Dd} (w : Wd K H0 H b rs r lg O S st row es n m) (hn : n < 1000000) (hm : m < 60)
    (hL : H L = some (.tup (dV d))) (ok : OkD d) (hd : match d with | .put _ t v => t < 1000000000 ∧ v.natAbs ≤ 100000000000 | .take _ t _ => t < 1000000000 | .clk c => c ≤ st.clock + 17)
    (h0 : σ[0]? = some (some (V.ref b))) (h1 : σ[1]? = some (some r)) (h3 : σ[3]? = some (some (V.ref S.P))) (h4 : σ[4]? = some (some (V.ref O.o))) (h6 : σ[6]? = some (some (V.ref L)))
    (kk : ∀ H2 (S' : PA) st' row', S'.P = S.P → Wd K H0 H2 b rs r lg O S' st' row' es (n + 1) (m + 1) → D.nx σ H2) :
    tIfS (tTest (tOp rNe (tCB rRepr (tCons (tCall (spToldL K) [] C8.E0 (tCons (tVar 0) (tCons (tVar 3) (tCons (tVar 6) tNil)))) tNil)) (tCB rRepr (tCons (tCall (spDue K) [] C8.E0 (tCons (tVar 1) (tCons (tVar 4) (tCons (tVar 6) tNil)))) tNil)))) (tRet (tC (.bl false))) tNext D σ H := by
  have hcl := w.clock
  have hsw : Shw 2000 4 (.list (dueL (letOf rs st.clock d))) := sw_dueL fun t ht => by
    have := let_num ht
    have hc := w.plain.clock
    cases d with
    | put k u v =>
      have e : t = u := this
      have := ok.2
      have := hd.1
      omega
    | take k u v =>
      have e : t = u := this
      have := ok.2.1
      have hh : u < 1000000000 := hd
      omega
    | clk u =>
      have e : t = u := this
      have o : 0 ≤ u := ok
      have hh : u ≤ st.clock + 17 := hd
      omega
  have hlen : ∀ k, (st.row k).length < 1000 := fun k => by
    rw [w.rows]
    have := (w.rb k).2.2
    omega
  refine ⟨_, h0, _, h3, _, h6, NN H0 O, b, S, st, n, d, .ref L, rfl, w.box, by omega, w.plain, dD_of hL, ok, hlen, fun v S' H1 hf1 hb1 hP hdx hp1 hm1 hn1 hdv => ?_⟩
  rw [dueD_eq, w.ers] at hdv
  dsimp only [tNil]
  refine c_repr hdv hsw (by omega) (by omega) ?_
  have hL1 : H1 L = some (.tup (dV d)) := hf1 _ _ (fun mu => mu.elim (fun e => w.box.noTup L _ hL e) (fun s => w.plain.noTup L _ hL s)) hL
  refine ⟨_, h1, _, h4, _, h6, NN H0 O, r, .ref L, O, rs, d, st.clock, row, rfl, w.da hf1 w.rules, w.okr, w.own1 hf1, dD_of hL1, ok, fun k => ⟨(w.rb k).1, by have := (w.rb k).2.2; omega⟩, fun v2 H2 hf2 ho2 hdv2 => ?_⟩
  rw [dueD_eq] at hdv2
  dsimp only [tNil]
  refine c_repr hdv2 hsw (by omega) (by omega) ⟨rfl, _, rfl, ?_⟩
  rw [if_neg (by simp)]
  refine kk H2 S' _ _ hP (w.did ok ?_ hf1 hb1 hp1 hm1 hf2 ho2)
  cases d with
  | put k u v => exact hd
  | take k u v => exact True.intro
  | clk u => exact hd
theorem Wd.lm {K : PySem.W.Frag} {H0 H : Hp} {b : Addr} {rs : List (Int × Option Int)} {r lg : V} {O : OA} {S : PA} {st : PSt} {row : Nat → List (Int × Int)} {es : List Le} {n : Int} {m m' : Nat} (w : Wd K H0 H b rs r lg O S st row es n m) (h : m ≤ m') : Wd K H0 H b rs r lg O S st row es n m' := { w with rb := fun k => ⟨(w.rb k).1, (w.rb k).2.1, Nat.le_trans (w.rb k).2.2 h⟩, clock := by have := w.clock; omega }
theorem c0_led {K : PySem.W.Frag} {H0 H : Hp} {b : Addr} {rs : List (Int × Option Int)} {r lg : V} {O : OA} {S : PA} {st : PSt} {row : Nat → List (Int × Int)} {es : List Le} {n way : Int} {m : Nat} {Q : VK} {X : XK} (w : Wd K H0 H b rs r lg O S st row es n m) (hn : n < 1000000) (hm : m < 64) (kk : ∀ H', Fm (OB b) H H' → BoxAt H' b (n + 12) → Q (.bl true) H') : spLed K [.ref b, .ref S.P, r, .ref O.o, lg, .int way] H Q X :=
  ⟨NN H0 O, b, S, st, r, lg, O, row, es, n, way, rfl, w.box, by omega, w.plain, by rw [w.ers]; exact w.rules, w.nb, w.own, w.rows, fun k => w.rowB hm k, w.led, w.el, fun e he => (w.ei e he).1, kk⟩
theorem c0_parts {K : PySem.W.Frag} {H0 H : Hp} {b : Addr} {rs : List (Int × Option Int)} {r lg : V} {O : OA} {S : PA} {st : PSt} {row : Nat → List (Int × Int)} {es : List Le} {n : Int} {m : Nat} {Q : VK} {X : XK} (w : Wd K H0 H b rs r lg O S st row es n m) (hn : n < 1000000) (hm : m < 64) (kk : ∀ H', Fm (OB b) H H' → BoxAt H' b (n + 20) → Q (.bl true) H') : spParts K [.ref b, .ref S.P, r, .ref O.o] H Q X :=
  ⟨NN H0 O, b, S, st, r, O, row, n, rfl, w.box, by omega, w.plain, by rw [w.ers]; exact w.rules, w.nb, w.own, w.rows, fun k => ⟨w.rowB hm k, (w.rb k).1⟩, by have := w.clock; omega, kk⟩
theorem c0_old {K : PySem.W.Frag} {H0 H : Hp} {b : Addr} {rs : List (Int × Option Int)} {r lg : V} {O : OA} {S : PA} {st : PSt} {row : Nat → List (Int × Int)} {es : List Le} {n : Int} {m : Nat} {Q : VK} {X : XK} (w : Wd K H0 H b rs r lg O S st row es n m) (hn : n < 1000000) (hm : m < 64) (kk : ∀ (es2 : List Le) v H', es2.length ≤ 1 → (∀ e ∈ es2, LeIn row e ∧ e.low + e.unit ≤ edgeOf rs 0 st.clock) → Fm (OB b) H H' → BoxAt H' b (n + 4) → DA (NN H0 O) H' (.list (es2.map leD)) v → Q v H') : spOld K [.ref b, r, .ref O.o] H Q X :=
  ⟨NN H0 O, b, r, O, rs, st.clock, n, row, rfl, w.rules, w.nb, w.okr, w.box, by omega, w.own, fun k => ⟨(w.rb k).1, by have := (w.rb k).2.2; omega⟩, fun es2 v H' h1 h2 hf hb hd => kk es2 v H' h1 (fun e he => by
    have q := h2 e he
    have hc := w.clock
    have he := (edge_le w.okr 0 w.plain.clock (w.okr.keep w.okr.l1)).2
    have := q.below
    have := q.u1
    exact ⟨⟨q.k, q.low, by omega, q.u1, q.u2, q.f⟩, q.below⟩) hf hb (hd.to fun a ha => w.fr a ha)⟩
theorem c_led {K : PySem.W.Frag} {H0 H : Hp} {b : Addr} {rs : List (Int × Option Int)} {r lg : V} {O : OA} {S : PA} {st : PSt} {row : Nat → List (Int × Int)} {es : List Le} {n way : Int} {m : Nat} {Q : VK} {E : XK} {tr : TA} {σ : L2.St} (ha : EvA tr σ H [.ref b, .ref S.P, r, .ref O.o, lg, .int way]) (w : Wd K H0 H b rs r lg O S st row es n m) (hn : n < 1000000) (hm : m < 64) (kk : ∀ H', Fm (OB b) H H' → BoxAt H' b (n + 12) → Q (.bl true) H') : tCall (spLed K) [] E tr σ H Q :=
  ha H (Ex.refl H) _ fun H1 e1 => show spLed K ([.ref b, .ref S.P, r, .ref O.o, lg, .int way] ++ []) H1 Q E from c0_led (w.ex e1) hn hm fun H' hf hb => kk H' ((Fm.of e1).trans hf) hb
theorem c_parts {K : PySem.W.Frag} {H0 H : Hp} {b : Addr} {rs : List (Int × Option Int)} {r lg : V} {O : OA} {S : PA} {st : PSt} {row : Nat → List (Int × Int)} {es : List Le} {n : Int} {m : Nat} {Q : VK} {E : XK} {tr : TA} {σ : L2.St} (ha : EvA tr σ H [.ref b, .ref S.P, r, .ref O.o]) (w : Wd K H0 H b rs r lg O S st row es n m) (hn : n < 1000000) (hm : m < 64) (kk : ∀ H', Fm (OB b) H H' → BoxAt H' b (n + 20) → Q (.bl true) H') : tCall (spParts K) [] E tr σ H Q :=
  ha H (Ex.refl H) _ fun H1 e1 => show spParts K ([.ref b, .ref S.P, r, .ref O.o] ++ []) H1 Q E from c0_parts (w.ex e1) hn hm fun H' hf hb => kk H' ((Fm.of e1).trans hf) hb
theorem c_old {K : PySem.W.Frag} {H0 H : Hp} {b : Addr} {rs : List (Int × Option Int)} {r lg : V} {O : OA} {S : PA} {st : PSt} {row : Nat → List (Int × Int)} {es : List Le} {n : Int} {m : Nat} {Q : VK} {E : XK} {tr : TA} {σ : L2.St} (ha : EvA tr σ H [.ref b, r, .ref O.o]) (w : Wd K H0 H b rs r lg O S st row es n m) (hn : n < 1000000) (hm : m < 64) (kk : ∀ (es2 : List Le) v H', es2.length ≤ 1 → (∀ e ∈ es2, LeIn row e ∧ e.low + e.unit ≤ edgeOf rs 0 st.clock) → Fm (OB b) H H' → BoxAt H' b (n + 4) → DA (NN H0 O) H' (.list (es2.map leD)) v → Q v H') : tCall (spOld K) [] E tr σ H Q :=
  ha H (Ex.refl H) _ fun H1 e1 => show spOld K ([.ref b, r, .ref O.o] ++ []) H1 Q E from c0_old (w.ex e1) hn hm fun es2 v H' h1 h2 hf hb hd => kk es2 v H' h1 h2 ((Fm.of e1).trans hf) hb hd
theorem das_app {N : Addr → Prop} {H : Hp} {ds2 : List PyData} {ys : List V} (h2 : DAs N H ds2 ys) : ∀ (ds : List PyData) (xs : List V), DAs N H ds xs → DAs N H (ds ++ ds2) (xs ++ ys)
  | [], xs, h => by
    simp only [DAs] at h
    rw [h]
    exact h2
  | d :: ds, xs, h => by
    simp only [DAs] at h
    obtain ⟨v, vs, rfl, hd, hs⟩ := h
    simp only [List.cons_append, DAs]
    exact ⟨v, _, rfl, hd, das_app h2 ds vs hs⟩
theorem das_take {N : Addr → Prop} {H : Hp} : ∀ (n : Nat) (ds : List PyData) (xs : List V), DAs N H ds xs → DAs N H (ds.take n) (xs.take n)
  | 0, ds, xs, h => by
    simp only [List.take_zero, DAs]
  | n + 1, [], xs, h => by
    simp only [DAs] at h
    rw [h]
    simp only [List.take_nil, DAs]
  | n + 1, d :: ds, xs, h => by
    simp only [DAs] at h
    obtain ⟨v, vs, rfl, hd, hs⟩ := h
    simp only [List.take_succ_cons, DAs]
    exact ⟨v, _, rfl, hd, das_take n ds vs hs⟩
theorem cat_da {N : Addr → Prop} {H : Hp} {es es2 : List Le} {v v2 : V} {Q : VK} (hf : Fr N H) (h1 : DA N H (.list (es.map leD)) v) (h2 : DA N H (.list (es2.map leD)) v2) (hl : es.length + es2.length ≤ 40) (k : ∀ p H', Ex H H' → DA N H' (.list ((es ++ es2).map leD)) (.ref p) → Q (.ref p) H') : rCat v v2 H Q := by
  obtain ⟨a, xs, rfl, _, ha, hx⟩ := h1.lst
  obtain ⟨a2, ys, rfl, _, ha2, hy⟩ := h2.lst
  have l1 := hx.length
  have l2 := hy.length
  rw [List.length_map] at l1 l2
  refine ⟨a, a2, xs, ys, rfl, rfl, ha, ha2, Nat.le_trans (show _ ≤ 40 by omega) (sz_of (Nat.le_of_ble_eq_true rfl)), fun p hp => k p _ (Ex.new hp) ?_⟩
  simp only [DA]
  refine ⟨p, _, rfl, hf p hp, upd_same, ?_⟩
  rw [List.map_append]
  exact das_app (hy.ex (Ex.new hp)) _ _ (hx.ex (Ex.new hp))
theorem cut_da {K : PySem.W.Frag} {N : Addr → Prop} {H : Hp} {es : List Le} {v : V} {Q : VK} (hf : Fr N H) (h1 : DA N H (.list (es.map leD)) v) (k : ∀ p H', Ex H H' → DA N H' (.list ((es.take 12).map leD)) (.ref p) → Q (.ref p) H') : rSlL K v none (some 12) H Q := by
  obtain ⟨a, xs, rfl, _, ha, hx⟩ := h1.lst
  refine ⟨a, xs, rfl, sq_of ha, fun p hp => k p _ (Ex.new hp) ?_⟩
  have e : cutV xs none (some 12) = xs.take 12 := by
    unfold cutV HT.sIx
    simp
  rw [e]
  simp only [DA]
  refine ⟨p, _, rfl, hf p hp, upd_same, ?_⟩
  rw [List.map_take]
  exact das_take 12 _ _ (hx.ex (Ex.new hp))
theorem c_deed {K : PySem.W.Frag} {H0 H : Hp} {b : Addr} {rs : List (Int × Option Int)} {r lg : V} {O : OA} {S : PA} {st : PSt} {row : Nat → List (Int × Int)} {es : List Le} {n : Int} {m : Nat} {Q : VK} {E : XK} {tr : TA} {σ : L2.St} {edge : Int} (ha : EvA tr σ H [.ref b, .ref O.o, .int edge]) (w : Wd K H0 H b rs r lg O S st row es n m) (hn : n < 1000000) (h0 : 0 ≤ edge) (h1 : edge < 1000000) (kk : ∀ d L H', OkD d → DdB edge st.clock d → Fm (OB b) H H' → BoxAt H' b (n + 5) → H' L = some (.tup (dV d)) → Q (.ref L) H') : tCall spDeed [] E tr σ H Q :=
  ha H (Ex.refl H) _ fun H1 e1 => show spDeed ([.ref b, .ref O.o, .int edge] ++ []) H1 Q E from ⟨b, O.o, edge, n, st.clock, .ref O.ol, rfl, w.box.ex e1, by omega, h0, h1, w.plain.clock, (w.own.ex e1).o, fun d v H' ok bd hf hb hd => by
    obtain ⟨L, rfl, hL⟩ := dD_tup hd
    exact kk d L H' ok bd ((Fm.of e1).trans hf) hb hL⟩
theorem Wd.led' {K : PySem.W.Frag} {H0 H : Hp} {b : Addr} {rs : List (Int × Option Int)} {r lg lg' : V} {O : OA} {S : PA} {st : PSt} {row : Nat → List (Int × Int)} {es es' : List Le} {n : Int} {m : Nat} (w : Wd K H0 H b rs r lg O S st row es n m) (h : DA (NN H0 O) H (.list (es'.map leD)) lg') (hl : es'.length ≤ 12) (hi : ∀ e ∈ es', LeIn row e ∧ e.low + e.unit ≤ edgeOf rs 0 st.clock) : Wd K H0 H b rs r lg' O S st row es' n m := { w with led := h, el := hl, ei := hi }
theorem q_forRT {E : XK} {j : Nat} {tb tz : TS} {D : Ends} {σ : L2.St} {H : Hp} {b : Addr} {n c many : Int} (h0 : σ[0]? = some (some (V.ref b))) (hb : BoxAt H b n) (hn : n < 1048576) (hc : 0 ≤ c ∧ c < 1000) (h1 : 1 ≤ many) (h2 : many < 1000)
    (kk : ∀ d H1, 0 ≤ d → d < many → Fm (OB b) H H1 → BoxAt H1 b (n + 1) → ∃ Pv : Nat → L2.St → Hp → Prop, Pv 0 σ H1 ∧ (∀ (i : Nat) σ' H', (i : Int) < c + d → Pv i σ' H' → tb { D with nx := Pv (i + 1), ct := Pv (i + 1), bk := tz D } (σ'.set j (some (.int (i : Int)))) H') ∧ ∀ σ' H', Pv (c + d).toNat σ' H' → tz D σ' H') :
    tSeq (tFor (iRng1 (tCons (tOp (rI0 fun i j => .int (i + j)) (tC (.int c)) (tCall spTk [] E (tCons (tVar 0) (tCons (tC (.int many)) tNil)))) tNil)) (gName j) tb) tz D σ H := by
  refine c_tk (ea_cons (ev_var h0) (ea_cons ev_c ea_nil)) hb hn h1 (by omega) fun d H1 d0 d1 hf hb' => ⟨_, _, rfl, rfl, c + d, rfl, by omega, by omega, ?_⟩
  obtain ⟨Pv, p0, ps, pd⟩ := kk d H1 d0 d1 hf hb'
  exact for_range (D := { D with nx := tz D }) (lo := 0) (n := (c + d).toNat) Pv p0 (fun i σ' H' hi p => by
    have e0 : (0 : Int) + (i : Int) = (i : Int) := Int.zero_add _
    show tb { D with nx := Pv (i + 1), ct := Pv (i + 1), bk := tz D } (σ'.set j (some (.int ((0 : Int) + (i : Int))))) H'
    rw [e0]
    exact ps i σ' H' (by omega) p) pd
def spRight (K : PySem.W.Frag) : Sp := fun vs H Q _ => ∃ b : Addr, vs = [.ref b] ∧ BoxAt H b 0 ∧ ∀ H', Fm (OB b) H H' → Q (.bl true) H'

section
variable {P : Program} {w : World} {K : PySem.W.Frag} {mg : Str → Option Value} {base : Heap}
theorem sc_law_right : FnScope ["_law_box_here", "_law_rules_here", "_law_turn", "_law_plain", "_law_own", "_law_ledger", "_law_deed_here"] ["_law_box_here"] (defScope s__law_right) := ⟨rfl, rfl, rfl, by decide +kernel, rfl, by decide +kernel, by decide +kernel⟩
theorem c_law_right (T : Fx K mg) : CalG P w K mg base 12 "_law_right" (spRight K) :=
  calg_of T.d__law_right.ex T.d__law_right.mgf sc_law_right (fun _ _ _ _ h => by obtain ⟨_, rfl, _⟩ := h; rfl) (fun _ _ _ _ _ _ us hl => match us, hl with | [_], _ => rfl) fun fd F => fn_ofG F sc_law_right (fun _ _ _ _ h => by obtain ⟨_, rfl, _⟩ := h; rfl) fun cdv A outer s H vs Q hgd hr h => by
    have c_Plain := c_Plain (P := P) (w := w) (base := base) T
    have c_Rules := c_Rules (P := P) (w := w) (base := base) T
    have c_law_deed := c_law_deed (P := P) (w := w) (base := base) T
    have c_law_due := c_law_due (P := P) (w := w) (base := base) T
    have c_law_edge := c_law_edge (P := P) (w := w) (base := base) T
    have c_law_ledger_right := c_law_ledger_right (P := P) (w := w) (base := base) T
    have c_law_old := c_law_old (P := P) (w := w) (base := base) T
    have c_law_parts_right := c_law_parts_right (P := P) (w := w) (base := base) T
    have c_law_rules := c_law_rules (P := P) (w := w) (base := base) T
    have c_law_take := c_law_take (P := P) (w := w) (base := base) T
    have c_law_told := c_law_told (P := P) (w := w) (base := base) T
    refine ⟨_, (pss_cons (ps_set (i := 1) sc_law_right.nd rfl (Or.inl rfl) (pe_c c_law_rules hr (by decide) (by rfl) (pa_cons (pv 0) pa_nil)))
      (pss_cons (ps_par3 (i := 3) (j := 4) (l := 5) (by rfl) sc_law_right.nd rfl rfl rfl (by decide) (by decide) (by decide) rfl rfl rfl (pa_cons (pe_mk c_Plain hr (by decide) (by rfl) (pa_cons (pe_mk c_Rules hr (by decide) (by rfl) (pa_cons (pv 1) pa_nil)) pa_nil)) (pa_cons (pe_lst (pa_cons (pe_lst (pa_cons pe_dnewK (pa_cons pe_dnewK pa_nil))) (pa_cons pe_int pa_nil))) (pa_cons (pe_lst pa_nil) pa_nil))) (by rfl))
      (pss_cons (ps_for PassesOwn.never rfl (pi_range1 (by rfl) T.n_range (pa_cons (pe_op op_add pe_int (pe_c c_law_take hr (by decide) (by rfl) (pa_cons (pv 0) (pa_cons pe_int pa_nil)))) pa_nil)) (pg_name (i := 2) sc_law_right.nd rfl (Or.inl rfl)) (pss_cons (ps_set (i := 6) sc_law_right.nd rfl (Or.inl rfl) (pe_tup (pa_cons pe_str (pa_cons (pe_c c_law_take hr (by decide) (by rfl) (pa_cons (pv 0) (pa_cons pe_int pa_nil))) (pa_cons (pe_c c_law_take hr (by decide) (by rfl) (pa_cons (pv 0) (pa_cons pe_int pa_nil))) (pa_cons (pe_ix (ix_listK K rfl) (pe_lst (pa_cons pe_int (pa_cons pe_int (pa_cons pe_int (pa_cons (pe_un un_neg pe_int) (pa_cons (pe_op op_pow pe_int pe_int) (pa_cons pe_int pa_nil))))))) (pe_c c_law_take hr (by decide) (by rfl) (pa_cons (pv 0) (pa_cons pe_int pa_nil))) (fun _ _ => rfl)) pa_nil))))))
      (pss_one (ps_if (pt_cmpR op_ne (pe_callB (call_repr hgd (hu64 hr)) (by rfl) T.n_repr b_repr (pa_cons (pe_c c_law_told hr (by decide) (by rfl) (pa_cons (pv 0) (pa_cons (pv 3) (pa_cons (pv 6) pa_nil)))) pa_nil)) (pe_callB (call_repr hgd (hu64 hr)) (by rfl) T.n_repr b_repr (pa_cons (pe_c c_law_due hr (by decide) (by rfl) (pa_cons (pv 1) (pa_cons (pv 4) (pa_cons (pv 6) pa_nil)))) pa_nil)) (nomark _)) (pss_one (ps_ret pe_bl)) pss_nil))))
      (pss_cons (ps_for PassesOwn.never rfl (pi_range1 (by rfl) T.n_range (pa_cons (pe_op op_add pe_int (pe_c c_law_take hr (by decide) (by rfl) (pa_cons (pv 0) (pa_cons pe_int pa_nil)))) pa_nil)) (pg_name (i := 2) sc_law_right.nd rfl (Or.inl rfl)) (pss_cons (ps_set (i := 6) sc_law_right.nd rfl (Or.inl rfl) (pe_c c_law_deed hr (by decide) (by rfl) (pa_cons (pv 0) (pa_cons (pv 4) (pa_cons (pe_c c_law_edge hr (by decide) (by rfl) (pa_cons (pv 1) (pa_cons pe_int (pa_cons (pe_ix (ix_listK K rfl) (pv 4) pe_int (fun _ _ => rfl)) pa_nil)))) pa_nil)))))
      (pss_cons (ps_if (pt_cmpR op_ne (pe_callB (call_repr hgd (hu64 hr)) (by rfl) T.n_repr b_repr (pa_cons (pe_c c_law_told hr (by decide) (by rfl) (pa_cons (pv 0) (pa_cons (pv 3) (pa_cons (pv 6) pa_nil)))) pa_nil)) (pe_callB (call_repr hgd (hu64 hr)) (by rfl) T.n_repr b_repr (pa_cons (pe_c c_law_due hr (by decide) (by rfl) (pa_cons (pv 1) (pa_cons (pv 4) (pa_cons (pv 6) pa_nil)))) pa_nil)) (nomark _)) (pss_one (ps_ret pe_bl)) pss_nil)
      (pss_cons (ps_if (pt_not (pt_val (pe_cG c_law_ledger_right hgd hr (by decide) (by rfl) (pa_cons (pv 0) (pa_cons (pv 3) (pa_cons (pv 1) (pa_cons (pv 4) (pa_cons (pv 5) (pa_cons (pe_op op_mod (pv 2) pe_int) pa_nil))))))))) (pss_one (ps_ret pe_bl)) pss_nil)
      (pss_cons (ps_set (i := 5) sc_law_right.nd rfl (Or.inl rfl) (pe_slice sl_list (pe_op op_cat (pe_op op_cat (pv 5) (pe_c c_law_old hr (by decide) (by rfl) (pa_cons (pv 0) (pa_cons (pv 1) (pa_cons (pv 4) pa_nil))))) (pe_c c_law_old hr (by decide) (by rfl) (pa_cons (pv 0) (pa_cons (pv 1) (pa_cons (pv 4) pa_nil))))) po_none (po_some pe_int)))
      (pss_one (ps_if (PW.pt (pw_and (pt_cmpR op_eq (pe_op op_mod (pv 2) pe_int) pe_int (nomark _)) (pw_and1 (pt_not (pt_val (pe_cG c_law_parts_right hgd hr (by decide) (by rfl) (pa_cons (pv 0) (pa_cons (pv 3) (pa_cons (pv 1) (pa_cons (pv 4) pa_nil)))))))))) (pss_one (ps_ret pe_bl)) pss_nil)))))))
      (pss_one (ps_ret (pe_and (pe_cG c_law_ledger_right hgd hr (by decide) (by rfl) (pa_cons (pv 0) (pa_cons (pv 3) (pa_cons (pv 1) (pa_cons (pv 4) (pa_cons (pv 5) (pa_cons pe_int pa_nil))))))) (pe_one (pe_cG c_law_ledger_right hgd hr (by decide) (by rfl) (pa_cons (pv 0) (pa_cons (pv 3) (pa_cons (pv 1) (pa_cons (pv 4) (pa_cons (pv 5) (pa_cons pe_int pa_nil))))))))))))))), ?_⟩
    obtain ⟨b, rfl, hb, q⟩ := h
    refine ⟨_, rfl, b, 0, rfl, hb, by omega, fun i v H1 hi hf1 hb1 hd1 => ?_⟩
    refine ⟨_, rfl, fun x dx hx hdx hne => ⟨x, dx, v, menu i, rfl, upd_same, (hd1.to fun _ _ => True.intro).ex (Ex.mut (Ex.new hdx) hx), menu_ok i, fun H3 hfr3 hru => ⟨rfl, ?_⟩⟩⟩
    have e13 : Ex H1 H3 := fun a o ha => hfr3 a o (fun c => by rw [c, hx] at ha; cases ha) (Ex.mut (Ex.new hdx) hx a o ha)
    refine fun y dy hy hdy hne2 => ⟨y, dy, x, menu i, rfl, upd_same, hru.ex (Ex.mut (Ex.new hdy) hy), fun S H5 hfr5 hSP hkn hrw hpl => ⟨rfl, ?_⟩⟩
    have eY : Ex H3 (upd (upd H3 dy (.own y)) y (.ins (He.ga K "Plain") dy [])) := Ex.mut (Ex.new hdy) hy
    have hb1' : BoxAt H1 b 1 := hb1
    have e35 : Ex H3 H5 := fun a o ha => hfr5 a o (fun c => by rw [c, hy] at ha; cases ha) (eY a o ha)
    have e15 := e13.trans e35
    have hpl0 : PlainAt K H5 S ⟨menu i, 0, 0, [], fun _ => []⟩ := hpl
    refine fun d0 hd0 => fun d1 hd1n => ⟨sz_of (Nat.le_of_ble_eq_true rfl), fun ol hol => ⟨sz_of (Nat.le_of_ble_eq_true rfl), fun o ho => ⟨sz_of (Nat.le_of_ble_eq_true rfl), fun lg hlg => ⟨_, _, _, rfl, ?_⟩⟩⟩⟩
    have e56 := Ex.new hd0 (o := .dK [])
    have e67 := Ex.new hd1n (o := .dK [])
    have e78 := Ex.new hol (o := .lst [.ref d0, .ref d1])
    have e89 := Ex.new ho (o := .lst [.ref ol, .int 0])
    have e9A := Ex.new hlg (o := .lst [])
    have q0 : upd H5 d0 (.dK []) d0 = some (.dK []) := upd_same
    have q1 : upd (upd H5 d0 (.dK [])) d1 (.dK []) d1 = some (.dK []) := upd_same
    have q2 : upd (upd (upd H5 d0 (.dK [])) d1 (.dK [])) ol (.lst [.ref d0, .ref d1]) ol = some (.lst [.ref d0, .ref d1]) := upd_same
    have q3 : upd (upd (upd (upd H5 d0 (.dK [])) d1 (.dK [])) ol (.lst [.ref d0, .ref d1])) o (.lst [.ref ol, .int 0]) o = some (.lst [.ref ol, .int 0]) := upd_same
    have q4 : upd (upd (upd (upd (upd H5 d0 (.dK [])) d1 (.dK [])) ol (.lst [.ref d0, .ref d1])) o (.lst [.ref ol, .int 0])) lg (.lst []) lg = some (.lst []) := upd_same
    have n5d1 : H5 d1 = none := fresh_back e56 hd1n
    have n5ol : H5 ol = none := fresh_back (e56.trans e67) hol
    have n5o : H5 o = none := fresh_back ((e56.trans e67).trans e78) ho
    have n5lg : H5 lg = none := fresh_back (((e56.trans e67).trans e78).trans e89) hlg
    have hne01 : d0 ≠ d1 := fun e => by
      rw [← e, q0] at hd1n
      cases hd1n
    have eA := (((e56.trans e67).trans e78).trans e89).trans e9A
    have fo := e9A _ _ q3
    have fol := (e89.trans e9A) _ _ q2
    have fd1 := ((e78.trans e89).trans e9A) _ _ q1
    have fd0 := (((e67.trans e78).trans e89).trans e9A) _ _ q0
    have no5 : ∀ a, (a = o ∨ a = ol ∨ a = d0 ∨ a = d1) → H5 a = none := fun a m => by
      rcases m with rfl | rfl | rfl | rfl
      · exact n5o
      · exact n5ol
      · exact hd0
      · exact n5d1
    have noH : ∀ a, H5 a = none → H a = none := fun a ha => ob_none hf1 hb1' a (fresh_back e15 ha)
    clear q0 q1 q2 e56 e67 e78 e89 e9A q3 hd1n hol ho hlg
    dsimp only
    generalize upd (upd (upd (upd (upd H5 d0 (.dK [])) d1 (.dK [])) ol (.lst [.ref d0, .ref d1])) o (.lst [.ref ol, .int 0])) lg (.lst []) = HA at fo fol fd0 fd1 q4 eA ⊢
    have e1A := e15.trans eA
    have sH : ∀ a, S.mem [] a → H a = none := fun a m => by
      have h3 : ∀ c, upd (upd H3 dy (.own y)) y (.ins (He.ga K "Plain") dy []) c = none → H c = none := fun c hc => ob_none hf1 hb1' c (fresh_back (e13.trans eY) hc)
      rcases m with e | e | e | ⟨k, hk, _⟩
      · rw [e, hSP]
        exact ob_none hf1 hb1' y (fresh_back e13 hy)
      · rw [e]
        exact h3 _ hkn
      · rw [e]
        exact h3 _ hrw
      · cases hk
    have w0 : Wd K H HA b (menu i) v (.ref lg) ⟨o, ol, d0, d1⟩ S ⟨menu i, 0, 0, [], fun _ => []⟩ (fun _ => []) [] 1 0 := by
      refine ⟨hb1'.ex e1A, hb.some, hf1.trans (Fm.of e1A), hpl0.ex eA, rfl, ?_, ⟨fo, fol, fun k hk => ?_, hne01⟩, fun _ => rfl, fun k => ⟨List.nodup_nil, fun p hp => (by cases hp), Nat.le_refl _⟩, (by show (0 : Int) ≤ 17 * ((0 : Nat) : Int); decide), fun a ma ms => ?_, sH, fun a ma => noH a (no5 a ma), ?_, by decide, fun e he => by cases he⟩
      · have n1o : H1 o = none := fresh_back e15 n5o
        have n1ol : H1 ol = none := fresh_back e15 n5ol
        exact DA.imp (fun a xs n z => ⟨⟨n, fun e => (by have e' : a = o := e; rw [e', n1o] at z; cases z), fun e => (by have e' : a = ol := e; rw [e', n1ol] at z; cases z)⟩, e1A _ _ z⟩) (fun a xs z => e1A _ _ z) _ _ hd1
      · match k, hk with
        | 0, _ => exact fd0
        | 1, _ => exact fd1
      · have h5 := no5 a ma
        rcases hpl0.at ms with ⟨_, _, _, _, _, e⟩ | ⟨_, e⟩ <;> (rw [h5] at e; cases e)
      · have hlgo : lg ≠ o := fun e => by
          rw [e, fo] at q4
          simp at q4
        have hlgol : lg ≠ ol := fun e => by
          rw [e, fol] at q4
          simp at q4
        simp only [List.map_nil, DA, DAs]
        exact ⟨lg, [], rfl, ⟨noH _ n5lg, hlgo, hlgol⟩, q4, rfl⟩
    have tk : ∀ {σ : L2.St} {H1 : Hp} {m : Int} {Q : VK} {many : Int} {E : XK}, σ[0]? = some (some (V.ref b)) → BoxAt H1 b m → m < 1048576 → 1 ≤ many → many < 1000000 → (∀ d H', 0 ≤ d → d < many → Fm (OB b) H1 H' → BoxAt H' b (m + 1) → Q (.int d) H') → tCall spTk [] E (tCons (tVar 0) (tCons (tC (.int many)) tNil)) σ H1 Q := fun h1 h2 h3 h4 h5 h6 => c_tk (ea_cons (ev_var h1) (ea_cons ev_c ea_nil)) h2 h3 h4 h5 h6
    refine q_forRT (D := { nx := _, rt := Q }) rfl w0.box (by decide) (by decide) (by decide) (by decide) fun t1 HB t0 t1' hfB hbB => ⟨fun j σ' H' => ∃ S' st row, S'.P = S.P ∧ Wd K H H' b (menu i) v (.ref lg) ⟨o, ol, d0, d1⟩ S' st row [] (2 + 10 * j) j ∧ ∃ w2 w6, σ' = [some (.ref b), some v, w2, some (.ref S.P), some (.ref o), some (.ref lg), w6], ⟨S, _, _, rfl, (w0.ob hfB hbB).le (by omega), _, _, by rw [← hSP]; rfl⟩, fun j σ' H' hj hinv => ?_, fun σ' H' hinv => ?_⟩
    · obtain ⟨S', st, row, hP', w, w2, w6, rfl⟩ := hinv
      have hj9 : (j : Int) < 10 := by omega
      refine tk rfl w.box (by omega) (by decide) (by decide) fun k H2 k0 k1 hf2 hb2 => tk rfl hb2 (by omega) (by decide) (by decide) fun tt H3 t0' t1'' hf3 hb3 => c_pick (ns := [0, 2, 7, -3, 100000000000, 5]) ?_ (ea_cons (ev_var rfl) (ea_cons ev_c ea_nil)) hb3 (by omega) (by decide) (by decide) fun x H4 hx hf4 hb4 => ⟨sz_of (Nat.le_of_ble_eq_true rfl), fun p hp => ?_⟩
      · apply ed_is
        case h => exact ed_lst fr_self (eds_cons (ed_int ev_c) (eds_cons (ed_int ev_c) (eds_cons (ed_int ev_c) (eds_cons (ed_int (ev_un ev_c ru_neg)) (eds_cons (ed_int (ev_op ev_c ev_c (rv_I ⟨by decide, by decide, by decide⟩))) (eds_cons (ed_int ev_c) eds_nil)))))) (by simp)
        case e => rfl
      have hk : ((k.toNat : Nat) : Int) = k := Int.toNat_of_nonneg k0
      have hk2 : k.toNat < 2 := by omega
      have hx2 : x.natAbs ≤ 100000000000 := by
        simp at hx
        omega
      have w4 := (w.ob ((hf2.trans hf3).trans hf4) hb4).ex (Ex.new (o := .tup [.str "put", .int k, .int tt, .int x]) hp)
      refine c_both (L := p) (d := .put k.toNat tt x) (K := K) w4 (by omega) (by omega) (by rw [show dV (.put k.toNat tt x) = [.str "put", .int k, .int tt, .int x] by simp only [dV, hk]]; exact upd_same) ⟨hk2, t0'⟩ ⟨by omega, hx2⟩ rfl rfl (by rw [← hP']; rfl) rfl rfl fun H5 S2 st2 row2 hP2 w5 => ?_
      exact ⟨S2, st2, row2, hP2.trans hP', w5.le (by omega), _, _, rfl⟩
    · obtain ⟨S1, st1, row1, hP1, w1, u2, u6, rfl⟩ := hinv
      refine q_forRT (D := { nx := _, rt := Q }) rfl w1.box (by omega) (by decide) (by decide) (by decide) fun t2 HC t0b t1b hfC hbC => ⟨fun j σ' H' => ∃ S' st row es lgv, S'.P = S.P ∧ Wd K H H' b (menu i) v lgv ⟨o, ol, d0, d1⟩ S' st row es (200 + 60 * j) (10 + j) ∧ ∃ w2 w6, σ' = [some (.ref b), some v, w2, some (.ref S.P), some (.ref o), some lgv, w6], ⟨S1, st1, row1, [], _, hP1, ?_, _, _, rfl⟩, fun j σ' H' hj hinv => ?_, fun σ' H' hinv => ?_⟩
      · have := (w1.ob hfC hbC).le (n' := 200 + 60 * ((0 : Nat) : Int)) (by omega)
        exact this.lm (by omega)
      · obtain ⟨S', st, row, es, lgv, hP', w, w2, w6, rfl⟩ := hinv
        have hj18 : (j : Int) < 18 := by omega
        have hcl := w.clock
        have hed := edge_le w.okr 0 w.plain.clock (w.okr.keep w.okr.l1)
        rw [← hP']
        refine c_deed (ea_cons (ev_var rfl) (ea_cons (ev_var rfl) (ea_cons (ev_callVD (N := NN H ⟨o, ol, d0, d1⟩) (ds := [.list ((menu i).map rd), .int ((0 : Nat) : Int), .int st.clock]) (eds_cons (ed_var rfl w.rules) (eds_cons (ed_int ev_c) (eds_cons (ed_int (ev_ixL (ev_var rfl) ev_c w.own.o rfl)) eds_nil))) rfl fun vs H3 e3 hvs => ⟨_, menu i, 0, st.clock, hvs, w.okr, w.okr.l1, rfl⟩) ea_nil))) w (by omega) hed.1 (by omega) fun d L H4 ok bd hf4 hb4 hL => ?_
        have w4 := w.ob hf4 hb4
        refine c_both (L := L) (d := d) (K := K) w4 (by omega) (by omega) hL ok ?_ rfl rfl rfl rfl rfl fun H5 S2 st2 row2 hP2 w5 => ?_
        · cases d with
          | put k u x =>
            have q := bd.1
            have q2 := bd.2
            exact ⟨by omega, q2⟩
          | take k lo hi =>
            have q := bd.1
            show lo < _
            omega
          | clk c =>
            show c ≤ _
            have q : c ≤ st.clock + 17 := bd
            exact q
        rw [← hP2]
        refine c_led (ea_cons (ev_var rfl) (ea_cons (ev_var rfl) (ea_cons (ev_var rfl) (ea_cons (ev_var rfl) (ea_cons (ev_var rfl) (ea_cons (x := .int ((j : Int) % 2)) (ev_op (ev_var rfl) ev_c (rv_I (by decide))) ea_nil)))))) w5 (by omega) (by omega) fun H6 hf6 hb6 => ⟨true, rfl, ?_⟩
        have w6' := w5.ob hf6 hb6
        refine ⟨_, rfl, c_old (S := S2) (m := 10 + j + 1) (ea_cons (ev_var rfl) (ea_cons (ev_var rfl) (ea_cons (ev_var rfl) ea_nil))) w6' (by omega) (by omega) fun es2 v2 H7 l2 ok2 hf7 hb7 hd2 => ?_⟩
        have w7 := w6'.ob hf7 hb7
        have lE := w.el
        refine cat_da w7.fr w7.led hd2 (by omega) fun p H8 e8 hd8 => ?_
        have w8 := w7.ex e8
        refine c_old (ea_cons (ev_var rfl) (ea_cons (ev_var rfl) (ea_cons (ev_var rfl) ea_nil))) w8 (by omega) (by omega) fun es3 v3 H9 l3 ok3 hf9 hb9 hd3 => ?_
        have w9 := w8.ob hf9 hb9
        refine cat_da w9.fr (da_ob hd8 hf9 w8.nb w8.box) hd3 (by rw [List.length_append]; omega) fun p2 H10 e10 hd10 => ?_
        have w10 := w9.ex e10
        refine ⟨_, rfl, cut_da w10.fr hd10 fun p3 H11 e11 hd11 => ?_⟩
        have w11 : Wd K H H11 b (menu i) v (.ref p3) ⟨o, ol, d0, d1⟩ S2 st2 row2 ((es ++ es2 ++ es3).take 12) _ _ := (w10.ex e11).led' hd11 (by rw [List.length_take]; omega) fun e he => by
          have he := List.mem_of_mem_take he
          rw [List.mem_append, List.mem_append] at he
          rcases he with (he | he) | he
          · exact w10.ei e he
          · exact ok2 e he
          · exact ok3 e he
        refine et_test (ev_op (ev_op (ev_var rfl) ev_c (rv_I (by decide))) ev_c rv_eqI) H11 (Ex.refl H11) _ fun H12 e12 => ?_
        have w12 := w11.ex e12
        by_cases c : decide ((j : Int) % 3 = 2) = true
        · rw [if_pos c]
          refine c_parts (ea_cons (ev_var rfl) (ea_cons (ev_var rfl) (ea_cons (ev_var rfl) (ea_cons (ev_var rfl) ea_nil)))) w12 (by omega) (by omega) fun H13 hf13 hb13 => ⟨true, rfl, ?_⟩
          exact ⟨S2, st2, row2, _, _, rfl, ((w12.ob hf13 hb13).le (by omega)).lm (by omega), _, _, rfl⟩
        · rw [if_neg c]
          exact ⟨S2, st2, row2, _, _, rfl, (w12.le (by omega)).lm (by omega), _, _, rfl⟩
      · obtain ⟨S', st, row, es, lgv, hP', w, w2, w6, rfl⟩ := hinv
        have h18 : ((12 + t2).toNat : Int) < 18 := by omega
        rw [← hP']
        refine c_led (ea_cons (ev_var rfl) (ea_cons (ev_var rfl) (ea_cons (ev_var rfl) (ea_cons (ev_var rfl) (ea_cons (ev_var rfl) (ea_cons ev_c ea_nil)))))) w (by omega) (by omega) fun H2 hf2 hb2 => ⟨_, rfl, ?_⟩
        rw [if_pos rfl]
        have w2' := w.ob hf2 hb2
        refine c_led (ea_cons (ev_var rfl) (ea_cons (ev_var rfl) (ea_cons (ev_var rfl) (ea_cons (ev_var rfl) (ea_cons (ev_var rfl) (ea_cons ev_c ea_nil)))))) w2' (by omega) (by omega) fun H3 hf3 hb3 => ?_
        exact q _ (w2'.ob hf3 hb3).fm
end
end Eg
end

section
set_option Elab.async false
set_option linter.all false
set_option maxRecDepth 100000
set_option maxHeartbeats 4000000
set_option linter.constructorNameAsVariable false
namespace Eg
open PySem PySem.Spec PyProof.Rows L2 Evl C8


def spLaw (K : PySem.W.Frag) : Sp := fun vs H Q _ => ∃ (a : Addr) (ns : List Int), vs = [.ref a] ∧ SqL K H a (ns.map V.int) ∧ ns.length < 1048576 ∧ ∀ H', Q (.bl true) H'
theorem sql_fm {K : PySem.W.Frag} {H H1 H2 : Hp} {a b : Addr} {xs : List V} (h : SqL K H a xs) (hb : H b = none) (e : Ex H H1) (hf : Fm (OB b) H1 H2) : SqL K H2 a xs := by
  rcases h with h | h
  · left
    rcases h with h | ⟨o, h⟩
    · exact .inl (hf _ _ (fun c => by have c' : a = b := c; rw [c', hb] at h; cases h) (e _ _ h))
    · exact .inr ⟨o, hf _ _ (fun c => by have c' : a = b := c; rw [c', hb] at h; cases h) (e _ _ h)⟩
  · exact .inr h
theorem q_for1 {tr : TA} {j : Nat} {tb tz : TS} {D : Ends} {σ : L2.St} {H : Hp} {n : Int} (h : EvA tr σ H [.int n]) (h0 : 0 ≤ n) (hn : n < 1000)
    (kk : ∀ H1, Ex H H1 → ∃ Pv : Nat → L2.St → Hp → Prop, Pv 0 σ H1 ∧ (∀ (i : Nat) σ' H', (i : Int) < n → Pv i σ' H' → tb { D with nx := Pv (i + 1), ct := Pv (i + 1), bk := tz D } (σ'.set j (some (.int (i : Int)))) H') ∧ ∀ σ' H', Pv n.toNat σ' H' → tz D σ' H') :
    tSeq (tFor (iRng1 tr) (gName j) tb) tz D σ H := by
  refine h H (Ex.refl H) _ fun H1 e1 => ⟨n, rfl, by omega, by omega, ?_⟩
  obtain ⟨Pv, p0, ps, pd⟩ := kk H1 e1
  exact for_range (D := { D with nx := tz D }) (lo := 0) (n := n.toNat) Pv p0 (fun i σ' H' hi p => by
    have e0 : (0 : Int) + (i : Int) = (i : Int) := Int.zero_add _
    show tb { D with nx := Pv (i + 1), ct := Pv (i + 1), bk := tz D } (σ'.set j (some (.int ((0 : Int) + (i : Int))))) H'
    rw [e0]
    exact ps i σ' H' (by omega) p) pd

section
variable {P : Program} {w : World} {K : PySem.W.Frag} {mg : Str → Option Value} {base : Heap}
theorem sc_law : FnScope ["_law_script", "_law_k"] ["_law_script"] (defScope s_law) := ⟨rfl, rfl, rfl, by decide +kernel, rfl, by decide +kernel, by decide +kernel⟩
theorem f_law (T : Fx K mg) {fd : FuncData} (F : FunD K "law" "law" (defArgs s_law) (defBody s_law) (defScope s_law) [] [] (He.ga K "law") fd) : FnG P w K mg base 13 (He.ga K "law") fd ["_law_script"] (spLaw K) :=
  fn_ofG F sc_law (fun _ _ _ _ h => by obtain ⟨_, _, rfl, _⟩ := h; rfl) fun cdv A outer s H vs Q hgd hr h => by
    have c_law_box := c_law_box (P := P) (w := w) (base := base) T
    have c_law_cell := c_law_cell (P := P) (w := w) (base := base) T
    have c_law_right := c_law_right (P := P) (w := w) (base := base) T
    refine ⟨_, (pss_one (ps_try_thru0 (pss_cons (ps_for PassesOwn.never rfl (pi_range1 (by rfl) T.n_range (pa_cons (pe_callB (call_max2 rfl) (by rfl) T.n_max b_max (pa_cons pe_int (pa_cons (pe_callB (call_min2 rfl) (by rfl) T.n_min b_min (pa_cons pe_int (pa_cons (pe_callB (call_len_seqK K rfl) (by rfl) T.n_len b_len (pa_cons (pv 0) pa_nil)) pa_nil))) pa_nil))) pa_nil)) (pg_name (i := 1) sc_law.nd rfl (Or.inl rfl)) (pss_one (ps_if (pt_not (pt_val (pe_cG c_law_right hgd hr (by decide) (by rfl) (pa_cons (pe_c c_law_box hr (by decide) (by rfl) (pa_cons (pe_c c_law_cell hr (by decide) (by rfl) (pa_cons (pv 0) (pa_cons (pv 1) pa_nil))) pa_nil)) pa_nil)))) (pss_one (ps_ret pe_bl)) pss_nil)))
      (pss_one (ps_ret pe_bl))))), ?_⟩
    obtain ⟨a, ns, rfl, ha, hl, q⟩ := h
    have bd : ∀ m : Int, 0 ≤ (if (if m < 3 then m else 3) > 2 then (if m < 3 then m else 3) else (2 : Int)) ∧ (if (if m < 3 then m else 3) > 2 then (if m < 3 then m else 3) else (2 : Int)) < 1000 := fun m => by
      split <;> (try split) <;> omega
    refine q_for1 (D := { nx := _, rt := Q }) (ea_cons (ev_cb (ea_cons ev_c (ea_cons (ev_cb (ea_cons ev_c (ea_cons (ev_cb (ea_cons (ev_var rfl) ea_nil) (rc_len (.inl ha))) ea_nil)) rc_min2) ea_nil)) rc_max2) ea_nil) (bd _).1 (bd _).2 fun H1 e1 => ⟨fun _ σ' H' => (∃ w, σ' = [some (.ref a), w]) ∧ SqL K H' a (ns.map V.int), ⟨⟨_, rfl⟩, ex_l e1 ha⟩, fun j σ' H2 hj hinv => ?_, fun σ' H2 _ => q H2⟩
    obtain ⟨⟨w', rfl⟩, ha2⟩ := hinv
    refine (ev_callV (z := .int (cellOf ns j)) (σ := [some (.ref a), some (.int (j : Int))]) (ea_cons (ev_var (i := 0) rfl) (ea_cons (ev_var (i := 1) rfl) ea_nil)) rfl fun H3 e3 => ⟨a, ns, j, rfl, ex_l e3 ha2, rfl⟩) H2 (Ex.refl H2) _ fun H3 e3 => ?_
    refine ⟨cellOf ns j, rfl, fun b H4 hb e4 hbox => ?_⟩
    refine ⟨b, rfl, hbox, fun H5 hf5 => ⟨true, rfl, ?_⟩⟩
    exact ⟨⟨_, rfl⟩, sql_fm (ex_l e3 ha2) hb e4 hf5⟩
theorem law_fd (T : Fx K mg) : ∃ (fd : FuncData) (ps : List Str), Binds K fd ps [] ∧ ps.length = 1 ∧ mg ("law" : Str) = some (.ref (He.ga K "law")) ∧ ∀ base : Heap, FnG P w K mg base 13 (He.ga K "law") fd ps (spLaw K) := by
  obtain ⟨fd, F⟩ := T.d_law.ex
  exact ⟨fd, ["_law_script"], F.bindsN (fun _ _ _ _ _ _ us hl => match us, hl with | [_], _ => rfl), rfl, T.d_law.mgf, fun base => f_law T F⟩
end
end Eg
end

section
set_option Elab.async false
set_option linter.all false
set_option maxRecDepth 100000
set_option maxHeartbeats 4000000
/-! the head: one run, the facts by names -/
namespace Eg
open PySem PySem.Spec PyProof.Rows L2
def names0 : List PySem.Str := ["_wall", "__name__", "GrainError", "InvalidName", "InvalidTags", "InvalidSeries", "InvalidPoints", "InvalidRows", "InvalidRules", "InvalidWindow", "InvalidWindows", "InvalidDeed", "InvalidTime", "NoGrain", "Gone", "ClockBack", "LETTERS", "SIGNS", "MOST_SIGNS", "is_list", "is_integer", "is_value", "is_count", "is_file_name", "is_word", "is_name", "MOST_TAGS", "NAME", "pairs_of", "are_pairs"]
def names1 : List PySem.Str := ["Series", "check_series", "is_put", "is_take", "is_clock", "is_deed", "check_deed", "check_let", "is_point", "is_points", "fold_of", "fold", "MOST_GRAINS", "is_row", "may_follow", "are_rules", "check_time", "check_window", "check_window_grains", "Rules", "MOST_WINDOWS", "check_window_windows", "check_windows", "check_stands", "check_told", "Plain", "_law_cell", "_law_box", "_law_take", "_law_mixed"]
def names2 : List PySem.Str := ["_law_made", "_law_rules", "_law_edge", "_law_gone", "_law_fold", "_law_joined", "_law_deed", "_law_due", "_law_told", "_law_folds_told", "_law_old", "_law_ledger_right", "_law_parts_right", "_law_right"]
def names : List PySem.Str := names0 ++ names1 ++ names2
/-! a list laid out before it is handed on -/
def layA {b : Type} : List Addr -> (List Addr -> b) -> b
  | [], k => k []
  | a :: r, k => HandSHeadRun.frNat a fun a => layA r fun r => k (a :: r)
theorem layA_eq {b : Type} : ∀ (l : List Addr) (k : List Addr → b), layA l k = k l
  | [], k => rfl
  | a :: r, k => by
    show HandSHeadRun.frNat a (fun a => layA r fun r => k (a :: r)) = _
    rw [HandSHeadRun.frNat_eq, layA_eq r]
def layK {b : Type} : PySem.W.Frag -> (PySem.W.Frag -> b) -> b
  | [], k => k []
  | (a, o) :: r, k => layK r fun r => k ((a, o) :: r)
theorem layK_eq {b : Type} : ∀ (l : PySem.W.Frag) (k : PySem.W.Frag → b), layK l k = k l
  | [], k => rfl
  | (a, o) :: r, k => by
    show layK r (fun r => k ((a, o) :: r)) = _
    rw [layK_eq r]
/-! which objects are looked at: the names' values, the classes' own dicts and what these hold, codes and defaults -/
def dictRefs (o : Option Obj) : List Addr := match o with
  | some ⟨_, _, .dict es _, _⟩ => es.toList.flatMap fun e => He.refV e.val
  | _ => []
def nsRef (o : Option Obj) : List Addr := match o with
  | some ⟨_, _, .cls cd, _⟩ => [cd.ns]
  | _ => []
def fnRefs (o : Option Obj) : List Addr := match o with
  | some ⟨_, _, .func fd, _⟩ => He.refV fd.code ++ He.refV fd.defaults
  | _ => []
def seqRefs (o : Option Obj) : List Addr := match o with
  | some ⟨_, _, .seq its _, _⟩ => its.toList.flatMap He.refV
  | _ => []
def asE {b : Type} (g : Addr → Option Obj) (k : List Addr → b) : b :=
  layA (dictRefs (g mainGlobals)) fun t =>
  layA (t.flatMap fun a => nsRef (g a)) fun ns =>
  layA (ns.flatMap fun a => dictRefs (g a)) fun ms =>
  layA ((t ++ ms).flatMap fun a => fnRefs (g a)) fun cs =>
  layA (cs.flatMap fun a => seqRefs (g a)) fun ds =>
  layA (mainGlobals :: PySem.cStatics :: t ++ ns ++ ms ++ cs ++ ds) k
def asL (g : Addr → Option Obj) : List Addr := asE g fun l => l
theorem asE_is {b : Type} (g : Addr → Option Obj) (k : List Addr → b) : asE g k = k (asL g) := by
  unfold asL asE
  simp only [layA_eq]
/-! the Hook -/
abbrev Al : Type := Bool × List He.FnW
def obsK (fb : List (PySem.W.Frag → Bool)) (fn : List He.DefD) (K : PySem.W.Frag) : Al := ((fb.all fun f => f K) && fn.all fun d => d.ok K, fn.map fun d => He.fnW K d.at_)
def Says (fb : List (PySem.W.Frag → Bool)) (fn : List He.DefD) (K : PySem.W.Frag) : Prop := obsK fb fn K = He.valD fn
def obsG (fb : List (PySem.W.Frag → Bool)) (fn : List He.DefD) (g : Addr → Option Obj) : Al := asE g fun as => layK (He.frG g as) (obsK fb fn)
def hook (fb : List (PySem.W.Frag → Bool)) (fn : List He.DefD) : PySem.W.Hook where
  α := Al
  obs := fun s => obsG fb fn s.heap.get?
  val := fun _ => He.valD fn
  says := fun _ h => ∃ K : PySem.W.Frag, K.In h ∧ Says fb fn K
  of := fun w s e => by
    have e2 : obsG fb fn s.heap.get? = He.valD fn := e
    unfold obsG at e2
    rw [asE_is, layK_eq] at e2
    exact ⟨_, He.frG_in, e2⟩
  keeps := fun _ _ _ ⟨K, hK, c⟩ k => ⟨K, PySem.W.Frag.In.keeps hK k, c⟩
theorem obs_eq {fb : List (PySem.W.Frag → Bool)} {fn : List He.DefD} {g : Addr → Option Obj} {s : Shared} (h : ∀ a, g a = s.heap.get? a) : obsG fb fn g = (hook fb fn).obs s := by
  have e : g = s.heap.get? := funext h
  subst e
  rfl
section
variable {fb : List (PySem.W.Frag → Bool)} {fn : List He.DefD} {K : PySem.W.Frag}
theorem Says.fact (c : Says fb fn K) (i : Nat) {f : PySem.W.Frag → Bool} (h : fb[i]? = some f := by rfl) : f K = true := by
  have c1 := (Bool.and_eq_true_iff.mp (show ((fb.all fun f => f K) && fn.all fun d => d.ok K) = true from congrArg (fun z : Al => z.1) c)).1
  exact List.all_eq_true.mp c1 f (List.mem_of_getElem? h)
theorem Says.defn (c : Says fb fn K) (i : Nat) {d : He.DefD} (h : fn[i]? = some d := by rfl) : ∃ fd, FunD K d.name d.qual d.params d.body d.scope (d.dvs K) (d.kws K) (He.fAd K d.at_) fd := by
  have c2 := (Bool.and_eq_true_iff.mp (show ((fb.all fun f => f K) && fn.all fun d => d.ok K) = true from congrArg (fun z : Al => z.1) c)).2
  have e : fn.map (fun d => He.fnW K d.at_) = fn.map He.DefD.val := congrArg (fun z : Al => z.2) c
  have e2 := congrArg (fun l : List He.FnW => l[i]?) e
  simp only [List.getElem?_map, h, Option.map_some] at e2
  exact He.DefD.funD (Option.some.inj e2) (List.all_eq_true.mp c2 d (List.mem_of_getElem? h))
end

abbrev TheRow : PySem.W.OpenRow := PySem.W.OpenLaw.row PySem.Challenge.rw_everygrain_k25_whole_old_windows_stay
def fns0 : List He.DefD := [
  ⟨("is_list", none), "is_list", "is_list", defArgs s_is_list, defBody s_is_list, defScope s_is_list, [], []⟩,
  ⟨("is_integer", none), "is_integer", "is_integer", defArgs s_is_integer, defBody s_is_integer, defScope s_is_integer, [], []⟩,
  ⟨("is_value", none), "is_value", "is_value", defArgs s_is_value, defBody s_is_value, defScope s_is_value, [], []⟩,
  ⟨("is_count", none), "is_count", "is_count", defArgs s_is_count, defBody s_is_count, defScope s_is_count, [], []⟩,
  ⟨("is_file_name", none), "is_file_name", "is_file_name", defArgs s_is_file_name, defBody s_is_file_name, defScope s_is_file_name, [], []⟩,
  ⟨("is_word", none), "is_word", "is_word", defArgs s_is_word, defBody s_is_word, defScope s_is_word, [], []⟩,
  ⟨("is_name", none), "is_name", "is_name", defArgs s_is_name, defBody s_is_name, defScope s_is_name, [], []⟩,
  ⟨("pairs_of", none), "pairs_of", "pairs_of", defArgs s_pairs_of, defBody s_pairs_of, defScope s_pairs_of, [], []⟩,
  ⟨("are_pairs", none), "are_pairs", "are_pairs", defArgs s_are_pairs, defBody s_are_pairs, defScope s_are_pairs, [], []⟩,
  ⟨("check_series", none), "check_series", "check_series", defArgs s_check_series, defBody s_check_series, defScope s_check_series, [], []⟩,
  ⟨("is_put", none), "is_put", "is_put", defArgs s_is_put, defBody s_is_put, defScope s_is_put, [], []⟩,
  ⟨("is_take", none), "is_take", "is_take", defArgs s_is_take, defBody s_is_take, defScope s_is_take, [], []⟩,
  ⟨("is_clock", none), "is_clock", "is_clock", defArgs s_is_clock, defBody s_is_clock, defScope s_is_clock, [], []⟩,
  ⟨("is_deed", none), "is_deed", "is_deed", defArgs s_is_deed, defBody s_is_deed, defScope s_is_deed, [], []⟩,
  ⟨("check_deed", none), "check_deed", "check_deed", defArgs s_check_deed, defBody s_check_deed, defScope s_check_deed, [], []⟩,
  ⟨("check_let", none), "check_let", "check_let", defArgs s_check_let, defBody s_check_let, defScope s_check_let, [], []⟩,
  ⟨("is_point", none), "is_point", "is_point", defArgs s_is_point, defBody s_is_point, defScope s_is_point, [], []⟩,
  ⟨("is_points", none), "is_points", "is_points", defArgs s_is_points, defBody s_is_points, defScope s_is_points, [], []⟩,
  ⟨("fold_of", none), "fold_of", "fold_of", defArgs s_fold_of, defBody s_fold_of, defScope s_fold_of, [], []⟩,
  ⟨("fold", none), "fold", "fold", defArgs s_fold, defBody s_fold, defScope s_fold, [], []⟩]
def fns1 : List He.DefD := [
  ⟨("is_row", none), "is_row", "is_row", defArgs s_is_row, defBody s_is_row, defScope s_is_row, [], []⟩,
  ⟨("may_follow", none), "may_follow", "may_follow", defArgs s_may_follow, defBody s_may_follow, defScope s_may_follow, [], []⟩,
  ⟨("are_rules", none), "are_rules", "are_rules", defArgs s_are_rules, defBody s_are_rules, defScope s_are_rules, [], []⟩,
  ⟨("check_time", none), "check_time", "check_time", defArgs s_check_time, defBody s_check_time, defScope s_check_time, [], []⟩,
  ⟨("check_windows", none), "check_windows", "check_windows", defArgs s_check_windows, defBody s_check_windows, defScope s_check_windows, [], []⟩,
  ⟨("check_told", none), "check_told", "check_told", defArgs s_check_told, defBody s_check_told, defScope s_check_told, [], []⟩,
  ⟨("_law_cell", none), "_law_cell", "_law_cell", defArgs s__law_cell, defBody s__law_cell, defScope s__law_cell, [], []⟩,
  ⟨("_law_box", none), "_law_box", "_law_box", defArgs s__law_box, defBody s__law_box, defScope s__law_box, [], []⟩,
  ⟨("_law_take", none), "_law_take", "_law_take", defArgs s__law_take, defBody s__law_take, defScope s__law_take, [], []⟩,
  ⟨("_law_made", none), "_law_made", "_law_made", defArgs s__law_made, defBody s__law_made, defScope s__law_made, [], []⟩,
  ⟨("_law_rules", none), "_law_rules", "_law_rules", defArgs s__law_rules, defBody s__law_rules, defScope s__law_rules, [], []⟩,
  ⟨("_law_edge", none), "_law_edge", "_law_edge", defArgs s__law_edge, defBody s__law_edge, defScope s__law_edge, [], []⟩,
  ⟨("_law_gone", none), "_law_gone", "_law_gone", defArgs s__law_gone, defBody s__law_gone, defScope s__law_gone, [], []⟩,
  ⟨("_law_fold", none), "_law_fold", "_law_fold", defArgs s__law_fold, defBody s__law_fold, defScope s__law_fold, [], []⟩,
  ⟨("_law_joined", none), "_law_joined", "_law_joined", defArgs s__law_joined, defBody s__law_joined, defScope s__law_joined, [], []⟩,
  ⟨("_law_deed", none), "_law_deed", "_law_deed", defArgs s__law_deed, defBody s__law_deed, defScope s__law_deed, [], []⟩,
  ⟨("_law_due", none), "_law_due", "_law_due", defArgs s__law_due, defBody s__law_due, defScope s__law_due, [], []⟩,
  ⟨("_law_told", none), "_law_told", "_law_told", defArgs s__law_told, defBody s__law_told, defScope s__law_told, [], []⟩,
  ⟨("_law_folds_told", none), "_law_folds_told", "_law_folds_told", defArgs s__law_folds_told, defBody s__law_folds_told, defScope s__law_folds_told, [], []⟩,
  ⟨("_law_old", none), "_law_old", "_law_old", defArgs s__law_old, defBody s__law_old, defScope s__law_old, [], []⟩]
def fns2 : List He.DefD := [
  ⟨("_law_ledger_right", none), "_law_ledger_right", "_law_ledger_right", defArgs s__law_ledger_right, defBody s__law_ledger_right, defScope s__law_ledger_right, [], []⟩,
  ⟨("_law_parts_right", none), "_law_parts_right", "_law_parts_right", defArgs s__law_parts_right, defBody s__law_parts_right, defScope s__law_parts_right, [], []⟩,
  ⟨("_law_right", none), "_law_right", "_law_right", defArgs s__law_right, defBody s__law_right, defScope s__law_right, [], []⟩,
  ⟨("law", none), "law", "law", defArgs s_law, defBody s_law, defScope s_law, [], []⟩,
  ⟨("check_window_grains", none), "check_window", "check_window", defArgs s_check_window_grains, defBody s_check_window_grains, defScope s_check_window_grains, [], []⟩,
  ⟨("Rules", some "check_grain"), "check_grain", "Rules.check_grain", defArgs s_Rules_check_grain, defBody s_Rules_check_grain, defScope s_Rules_check_grain, [], []⟩,
  ⟨("Rules", some "keep"), "keep", "Rules.keep", defArgs s_Rules_keep, defBody s_Rules_keep, defScope s_Rules_keep, [], []⟩,
  ⟨("Rules", some "step"), "step", "Rules.step", defArgs s_Rules_step, defBody s_Rules_step, defScope s_Rules_step, [], []⟩,
  ⟨("Rules", some "edge"), "edge", "Rules.edge", defArgs s_Rules_edge, defBody s_Rules_edge, defScope s_Rules_edge, [], []⟩,
  ⟨("Rules", some "stands"), "stands", "Rules.stands", defArgs s_Rules_stands, defBody s_Rules_stands, defScope s_Rules_stands, [], []⟩,
  ⟨("Rules", some "fitting"), "fitting", "Rules.fitting", defArgs s_Rules_fitting, defBody s_Rules_fitting, defScope s_Rules_fitting, [], []⟩,
  ⟨("Rules", some "teller"), "teller", "Rules.teller", defArgs s_Rules_teller, defBody s_Rules_teller, defScope s_Rules_teller, [], []⟩,
  ⟨("Plain", some "do"), "do", "Plain.do", defArgs s_Plain_do, defBody s_Plain_do, defScope s_Plain_do, [], []⟩,
  ⟨("Plain", some "_put"), "_put", "Plain._put", defArgs s_Plain__put, defBody s_Plain__put, defScope s_Plain__put, [], []⟩,
  ⟨("Plain", some "_take"), "_take", "Plain._take", defArgs s_Plain__take, defBody s_Plain__take, defScope s_Plain__take, [], []⟩,
  ⟨("Plain", some "_between"), "_between", "Plain._between", defArgs s_Plain__between, defBody s_Plain__between, defScope s_Plain__between, [], []⟩,
  ⟨("Plain", some "folds"), "folds", "Plain.folds", defArgs s_Plain_folds, defBody s_Plain_folds, defScope s_Plain_folds, [], []⟩,
  ⟨("Series", some "text"), "text", "Series.text", defArgs s_Series_text, defBody s_Series_text, defScope s_Series_text, [], []⟩,
  ⟨("Series", some "__init__"), "__init__", "Series.__init__", defArgs s_Series_init, defBody s_Series_init, defScope s_Series_init, [.adr (He.dflAt ("Series", some "__init__") 0)], []⟩,
  ⟨("Rules", some "__init__"), "__init__", "Rules.__init__", defArgs s_Rules_init, defBody s_Rules_init, defScope s_Rules_init, [], []⟩]
def fns3 : List He.DefD := [
  ⟨("Plain", some "__init__"), "__init__", "Plain.__init__", defArgs s_Plain_init, defBody s_Plain_init, defScope s_Plain_init, [], []⟩,
  ⟨("Gone", some "__init__"), "__init__", "Gone.__init__", defArgs s_Gone_init, defBody s_Gone_init, defScope s_Gone_init, [], []⟩,
  ⟨("ClockBack", some "__init__"), "__init__", "ClockBack.__init__", defArgs s_ClockBack_init, defBody s_ClockBack_init, defScope s_ClockBack_init, [], []⟩]
def fns : List He.DefD := fns0 ++ fns1 ++ fns2 ++ fns3
def fbs0 : List (PySem.W.Frag → Bool) := [
  (He.Fa.glo "is_list").ok,
  (He.Fa.glo "is_integer").ok,
  (He.Fa.glo "is_value").ok,
  (He.Fa.glo "is_count").ok,
  (He.Fa.glo "is_file_name").ok,
  (He.Fa.glo "is_word").ok,
  (He.Fa.glo "is_name").ok,
  (He.Fa.glo "pairs_of").ok,
  (He.Fa.glo "are_pairs").ok,
  (He.Fa.glo "check_series").ok,
  (He.Fa.glo "is_put").ok,
  (He.Fa.glo "is_take").ok,
  (He.Fa.glo "is_clock").ok,
  (He.Fa.glo "is_deed").ok,
  (He.Fa.glo "check_deed").ok,
  (He.Fa.glo "check_let").ok,
  (He.Fa.glo "is_point").ok,
  (He.Fa.glo "is_points").ok,
  (He.Fa.glo "fold_of").ok,
  (He.Fa.glo "fold").ok]
def fbs1 : List (PySem.W.Frag → Bool) := [
  (He.Fa.glo "is_row").ok,
  (He.Fa.glo "may_follow").ok,
  (He.Fa.glo "are_rules").ok,
  (He.Fa.glo "check_time").ok,
  (He.Fa.glo "check_windows").ok,
  (He.Fa.glo "check_told").ok,
  (He.Fa.glo "_law_cell").ok,
  (He.Fa.glo "_law_box").ok,
  (He.Fa.glo "_law_take").ok,
  (He.Fa.glo "_law_made").ok,
  (He.Fa.glo "_law_rules").ok,
  (He.Fa.glo "_law_edge").ok,
  (He.Fa.glo "_law_gone").ok,
  (He.Fa.glo "_law_fold").ok,
  (He.Fa.glo "_law_joined").ok,
  (He.Fa.glo "_law_deed").ok,
  (He.Fa.glo "_law_due").ok,
  (He.Fa.glo "_law_told").ok,
  (He.Fa.glo "_law_folds_told").ok,
  (He.Fa.glo "_law_old").ok]
def fbs2 : List (PySem.W.Frag → Bool) := [
  (He.Fa.glo "_law_ledger_right").ok,
  (He.Fa.glo "_law_parts_right").ok,
  (He.Fa.glo "_law_right").ok,
  (He.Fa.glo "law").ok,
  (He.Fa.glo "check_window_grains").ok,
  (He.Fa.meth "Rules" "check_grain").ok,
  (He.Fa.meth "Rules" "keep").ok,
  (He.Fa.meth "Rules" "step").ok,
  (He.Fa.meth "Rules" "edge").ok,
  (He.Fa.meth "Rules" "stands").ok,
  (He.Fa.meth "Rules" "fitting").ok,
  (He.Fa.meth "Rules" "teller").ok,
  (He.Fa.meth "Plain" "do").ok,
  (He.Fa.meth "Plain" "_put").ok,
  (He.Fa.meth "Plain" "_take").ok,
  (He.Fa.meth "Plain" "_between").ok,
  (He.Fa.meth "Plain" "folds").ok,
  (He.Fa.meth "Series" "text").ok,
  (He.Fa.cls "Series").ok,
  (He.Fa.mkr "Series").ok]
def fbs3 : List (PySem.W.Frag → Bool) := [
  (He.Fa.cls "Rules").ok,
  (He.Fa.mkr "Rules").ok,
  (He.Fa.cls "Plain").ok,
  (He.Fa.mkr "Plain").ok,
  insB "Series",
  insB "Rules",
  (He.Fa.glo "Series").ok,
  (He.Fa.glo "Rules").ok,
  (He.Fa.glo "Plain").ok,
  (He.Fa.glo "Gone").ok,
  (He.Fa.glo "ClockBack").ok,
  (He.Fa.glo "GrainError").ok,
  (He.Fa.noat "Rules" "rows").ok,
  (He.Fa.noat "Series" "name").ok,
  (He.Fa.noat "Series" "tags").ok,
  (He.Fa.noat "Plain" "_rules").ok,
  (He.Fa.noat "Plain" "_clock").ok,
  (He.Fa.noat "Plain" "_done").ok,
  (He.Fa.noat "Plain" "_known").ok,
  (He.Fa.noat "Plain" "_rows").ok]
def fbs4 : List (PySem.W.Frag → Bool) := [
  (He.Fa.noat "Gone" "time").ok,
  (He.Fa.noat "Gone" "grain").ok,
  (He.Fa.noat "ClockBack" "now").ok,
  fun K => exCB K (He.ga K "Gone"),
  fun K => L2.xfB K (He.ga K "Gone"),
  exiB "Gone",
  fun K => exCB K (He.ga K "ClockBack"),
  fun K => L2.xfB K (He.ga K "ClockBack"),
  exiB "ClockBack",
  (He.Fa.exm "Gone" "Gone" true).ok,
  (He.Fa.exm "ClockBack" "Gone" false).ok,
  (He.Fa.exm "ClockBack" "ClockBack" true).ok,
  grB,
  (He.Fa.free "isinstance").ok,
  (He.Fa.free "len").ok,
  (He.Fa.free "all").ok,
  (He.Fa.free "sorted").ok,
  (He.Fa.free "tuple").ok,
  (He.Fa.free "list").ok,
  (He.Fa.free "dict").ok]
def fbs5 : List (PySem.W.Frag → Bool) := [
  (He.Fa.free "int").ok,
  (He.Fa.free "bool").ok,
  (He.Fa.free "str").ok,
  (He.Fa.free "enumerate").ok,
  (He.Fa.free "range").ok,
  (He.Fa.free "min").ok,
  (He.Fa.free "max").ok,
  (He.Fa.free "sum").ok,
  (He.Fa.free "abs").ok,
  (He.Fa.free "repr").ok,
  (He.Fa.int "MOST_SIGNS" 24).ok,
  (He.Fa.int "MOST_TAGS" 6).ok,
  (He.Fa.int "MOST_GRAINS" 4).ok,
  (He.Fa.int "MOST_WINDOWS" 400).ok,
  (He.Fa.str "LETTERS" "abcdefghijklmnopqrstuvwxyz").ok,
  (He.Fa.str "SIGNS" "abcdefghijklmnopqrstuvwxyz0123456789-").ok,
  (He.Fa.str "NAME" "name").ok]
def fbs : List (PySem.W.Frag → Bool) := fbs0 ++ fbs1 ++ fbs2 ++ fbs3 ++ fbs4 ++ fbs5
def ob (s : PySem.W.SharedT) : Al := obsG fbs fns (HandSHeadRun.getT s)
theorem ob_eq (s : PySem.W.SharedT) : ob s = (hook fbs fns).obs s.abs := obs_eq (HandSHeadRun.getT_eq s)
set_option maxHeartbeats 0 in
theorem run (w : World) : HandSHeadRun.RunEq TheRow (PySem.W.view TheRow.prog [83]) (hook fbs fns) ob 20000 names w := by
  intro os
  kernel_rfl
theorem fx_of {K : PySem.W.Frag} {h : Heap} {mg : Str → Option Value} (X : K.In h) (G : h.Ns mainGlobals mg) (c : Says fbs fns K) : Fx K mg where
  d_is_list := ⟨c.defn 0 rfl, He.glo_ok X G (c.fact 0 rfl)⟩
  d_is_integer := ⟨c.defn 1 rfl, He.glo_ok X G (c.fact 1 rfl)⟩
  d_is_value := ⟨c.defn 2 rfl, He.glo_ok X G (c.fact 2 rfl)⟩
  d_is_count := ⟨c.defn 3 rfl, He.glo_ok X G (c.fact 3 rfl)⟩
  d_is_file_name := ⟨c.defn 4 rfl, He.glo_ok X G (c.fact 4 rfl)⟩
  d_is_word := ⟨c.defn 5 rfl, He.glo_ok X G (c.fact 5 rfl)⟩
  d_is_name := ⟨c.defn 6 rfl, He.glo_ok X G (c.fact 6 rfl)⟩
  d_pairs_of := ⟨c.defn 7 rfl, He.glo_ok X G (c.fact 7 rfl)⟩
  d_are_pairs := ⟨c.defn 8 rfl, He.glo_ok X G (c.fact 8 rfl)⟩
  d_check_series := ⟨c.defn 9 rfl, He.glo_ok X G (c.fact 9 rfl)⟩
  d_is_put := ⟨c.defn 10 rfl, He.glo_ok X G (c.fact 10 rfl)⟩
  d_is_take := ⟨c.defn 11 rfl, He.glo_ok X G (c.fact 11 rfl)⟩
  d_is_clock := ⟨c.defn 12 rfl, He.glo_ok X G (c.fact 12 rfl)⟩
  d_is_deed := ⟨c.defn 13 rfl, He.glo_ok X G (c.fact 13 rfl)⟩
  d_check_deed := ⟨c.defn 14 rfl, He.glo_ok X G (c.fact 14 rfl)⟩
  d_check_let := ⟨c.defn 15 rfl, He.glo_ok X G (c.fact 15 rfl)⟩
  d_is_point := ⟨c.defn 16 rfl, He.glo_ok X G (c.fact 16 rfl)⟩
  d_is_points := ⟨c.defn 17 rfl, He.glo_ok X G (c.fact 17 rfl)⟩
  d_fold_of := ⟨c.defn 18 rfl, He.glo_ok X G (c.fact 18 rfl)⟩
  d_fold := ⟨c.defn 19 rfl, He.glo_ok X G (c.fact 19 rfl)⟩
  d_is_row := ⟨c.defn 20 rfl, He.glo_ok X G (c.fact 20 rfl)⟩
  d_may_follow := ⟨c.defn 21 rfl, He.glo_ok X G (c.fact 21 rfl)⟩
  d_are_rules := ⟨c.defn 22 rfl, He.glo_ok X G (c.fact 22 rfl)⟩
  d_check_time := ⟨c.defn 23 rfl, He.glo_ok X G (c.fact 23 rfl)⟩
  d_check_windows := ⟨c.defn 24 rfl, He.glo_ok X G (c.fact 24 rfl)⟩
  d_check_told := ⟨c.defn 25 rfl, He.glo_ok X G (c.fact 25 rfl)⟩
  d__law_cell := ⟨c.defn 26 rfl, He.glo_ok X G (c.fact 26 rfl)⟩
  d__law_box := ⟨c.defn 27 rfl, He.glo_ok X G (c.fact 27 rfl)⟩
  d__law_take := ⟨c.defn 28 rfl, He.glo_ok X G (c.fact 28 rfl)⟩
  d__law_made := ⟨c.defn 29 rfl, He.glo_ok X G (c.fact 29 rfl)⟩
  d__law_rules := ⟨c.defn 30 rfl, He.glo_ok X G (c.fact 30 rfl)⟩
  d__law_edge := ⟨c.defn 31 rfl, He.glo_ok X G (c.fact 31 rfl)⟩
  d__law_gone := ⟨c.defn 32 rfl, He.glo_ok X G (c.fact 32 rfl)⟩
  d__law_fold := ⟨c.defn 33 rfl, He.glo_ok X G (c.fact 33 rfl)⟩
  d__law_joined := ⟨c.defn 34 rfl, He.glo_ok X G (c.fact 34 rfl)⟩
  d__law_deed := ⟨c.defn 35 rfl, He.glo_ok X G (c.fact 35 rfl)⟩
  d__law_due := ⟨c.defn 36 rfl, He.glo_ok X G (c.fact 36 rfl)⟩
  d__law_told := ⟨c.defn 37 rfl, He.glo_ok X G (c.fact 37 rfl)⟩
  d__law_folds_told := ⟨c.defn 38 rfl, He.glo_ok X G (c.fact 38 rfl)⟩
  d__law_old := ⟨c.defn 39 rfl, He.glo_ok X G (c.fact 39 rfl)⟩
  d__law_ledger_right := ⟨c.defn 40 rfl, He.glo_ok X G (c.fact 40 rfl)⟩
  d__law_parts_right := ⟨c.defn 41 rfl, He.glo_ok X G (c.fact 41 rfl)⟩
  d__law_right := ⟨c.defn 42 rfl, He.glo_ok X G (c.fact 42 rfl)⟩
  d_law := ⟨c.defn 43 rfl, He.glo_ok X G (c.fact 43 rfl)⟩
  d_check_window_grains := ⟨c.defn 44 rfl, He.glo_ok X G (c.fact 44 rfl)⟩
  m_Rules_check_grain := ⟨c.defn 45 rfl, He.meth_ok (c.fact 45 rfl)⟩
  m_Rules_keep := ⟨c.defn 46 rfl, He.meth_ok (c.fact 46 rfl)⟩
  m_Rules_step := ⟨c.defn 47 rfl, He.meth_ok (c.fact 47 rfl)⟩
  m_Rules_edge := ⟨c.defn 48 rfl, He.meth_ok (c.fact 48 rfl)⟩
  m_Rules_stands := ⟨c.defn 49 rfl, He.meth_ok (c.fact 49 rfl)⟩
  m_Rules_fitting := ⟨c.defn 50 rfl, He.meth_ok (c.fact 50 rfl)⟩
  m_Rules_teller := ⟨c.defn 51 rfl, He.meth_ok (c.fact 51 rfl)⟩
  m_Plain_do := ⟨c.defn 52 rfl, He.meth_ok (c.fact 52 rfl)⟩
  m_Plain__put := ⟨c.defn 53 rfl, He.meth_ok (c.fact 53 rfl)⟩
  m_Plain__take := ⟨c.defn 54 rfl, He.meth_ok (c.fact 54 rfl)⟩
  m_Plain__between := ⟨c.defn 55 rfl, He.meth_ok (c.fact 55 rfl)⟩
  m_Plain_folds := ⟨c.defn 56 rfl, He.meth_ok (c.fact 56 rfl)⟩
  m_Series_text := ⟨c.defn 57 rfl, He.meth_ok (c.fact 57 rfl)⟩
  i_Series := c.defn 58 rfl
  i_Rules := c.defn 59 rfl
  i_Plain := c.defn 60 rfl
  i_Gone := c.defn 61 rfl
  i_ClockBack := c.defn 62 rfl
  c_Series := He.cls_ok (c.fact 58 rfl)
  k_Series := He.mkr_ok (c.fact 59 rfl)
  c_Rules := He.cls_ok (c.fact 60 rfl)
  k_Rules := He.mkr_ok (c.fact 61 rfl)
  c_Plain := He.cls_ok (c.fact 62 rfl)
  k_Plain := He.mkr_ok (c.fact 63 rfl)
  o_Series := ins_of (He.cls_ok (c.fact 58 rfl)) (c.fact 64 rfl)
  o_Rules := ins_of (He.cls_ok (c.fact 60 rfl)) (c.fact 65 rfl)
  g_Series := He.glo_ok X G (c.fact 66 rfl)
  g_Rules := He.glo_ok X G (c.fact 67 rfl)
  g_Plain := He.glo_ok X G (c.fact 68 rfl)
  g_Gone := He.glo_ok X G (c.fact 69 rfl)
  g_ClockBack := He.glo_ok X G (c.fact 70 rfl)
  g_GrainError := He.glo_ok X G (c.fact 71 rfl)
  a_Rules_rows := He.noat_ok (c.fact 72 rfl)
  a_Series_name := He.noat_ok (c.fact 73 rfl)
  a_Series_tags := He.noat_ok (c.fact 74 rfl)
  a_Plain_rules := He.noat_ok (c.fact 75 rfl)
  a_Plain_clock := He.noat_ok (c.fact 76 rfl)
  a_Plain_done := He.noat_ok (c.fact 77 rfl)
  a_Plain_known := He.noat_ok (c.fact 78 rfl)
  a_Plain_rows := He.noat_ok (c.fact 79 rfl)
  a_Gone_time := He.noat_ok (c.fact 80 rfl)
  a_Gone_grain := He.noat_ok (c.fact 81 rfl)
  a_ClockBack_now := He.noat_ok (c.fact 82 rfl)
  e_Gone := exC_of (c.fact 83 rfl)
  x_Gone := L2.xfB_ok (c.fact 84 rfl)
  f_Gone := exi_of (c.fact 85 rfl)
  e_ClockBack := exC_of (c.fact 86 rfl)
  x_ClockBack := L2.xfB_ok (c.fact 87 rfl)
  f_ClockBack := exi_of (c.fact 88 rfl)
  t_Gone_Gone := He.exm_ok (c.fact 89 rfl)
  t_ClockBack_Gone := He.exm_ok (c.fact 90 rfl)
  t_ClockBack_ClockBack := He.exm_ok (c.fact 91 rfl)
  grain := gr_of (c.fact 92 rfl)
  n_isinstance := He.free_ok X G (c.fact 93 rfl)
  n_len := He.free_ok X G (c.fact 94 rfl)
  n_all := He.free_ok X G (c.fact 95 rfl)
  n_sorted := He.free_ok X G (c.fact 96 rfl)
  n_tuple := He.free_ok X G (c.fact 97 rfl)
  n_list := He.free_ok X G (c.fact 98 rfl)
  n_dict := He.free_ok X G (c.fact 99 rfl)
  n_int := He.free_ok X G (c.fact 100 rfl)
  n_bool := He.free_ok X G (c.fact 101 rfl)
  n_str := He.free_ok X G (c.fact 102 rfl)
  n_enumerate := He.free_ok X G (c.fact 103 rfl)
  n_range := He.free_ok X G (c.fact 104 rfl)
  n_min := He.free_ok X G (c.fact 105 rfl)
  n_max := He.free_ok X G (c.fact 106 rfl)
  n_sum := He.free_ok X G (c.fact 107 rfl)
  n_abs := He.free_ok X G (c.fact 108 rfl)
  n_repr := He.free_ok X G (c.fact 109 rfl)
  v_MOST_SIGNS := He.int_ok X G (c.fact 110 rfl)
  v_MOST_TAGS := He.int_ok X G (c.fact 111 rfl)
  v_MOST_GRAINS := He.int_ok X G (c.fact 112 rfl)
  v_MOST_WINDOWS := He.int_ok X G (c.fact 113 rfl)
  v_LETTERS := He.str_ok X G (c.fact 114 rfl)
  v_SIGNS := He.str_ok X G (c.fact 115 rfl)
  v_NAME := He.str_ok X G (c.fact 116 rfl)
end Eg
end

section
set_option Elab.async false
set_option linter.all false
set_option maxRecDepth 100000
set_option maxHeartbeats 4000000
/-! the law's call at the heap behind the top, where no cell is guarded -/
namespace Eg
open PySem PySem.Spec PyProof.Rows L2
section
variable {P : Program} {w : World} {K : PySem.W.Frag} {mg mb : Str → Option Value} {k : Nat} {fa a : Addr} {fd : FuncData} {ps : List Str} {sp : Sp} {s₁ : Shared} {vs : List Value} {ns : List Int}
/-- where the abstract heap holds at most the script -/
structure Alone (P : Program) (w : World) (K : PySem.W.Frag) (H : Hp) (s₁ : Shared) (a : Addr) (xs : List V) (o : Obj) : Prop where
  ok : HOk P w H s₁.heap
  sq : SqL K H a xs
  at_ : ∀ b, H b = none ∨ (b = a ∧ K.lookup a = none ∧ H b = some (.frz o (.lst xs)))
theorem call_alone {H : Hp} {its : Array Value} (KX : K.In s₁.heap) (hns : s₁.heap.Ns mainGlobals mg) (hb : s₁.heap.Ns builtinsNs mb) (hbb : ∀ x : Str, x ≠ "__name__" → mb x = bootBuiltins x) (hlim : s₁.heap.NoLimit) (hg : s₁.gens = #[])
    (ha : s₁.heap.get? a = some { cls := .type "list", data := .seq its }) (hA : Alone P w K H s₁ a (ns.map V.int) { cls := .type "list", data := .seq its }) (hr : Room k callerA)
    (F : ∀ base : Heap, K.In base → base.Ns mainGlobals mg → FnG P w K mg base k fa fd ps sp) (hbind : BindsTo s₁ fd ⟨[.ref a], []⟩ (ps.zip [.ref a]))
    (hsp : sp [.ref a] H (fun v _ => v = .bl true) E0) :
    codeAny (model P w) callerA (.call (.ref fa) ⟨[.ref a], []⟩) (fun r s' => r = .ok (.ret (.bool true)) ∧ OldK s₁.heap s'.heap ∧ s'.os = s₁.os ∧ AllBare s'.gens) s₁ := by
  have notA : ∀ {b : Addr} {o : Obj}, s₁.heap.get? b = some o → (b = a → K.lookup a = none → o = { cls := .type "list", data := .seq its } → False) → H b = none := fun {b o} e n => by
    rcases hA.at_ b with h | ⟨rfl, h2, h3⟩
    · exact h
    · rw [ha] at e
      exact (n rfl h2 (Option.some.inj e).symm).elim
  have keep : ∀ {b : Addr} {m : Str → Option Value}, s₁.heap.Ns b m → (hidT s₁.heap H).Ns b m := fun {b m} ⟨o, es, ep, e, d, r⟩ =>
    ⟨o, es, ep, hidT_get e (notA e fun _ _ eo => by rw [eo] at d; cases d), d, r⟩
  have hKb : K.In (hidT s₁.heap H) := fun b o e => hidT_get (KX b o e) (notA (KX b o e) fun e1 e2 _ => by
    subst e1
    rw [e2] at e
    cases e)
  have hM : Mod K mg (hidT s₁.heap H) := ⟨hKb, keep hns, ⟨mb, keep hb, hbb⟩, let ⟨mc, h1, h2⟩ := hlim; ⟨mc, keep h1, h2⟩⟩
  have e0 : Env0 P w K mg (hidT s₁.heap H) callerA [] s₁ H := ⟨rfl, hM, fun b o e => of_hidT e, Nat.le_of_eq (hidT_size _ _), trivial, fun b hb => absurd (show b ∈ ([] : List Addr) from hb) (by simp), hA.ok, .of_eq hg⟩
  refine codeAny_mono ((F _ hKb (keep hns)).run callerA [] s₁ H ⟨[.ref a], []⟩ [.ref a] [.ref a] _ rfl hr e0 hbind (.cons rfl .nil) hsp) fun r s' h => ?_
  match r, h with
  | .error e, h => exact (show False from h).elim
  | .ok .next, h => exact (show False from h).elim
  | .ok .brk, h => exact (show False from h).elim
  | .ok .cont, h => exact (show False from h).elim
  | .ok (.ret u), h =>
    obtain ⟨v, H', os, bare, un, hok', r', q⟩ := h
    have q' : v = .bl true := q
    subst q'
    obtain rfl : u = Value.bool true := r'
    refine ⟨rfl, OldK.of_keep fun b o e => ?_, os, bare⟩
    rcases hA.at_ b with z | ⟨_, _, z⟩
    · exact un.keep b o e z (by intro z; exact absurd (show b ∈ ([] : List Addr) from z) (by simp)) (by simp)
    · obtain ⟨e1, _⟩ := hA.ok b _ z
      obtain ⟨e2, _⟩ := hok' b _ (un.frzs b _ _ z)
      rw [e] at e1
      cases e1
      exact e2
theorem law_callG {vs : List Value} (KX : K.In s₁.heap) (hns : s₁.heap.Ns mainGlobals mg) (hb : s₁.heap.Ns builtinsNs mb) (hbb : ∀ x : Str, x ≠ "__name__" → mb x = bootBuiltins x) (hlim : s₁.heap.NoLimit) (hg : s₁.gens = #[])
    (ha : s₁.heap.get? a = some { cls := .type "list", data := .seq vs.toArray }) (hi : IntsAre vs ns) (hl : ns.length ≤ sizeLine) (hr : Room k callerA)
    (F : ∀ base : Heap, K.In base → base.Ns mainGlobals mg → FnG P w K mg base k fa fd ps sp) (hbind : BindsTo s₁ fd ⟨[.ref a], []⟩ (ps.zip [.ref a]))
    (hsp : ∀ H : Hp, SqL K H a (ns.map V.int) → sp [.ref a] H (fun v _ => v = .bl true) E0) :
    codeAny (model P w) callerA (.call (.ref fa) ⟨[.ref a], []⟩) (fun r s' => r = .ok (.ret (.bool true)) ∧ OldK s₁.heap s'.heap ∧ s'.os = s₁.os ∧ AllBare s'.gens) s₁ := by
  have rv := vals_ints hi
  have lenV := hi.length
  cases hk : K.lookup a with
  | some o =>
    have e := KX a o hk
    rw [ha] at e
    cases e
    have hS : SqL K (fun _ => none) a (ns.map V.int) := .inr ⟨_, vs.toArray, _, hk, rfl, rfl, rfl, by rw [List.size_toArray, lenV]; exact hl, by simpa using rv⟩
    exact call_alone KX hns hb hbb hlim hg ha ⟨fun b u z => (by have z' : (none : Option HO) = some u := z; cases z'), hS, fun _ => Or.inl rfl⟩ hr F hbind (hsp _ hS)
  | none =>
    have hat : (fun b => if b = a then some (HO.frz { cls := .type "list", data := .seq vs.toArray } (.lst (ns.map V.int))) else none : Hp) a = some (.frz { cls := .type "list", data := .seq vs.toArray } (.lst (ns.map V.int))) := if_pos rfl
    have hS : SqL K (fun b => if b = a then some (HO.frz { cls := .type "list", data := .seq vs.toArray } (.lst (ns.map V.int))) else none) a (ns.map V.int) := .inl (.inr ⟨_, hat⟩)
    refine call_alone KX hns hb hbb hlim hg ha ⟨fun b u z => ?_, hS, fun b => ?_⟩ hr F hbind (hsp _ hS)
    · by_cases c : b = a
      · subst c
        have z' := hat.symm.trans z
        cases z'
        exact ⟨ha, by rw [List.length_map]; exact hl, vs, _, rv, ha⟩
      · rw [show (if b = a then some (HO.frz { cls := .type "list", data := .seq vs.toArray } (.lst (ns.map V.int))) else none) = none from if_neg c] at z
        cases z
    · by_cases c : b = a
      · subst c
        exact Or.inr ⟨rfl, hk, hat⟩
      · exact Or.inl (if_neg c)
end
theorem walk_G {l : PySem.W.OpenLaw} {n k : Nat} {q : Program} {loose : List Str} {XP : (Str → Option Value) → Heap → Prop} {YP : World → Heap → Prop} {d : DefRec}
    (hn : l.most = some n) (hn2 : n ≤ sizeLine) (hdf : d.params.defaults = []) (hr : Room k callerA)
    (F : ∀ (w : World) (mg : Str → Option Value) (fa : Addr) (h : Heap), YP w h → h.Ns mainGlobals mg → mg d.name = some (.ref fa) →
      ∃ (K : PySem.W.Frag) (fd : FuncData) (ps : List Str) (sp : Sp), K.In h ∧ Binds K fd ps [] ∧ ps.length = 1 ∧
        (∀ (H : Hp) (a : Addr) (ns : List Int), ns.length ≤ n → SqL K H a (ns.map V.int) → sp [.ref a] H (fun v _ => v = .bl true) E0) ∧
        ∀ base : Heap, K.In base → base.Ns mainGlobals mg → FnG l.prog w K mg base k fa fd ps sp) :
    PySem.W.WalkO q loose XP YP l.row.toRowW d [] (fun f vs => PySem.call f vs) := by
  refine Att.attach_call hn hdf fun w s₀ s₁ mg mb fa o pm cd doc a vs ns G Y ho hd hcd hmg hobj hints hlen hg => ?_
  obtain ⟨K, fd, ps, sp, KX, hb, hp, hsp, hF⟩ := F w mg fa _ Y G.T.g hmg
  exact law_callG KX G.T.g G.T.b G.T.builtins G.T.nolimit hg hobj hints (Nat.le_trans hlen hn2) hr hF (by simpa using hb s₁ [.ref a] KX (by simpa using hp.symm)) fun H hS => hsp H a ns hlen hS
end Eg
end

section
set_option Elab.async false
set_option linter.all false
set_option maxRecDepth 100000
set_option maxHeartbeats 4000000
open PySem PySem.W PySem.Calls PyProof.Rows
theorem PySem.Challenge.cw_everygrain_k25_whole_old_windows_stay_holds : PySem.Challenge.rw_everygrain_k25_whole_old_windows_stay.Holds := by
  w_on; o_law
  refine HandSHeadRun.head_any (r := OpenLaw.row PySem.Challenge.rw_everygrain_k25_whole_old_windows_stay) (q := view (OpenLaw.row PySem.Challenge.rw_everygrain_k25_whole_old_windows_stay).prog [83]) (H := Eg.hook Eg.fbs Eg.fns) (ob := Eg.ob) (M := 20000) (loose := Eg.names) (d := HandSHeadRun.topDef (OpenLaw.row PySem.Challenge.rw_everygrain_k25_whole_old_windows_stay).prog 83) (kwd := []) Eg.ob_eq
    (by kernel_rfl) (fun s => by kernel_rfl) Eg.run (by kernel_rfl) (by kernel_rfl) (by kernel_rfl) (by rfl) (by first | assumption | decide +kernel) (by decide +kernel) ⟨rfl, rfl, rfl, rfl, rfl, by decide +kernel⟩ ?hw ?hc
  case hw => w_witness2
  case hc =>
    refine Eg.walk_G (l := PySem.Challenge.rw_everygrain_k25_whole_old_windows_stay) (n := 63) (k := 13) rfl (by decide) (by kernel_rfl) ⟨rfl, by decide, by decide⟩ ?F
    intro w mg fa h Y G hmg0
    obtain ⟨K, KX, c⟩ := Y
    have hmg : mg ("law" : PySem.Str) = some (.ref fa) := by
      have e : (HandSHeadRun.topDef (OpenLaw.row PySem.Challenge.rw_everygrain_k25_whole_old_windows_stay).prog 83).name = ("law" : PySem.Str) := by kernel_rfl
      rw [← e]
      exact hmg0
    have T : Eg.Fx K mg := Eg.fx_of KX G c
    obtain ⟨fd, ps, hb, hl, hm, hF⟩ := Eg.law_fd (P := (PySem.Challenge.rw_everygrain_k25_whole_old_windows_stay).prog) (w := w) T
    rw [hm] at hmg
    cases hmg
    exact ⟨K, fd, ps, Eg.spLaw K, KX, hb, hl, fun H a ns hl hS => ⟨a, ns, rfl, hS, by omega, fun _ => rfl⟩, fun base _ _ => hF base⟩
end
