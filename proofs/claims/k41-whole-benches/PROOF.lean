import PyProof.Rows.All
import Wide.All
import OpenK.AllK
import Wide.FinOn
import KE.KStateDown
import KE.DatumOrd
import KE.KMinBuiltin
import HandS.ForMost
import HandS.ForExc
import HandS.Defaults
import HandS.Evl
import HandS.Wide
import HandS.WideBits
import HandS.Conv
import HandS.SortRule
import HandS.SortKw
import HandS.IsInst
import HandS.ExcIs
import HandS.HotCalls
import HandS.Style
import HandS.Flow
import HandS.Head0
import HandS.Head1
import HandS.Head2
import HandS.HeadEnd
import HandS.HeadHook1
import HandS.HeadHook2
import PySem.Challenge.RW_slackfigures_k41_whole_benches
import PyProof.ZipIter
import PyProof.Rows.TupIter
section
set_option Elab.async false
set_option linter.all false
set_option maxRecDepth 100000
set_option maxHeartbeats 4000000
namespace SF
open PySem PySem.Spec PyProof.Rows L2
section
variable {X : Cx}
/-- xs + ys of two lists that may be read -/
def rCatS (K : PySem.W.Frag) : R2 := fun x y H Q => ∃ l b xs zs, x = .ref l ∧ y = .ref b ∧ SqL K H l xs ∧ SqL K H b zs ∧ xs.length + zs.length ≤ sizeLine ∧ ∀ p, H p = none → Q (.ref p) (upd H p (.lst (xs ++ zs)))
theorem op_catS : OpR X (binaryOp .Add) (rCatS X.K) := by
  intro pins s σ H x y v u Q I rx ry h
  obtain ⟨l, b, xs, zs, rfl, rfl, hl, hb, hz, q⟩ := h
  cases rx
  cases ry
  obtain ⟨its, r, ⟨⟨c1, d1, t1, s1⟩, n1, g1, e1, e2, e3⟩, _⟩ := I.list hl
  obtain ⟨its2, r2, ⟨⟨c2, d2, t2, s2⟩, n2, g2, f1, f2, f3⟩, _⟩ := I.list hb
  simp only at e1 e2 e3 f1 f2 f3
  subst e1 e2 e3 f1 f2 f3
  have l1 := r.length
  have l2 := r2.length
  refine concat_meets ⟨_, g1, rfl⟩ ⟨_, g2, rfl⟩ noFill_list_add seq_list_add PySem.F.slot_list_add PySem.F.entry_list_add (PySem.F.args_list_add_2 _ _) (list_addW l b its.toArray its2.toArray n1 n2 _ _ s1 s2 (by rw [List.size_toArray, List.size_toArray]; omega)) ⟨g1, g2, ?_⟩
  have ea : its.toArray ++ its2.toArray = (its ++ its2).toArray := by simp
  rw [ea]
  exact ⟨.ref _, _, I.lnew (t' := s.toks) (r.append r2) (by rw [List.length_append]; omega), rfl, q _ I.fresh⟩

/-- max(t), t a tuple of two ints -/
def rMaxT2 (K : PySem.W.Frag) : List V → Hp → VK → Prop := fun vs H Q => ∃ (a : Addr) (i j : Int), vs = [V.ref a] ∧ SqT K H a [.int i, .int j] ∧ Q (.int (if j > i then j else i)) H
theorem cr_maxT2 (hc : X.calm = true) (hu : X.A.units + 1 < cLine) : CallR X (.builtin "max") (rMaxT2 X.K) := by
  intro pins s σ H vs us Q I r h
  obtain ⟨a, i, j, rfl, hs, q⟩ := h
  obtain ⟨its, rv, ⟨o, g, hcl, n, hd⟩, _⟩ := I.tuple hs
  rw [Vals.ref1 r]
  obtain ⟨t1, t2, rfl⟩ := Vals.int2 rv
  refine PySem.W.max_tuple_datum (x := i) (xs := [j]) (I.ok.hd hc) ⟨o, g, hcl, n, hd⟩ ⟨_, PySem.ReadsAll.cons (PySem.Reads.int i t1) (PySem.ReadsAll.cons (PySem.Reads.int j t2) PySem.ReadsAll.nil)⟩ hu fun k v h' tk hk hv hkp => ?_
  obtain ⟨as, hr⟩ := hv
  refine ⟨.int (if j > i then j else i), H, I.kept hkp, ?_, q⟩
  have hm : PySem.W.maxOf i [j] = (if j > i then j else i) := by
    show (if (decide (i < j)) = true then j else i) = _
    by_cases c : i < j
    · rw [if_pos (decide_eq_true c), if_pos c]
    · rw [if_neg (by simpa using c), if_neg c]
  rw [hm] at hr
  have hr' : PySem.Reads h' v (.int (if j > i then j else i)) as := hr
  cases hr'
  exact ⟨_, rfl⟩
end
section
variable {X : Cx} {pins : List (Addr × Obj)} {σ : L2.St} {H : Hp} {s : Shared}
theorem nsOnly {h : Heap} {L : Addr} {m m' : Str → Option Value} (x : h.Ns L m) (y : h.Ns L m') : m = m' := by
  obtain ⟨o, es, ep, e, d, k, f⟩ := x
  obtain ⟨o', es', ep', e', d', k', f'⟩ := y
  rw [e] at e'
  cases e'
  rw [d] at d'
  cases d'
  funext z
  rw [← f z, ← f' z]
/-- all objects but the frame's own are kept, the frame holds the same names -/
theorem InvBut {h' : Heap} {t' : Nat} {m : Str → Option Value} (I : Inv X pins σ H s) (hm : s.heap.Ns X.env.locals m) (hm' : h'.Ns X.env.locals m) (k : ∀ b o, b ≠ X.env.locals → s.heap.get? b = some o → h'.get? b = some o) :
    Inv X pins σ H { s with heap := h', toks := t' } := by
  have nL : ∀ b u, H b = some u → b ≠ X.env.locals := fun b u e z => by
    rw [z, I.free] at e
    cases e
  refine I.step (g' := s.gens) (d' := s.drawn) (ch := []) (fun _ z => nomatch z) (fun b o h1 _ _ e _ => k b o h1 e) (fun b o h1 _ _ e _ => ⟨o.slots, k b o h1 e⟩) (fun _ _ _ _ n => n) (fun b o _ e => ?_) (fun _ _ q => q) (fun _ _ _ q => q) (fun b ps q => ⟨#[], by rw [q]; simp⟩) (fun m' q => ?_) (fun b u e => ?_) I.bare
  · by_cases hb : b = X.env.locals
    · obtain ⟨o', _, _, e', _⟩ := hm'
      exact ⟨o', by rw [hb]; exact e'⟩
    · exact ⟨o, k b o hb e⟩
  · rw [nsOnly q hm]
    exact hm'
  · refine (I.hok b u e).stay (fun c v hc q => k c v ?_ q) (fun _ q => q) fun _ _ q => q
    rcases hc with z | z
    · rw [z]
      exact nL b u e
    · exact nL c _ z
/-- min(xs, key=abs), xs a list of ints that this def made: one of them -/
def rMinAbs : List V → Hp → VK → Prop := fun vs H Q => ∃ (a : Addr) (ns : List Int), vs = [.ref a] ∧ H a = some (.lst (ns.map V.int)) ∧ 0 < ns.length ∧ ∀ m, m ∈ ns → Q (.int m) H
def tMinAbs (t : TA) : TE := fun σ H Q => t σ H fun vs H1 => rMinAbs vs H1 Q
theorem min_abs {a : Addr} {ns : List Int} {Q : VK} (hc : X.calm = true) (I : Inv X pins σ H s) (ha : H a = some (.lst (ns.map V.int))) (hn : 0 < ns.length) (q : ∀ m, m ∈ ns → Q (.int m) H) :
    wpAny (model X.prog X.w) X.A (call (.builtin "min") [.ref a] [(Str.ofString "key", .builtin "abs")]) (EP X pins σ Q) X.xe s := by
  obtain ⟨m, F⟩ := I.fr
  obtain ⟨z, its, n, r, hl, e⟩ := I.lstM ha
  have aL : a ≠ X.env.locals := fun y => by
    rw [y, I.free] at ha
    cases ha
  have aB : X.base.get? a = none := by
    cases q2 : X.base.get? a with
    | none => rfl
    | some o =>
      have y := (I.bs a o q2).2
      rw [ha] at y
      cases y
  have hi : IntsAre its ns := r.ints
  refine kmb_min_letter (fun n => if n < 0 then -n else n) (I.ok.hd hc) F (news_all (g := X.base) (h := s.heap) (L := X.env.locals)) (fun h F' N' => ?_) hi hn (fun n t h tk own hm F' N' => ?_) fun M t h' tk' F' N' hm _ => ?_
  · have y := N' (a, _) (mem_allNews aL aB e)
    exact ⟨_, y.1, rfl, _, rfl⟩
  · refine call_abs_int fun u tk2 => ?_
    exact ⟨h, _, _, rfl, rfl, F', N'⟩
  · refine ⟨.int M, H, InvBut I F.ns F'.ns fun b o hb eo => ?_, ⟨_, rfl⟩, q M hm⟩
    cases q2 : X.base.get? b with
    | some u =>
      have y := I.bk b u q2
      rw [eo] at y
      cases y
      exact F'.keep b _ q2
    | none => exact (N' (b, o) (mem_allNews hb q2 eo)).1
theorem pe_minAbs {e : Expr} {t : TA} {p p2 kpos pos : Pos} (hc : X.calm = true) (hm : X.mg "min" = none) (hma : X.mg "abs" = none) (he : PA X [e] t) (hg : Gl X "min" := by rfl) (hga : Gl X "abs" := by rfl)
    (hs : backTo pos (starEach [e] X.env) = (false, eval e X.env) :: backTo pos (starEach [] X.env) := by rfl) (hpl : (backTo pos (starEach [e] X.env)).any (·.1) = false := by rfl)
    (hall : (backToKw pos (keywordEach [⟨some "key", .Name "abs" p2, kpos⟩] X.env)).all (·.1.isSome) = true := by rfl) (hnone : (backToKw pos (keywordEach [⟨some "key", .Name "abs" p2, kpos⟩] X.env)).any (·.1.isNone) = false := by rfl)
    (hks : (backToKw pos (keywordEach [⟨some "key", .Name "abs" p2, kpos⟩] X.env)).filterMap (·.1) = [Str.ofString "key"] := by rfl) :
    PE X (.Call (.Name "min" p) [e] [⟨some "key", .Name "abs" p2, kpos⟩] pos) (tMinAbs t) := by
  refine ⟨fun pins s σ H Q I h => ?_⟩
  refine wpAny_Call_Name_kw (ld_blt I hg hm PyProof.Rows.boot_min ?_)
  refine PyProof.Rows.callWith_kw (thn (he.run pos pins s σ H (fun vs H1 => rMinAbs vs H1 Q) I h) fun us s1 ⟨vs, H1, I1, r1, q1⟩ => ?_) hs hpl hall hnone
  show wpAny _ _ (evalAll ((do let v ← eval (.Name "abs" p2) X.env; standAt pos; pure v) :: [])) _ _ s1
  refine wpAny_evalAll_cons (wpAny_bind (ld_blt I1 hga hma PyProof.Rows.boot_abs (wpAny_bind (wpAny_standAt (wpAny_pure ?_)))))
  refine wpAny_evalAll_nil ?_
  rw [hks]
  obtain ⟨a, ns, rfl, ha, hn, q⟩ := q1
  rw [Vals.ref1 r1]
  exact min_abs hc I1 ha hn q
end
end SF
end
section
set_option Elab.async false
set_option linter.all false
set_option maxRecDepth 100000
set_option maxHeartbeats 4000000
namespace SF
open PySem PySem.Spec PyProof.Rows L2
/-- the two ints of the tuple that v names -/
def pairAt (H : Hp) : V → Int × Int
  | .ref t => match H t with
    | some (.tup [.int i, .int j]) => (i, j)
    | _ => (0, 0)
  | _ => (0, 0)
theorem pairAt_of {H : Hp} {t : Addr} {i j : Int} (h : H t = some (.tup [.int i, .int j])) : pairAt H (.ref t) = (i, j) := by
  show (match H t with
    | some (.tup [.int i, .int j]) => (i, j)
    | _ => (0, 0)) = (i, j)
  rw [h]
/-- a cell as a key -/
def ckey (c : Int × Int) : List Key := [.inl c.1, .inl c.2]
/-- the tuples ts are the cells cs -/
def Cells (H : Hp) (ts : List Addr) (cs : List (Int × Int)) : Prop := Paired (fun (t : Addr) (c : Int × Int) => H t = some (.tup [.int c.1, .int c.2])) ts cs
section
variable {X : Cx}
/-- sorted(d), d a dict whose keys are pairs of ints -/
def rSortedDT : List V → Hp → VK → Prop := fun vs H Q => ∃ (a : Addr) (kvs : List (List Key × V)) (cs : List (Int × Int)), vs = [V.ref a] ∧ Rd H a (.dT kvs) ∧ kvs.map (·.1) = cs.map ckey ∧
  ∀ (ts : List Addr) (ds : List (Int × Int)) (p : Addr), Cells H ts ds → ds.Perm cs → SrtO.Srtd SrtO.lexB ds → H p = none → Q (.ref p) (upd H p (.lst (ts.map V.ref)))
theorem cells_of_keys {H : Hp} {kvs : List (List Key × V)} {bs : List Addr} {cs : List (Int × Int)} (h : IsKeys H kvs bs) (e : kvs.map (·.1) = cs.map ckey) : Cells H bs cs := by
  unfold IsKeys at h
  unfold Cells
  induction h generalizing cs with
  | nil =>
    cases cs with
    | nil => exact .nil
    | cons c r => cases e
  | cons h t ih =>
    cases cs with
    | nil => cases e
    | cons c r =>
      rw [List.map_cons, List.map_cons] at e
      obtain ⟨e1, e2⟩ := List.cons.inj e
      refine .cons ?_ (ih e2)
      rw [e1] at h
      exact h
theorem cells_at {H : Hp} {bs : List Addr} {cs : List (Int × Int)} (h : Cells H bs cs) : (bs.map V.ref).map (pairAt H) = cs := by
  unfold Cells at h
  induction h with
  | nil => rfl
  | cons h t ih =>
    rw [List.map_cons, List.map_cons, pairAt_of h, ih]
theorem cells_mem {H : Hp} {bs : List Addr} {cs : List (Int × Int)} (h : Cells H bs cs) {t : Addr} (ht : t ∈ bs) : ∃ i j, H t = some (.tup [.int i, .int j]) := by
  unfold Cells at h
  induction h with
  | nil => cases ht
  | cons h _ ih =>
    rcases List.mem_cons.mp ht with e | e
    · rw [e]
      exact ⟨_, _, h⟩
    · exact ih e
theorem cells_back {H : Hp} : ∀ {ts : List Addr}, (∀ t ∈ ts, ∃ i j, H t = some (.tup [.int i, .int j])) → Cells H ts ((ts.map V.ref).map (pairAt H))
  | [], _ => .nil
  | t :: r, h => by
    rw [List.map_cons, List.map_cons]
    refine .cons ?_ (cells_back fun u hu => h u (List.mem_cons_of_mem _ hu))
    obtain ⟨i, j, e⟩ := h t List.mem_cons_self
    rw [pairAt_of e]
    exact e
theorem cr_sortedDT (hc : X.calm = true) : CallR X (.builtin "sorted") rSortedDT := by
  intro pins s σ H xs us Q I r h
  obtain ⟨d, kvs, cs, rfl, hd, hcs, q⟩ := h
  obtain ⟨u, rfl, rx⟩ := r.one
  cases rx
  obtain ⟨z, hs, ks, pr, o, es, ep, ho, hx, hdt, he, hn⟩ := (show ObjOk X.prog X.w H s.heap d (.dT kvs) from hd.ok I.hok)
  have l1 : es.size = ks.length := size_of_entries he
  have l2 : kvs.length = ks.length := Paired.length pr
  have ck : Cells H (ks.map fun x => x.2.1) cs := cells_of_keys (isKeys_of pr) hcs
  refine Calls.call_function_entry PyProof.Rows.kind_sorted PyProof.Rows.plain_sorted PyProof.Rows.entry_sorted (PyProof.Rows.args_sorted1 _) ?_
  unfold Builtin.«sorted»
  refine wpAny_bind (m := checkCount "sorted" 1 1 _) (wpAny_pure ?_)
  refine wpAny_bind (PySem.W.kdu_collect (A := X.A.in1) (kdl_raw hs hx hdt) (I.ok.hd hc) ho (by omega) fun h' tk acc' kp it => ?_)
  have ea : acc'.toList = ks.map fun x => Value.ref x.2.1 := by
    have hl : acc'.toList.length = ks.length := by rw [Array.length_toList, it.1]; exact l1
    apply List.ext_getElem?
    intro j
    rw [List.getElem?_map]
    cases hj : acc'.toList[j]? with
    | none =>
      have h1 := List.getElem?_eq_none_iff.mp hj
      rw [List.getElem?_eq_none (by omega)]
      all_goals rfl
    | some v =>
      obtain ⟨en, hen, hv⟩ := it.2 j v (by rw [← Array.getElem?_toList]; exact hj)
      have qe := entry_at he j
      rw [hen] at qe
      cases hb : ks[j]? with
      | none =>
        rw [hb] at qe
        exact nomatch (show some en = none from qe)
      | some b =>
        rw [hb] at qe
        have e2 : en = entryOfKey (tupleKind (mixKind X.prog X.w)) b := Option.some.inj qe
        rw [hv, e2]
        all_goals rfl
  generalize hbs : (ks.map fun x => x.2.1) = bs at ck
  have eb : acc'.toList = bs.map Value.ref := by rw [ea, ← hbs, List.map_map]; all_goals rfl
  have I1 : Inv X pins σ H { s with heap := h', toks := tk } := I.kept kp
  have hbl : bs.length ≤ sizeLine := by rw [← hbs, List.length_map]; omega
  refine wpAny_bind (wpAny_newList ?_ (by rw [eb, List.length_map]; exact hbl))
  have hoL : (h'.push (seqObj "list" acc'.toList.toArray 0)).get? h'.objs.size = some (seqObj "list" acc'.toList.toArray 0) := Heap.get?_push_size _ rfl
  have kp2 : ∀ b u, h'.get? b = some u → (h'.push (seqObj "list" acc'.toList.toArray 0)).get? b = some u := fun b u e => Heap.get?_push_of_some _ e
  show wpAny _ _ _ _ _ { s with heap := h'.push (seqObj "list" acc'.toList.toArray 0), toks := tk }
  have hp : ∀ v ∈ acc'.toList, Srt.IsPair (h'.push (seqObj "list" acc'.toList.toArray 0)) v (pairAt H (backV v)).1 (pairAt H (backV v)).2 := fun v hv => by
    rw [eb] at hv
    obtain ⟨t, ht, rfl⟩ := List.mem_map.mp hv
    obtain ⟨i, j, e⟩ := cells_mem ck ht
    have e2 : pairAt H (backV (Value.ref t)) = (i, j) := pairAt_of e
    rw [e2]
    obtain ⟨_, its2, r2, o, ho, hc, n, hd⟩ := I1.hok _ _ e
    obtain ⟨u1, u2, rfl, ri, rj⟩ := vals2 r2
    obtain ⟨t1, rfl⟩ := ri
    obtain ⟨t2, rfl⟩ := rj
    exact ⟨t, o, t1, t2, n, rfl, kp2 _ _ ho, hc, hd⟩
  refine wpAny_bind (wpAny_holding (wpAny_call_entry PyProof.Rows.slot_list_sort ⟨_, hoL, rfl⟩ PyProof.Rows.entry_list_sort
    (SrtO.list_sort_ord (s := { s with heap := h'.push (seqObj "list" acc'.toList.toArray 0), toks := tk }) (SrtO.swo_lex fun v => pairAt H (backV v)) hoL (by rw [eb, List.length_map]; exact hbl)
      (fun h2 => SrtO.pairs_sortableO (by omega) hp fun o e => by
        rw [hoL] at e
        cases e
        intro c
        exact absurd (Value.type.inj c) (by decide)) fun out h1 h2 => ⟨_, rfl, ?_⟩)
    (PyProof.Rows.args_list_sort _)))
  obtain ⟨e', he'⟩ := PyProof.Rows.sortedHeap_at (vs := acc'.toList) (out := out.toArray) hoL
  have hb : SrtO.Stb (ltP (pairAt H)) (out.map backV) (acc'.toList.map backV) := SrtO.Stb.map (ltP_swo (pairAt H)) backV h2
  have hx3 : acc'.toList.map backV = bs.map V.ref := by
    rw [eb, List.map_map]
    all_goals rfl
  have h3 : ∀ u ∈ out, ∃ a, u = Value.ref a := fun u hu => by
    have hu2 := h2.perm.mem_iff.mp hu
    rw [eb] at hu2
    obtain ⟨t, _, rfl⟩ := List.mem_map.mp hu2
    exact ⟨t, rfl⟩
  rw [hx3] at hb
  obtain ⟨ts, hts⟩ : ∃ ts : List Addr, out.map backV = ts.map V.ref := by
    refine ⟨out.map fun u => match u with | .ref a => a | _ => 0, ?_⟩
    rw [List.map_map]
    refine List.map_congr_left fun u hu => ?_
    obtain ⟨a, rfl⟩ := h3 u hu
    rfl
  have hmem : ∀ t ∈ ts, t ∈ bs := fun t ht => by
    have m1 : V.ref t ∈ out.map backV := by rw [hts]; exact List.mem_map.mpr ⟨t, ht, rfl⟩
    have m2 := hb.perm.mem_iff.mp m1
    obtain ⟨t', ht', e⟩ := List.mem_map.mp m2
    cases e
    exact ht'
  have hlen : (ts.map V.ref).length ≤ sizeLine := by
    rw [← hts, hb.len, List.length_map]
    exact hbl
  have fin := q ts _ h'.objs.size (cells_back fun t ht => cells_mem ck (hmem t ht)) (by
    rw [← hts, ← cells_at ck]
    exact hb.perm.map _) (by
    rw [← hts]
    exact SrtO.srtd_map (SrtO.srtd_map h1)) (I1.hok.fresh (Nat.le_refl _))
  refine wpAny_pure ⟨_, rfl, .ref h'.objs.size, upd H h'.objs.size (.lst (ts.map V.ref)), I1.laid (t' := tk) (fun b u e => ?_) (Nat.le_refl _)
    (show ObjOk X.prog X.w _ _ _ (.lst (ts.map V.ref)) from ⟨hlen, out, e', by rw [← hts]; exact vals_back h3, he'⟩), rfl, fin⟩
  have hb2 : b < h'.objs.size := Heap.lt_size e
  rw [PyProof.Rows.sortedHeap_old (Nat.ne_of_lt hb2) (by rw [size_push']; exact Nat.lt_succ_of_lt hb2)]
  exact Heap.get?_push_of_some _ e
end
end SF
end
section
set_option Elab.async false
set_option linter.all false
set_option maxRecDepth 100000
set_option maxHeartbeats 4000000
namespace SF
open PySem PySem.Spec PyProof.Rows L2
/-! ### o.f as a target within a tuple -/
def gFld (K : PySem.W.Frag) (to : TE) (f : Str) : TG := fun v σ H Q => to σ H fun x H1 => ∃ a C dx fs, x = .ref a ∧ H1 a = some (.ins C dx fs) ∧ Cls K C ∧ NoAttr K C f ∧ fs.length < 1000 ∧ Q σ (upd H1 a (.ins C dx (putF f v fs)))
theorem pg_fld {X : Cx} {o : Expr} {f : Str} {pos : Pos} {to : TE} (ho : PE X o to) : PG X (.Attribute o f pos) (gFld X.K to f) := by
  refine ⟨fun pins s σ H v u Q I r h => ?_⟩
  rw [PySem.assign_Attribute]
  refine wpAny_bind (wpAny_holding (thn (ho.run pins s σ H _ I h) fun ov s1 ⟨x, H1, I1, r1, a, C, dx, fs, ex, ea, c, n, l, q⟩ => ?_))
  subst ex
  obtain rfl : ov = Value.ref a := r1
  refine wpAny_bind (wpAny_standAt (wpAny_bind (wpAny_holding (setattr_ok I1 ea c n l r fun s2 I2 => ?_))))
  exact wpAny_release ⟨σ, _, I2, q⟩
/-! ### d.update(e), both dicts with int and text keys -/
def tDUpd (td ty : TE) : TE := fun σ H Q => td σ H fun x H1 => ∃ a, x = .ref a ∧ IsD H1 a ∧ ty σ H1 fun y H2 => ∃ (b : Addr) (kvs more : List (Key × V)), y = .ref b ∧ a ≠ b ∧ H2 a = some (.dK kvs) ∧ H2 b = some (.dK more) ∧ kvs.length + more.length ≤ sizeLine ∧ Q .non (upd H2 a (.dK (mergeK kvs more)))
section
variable {X : Cx}
theorem d_update {pins : List (Addr × Obj)} {s : Shared} {σ : L2.St} {H : Hp} {a b : Addr} {kvs more : List (Key × V)} {Q : Value → Shared → Prop} {A : Around} {E : Value → Shared → Prop} (I : Inv X pins σ H s) (e : H a = some (.dK kvs)) (eb : H b = some (.dK more)) (hne : a ≠ b) (hl : kvs.length + more.length ≤ sizeLine)
    (h : ∀ s', Inv X pins σ (upd H a (.dK (mergeK kvs more))) s' → Q .none s') : wpAny (model X.prog X.w) A (call (.builtin "dict.update") [.ref a, .ref b]) Q E s := by
  obtain ⟨z, hd, vs, rel, dd⟩ := dk_of I.hok e
  obtain ⟨z2, hd2, vs2, rel2, dd2⟩ := dk_of I.hok eb
  refine call_meetsIn PySem.F.slot_dict_update dd.typeIs PySem.F.entry_dict_update (PySem.F.args_dict_update_2 _ _) (PySem.meets_dict_update (mixKind X.prog X.w) a b hne hd2)
    ⟨vs, vs2, dd, dd2, by rw [← rel.length, ← rel2.length]; exact hl, fun h' dd' _ hs => h _ ?_⟩
  have he : ∃ q, h'.get? a = some q := let ⟨q, _, _, hq, _⟩ := dd'; ⟨q, hq⟩
  exact d_write I (by rw [e]; exact True.intro) hs he (dk_new (Nat.le_trans (length_mergeK more kvs) hl) hd (KV.merge rel2 rel) dd')
theorem pe_dupd {o e : Expr} {td ty : TE} {apos cpos : Pos} (ho : PE X o td) (he : PE X e ty) (m : M1 X o "update" apos e cpos) : PE X (.Call (.Attribute o "update" apos) [e] [] cpos) (tDUpd td ty) := by
  refine ⟨fun pins s σ H Q I h => ?_⟩
  refine wpAny_Call_method m.base m.few m.line PySem.F.plainAttrs_dict PySem.F.slot_dict_update PySem.F.type_dict_update (thn (ho.run pins s σ H _ I h) fun u s1 ⟨x, H1, I1, rx, a, ex, d, q1⟩ => ?_)
  subst ex
  obtain rfl : u = Value.ref a := rx
  obtain ⟨t1, t2, _⟩ := isD_at I1 d
  refine ⟨t1, t2, ?_⟩
  rw [m.trees]
  refine Calls.callWith_builtin rfl (Calls.evalArgs_plain (Calls.spliced_cons (thn (he.run pins s1 σ H1 _ I1 q1) fun iv s2 ⟨y, H2, I2, ry, b, kvs, more, ey, hne, ea, eb, hl, q2⟩ => Calls.spliced_nil ?_)))
  subst ey
  obtain rfl : iv = Value.ref b := ry
  exact d_update I2 ea eb hne hl fun s3 I3 => ⟨.non, _, I3, rfl, q2⟩
end
/-! ### a written dict from ints to ints: BITS -/
structure KInts (K : PySem.W.Frag) (a : Addr) (f : Int → Option Int) : Prop where
  at_ : ∃ es n, K.lookup a = some ⟨.type "dict", none, .dict es n, #[]⟩ ∧ (∀ e ∈ es, ∃ i : Int, Value.isInt i e.key = true ∧ e.hash = hashInt i) ∧ ∀ i j, f i = some j → ∃ t, findBy Value.isInt es i = some (.int j t)
def rIxInts (K : PySem.W.Frag) : R2 := fun x y H Q => ∃ p i f j, x = .ref p ∧ y = .int i ∧ KInts K p f ∧ f i = some j ∧ Q (.int j) H
theorem ix_kints {X : Cx} : IxR X (rIxInts X.K) := by
  intro value slice pins s σ H x y v u Q I rx ry h hs
  obtain ⟨p, i, f, j, rfl, rfl, ⟨es, n, hl, hk, hf⟩, e, q⟩ := h
  obtain rfl : v = Value.ref p := rx
  obtain ⟨t, rfl⟩ := ry
  obtain ⟨t2, e2⟩ := hf i j e
  have hm : s.heap.MapOf (intKind X.prog X.w) p (fun k => findBy Value.isInt es k) := ⟨_, es, n, I.kIn _ _ hl, ⟨rfl, rfl, rfl⟩, rfl, hk, fun _ => rfl⟩
  refine tail_any hm.typeIs slot_dict_getitem.lookup (wpAny_getItem_of (k := i) ?_ hm e2 ⟨.int j, H, I.tok _, ⟨_, rfl⟩, q⟩) hs
  show Value.isInt i (.int i t) = true
  simp [Value.isInt]
def intsB (K : PySem.W.Frag) (a : Addr) (ps : List (Int × Int)) : Bool := match K.lookup a with
  | some ⟨.type c, none, .dict es _, sl⟩ => decide (c = "dict") && (sl.isEmpty && (es.toList.all (fun e => match e.key with
    | .int i _ => decide (e.hash = hashInt i)
    | _ => false) && ps.all fun p => match findBy Value.isInt es p.1 with
      | some (.int j _) => decide (j = p.2)
      | _ => false))
  | _ => false
theorem lookup_memI : ∀ {ps : List (Int × Int)} {i j : Int}, ps.lookup i = some j → (i, j) ∈ ps
  | [], _, _, e => by cases e
  | (b, x) :: r, i, j, e => by
    rw [List.lookup_cons] at e
    cases q : i == b with
    | true =>
      rw [q] at e
      cases e
      rw [beq_iff_eq.mp q]
      exact List.mem_cons_self
    | false =>
      rw [q] at e
      exact List.mem_cons_of_mem _ (lookup_memI e)
theorem intsB_ok {K : PySem.W.Frag} {a : Addr} {ps : List (Int × Int)} (h : intsB K a ps = true) : KInts K a fun i => ps.lookup i := by
  unfold intsB at h
  cases q : K.lookup a with
  | none =>
    rw [q] at h
    cases h
  | some o =>
    obtain ⟨oc, od, dt, osl⟩ := o
    rw [q] at h
    cases oc with
    | type c =>
      cases od with
      | none =>
        cases dt with
        | dict es n =>
          obtain ⟨h1, h2⟩ := Bool.and_eq_true_iff.mp h
          obtain ⟨h3, h4⟩ := Bool.and_eq_true_iff.mp h2
          obtain ⟨h5, h6⟩ := Bool.and_eq_true_iff.mp h4
          have e1 : c = "dict" := of_decide_eq_true h1
          have e2 : osl = #[] := Array.isEmpty_iff.mp h3
          subst e1 e2
          refine ⟨es, n, q, fun e he => ?_, fun i j hij => ?_⟩
          · have h7 := List.all_eq_true.mp h5 e (by simpa using he)
            cases hk : e.key with
            | int i t =>
              rw [hk] at h7
              exact ⟨i, by simp [Value.isInt], of_decide_eq_true h7⟩
            | _ =>
              rw [hk] at h7
              cases h7
          · have hm : (i, j) ∈ ps := lookup_memI hij
            have h7 := List.all_eq_true.mp h6 _ hm
            cases hf : findBy Value.isInt es i with
            | none =>
              rw [hf] at h7
              cases h7
            | some v =>
              rw [hf] at h7
              cases v with
              | int k t =>
                have e3 : k = j := of_decide_eq_true h7
                exact ⟨t, by rw [e3]⟩
              | _ => cases h7
        | _ => cases h
      | some b => cases dt <;> cases h
    | _ => cases od <;> cases dt <;> cases h
/-! ### xs == [], xs != [] -/
section
variable {X : Cx}
def rEqNil (K : PySem.W.Frag) : R2 := fun x y H Q => ∃ (a b : Addr) (xs : List V), x = .ref a ∧ y = .ref b ∧ SqL K H a xs ∧ SqL K H b [] ∧ Q (.bl xs.isEmpty) H
def rNeNil (K : PySem.W.Frag) : R2 := fun x y H Q => ∃ (a b : Addr) (xs : List V), x = .ref a ∧ y = .ref b ∧ SqL K H a xs ∧ SqL K H b [] ∧ Q (.bl (!xs.isEmpty)) H
theorem op_eqNil (hu : X.A.units < cLine) : OpR X (compareOp .Eq) (rEqNil X.K) := by
  intro pins s σ H x y v u Q I rx ry h
  obtain ⟨a, b, xs, rfl, rfl, ha, hb, q⟩ := h
  cases rx
  cases ry
  obtain ⟨its, r, p1, _⟩ := I.list ha
  obtain ⟨its2, r2, p2, _⟩ := I.list hb
  cases r2
  cases r with
  | nil => exact SeqAt.eq_listAt (e := fun _ => true) p1.isList p2.isList rfl hu (fun j h1 => absurd h1 (by simp)) ⟨.bl true, H, I, rfl, q⟩
  | cons r rr => exact SeqAt.eq_list_lengthsAt p1.isList p2.isList (by simp) hu ⟨.bl false, H, I, rfl, q⟩
theorem op_neNil (hu : X.A.units < cLine) : OpR X (compareOp .NotEq) (rNeNil X.K) := by
  intro pins s σ H x y v u Q I rx ry h
  obtain ⟨a, b, xs, rfl, rfl, ha, hb, q⟩ := h
  cases rx
  cases ry
  obtain ⟨its, r, p1, _⟩ := I.list ha
  obtain ⟨its2, r2, p2, _⟩ := I.list hb
  cases r2
  cases r with
  | nil => exact SeqAt.RcNeAt.lists (e := fun _ => true) p1.isList p2.isList rfl hu (fun j h1 => absurd h1 (by simp)) _ _ _ _ ⟨.bl false, H, I, rfl, q⟩
  | cons r rr => exact SeqAt.RcNeAt.lists_lengths p1.isList p2.isList (by simp) hu _ _ _ _ ⟨.bl true, H, I, rfl, q⟩
end
end SF
end
section
set_option Elab.async false
set_option linter.all false
set_option maxRecDepth 100000
set_option maxHeartbeats 0
namespace SF
open PySem PySem.Spec PyProof.Rows L2
def top (i : Nat) : Stmt := PySem.Challenge.pw_slackfigures_k41_whole_benches.main.body.getD i (.Pass ⟨0, 0, 0, 0⟩)
abbrev s_half_of : Stmt := top 2
abbrev s_is_whole : Stmt := top 18
abbrev s_bits_of : Stmt := top 19
abbrev s_entry : Stmt := top 21
abbrev s_cells_of : Stmt := top 23
abbrev s_serves : Stmt := top 24
abbrev s_worth : Stmt := top 26
abbrev s_has_room : Stmt := top 28
abbrev s_scaled : Stmt := top 29
abbrev s_pair_worth : Stmt := top 31
abbrev s_look_of : Stmt := top 32
abbrev s_three_in_two : Stmt := top 33
abbrev s_width_for : Stmt := top 35
abbrev s_begun : Stmt := top 36
abbrev s_stepped : Stmt := top 37
abbrev s_law_deck : Stmt := top 43
abbrev s_law_pick : Stmt := top 44
abbrev s_law_great : Stmt := top 45
abbrev s_law_whole : Stmt := top 46
abbrev s_law_name_of : Stmt := top 47
abbrev s_law_edges : Stmt := top 48
abbrev s_law_met : Stmt := top 49
abbrev s_law_good : Stmt := top 50
abbrev s_law_half : Stmt := top 51
abbrev s_law_entry : Stmt := top 52
abbrev s_law_set : Stmt := top 53
abbrev s_law_table : Stmt := top 54
abbrev s_law_spoilt : Stmt := top 55
abbrev s_law_size : Stmt := top 56
abbrev s_law_room : Stmt := top 57
abbrev s_law_scaled : Stmt := top 58
abbrev s_law_worth : Stmt := top 59
abbrev s_law_pair_worth : Stmt := top 60
abbrev s_law_step : Stmt := top 61
abbrev s_law_numbers : Stmt := top 62
abbrev s_law_bench : Stmt := top 63
abbrev s_law_begun : Stmt := top 64
abbrev s_law_looked : Stmt := top 65
abbrev s_law_gone : Stmt := top 66
abbrev s_law_put : Stmt := top 67
abbrev s_law_rest : Stmt := top 68
abbrev s_law_due : Stmt := top 69
abbrev s_law_tried : Stmt := top 70
abbrev s_law_deed_right : Stmt := top 71
abbrev s_law_stands_right : Stmt := top 72
abbrev s_law_deed : Stmt := top 73
abbrev s_law : Stmt := top 74
abbrev s_Work_init : Stmt := inClass (top 39) 0
abbrev s_Work_begin : Stmt := inClass (top 39) 1
abbrev s_Work_tried : Stmt := inClass (top 39) 2
abbrev s_Work_rest : Stmt := inClass (top 39) 3
abbrev s_RowsWork_begin : Stmt := inClass (top 40) 0
abbrev s_RowsWork_tried : Stmt := inClass (top 40) 1
abbrev s_Bench_init : Stmt := inClass (top 41) 0
abbrev s_Bench_begin : Stmt := inClass (top 41) 1
abbrev s_Bench_begin_rows : Stmt := inClass (top 41) 2
abbrev s_Bench_work : Stmt := inClass (top 41) 3
abbrev s_Bench_go : Stmt := inClass (top 41) 4
abbrev s_Bench_put : Stmt := inClass (top 41) 5
abbrev s_Bench_row : Stmt := inClass (top 41) 6
abbrev s_Bench_rest : Stmt := inClass (top 41) 7
abbrev s_Bench_looked : Stmt := inClass (top 41) 8
abbrev s_Bench_entries : Stmt := inClass (top 41) 10
abbrev s_Bench_deeds : Stmt := inClass (top 41) 11
def d_half_of : He.DefD := ⟨("half_of", none), "half_of", "half_of", defArgs s_half_of, defBody s_half_of, defScope s_half_of, [], []⟩
def d_is_whole : He.DefD := ⟨("is_whole", none), "is_whole", "is_whole", defArgs s_is_whole, defBody s_is_whole, defScope s_is_whole, [], []⟩
def d_bits_of : He.DefD := ⟨("bits_of", none), "bits_of", "bits_of", defArgs s_bits_of, defBody s_bits_of, defScope s_bits_of, [], []⟩
def d_entry : He.DefD := ⟨("entry", none), "entry", "entry", defArgs s_entry, defBody s_entry, defScope s_entry, [], []⟩
def d_cells_of : He.DefD := ⟨("cells_of", none), "cells_of", "cells_of", defArgs s_cells_of, defBody s_cells_of, defScope s_cells_of, [], []⟩
def d_serves : He.DefD := ⟨("serves", none), "serves", "serves", defArgs s_serves, defBody s_serves, defScope s_serves, [], []⟩
def d_worth : He.DefD := ⟨("worth", none), "worth", "worth", defArgs s_worth, defBody s_worth, defScope s_worth, [], []⟩
def d_has_room : He.DefD := ⟨("has_room", none), "has_room", "has_room", defArgs s_has_room, defBody s_has_room, defScope s_has_room, [], []⟩
def d_scaled : He.DefD := ⟨("scaled", none), "scaled", "scaled", defArgs s_scaled, defBody s_scaled, defScope s_scaled, [], []⟩
def d_pair_worth : He.DefD := ⟨("pair_worth", none), "pair_worth", "pair_worth", defArgs s_pair_worth, defBody s_pair_worth, defScope s_pair_worth, [], []⟩
def d_look_of : He.DefD := ⟨("look_of", none), "look_of", "look_of", defArgs s_look_of, defBody s_look_of, defScope s_look_of, [], []⟩
def d_three_in_two : He.DefD := ⟨("three_in_two", none), "three_in_two", "three_in_two", defArgs s_three_in_two, defBody s_three_in_two, defScope s_three_in_two, [], []⟩
def d_width_for : He.DefD := ⟨("width_for", none), "width_for", "width_for", defArgs s_width_for, defBody s_width_for, defScope s_width_for, [], []⟩
def d_begun : He.DefD := ⟨("begun", none), "begun", "begun", defArgs s_begun, defBody s_begun, defScope s_begun, [], []⟩
def d_stepped : He.DefD := ⟨("stepped", none), "stepped", "stepped", defArgs s_stepped, defBody s_stepped, defScope s_stepped, [], []⟩
def d_law_deck : He.DefD := ⟨("_law_deck", none), "_law_deck", "_law_deck", defArgs s_law_deck, defBody s_law_deck, defScope s_law_deck, [], []⟩
def d_law_pick : He.DefD := ⟨("_law_pick", none), "_law_pick", "_law_pick", defArgs s_law_pick, defBody s_law_pick, defScope s_law_pick, [], []⟩
def d_law_great : He.DefD := ⟨("_law_great", none), "_law_great", "_law_great", defArgs s_law_great, defBody s_law_great, defScope s_law_great, [], []⟩
def d_law_whole : He.DefD := ⟨("_law_whole", none), "_law_whole", "_law_whole", defArgs s_law_whole, defBody s_law_whole, defScope s_law_whole, [], []⟩
def d_law_name_of : He.DefD := ⟨("_law_name_of", none), "_law_name_of", "_law_name_of", defArgs s_law_name_of, defBody s_law_name_of, defScope s_law_name_of, [], []⟩
def d_law_edges : He.DefD := ⟨("_law_edges", none), "_law_edges", "_law_edges", defArgs s_law_edges, defBody s_law_edges, defScope s_law_edges, [], []⟩
def d_law_met : He.DefD := ⟨("_law_met", none), "_law_met", "_law_met", defArgs s_law_met, defBody s_law_met, defScope s_law_met, [], []⟩
def d_law_good : He.DefD := ⟨("_law_good", none), "_law_good", "_law_good", defArgs s_law_good, defBody s_law_good, defScope s_law_good, [], []⟩
def d_law_half : He.DefD := ⟨("_law_half", none), "_law_half", "_law_half", defArgs s_law_half, defBody s_law_half, defScope s_law_half, [], []⟩
def d_law_entry : He.DefD := ⟨("_law_entry", none), "_law_entry", "_law_entry", defArgs s_law_entry, defBody s_law_entry, defScope s_law_entry, [], []⟩
def d_law_set : He.DefD := ⟨("_law_set", none), "_law_set", "_law_set", defArgs s_law_set, defBody s_law_set, defScope s_law_set, [], []⟩
def d_law_table : He.DefD := ⟨("_law_table", none), "_law_table", "_law_table", defArgs s_law_table, defBody s_law_table, defScope s_law_table, [], []⟩
def d_law_spoilt : He.DefD := ⟨("_law_spoilt", none), "_law_spoilt", "_law_spoilt", defArgs s_law_spoilt, defBody s_law_spoilt, defScope s_law_spoilt, [], []⟩
def d_law_size : He.DefD := ⟨("_law_size", none), "_law_size", "_law_size", defArgs s_law_size, defBody s_law_size, defScope s_law_size, [], []⟩
def d_law_room : He.DefD := ⟨("_law_room", none), "_law_room", "_law_room", defArgs s_law_room, defBody s_law_room, defScope s_law_room, [], []⟩
def d_law_scaled : He.DefD := ⟨("_law_scaled", none), "_law_scaled", "_law_scaled", defArgs s_law_scaled, defBody s_law_scaled, defScope s_law_scaled, [], []⟩
def d_law_worth : He.DefD := ⟨("_law_worth", none), "_law_worth", "_law_worth", defArgs s_law_worth, defBody s_law_worth, defScope s_law_worth, [], []⟩
def d_law_pair_worth : He.DefD := ⟨("_law_pair_worth", none), "_law_pair_worth", "_law_pair_worth", defArgs s_law_pair_worth, defBody s_law_pair_worth, defScope s_law_pair_worth, [], []⟩
def d_law_step : He.DefD := ⟨("_law_step", none), "_law_step", "_law_step", defArgs s_law_step, defBody s_law_step, defScope s_law_step, [], []⟩
def d_law_numbers : He.DefD := ⟨("_law_numbers", none), "_law_numbers", "_law_numbers", defArgs s_law_numbers, defBody s_law_numbers, defScope s_law_numbers, [], []⟩
def d_law_bench : He.DefD := ⟨("_law_bench", none), "_law_bench", "_law_bench", defArgs s_law_bench, defBody s_law_bench, defScope s_law_bench, [], []⟩
def d_law_begun : He.DefD := ⟨("_law_begun", none), "_law_begun", "_law_begun", defArgs s_law_begun, defBody s_law_begun, defScope s_law_begun, [], []⟩
def d_law_looked : He.DefD := ⟨("_law_looked", none), "_law_looked", "_law_looked", defArgs s_law_looked, defBody s_law_looked, defScope s_law_looked, [], []⟩
def d_law_gone : He.DefD := ⟨("_law_gone", none), "_law_gone", "_law_gone", defArgs s_law_gone, defBody s_law_gone, defScope s_law_gone, [], []⟩
def d_law_put : He.DefD := ⟨("_law_put", none), "_law_put", "_law_put", defArgs s_law_put, defBody s_law_put, defScope s_law_put, [], []⟩
def d_law_rest : He.DefD := ⟨("_law_rest", none), "_law_rest", "_law_rest", defArgs s_law_rest, defBody s_law_rest, defScope s_law_rest, [], []⟩
def d_law_due : He.DefD := ⟨("_law_due", none), "_law_due", "_law_due", defArgs s_law_due, defBody s_law_due, defScope s_law_due, [], []⟩
def d_law_tried : He.DefD := ⟨("_law_tried", none), "_law_tried", "_law_tried", defArgs s_law_tried, defBody s_law_tried, defScope s_law_tried, [], []⟩
def d_law_deed_right : He.DefD := ⟨("_law_deed_right", none), "_law_deed_right", "_law_deed_right", defArgs s_law_deed_right, defBody s_law_deed_right, defScope s_law_deed_right, [], []⟩
def d_law_stands_right : He.DefD := ⟨("_law_stands_right", none), "_law_stands_right", "_law_stands_right", defArgs s_law_stands_right, defBody s_law_stands_right, defScope s_law_stands_right, [], []⟩
def d_law_deed : He.DefD := ⟨("_law_deed", none), "_law_deed", "_law_deed", defArgs s_law_deed, defBody s_law_deed, defScope s_law_deed, [], []⟩
def d_law : He.DefD := ⟨("law", none), "law", "law", defArgs s_law, defBody s_law, defScope s_law, [], []⟩
def d_Work_init : He.DefD := ⟨("Work", some "__init__"), "__init__", "Work.__init__", defArgs s_Work_init, defBody s_Work_init, defScope s_Work_init, [], []⟩
def d_Work_begin : He.DefD := ⟨("Work", some "begin"), "begin", "Work.begin", defArgs s_Work_begin, defBody s_Work_begin, defScope s_Work_begin, [], []⟩
def d_Work_tried : He.DefD := ⟨("Work", some "tried"), "tried", "Work.tried", defArgs s_Work_tried, defBody s_Work_tried, defScope s_Work_tried, [], []⟩
def d_Work_rest : He.DefD := ⟨("Work", some "rest"), "rest", "Work.rest", defArgs s_Work_rest, defBody s_Work_rest, defScope s_Work_rest, [], []⟩
def d_RowsWork_begin : He.DefD := ⟨("RowsWork", some "begin"), "begin", "RowsWork.begin", defArgs s_RowsWork_begin, defBody s_RowsWork_begin, defScope s_RowsWork_begin, [], []⟩
def d_RowsWork_tried : He.DefD := ⟨("RowsWork", some "tried"), "tried", "RowsWork.tried", defArgs s_RowsWork_tried, defBody s_RowsWork_tried, defScope s_RowsWork_tried, [], []⟩
def d_Bench_init : He.DefD := ⟨("Bench", some "__init__"), "__init__", "Bench.__init__", defArgs s_Bench_init, defBody s_Bench_init, defScope s_Bench_init, [], []⟩
def d_Bench_begin : He.DefD := ⟨("Bench", some "begin"), "begin", "Bench.begin", defArgs s_Bench_begin, defBody s_Bench_begin, defScope s_Bench_begin, [], []⟩
def d_Bench_begin_rows : He.DefD := ⟨("Bench", some "begin_rows"), "begin_rows", "Bench.begin_rows", defArgs s_Bench_begin_rows, defBody s_Bench_begin_rows, defScope s_Bench_begin_rows, [], []⟩
def d_Bench_work : He.DefD := ⟨("Bench", some "work"), "work", "Bench.work", defArgs s_Bench_work, defBody s_Bench_work, defScope s_Bench_work, [], []⟩
def d_Bench_go : He.DefD := ⟨("Bench", some "go"), "go", "Bench.go", defArgs s_Bench_go, defBody s_Bench_go, defScope s_Bench_go, [], []⟩
def d_Bench_put : He.DefD := ⟨("Bench", some "put"), "put", "Bench.put", defArgs s_Bench_put, defBody s_Bench_put, defScope s_Bench_put, [], []⟩
def d_Bench_row : He.DefD := ⟨("Bench", some "row"), "row", "Bench.row", defArgs s_Bench_row, defBody s_Bench_row, defScope s_Bench_row, [], []⟩
def d_Bench_rest : He.DefD := ⟨("Bench", some "rest"), "rest", "Bench.rest", defArgs s_Bench_rest, defBody s_Bench_rest, defScope s_Bench_rest, [], []⟩
def d_Bench_looked : He.DefD := ⟨("Bench", some "looked"), "looked", "Bench.looked", defArgs s_Bench_looked, defBody s_Bench_looked, defScope s_Bench_looked, [], []⟩
def d_Bench_entries : He.DefD := ⟨("Bench", some "entries"), "entries", "Bench.entries", defArgs s_Bench_entries, defBody s_Bench_entries, defScope s_Bench_entries, [], []⟩
def d_Bench_deeds : He.DefD := ⟨("Bench", some "deeds"), "deeds", "Bench.deeds", defArgs s_Bench_deeds, defBody s_Bench_deeds, defScope s_Bench_deeds, [], []⟩
def fn_0 : List He.DefD := [d_half_of, d_is_whole, d_bits_of, d_entry, d_cells_of, d_serves, d_worth, d_has_room, d_scaled, d_pair_worth, d_look_of, d_three_in_two, d_width_for, d_begun, d_stepped, d_law_deck, d_law_pick, d_law_great, d_law_whole, d_law_name_of, d_law_edges, d_law_met, d_law_good, d_law_half, d_law_entry, d_law_set, d_law_table, d_law_spoilt, d_law_size, d_law_room]
def fn_1 : List He.DefD := [d_law_scaled, d_law_worth, d_law_pair_worth, d_law_step, d_law_numbers, d_law_bench, d_law_begun, d_law_looked, d_law_gone, d_law_put, d_law_rest, d_law_due, d_law_tried, d_law_deed_right, d_law_stands_right, d_law_deed, d_law, d_Work_init, d_Work_begin, d_Work_tried, d_Work_rest, d_RowsWork_begin, d_RowsWork_tried, d_Bench_init, d_Bench_begin, d_Bench_begin_rows, d_Bench_work, d_Bench_go, d_Bench_put, d_Bench_row]
def fn_2 : List He.DefD := [d_Bench_rest, d_Bench_looked, d_Bench_entries, d_Bench_deeds]
def fn : List He.DefD := fn_0 ++ fn_1 ++ fn_2
def fa_0 : List He.Fa := [.glo "half_of", .glo "is_whole", .glo "bits_of", .glo "entry", .glo "cells_of", .glo "serves", .glo "worth", .glo "has_room", .glo "scaled", .glo "pair_worth", .glo "look_of", .glo "three_in_two", .glo "width_for", .glo "begun", .glo "stepped", .glo "_law_deck", .glo "_law_pick", .glo "_law_great", .glo "_law_whole", .glo "_law_name_of", .glo "_law_edges", .glo "_law_met", .glo "_law_good", .glo "_law_half", .glo "_law_entry", .glo "_law_set", .glo "_law_table", .glo "_law_spoilt", .glo "_law_size", .glo "_law_room"]
def fa_1 : List He.Fa := [.glo "_law_scaled", .glo "_law_worth", .glo "_law_pair_worth", .glo "_law_step", .glo "_law_numbers", .glo "_law_bench", .glo "_law_begun", .glo "_law_looked", .glo "_law_gone", .glo "_law_put", .glo "_law_rest", .glo "_law_due", .glo "_law_tried", .glo "_law_deed_right", .glo "_law_stands_right", .glo "_law_deed", .glo "law", .glo "Work", .glo "RowsWork", .glo "Bench", .glo "BITS", .glo "SlackError", .glo "NoFigure", .glo "NoLooks", .glo "NoRoom", .glo "NoRow", .glo "NoTable", .glo "NoText", .glo "Spoilt", .glo "NoMore"]
def fa_2 : List He.Fa := [.glo "NoWork", .glo "NoCell", .glo "NoDeed", .free "len", .free "max", .free "abs", .free "range", .free "isinstance", .free "int", .free "bool", .free "str", .free "tuple", .free "list", .free "zip", .free "enumerate", .free "sorted", .free "min", .free "ValueError", .cls "Work", .mkr "Work", .noat "Work" "kind", .noat "Work" "looks", .noat "Work" "numbers", .noat "Work" "left", .noat "Work" "figures", .noat "Work" "wide", .noat "Work" "great", .noat "Work" "stand", .cls "RowsWork", .mkr "RowsWork"]
def fa_3 : List He.Fa := [.noat "RowsWork" "kind", .noat "RowsWork" "looks", .noat "RowsWork" "numbers", .noat "RowsWork" "left", .noat "RowsWork" "figures", .noat "RowsWork" "wide", .noat "RowsWork" "great", .noat "RowsWork" "stand", .cls "Bench", .mkr "Bench", .noat "Bench" "kind", .noat "Bench" "looks", .noat "Bench" "rows", .noat "Bench" "works", .noat "Bench" "seen", .noat "Bench" "done", .meth "Work" "begin", .meth "Work" "tried", .meth "Work" "rest", .meth "RowsWork" "begin", .meth "RowsWork" "tried", .meth "RowsWork" "rest", .meth "Bench" "begin", .meth "Bench" "begin_rows", .meth "Bench" "work", .meth "Bench" "go", .meth "Bench" "put", .meth "Bench" "row", .meth "Bench" "rest", .meth "Bench" "looked"]
def fa_4 : List He.Fa := [.meth "Bench" "entries", .meth "Bench" "deeds", .exc "NoRoom", .exc "NoWork", .exc "NoCell", .exc "SlackError", .exm "NoRoom" "SlackError" true, .exm "NoWork" "SlackError" true, .exm "NoCell" "SlackError" true]
def fa : List He.Fa := fa_0 ++ fa_1 ++ fa_2 ++ fa_3 ++ fa_4
/-- BITS, isinstance of the three errors; the methods that RowsWork has from Work -/
def excB (K : PySem.W.Frag) (x : Str) : Bool :=
  He.eqO (PySem.W.findIn K (.ref (He.ga K x)) "__getattribute__") (some (some (.builtin "BaseException.__getattribute__"))) && (He.eqO (PySem.W.findIn K (.ref (He.ga K x)) "__getattr__") (some none) &&
  (decide (PySem.W.subIn K (.ref (He.ga K x)) (.type "BaseException") = some true) && (PySem.W.hasDictIn K (He.ga K x) && (He.eqO (PySem.W.findIn K (.ref (He.ga K x)) "__class__") (some (some (.builtin "object.__class__"))) &&
  (He.eqO (PySem.W.specialIn K (.builtin "object.__class__") "__get__") (some (some (.builtin "getset_descriptor.__get__"))) && (decide (PySem.W.takesIn K (.builtin "object.__class__") = some true) && decide (PySem.W.mroIn K (He.ga K x) (.type "object") = some true)))))))
def isB (K : PySem.W.Frag) (x y : Str) (b : Bool) : Bool := decide (PySem.W.kitOne K (.ref (He.ga K x)) (.ref (He.ga K y)) = some b)
def exNames : List Str := ["NoFigure", "NoLooks", "NoRoom", "NoRow", "NoTable", "NoText", "Spoilt", "NoMore", "NoWork", "NoCell", "NoDeed"]
def exB (K : PySem.W.Frag) : Bool := intsB K (He.ga K "BITS") [(2, 1), (4, 2), (8, 3), (16, 4)] && ((decide (He.ma K (He.ga K "RowsWork") "__init__" = He.ma K (He.ga K "Work") "__init__") && decide (He.ma K (He.ga K "RowsWork") "rest" = He.ma K (He.ga K "Work") "rest")) && (["NoRoom", "NoWork", "NoCell"] : List Str).all fun x => excB K x && (exNames.all (fun y => isB K x y (decide (x = y))) && decide (PySem.W.kitOne K (.ref (He.ga K x)) (.type "ValueError") = some true)))
structure Fx (K : PySem.W.Frag) (mg : Str → Option Value) : Prop where
  sd : He.SaysD fa fn K
  g : ∃ h : Heap, K.In h ∧ h.Ns mainGlobals mg
  ex : exB K = true
variable {K : PySem.W.Frag} {mg : Str → Option Value}
theorem Fx.g_half_of (T : Fx K mg) : mg "half_of" = some (.ref (He.ga K "half_of")) := by
  obtain ⟨h, X, G⟩ := T.g
  exact He.glo_ok X G (T.sd.fact 0 (f := .glo "half_of") rfl)
theorem Fx.g_is_whole (T : Fx K mg) : mg "is_whole" = some (.ref (He.ga K "is_whole")) := by
  obtain ⟨h, X, G⟩ := T.g
  exact He.glo_ok X G (T.sd.fact 1 (f := .glo "is_whole") rfl)
theorem Fx.g_bits_of (T : Fx K mg) : mg "bits_of" = some (.ref (He.ga K "bits_of")) := by
  obtain ⟨h, X, G⟩ := T.g
  exact He.glo_ok X G (T.sd.fact 2 (f := .glo "bits_of") rfl)
theorem Fx.g_entry (T : Fx K mg) : mg "entry" = some (.ref (He.ga K "entry")) := by
  obtain ⟨h, X, G⟩ := T.g
  exact He.glo_ok X G (T.sd.fact 3 (f := .glo "entry") rfl)
theorem Fx.g_cells_of (T : Fx K mg) : mg "cells_of" = some (.ref (He.ga K "cells_of")) := by
  obtain ⟨h, X, G⟩ := T.g
  exact He.glo_ok X G (T.sd.fact 4 (f := .glo "cells_of") rfl)
theorem Fx.g_serves (T : Fx K mg) : mg "serves" = some (.ref (He.ga K "serves")) := by
  obtain ⟨h, X, G⟩ := T.g
  exact He.glo_ok X G (T.sd.fact 5 (f := .glo "serves") rfl)
theorem Fx.g_worth (T : Fx K mg) : mg "worth" = some (.ref (He.ga K "worth")) := by
  obtain ⟨h, X, G⟩ := T.g
  exact He.glo_ok X G (T.sd.fact 6 (f := .glo "worth") rfl)
theorem Fx.g_has_room (T : Fx K mg) : mg "has_room" = some (.ref (He.ga K "has_room")) := by
  obtain ⟨h, X, G⟩ := T.g
  exact He.glo_ok X G (T.sd.fact 7 (f := .glo "has_room") rfl)
theorem Fx.g_scaled (T : Fx K mg) : mg "scaled" = some (.ref (He.ga K "scaled")) := by
  obtain ⟨h, X, G⟩ := T.g
  exact He.glo_ok X G (T.sd.fact 8 (f := .glo "scaled") rfl)
theorem Fx.g_pair_worth (T : Fx K mg) : mg "pair_worth" = some (.ref (He.ga K "pair_worth")) := by
  obtain ⟨h, X, G⟩ := T.g
  exact He.glo_ok X G (T.sd.fact 9 (f := .glo "pair_worth") rfl)
theorem Fx.g_look_of (T : Fx K mg) : mg "look_of" = some (.ref (He.ga K "look_of")) := by
  obtain ⟨h, X, G⟩ := T.g
  exact He.glo_ok X G (T.sd.fact 10 (f := .glo "look_of") rfl)
theorem Fx.g_three_in_two (T : Fx K mg) : mg "three_in_two" = some (.ref (He.ga K "three_in_two")) := by
  obtain ⟨h, X, G⟩ := T.g
  exact He.glo_ok X G (T.sd.fact 11 (f := .glo "three_in_two") rfl)
theorem Fx.g_width_for (T : Fx K mg) : mg "width_for" = some (.ref (He.ga K "width_for")) := by
  obtain ⟨h, X, G⟩ := T.g
  exact He.glo_ok X G (T.sd.fact 12 (f := .glo "width_for") rfl)
theorem Fx.g_begun (T : Fx K mg) : mg "begun" = some (.ref (He.ga K "begun")) := by
  obtain ⟨h, X, G⟩ := T.g
  exact He.glo_ok X G (T.sd.fact 13 (f := .glo "begun") rfl)
theorem Fx.g_stepped (T : Fx K mg) : mg "stepped" = some (.ref (He.ga K "stepped")) := by
  obtain ⟨h, X, G⟩ := T.g
  exact He.glo_ok X G (T.sd.fact 14 (f := .glo "stepped") rfl)
theorem Fx.g_law_deck (T : Fx K mg) : mg "_law_deck" = some (.ref (He.ga K "_law_deck")) := by
  obtain ⟨h, X, G⟩ := T.g
  exact He.glo_ok X G (T.sd.fact 15 (f := .glo "_law_deck") rfl)
theorem Fx.g_law_pick (T : Fx K mg) : mg "_law_pick" = some (.ref (He.ga K "_law_pick")) := by
  obtain ⟨h, X, G⟩ := T.g
  exact He.glo_ok X G (T.sd.fact 16 (f := .glo "_law_pick") rfl)
theorem Fx.g_law_great (T : Fx K mg) : mg "_law_great" = some (.ref (He.ga K "_law_great")) := by
  obtain ⟨h, X, G⟩ := T.g
  exact He.glo_ok X G (T.sd.fact 17 (f := .glo "_law_great") rfl)
theorem Fx.g_law_whole (T : Fx K mg) : mg "_law_whole" = some (.ref (He.ga K "_law_whole")) := by
  obtain ⟨h, X, G⟩ := T.g
  exact He.glo_ok X G (T.sd.fact 18 (f := .glo "_law_whole") rfl)
theorem Fx.g_law_name_of (T : Fx K mg) : mg "_law_name_of" = some (.ref (He.ga K "_law_name_of")) := by
  obtain ⟨h, X, G⟩ := T.g
  exact He.glo_ok X G (T.sd.fact 19 (f := .glo "_law_name_of") rfl)
theorem Fx.g_law_edges (T : Fx K mg) : mg "_law_edges" = some (.ref (He.ga K "_law_edges")) := by
  obtain ⟨h, X, G⟩ := T.g
  exact He.glo_ok X G (T.sd.fact 20 (f := .glo "_law_edges") rfl)
theorem Fx.g_law_met (T : Fx K mg) : mg "_law_met" = some (.ref (He.ga K "_law_met")) := by
  obtain ⟨h, X, G⟩ := T.g
  exact He.glo_ok X G (T.sd.fact 21 (f := .glo "_law_met") rfl)
theorem Fx.g_law_good (T : Fx K mg) : mg "_law_good" = some (.ref (He.ga K "_law_good")) := by
  obtain ⟨h, X, G⟩ := T.g
  exact He.glo_ok X G (T.sd.fact 22 (f := .glo "_law_good") rfl)
theorem Fx.g_law_half (T : Fx K mg) : mg "_law_half" = some (.ref (He.ga K "_law_half")) := by
  obtain ⟨h, X, G⟩ := T.g
  exact He.glo_ok X G (T.sd.fact 23 (f := .glo "_law_half") rfl)
theorem Fx.g_law_entry (T : Fx K mg) : mg "_law_entry" = some (.ref (He.ga K "_law_entry")) := by
  obtain ⟨h, X, G⟩ := T.g
  exact He.glo_ok X G (T.sd.fact 24 (f := .glo "_law_entry") rfl)
theorem Fx.g_law_set (T : Fx K mg) : mg "_law_set" = some (.ref (He.ga K "_law_set")) := by
  obtain ⟨h, X, G⟩ := T.g
  exact He.glo_ok X G (T.sd.fact 25 (f := .glo "_law_set") rfl)
theorem Fx.g_law_table (T : Fx K mg) : mg "_law_table" = some (.ref (He.ga K "_law_table")) := by
  obtain ⟨h, X, G⟩ := T.g
  exact He.glo_ok X G (T.sd.fact 26 (f := .glo "_law_table") rfl)
theorem Fx.g_law_spoilt (T : Fx K mg) : mg "_law_spoilt" = some (.ref (He.ga K "_law_spoilt")) := by
  obtain ⟨h, X, G⟩ := T.g
  exact He.glo_ok X G (T.sd.fact 27 (f := .glo "_law_spoilt") rfl)
theorem Fx.g_law_size (T : Fx K mg) : mg "_law_size" = some (.ref (He.ga K "_law_size")) := by
  obtain ⟨h, X, G⟩ := T.g
  exact He.glo_ok X G (T.sd.fact 28 (f := .glo "_law_size") rfl)
theorem Fx.g_law_room (T : Fx K mg) : mg "_law_room" = some (.ref (He.ga K "_law_room")) := by
  obtain ⟨h, X, G⟩ := T.g
  exact He.glo_ok X G (T.sd.fact 29 (f := .glo "_law_room") rfl)
theorem Fx.g_law_scaled (T : Fx K mg) : mg "_law_scaled" = some (.ref (He.ga K "_law_scaled")) := by
  obtain ⟨h, X, G⟩ := T.g
  exact He.glo_ok X G (T.sd.fact 30 (f := .glo "_law_scaled") rfl)
theorem Fx.g_law_worth (T : Fx K mg) : mg "_law_worth" = some (.ref (He.ga K "_law_worth")) := by
  obtain ⟨h, X, G⟩ := T.g
  exact He.glo_ok X G (T.sd.fact 31 (f := .glo "_law_worth") rfl)
theorem Fx.g_law_pair_worth (T : Fx K mg) : mg "_law_pair_worth" = some (.ref (He.ga K "_law_pair_worth")) := by
  obtain ⟨h, X, G⟩ := T.g
  exact He.glo_ok X G (T.sd.fact 32 (f := .glo "_law_pair_worth") rfl)
theorem Fx.g_law_step (T : Fx K mg) : mg "_law_step" = some (.ref (He.ga K "_law_step")) := by
  obtain ⟨h, X, G⟩ := T.g
  exact He.glo_ok X G (T.sd.fact 33 (f := .glo "_law_step") rfl)
theorem Fx.g_law_numbers (T : Fx K mg) : mg "_law_numbers" = some (.ref (He.ga K "_law_numbers")) := by
  obtain ⟨h, X, G⟩ := T.g
  exact He.glo_ok X G (T.sd.fact 34 (f := .glo "_law_numbers") rfl)
theorem Fx.g_law_bench (T : Fx K mg) : mg "_law_bench" = some (.ref (He.ga K "_law_bench")) := by
  obtain ⟨h, X, G⟩ := T.g
  exact He.glo_ok X G (T.sd.fact 35 (f := .glo "_law_bench") rfl)
theorem Fx.g_law_begun (T : Fx K mg) : mg "_law_begun" = some (.ref (He.ga K "_law_begun")) := by
  obtain ⟨h, X, G⟩ := T.g
  exact He.glo_ok X G (T.sd.fact 36 (f := .glo "_law_begun") rfl)
theorem Fx.g_law_looked (T : Fx K mg) : mg "_law_looked" = some (.ref (He.ga K "_law_looked")) := by
  obtain ⟨h, X, G⟩ := T.g
  exact He.glo_ok X G (T.sd.fact 37 (f := .glo "_law_looked") rfl)
theorem Fx.g_law_gone (T : Fx K mg) : mg "_law_gone" = some (.ref (He.ga K "_law_gone")) := by
  obtain ⟨h, X, G⟩ := T.g
  exact He.glo_ok X G (T.sd.fact 38 (f := .glo "_law_gone") rfl)
theorem Fx.g_law_put (T : Fx K mg) : mg "_law_put" = some (.ref (He.ga K "_law_put")) := by
  obtain ⟨h, X, G⟩ := T.g
  exact He.glo_ok X G (T.sd.fact 39 (f := .glo "_law_put") rfl)
theorem Fx.g_law_rest (T : Fx K mg) : mg "_law_rest" = some (.ref (He.ga K "_law_rest")) := by
  obtain ⟨h, X, G⟩ := T.g
  exact He.glo_ok X G (T.sd.fact 40 (f := .glo "_law_rest") rfl)
theorem Fx.g_law_due (T : Fx K mg) : mg "_law_due" = some (.ref (He.ga K "_law_due")) := by
  obtain ⟨h, X, G⟩ := T.g
  exact He.glo_ok X G (T.sd.fact 41 (f := .glo "_law_due") rfl)
theorem Fx.g_law_tried (T : Fx K mg) : mg "_law_tried" = some (.ref (He.ga K "_law_tried")) := by
  obtain ⟨h, X, G⟩ := T.g
  exact He.glo_ok X G (T.sd.fact 42 (f := .glo "_law_tried") rfl)
theorem Fx.g_law_deed_right (T : Fx K mg) : mg "_law_deed_right" = some (.ref (He.ga K "_law_deed_right")) := by
  obtain ⟨h, X, G⟩ := T.g
  exact He.glo_ok X G (T.sd.fact 43 (f := .glo "_law_deed_right") rfl)
theorem Fx.g_law_stands_right (T : Fx K mg) : mg "_law_stands_right" = some (.ref (He.ga K "_law_stands_right")) := by
  obtain ⟨h, X, G⟩ := T.g
  exact He.glo_ok X G (T.sd.fact 44 (f := .glo "_law_stands_right") rfl)
theorem Fx.g_law_deed (T : Fx K mg) : mg "_law_deed" = some (.ref (He.ga K "_law_deed")) := by
  obtain ⟨h, X, G⟩ := T.g
  exact He.glo_ok X G (T.sd.fact 45 (f := .glo "_law_deed") rfl)
theorem Fx.g_law (T : Fx K mg) : mg "law" = some (.ref (He.ga K "law")) := by
  obtain ⟨h, X, G⟩ := T.g
  exact He.glo_ok X G (T.sd.fact 46 (f := .glo "law") rfl)
theorem Fx.g_Work (T : Fx K mg) : mg "Work" = some (.ref (He.ga K "Work")) := by
  obtain ⟨h, X, G⟩ := T.g
  exact He.glo_ok X G (T.sd.fact 47 (f := .glo "Work") rfl)
theorem Fx.g_RowsWork (T : Fx K mg) : mg "RowsWork" = some (.ref (He.ga K "RowsWork")) := by
  obtain ⟨h, X, G⟩ := T.g
  exact He.glo_ok X G (T.sd.fact 48 (f := .glo "RowsWork") rfl)
theorem Fx.g_Bench (T : Fx K mg) : mg "Bench" = some (.ref (He.ga K "Bench")) := by
  obtain ⟨h, X, G⟩ := T.g
  exact He.glo_ok X G (T.sd.fact 49 (f := .glo "Bench") rfl)
theorem Fx.g_BITS (T : Fx K mg) : mg "BITS" = some (.ref (He.ga K "BITS")) := by
  obtain ⟨h, X, G⟩ := T.g
  exact He.glo_ok X G (T.sd.fact 50 (f := .glo "BITS") rfl)
theorem Fx.g_SlackError (T : Fx K mg) : mg "SlackError" = some (.ref (He.ga K "SlackError")) := by
  obtain ⟨h, X, G⟩ := T.g
  exact He.glo_ok X G (T.sd.fact 51 (f := .glo "SlackError") rfl)
theorem Fx.g_NoFigure (T : Fx K mg) : mg "NoFigure" = some (.ref (He.ga K "NoFigure")) := by
  obtain ⟨h, X, G⟩ := T.g
  exact He.glo_ok X G (T.sd.fact 52 (f := .glo "NoFigure") rfl)
theorem Fx.g_NoLooks (T : Fx K mg) : mg "NoLooks" = some (.ref (He.ga K "NoLooks")) := by
  obtain ⟨h, X, G⟩ := T.g
  exact He.glo_ok X G (T.sd.fact 53 (f := .glo "NoLooks") rfl)
theorem Fx.g_NoRoom (T : Fx K mg) : mg "NoRoom" = some (.ref (He.ga K "NoRoom")) := by
  obtain ⟨h, X, G⟩ := T.g
  exact He.glo_ok X G (T.sd.fact 54 (f := .glo "NoRoom") rfl)
theorem Fx.g_NoRow (T : Fx K mg) : mg "NoRow" = some (.ref (He.ga K "NoRow")) := by
  obtain ⟨h, X, G⟩ := T.g
  exact He.glo_ok X G (T.sd.fact 55 (f := .glo "NoRow") rfl)
theorem Fx.g_NoTable (T : Fx K mg) : mg "NoTable" = some (.ref (He.ga K "NoTable")) := by
  obtain ⟨h, X, G⟩ := T.g
  exact He.glo_ok X G (T.sd.fact 56 (f := .glo "NoTable") rfl)
theorem Fx.g_NoText (T : Fx K mg) : mg "NoText" = some (.ref (He.ga K "NoText")) := by
  obtain ⟨h, X, G⟩ := T.g
  exact He.glo_ok X G (T.sd.fact 57 (f := .glo "NoText") rfl)
theorem Fx.g_Spoilt (T : Fx K mg) : mg "Spoilt" = some (.ref (He.ga K "Spoilt")) := by
  obtain ⟨h, X, G⟩ := T.g
  exact He.glo_ok X G (T.sd.fact 58 (f := .glo "Spoilt") rfl)
theorem Fx.g_NoMore (T : Fx K mg) : mg "NoMore" = some (.ref (He.ga K "NoMore")) := by
  obtain ⟨h, X, G⟩ := T.g
  exact He.glo_ok X G (T.sd.fact 59 (f := .glo "NoMore") rfl)
theorem Fx.g_NoWork (T : Fx K mg) : mg "NoWork" = some (.ref (He.ga K "NoWork")) := by
  obtain ⟨h, X, G⟩ := T.g
  exact He.glo_ok X G (T.sd.fact 60 (f := .glo "NoWork") rfl)
theorem Fx.g_NoCell (T : Fx K mg) : mg "NoCell" = some (.ref (He.ga K "NoCell")) := by
  obtain ⟨h, X, G⟩ := T.g
  exact He.glo_ok X G (T.sd.fact 61 (f := .glo "NoCell") rfl)
theorem Fx.g_NoDeed (T : Fx K mg) : mg "NoDeed" = some (.ref (He.ga K "NoDeed")) := by
  obtain ⟨h, X, G⟩ := T.g
  exact He.glo_ok X G (T.sd.fact 62 (f := .glo "NoDeed") rfl)
theorem Fx.b_len (T : Fx K mg) : mg "len" = none := by
  obtain ⟨h, X, G⟩ := T.g
  exact He.free_ok X G (T.sd.fact 63 (f := .free "len") rfl)
theorem Fx.b_max (T : Fx K mg) : mg "max" = none := by
  obtain ⟨h, X, G⟩ := T.g
  exact He.free_ok X G (T.sd.fact 64 (f := .free "max") rfl)
theorem Fx.b_abs (T : Fx K mg) : mg "abs" = none := by
  obtain ⟨h, X, G⟩ := T.g
  exact He.free_ok X G (T.sd.fact 65 (f := .free "abs") rfl)
theorem Fx.b_range (T : Fx K mg) : mg "range" = none := by
  obtain ⟨h, X, G⟩ := T.g
  exact He.free_ok X G (T.sd.fact 66 (f := .free "range") rfl)
theorem Fx.b_isinstance (T : Fx K mg) : mg "isinstance" = none := by
  obtain ⟨h, X, G⟩ := T.g
  exact He.free_ok X G (T.sd.fact 67 (f := .free "isinstance") rfl)
theorem Fx.b_int (T : Fx K mg) : mg "int" = none := by
  obtain ⟨h, X, G⟩ := T.g
  exact He.free_ok X G (T.sd.fact 68 (f := .free "int") rfl)
theorem Fx.b_bool (T : Fx K mg) : mg "bool" = none := by
  obtain ⟨h, X, G⟩ := T.g
  exact He.free_ok X G (T.sd.fact 69 (f := .free "bool") rfl)
theorem Fx.b_str (T : Fx K mg) : mg "str" = none := by
  obtain ⟨h, X, G⟩ := T.g
  exact He.free_ok X G (T.sd.fact 70 (f := .free "str") rfl)
theorem Fx.b_tuple (T : Fx K mg) : mg "tuple" = none := by
  obtain ⟨h, X, G⟩ := T.g
  exact He.free_ok X G (T.sd.fact 71 (f := .free "tuple") rfl)
theorem Fx.b_list (T : Fx K mg) : mg "list" = none := by
  obtain ⟨h, X, G⟩ := T.g
  exact He.free_ok X G (T.sd.fact 72 (f := .free "list") rfl)
theorem Fx.b_zip (T : Fx K mg) : mg "zip" = none := by
  obtain ⟨h, X, G⟩ := T.g
  exact He.free_ok X G (T.sd.fact 73 (f := .free "zip") rfl)
theorem Fx.b_enumerate (T : Fx K mg) : mg "enumerate" = none := by
  obtain ⟨h, X, G⟩ := T.g
  exact He.free_ok X G (T.sd.fact 74 (f := .free "enumerate") rfl)
theorem Fx.b_sorted (T : Fx K mg) : mg "sorted" = none := by
  obtain ⟨h, X, G⟩ := T.g
  exact He.free_ok X G (T.sd.fact 75 (f := .free "sorted") rfl)
theorem Fx.b_min (T : Fx K mg) : mg "min" = none := by
  obtain ⟨h, X, G⟩ := T.g
  exact He.free_ok X G (T.sd.fact 76 (f := .free "min") rfl)
theorem Fx.b_ValueError (T : Fx K mg) : mg "ValueError" = none := by
  obtain ⟨h, X, G⟩ := T.g
  exact He.free_ok X G (T.sd.fact 77 (f := .free "ValueError") rfl)
theorem Fx.c_Work (T : Fx K mg) : Cls K (He.ga K "Work") := He.cls_ok (T.sd.fact 78 (f := .cls "Work") rfl)
theorem Fx.k_Work (T : Fx K mg) : Mk K (He.ga K "Work") (He.ma K (He.ga K "Work") "__init__") := He.mkr_ok (T.sd.fact 79 (f := .mkr "Work") rfl)
theorem Fx.n_Work_kind (T : Fx K mg) : NoAttr K (He.ga K "Work") "kind" := He.noat_ok (T.sd.fact 80 (f := .noat "Work" "kind") rfl)
theorem Fx.n_Work_looks (T : Fx K mg) : NoAttr K (He.ga K "Work") "looks" := He.noat_ok (T.sd.fact 81 (f := .noat "Work" "looks") rfl)
theorem Fx.n_Work_numbers (T : Fx K mg) : NoAttr K (He.ga K "Work") "numbers" := He.noat_ok (T.sd.fact 82 (f := .noat "Work" "numbers") rfl)
theorem Fx.n_Work_left (T : Fx K mg) : NoAttr K (He.ga K "Work") "left" := He.noat_ok (T.sd.fact 83 (f := .noat "Work" "left") rfl)
theorem Fx.n_Work_figures (T : Fx K mg) : NoAttr K (He.ga K "Work") "figures" := He.noat_ok (T.sd.fact 84 (f := .noat "Work" "figures") rfl)
theorem Fx.n_Work_wide (T : Fx K mg) : NoAttr K (He.ga K "Work") "wide" := He.noat_ok (T.sd.fact 85 (f := .noat "Work" "wide") rfl)
theorem Fx.n_Work_great (T : Fx K mg) : NoAttr K (He.ga K "Work") "great" := He.noat_ok (T.sd.fact 86 (f := .noat "Work" "great") rfl)
theorem Fx.n_Work_stand (T : Fx K mg) : NoAttr K (He.ga K "Work") "stand" := He.noat_ok (T.sd.fact 87 (f := .noat "Work" "stand") rfl)
theorem Fx.c_RowsWork (T : Fx K mg) : Cls K (He.ga K "RowsWork") := He.cls_ok (T.sd.fact 88 (f := .cls "RowsWork") rfl)
theorem Fx.k_RowsWork (T : Fx K mg) : Mk K (He.ga K "RowsWork") (He.ma K (He.ga K "RowsWork") "__init__") := He.mkr_ok (T.sd.fact 89 (f := .mkr "RowsWork") rfl)
theorem Fx.n_RowsWork_kind (T : Fx K mg) : NoAttr K (He.ga K "RowsWork") "kind" := He.noat_ok (T.sd.fact 90 (f := .noat "RowsWork" "kind") rfl)
theorem Fx.n_RowsWork_looks (T : Fx K mg) : NoAttr K (He.ga K "RowsWork") "looks" := He.noat_ok (T.sd.fact 91 (f := .noat "RowsWork" "looks") rfl)
theorem Fx.n_RowsWork_numbers (T : Fx K mg) : NoAttr K (He.ga K "RowsWork") "numbers" := He.noat_ok (T.sd.fact 92 (f := .noat "RowsWork" "numbers") rfl)
theorem Fx.n_RowsWork_left (T : Fx K mg) : NoAttr K (He.ga K "RowsWork") "left" := He.noat_ok (T.sd.fact 93 (f := .noat "RowsWork" "left") rfl)
theorem Fx.n_RowsWork_figures (T : Fx K mg) : NoAttr K (He.ga K "RowsWork") "figures" := He.noat_ok (T.sd.fact 94 (f := .noat "RowsWork" "figures") rfl)
theorem Fx.n_RowsWork_wide (T : Fx K mg) : NoAttr K (He.ga K "RowsWork") "wide" := He.noat_ok (T.sd.fact 95 (f := .noat "RowsWork" "wide") rfl)
theorem Fx.n_RowsWork_great (T : Fx K mg) : NoAttr K (He.ga K "RowsWork") "great" := He.noat_ok (T.sd.fact 96 (f := .noat "RowsWork" "great") rfl)
theorem Fx.n_RowsWork_stand (T : Fx K mg) : NoAttr K (He.ga K "RowsWork") "stand" := He.noat_ok (T.sd.fact 97 (f := .noat "RowsWork" "stand") rfl)
theorem Fx.c_Bench (T : Fx K mg) : Cls K (He.ga K "Bench") := He.cls_ok (T.sd.fact 98 (f := .cls "Bench") rfl)
theorem Fx.k_Bench (T : Fx K mg) : Mk K (He.ga K "Bench") (He.ma K (He.ga K "Bench") "__init__") := He.mkr_ok (T.sd.fact 99 (f := .mkr "Bench") rfl)
theorem Fx.n_Bench_kind (T : Fx K mg) : NoAttr K (He.ga K "Bench") "kind" := He.noat_ok (T.sd.fact 100 (f := .noat "Bench" "kind") rfl)
theorem Fx.n_Bench_looks (T : Fx K mg) : NoAttr K (He.ga K "Bench") "looks" := He.noat_ok (T.sd.fact 101 (f := .noat "Bench" "looks") rfl)
theorem Fx.n_Bench_rows (T : Fx K mg) : NoAttr K (He.ga K "Bench") "rows" := He.noat_ok (T.sd.fact 102 (f := .noat "Bench" "rows") rfl)
theorem Fx.n_Bench_works (T : Fx K mg) : NoAttr K (He.ga K "Bench") "works" := He.noat_ok (T.sd.fact 103 (f := .noat "Bench" "works") rfl)
theorem Fx.n_Bench_seen (T : Fx K mg) : NoAttr K (He.ga K "Bench") "seen" := He.noat_ok (T.sd.fact 104 (f := .noat "Bench" "seen") rfl)
theorem Fx.n_Bench_done (T : Fx K mg) : NoAttr K (He.ga K "Bench") "done" := He.noat_ok (T.sd.fact 105 (f := .noat "Bench" "done") rfl)
theorem Fx.m_Work_begin (T : Fx K mg) : Meth K (He.ga K "Work") "begin" (He.ma K (He.ga K "Work") "begin") := He.meth_ok (T.sd.fact 106 (f := .meth "Work" "begin") rfl)
theorem Fx.m_Work_tried (T : Fx K mg) : Meth K (He.ga K "Work") "tried" (He.ma K (He.ga K "Work") "tried") := He.meth_ok (T.sd.fact 107 (f := .meth "Work" "tried") rfl)
theorem Fx.m_Work_rest (T : Fx K mg) : Meth K (He.ga K "Work") "rest" (He.ma K (He.ga K "Work") "rest") := He.meth_ok (T.sd.fact 108 (f := .meth "Work" "rest") rfl)
theorem Fx.m_RowsWork_begin (T : Fx K mg) : Meth K (He.ga K "RowsWork") "begin" (He.ma K (He.ga K "RowsWork") "begin") := He.meth_ok (T.sd.fact 109 (f := .meth "RowsWork" "begin") rfl)
theorem Fx.m_RowsWork_tried (T : Fx K mg) : Meth K (He.ga K "RowsWork") "tried" (He.ma K (He.ga K "RowsWork") "tried") := He.meth_ok (T.sd.fact 110 (f := .meth "RowsWork" "tried") rfl)
theorem Fx.m_RowsWork_rest (T : Fx K mg) : Meth K (He.ga K "RowsWork") "rest" (He.ma K (He.ga K "RowsWork") "rest") := He.meth_ok (T.sd.fact 111 (f := .meth "RowsWork" "rest") rfl)
theorem Fx.m_Bench_begin (T : Fx K mg) : Meth K (He.ga K "Bench") "begin" (He.ma K (He.ga K "Bench") "begin") := He.meth_ok (T.sd.fact 112 (f := .meth "Bench" "begin") rfl)
theorem Fx.m_Bench_begin_rows (T : Fx K mg) : Meth K (He.ga K "Bench") "begin_rows" (He.ma K (He.ga K "Bench") "begin_rows") := He.meth_ok (T.sd.fact 113 (f := .meth "Bench" "begin_rows") rfl)
theorem Fx.m_Bench_work (T : Fx K mg) : Meth K (He.ga K "Bench") "work" (He.ma K (He.ga K "Bench") "work") := He.meth_ok (T.sd.fact 114 (f := .meth "Bench" "work") rfl)
theorem Fx.m_Bench_go (T : Fx K mg) : Meth K (He.ga K "Bench") "go" (He.ma K (He.ga K "Bench") "go") := He.meth_ok (T.sd.fact 115 (f := .meth "Bench" "go") rfl)
theorem Fx.m_Bench_put (T : Fx K mg) : Meth K (He.ga K "Bench") "put" (He.ma K (He.ga K "Bench") "put") := He.meth_ok (T.sd.fact 116 (f := .meth "Bench" "put") rfl)
theorem Fx.m_Bench_row (T : Fx K mg) : Meth K (He.ga K "Bench") "row" (He.ma K (He.ga K "Bench") "row") := He.meth_ok (T.sd.fact 117 (f := .meth "Bench" "row") rfl)
theorem Fx.m_Bench_rest (T : Fx K mg) : Meth K (He.ga K "Bench") "rest" (He.ma K (He.ga K "Bench") "rest") := He.meth_ok (T.sd.fact 118 (f := .meth "Bench" "rest") rfl)
theorem Fx.m_Bench_looked (T : Fx K mg) : Meth K (He.ga K "Bench") "looked" (He.ma K (He.ga K "Bench") "looked") := He.meth_ok (T.sd.fact 119 (f := .meth "Bench" "looked") rfl)
theorem Fx.m_Bench_entries (T : Fx K mg) : Meth K (He.ga K "Bench") "entries" (He.ma K (He.ga K "Bench") "entries") := He.meth_ok (T.sd.fact 120 (f := .meth "Bench" "entries") rfl)
theorem Fx.m_Bench_deeds (T : Fx K mg) : Meth K (He.ga K "Bench") "deeds" (He.ma K (He.ga K "Bench") "deeds") := He.meth_ok (T.sd.fact 121 (f := .meth "Bench" "deeds") rfl)
theorem Fx.x_NoRoom (T : Fx K mg) : PySem.W.excIn K (He.ga K "NoRoom") He.veBase "ValueError.__new__" = true ∧ PySem.W.keepIn K (.ref (He.ga K "NoRoom")) = true ∧ PySem.W.subIn K (.ref (He.ga K "NoRoom")) (.type "BaseException") = some true ∧ PySem.W.typeIn K (.ref (He.ga K "NoRoom")) = some (.type "type") := He.exc_ok (T.sd.fact 122 (f := .exc "NoRoom") rfl)
theorem Fx.x_NoWork (T : Fx K mg) : PySem.W.excIn K (He.ga K "NoWork") He.veBase "ValueError.__new__" = true ∧ PySem.W.keepIn K (.ref (He.ga K "NoWork")) = true ∧ PySem.W.subIn K (.ref (He.ga K "NoWork")) (.type "BaseException") = some true ∧ PySem.W.typeIn K (.ref (He.ga K "NoWork")) = some (.type "type") := He.exc_ok (T.sd.fact 123 (f := .exc "NoWork") rfl)
theorem Fx.x_NoCell (T : Fx K mg) : PySem.W.excIn K (He.ga K "NoCell") He.veBase "ValueError.__new__" = true ∧ PySem.W.keepIn K (.ref (He.ga K "NoCell")) = true ∧ PySem.W.subIn K (.ref (He.ga K "NoCell")) (.type "BaseException") = some true ∧ PySem.W.typeIn K (.ref (He.ga K "NoCell")) = some (.type "type") := He.exc_ok (T.sd.fact 124 (f := .exc "NoCell") rfl)
theorem Fx.x_SlackError (T : Fx K mg) : PySem.W.excIn K (He.ga K "SlackError") He.veBase "ValueError.__new__" = true ∧ PySem.W.keepIn K (.ref (He.ga K "SlackError")) = true ∧ PySem.W.subIn K (.ref (He.ga K "SlackError")) (.type "BaseException") = some true ∧ PySem.W.typeIn K (.ref (He.ga K "SlackError")) = some (.type "type") := He.exc_ok (T.sd.fact 125 (f := .exc "SlackError") rfl)
theorem Fx.y_NoRoom (T : Fx K mg) : PySem.W.exmOne K (.ref (He.ga K "NoRoom")) (.ref (He.ga K "SlackError")) = some true := He.exm_ok (T.sd.fact 126 (f := .exm "NoRoom" "SlackError" true) rfl)
theorem Fx.y_NoWork (T : Fx K mg) : PySem.W.exmOne K (.ref (He.ga K "NoWork")) (.ref (He.ga K "SlackError")) = some true := He.exm_ok (T.sd.fact 127 (f := .exm "NoWork" "SlackError" true) rfl)
theorem Fx.y_NoCell (T : Fx K mg) : PySem.W.exmOne K (.ref (He.ga K "NoCell")) (.ref (He.ga K "SlackError")) = some true := He.exm_ok (T.sd.fact 128 (f := .exm "NoCell" "SlackError" true) rfl)
theorem Fx.d_half_of (T : Fx K mg) : ∃ fd, FunD K "half_of" "half_of" (defArgs s_half_of) (defBody s_half_of) (defScope s_half_of) [] [] (He.ga K "half_of") fd := T.sd.def_ 0 (d := SF.d_half_of) rfl
theorem Fx.d_is_whole (T : Fx K mg) : ∃ fd, FunD K "is_whole" "is_whole" (defArgs s_is_whole) (defBody s_is_whole) (defScope s_is_whole) [] [] (He.ga K "is_whole") fd := T.sd.def_ 1 (d := SF.d_is_whole) rfl
theorem Fx.d_bits_of (T : Fx K mg) : ∃ fd, FunD K "bits_of" "bits_of" (defArgs s_bits_of) (defBody s_bits_of) (defScope s_bits_of) [] [] (He.ga K "bits_of") fd := T.sd.def_ 2 (d := SF.d_bits_of) rfl
theorem Fx.d_entry (T : Fx K mg) : ∃ fd, FunD K "entry" "entry" (defArgs s_entry) (defBody s_entry) (defScope s_entry) [] [] (He.ga K "entry") fd := T.sd.def_ 3 (d := SF.d_entry) rfl
theorem Fx.d_cells_of (T : Fx K mg) : ∃ fd, FunD K "cells_of" "cells_of" (defArgs s_cells_of) (defBody s_cells_of) (defScope s_cells_of) [] [] (He.ga K "cells_of") fd := T.sd.def_ 4 (d := SF.d_cells_of) rfl
theorem Fx.d_serves (T : Fx K mg) : ∃ fd, FunD K "serves" "serves" (defArgs s_serves) (defBody s_serves) (defScope s_serves) [] [] (He.ga K "serves") fd := T.sd.def_ 5 (d := SF.d_serves) rfl
theorem Fx.d_worth (T : Fx K mg) : ∃ fd, FunD K "worth" "worth" (defArgs s_worth) (defBody s_worth) (defScope s_worth) [] [] (He.ga K "worth") fd := T.sd.def_ 6 (d := SF.d_worth) rfl
theorem Fx.d_has_room (T : Fx K mg) : ∃ fd, FunD K "has_room" "has_room" (defArgs s_has_room) (defBody s_has_room) (defScope s_has_room) [] [] (He.ga K "has_room") fd := T.sd.def_ 7 (d := SF.d_has_room) rfl
theorem Fx.d_scaled (T : Fx K mg) : ∃ fd, FunD K "scaled" "scaled" (defArgs s_scaled) (defBody s_scaled) (defScope s_scaled) [] [] (He.ga K "scaled") fd := T.sd.def_ 8 (d := SF.d_scaled) rfl
theorem Fx.d_pair_worth (T : Fx K mg) : ∃ fd, FunD K "pair_worth" "pair_worth" (defArgs s_pair_worth) (defBody s_pair_worth) (defScope s_pair_worth) [] [] (He.ga K "pair_worth") fd := T.sd.def_ 9 (d := SF.d_pair_worth) rfl
theorem Fx.d_look_of (T : Fx K mg) : ∃ fd, FunD K "look_of" "look_of" (defArgs s_look_of) (defBody s_look_of) (defScope s_look_of) [] [] (He.ga K "look_of") fd := T.sd.def_ 10 (d := SF.d_look_of) rfl
theorem Fx.d_three_in_two (T : Fx K mg) : ∃ fd, FunD K "three_in_two" "three_in_two" (defArgs s_three_in_two) (defBody s_three_in_two) (defScope s_three_in_two) [] [] (He.ga K "three_in_two") fd := T.sd.def_ 11 (d := SF.d_three_in_two) rfl
theorem Fx.d_width_for (T : Fx K mg) : ∃ fd, FunD K "width_for" "width_for" (defArgs s_width_for) (defBody s_width_for) (defScope s_width_for) [] [] (He.ga K "width_for") fd := T.sd.def_ 12 (d := SF.d_width_for) rfl
theorem Fx.d_begun (T : Fx K mg) : ∃ fd, FunD K "begun" "begun" (defArgs s_begun) (defBody s_begun) (defScope s_begun) [] [] (He.ga K "begun") fd := T.sd.def_ 13 (d := SF.d_begun) rfl
theorem Fx.d_stepped (T : Fx K mg) : ∃ fd, FunD K "stepped" "stepped" (defArgs s_stepped) (defBody s_stepped) (defScope s_stepped) [] [] (He.ga K "stepped") fd := T.sd.def_ 14 (d := SF.d_stepped) rfl
theorem Fx.d_law_deck (T : Fx K mg) : ∃ fd, FunD K "_law_deck" "_law_deck" (defArgs s_law_deck) (defBody s_law_deck) (defScope s_law_deck) [] [] (He.ga K "_law_deck") fd := T.sd.def_ 15 (d := SF.d_law_deck) rfl
theorem Fx.d_law_pick (T : Fx K mg) : ∃ fd, FunD K "_law_pick" "_law_pick" (defArgs s_law_pick) (defBody s_law_pick) (defScope s_law_pick) [] [] (He.ga K "_law_pick") fd := T.sd.def_ 16 (d := SF.d_law_pick) rfl
theorem Fx.d_law_great (T : Fx K mg) : ∃ fd, FunD K "_law_great" "_law_great" (defArgs s_law_great) (defBody s_law_great) (defScope s_law_great) [] [] (He.ga K "_law_great") fd := T.sd.def_ 17 (d := SF.d_law_great) rfl
theorem Fx.d_law_whole (T : Fx K mg) : ∃ fd, FunD K "_law_whole" "_law_whole" (defArgs s_law_whole) (defBody s_law_whole) (defScope s_law_whole) [] [] (He.ga K "_law_whole") fd := T.sd.def_ 18 (d := SF.d_law_whole) rfl
theorem Fx.d_law_name_of (T : Fx K mg) : ∃ fd, FunD K "_law_name_of" "_law_name_of" (defArgs s_law_name_of) (defBody s_law_name_of) (defScope s_law_name_of) [] [] (He.ga K "_law_name_of") fd := T.sd.def_ 19 (d := SF.d_law_name_of) rfl
theorem Fx.d_law_edges (T : Fx K mg) : ∃ fd, FunD K "_law_edges" "_law_edges" (defArgs s_law_edges) (defBody s_law_edges) (defScope s_law_edges) [] [] (He.ga K "_law_edges") fd := T.sd.def_ 20 (d := SF.d_law_edges) rfl
theorem Fx.d_law_met (T : Fx K mg) : ∃ fd, FunD K "_law_met" "_law_met" (defArgs s_law_met) (defBody s_law_met) (defScope s_law_met) [] [] (He.ga K "_law_met") fd := T.sd.def_ 21 (d := SF.d_law_met) rfl
theorem Fx.d_law_good (T : Fx K mg) : ∃ fd, FunD K "_law_good" "_law_good" (defArgs s_law_good) (defBody s_law_good) (defScope s_law_good) [] [] (He.ga K "_law_good") fd := T.sd.def_ 22 (d := SF.d_law_good) rfl
theorem Fx.d_law_half (T : Fx K mg) : ∃ fd, FunD K "_law_half" "_law_half" (defArgs s_law_half) (defBody s_law_half) (defScope s_law_half) [] [] (He.ga K "_law_half") fd := T.sd.def_ 23 (d := SF.d_law_half) rfl
theorem Fx.d_law_entry (T : Fx K mg) : ∃ fd, FunD K "_law_entry" "_law_entry" (defArgs s_law_entry) (defBody s_law_entry) (defScope s_law_entry) [] [] (He.ga K "_law_entry") fd := T.sd.def_ 24 (d := SF.d_law_entry) rfl
theorem Fx.d_law_set (T : Fx K mg) : ∃ fd, FunD K "_law_set" "_law_set" (defArgs s_law_set) (defBody s_law_set) (defScope s_law_set) [] [] (He.ga K "_law_set") fd := T.sd.def_ 25 (d := SF.d_law_set) rfl
theorem Fx.d_law_table (T : Fx K mg) : ∃ fd, FunD K "_law_table" "_law_table" (defArgs s_law_table) (defBody s_law_table) (defScope s_law_table) [] [] (He.ga K "_law_table") fd := T.sd.def_ 26 (d := SF.d_law_table) rfl
theorem Fx.d_law_spoilt (T : Fx K mg) : ∃ fd, FunD K "_law_spoilt" "_law_spoilt" (defArgs s_law_spoilt) (defBody s_law_spoilt) (defScope s_law_spoilt) [] [] (He.ga K "_law_spoilt") fd := T.sd.def_ 27 (d := SF.d_law_spoilt) rfl
theorem Fx.d_law_size (T : Fx K mg) : ∃ fd, FunD K "_law_size" "_law_size" (defArgs s_law_size) (defBody s_law_size) (defScope s_law_size) [] [] (He.ga K "_law_size") fd := T.sd.def_ 28 (d := SF.d_law_size) rfl
theorem Fx.d_law_room (T : Fx K mg) : ∃ fd, FunD K "_law_room" "_law_room" (defArgs s_law_room) (defBody s_law_room) (defScope s_law_room) [] [] (He.ga K "_law_room") fd := T.sd.def_ 29 (d := SF.d_law_room) rfl
theorem Fx.d_law_scaled (T : Fx K mg) : ∃ fd, FunD K "_law_scaled" "_law_scaled" (defArgs s_law_scaled) (defBody s_law_scaled) (defScope s_law_scaled) [] [] (He.ga K "_law_scaled") fd := T.sd.def_ 30 (d := SF.d_law_scaled) rfl
theorem Fx.d_law_worth (T : Fx K mg) : ∃ fd, FunD K "_law_worth" "_law_worth" (defArgs s_law_worth) (defBody s_law_worth) (defScope s_law_worth) [] [] (He.ga K "_law_worth") fd := T.sd.def_ 31 (d := SF.d_law_worth) rfl
theorem Fx.d_law_pair_worth (T : Fx K mg) : ∃ fd, FunD K "_law_pair_worth" "_law_pair_worth" (defArgs s_law_pair_worth) (defBody s_law_pair_worth) (defScope s_law_pair_worth) [] [] (He.ga K "_law_pair_worth") fd := T.sd.def_ 32 (d := SF.d_law_pair_worth) rfl
theorem Fx.d_law_step (T : Fx K mg) : ∃ fd, FunD K "_law_step" "_law_step" (defArgs s_law_step) (defBody s_law_step) (defScope s_law_step) [] [] (He.ga K "_law_step") fd := T.sd.def_ 33 (d := SF.d_law_step) rfl
theorem Fx.d_law_numbers (T : Fx K mg) : ∃ fd, FunD K "_law_numbers" "_law_numbers" (defArgs s_law_numbers) (defBody s_law_numbers) (defScope s_law_numbers) [] [] (He.ga K "_law_numbers") fd := T.sd.def_ 34 (d := SF.d_law_numbers) rfl
theorem Fx.d_law_bench (T : Fx K mg) : ∃ fd, FunD K "_law_bench" "_law_bench" (defArgs s_law_bench) (defBody s_law_bench) (defScope s_law_bench) [] [] (He.ga K "_law_bench") fd := T.sd.def_ 35 (d := SF.d_law_bench) rfl
theorem Fx.d_law_begun (T : Fx K mg) : ∃ fd, FunD K "_law_begun" "_law_begun" (defArgs s_law_begun) (defBody s_law_begun) (defScope s_law_begun) [] [] (He.ga K "_law_begun") fd := T.sd.def_ 36 (d := SF.d_law_begun) rfl
theorem Fx.d_law_looked (T : Fx K mg) : ∃ fd, FunD K "_law_looked" "_law_looked" (defArgs s_law_looked) (defBody s_law_looked) (defScope s_law_looked) [] [] (He.ga K "_law_looked") fd := T.sd.def_ 37 (d := SF.d_law_looked) rfl
theorem Fx.d_law_gone (T : Fx K mg) : ∃ fd, FunD K "_law_gone" "_law_gone" (defArgs s_law_gone) (defBody s_law_gone) (defScope s_law_gone) [] [] (He.ga K "_law_gone") fd := T.sd.def_ 38 (d := SF.d_law_gone) rfl
theorem Fx.d_law_put (T : Fx K mg) : ∃ fd, FunD K "_law_put" "_law_put" (defArgs s_law_put) (defBody s_law_put) (defScope s_law_put) [] [] (He.ga K "_law_put") fd := T.sd.def_ 39 (d := SF.d_law_put) rfl
theorem Fx.d_law_rest (T : Fx K mg) : ∃ fd, FunD K "_law_rest" "_law_rest" (defArgs s_law_rest) (defBody s_law_rest) (defScope s_law_rest) [] [] (He.ga K "_law_rest") fd := T.sd.def_ 40 (d := SF.d_law_rest) rfl
theorem Fx.d_law_due (T : Fx K mg) : ∃ fd, FunD K "_law_due" "_law_due" (defArgs s_law_due) (defBody s_law_due) (defScope s_law_due) [] [] (He.ga K "_law_due") fd := T.sd.def_ 41 (d := SF.d_law_due) rfl
theorem Fx.d_law_tried (T : Fx K mg) : ∃ fd, FunD K "_law_tried" "_law_tried" (defArgs s_law_tried) (defBody s_law_tried) (defScope s_law_tried) [] [] (He.ga K "_law_tried") fd := T.sd.def_ 42 (d := SF.d_law_tried) rfl
theorem Fx.d_law_deed_right (T : Fx K mg) : ∃ fd, FunD K "_law_deed_right" "_law_deed_right" (defArgs s_law_deed_right) (defBody s_law_deed_right) (defScope s_law_deed_right) [] [] (He.ga K "_law_deed_right") fd := T.sd.def_ 43 (d := SF.d_law_deed_right) rfl
theorem Fx.d_law_stands_right (T : Fx K mg) : ∃ fd, FunD K "_law_stands_right" "_law_stands_right" (defArgs s_law_stands_right) (defBody s_law_stands_right) (defScope s_law_stands_right) [] [] (He.ga K "_law_stands_right") fd := T.sd.def_ 44 (d := SF.d_law_stands_right) rfl
theorem Fx.d_law_deed (T : Fx K mg) : ∃ fd, FunD K "_law_deed" "_law_deed" (defArgs s_law_deed) (defBody s_law_deed) (defScope s_law_deed) [] [] (He.ga K "_law_deed") fd := T.sd.def_ 45 (d := SF.d_law_deed) rfl
theorem Fx.d_law (T : Fx K mg) : ∃ fd, FunD K "law" "law" (defArgs s_law) (defBody s_law) (defScope s_law) [] [] (He.ga K "law") fd := T.sd.def_ 46 (d := SF.d_law) rfl
theorem Fx.d_Work_init (T : Fx K mg) : ∃ fd, FunD K "__init__" "Work.__init__" (defArgs s_Work_init) (defBody s_Work_init) (defScope s_Work_init) [] [] (He.ma K (He.ga K "Work") "__init__") fd := T.sd.def_ 47 (d := SF.d_Work_init) rfl
theorem Fx.d_Work_begin (T : Fx K mg) : ∃ fd, FunD K "begin" "Work.begin" (defArgs s_Work_begin) (defBody s_Work_begin) (defScope s_Work_begin) [] [] (He.ma K (He.ga K "Work") "begin") fd := T.sd.def_ 48 (d := SF.d_Work_begin) rfl
theorem Fx.d_Work_tried (T : Fx K mg) : ∃ fd, FunD K "tried" "Work.tried" (defArgs s_Work_tried) (defBody s_Work_tried) (defScope s_Work_tried) [] [] (He.ma K (He.ga K "Work") "tried") fd := T.sd.def_ 49 (d := SF.d_Work_tried) rfl
theorem Fx.d_Work_rest (T : Fx K mg) : ∃ fd, FunD K "rest" "Work.rest" (defArgs s_Work_rest) (defBody s_Work_rest) (defScope s_Work_rest) [] [] (He.ma K (He.ga K "Work") "rest") fd := T.sd.def_ 50 (d := SF.d_Work_rest) rfl
theorem Fx.d_RowsWork_begin (T : Fx K mg) : ∃ fd, FunD K "begin" "RowsWork.begin" (defArgs s_RowsWork_begin) (defBody s_RowsWork_begin) (defScope s_RowsWork_begin) [] [] (He.ma K (He.ga K "RowsWork") "begin") fd := T.sd.def_ 51 (d := SF.d_RowsWork_begin) rfl
theorem Fx.d_RowsWork_tried (T : Fx K mg) : ∃ fd, FunD K "tried" "RowsWork.tried" (defArgs s_RowsWork_tried) (defBody s_RowsWork_tried) (defScope s_RowsWork_tried) [] [] (He.ma K (He.ga K "RowsWork") "tried") fd := T.sd.def_ 52 (d := SF.d_RowsWork_tried) rfl
theorem Fx.d_Bench_init (T : Fx K mg) : ∃ fd, FunD K "__init__" "Bench.__init__" (defArgs s_Bench_init) (defBody s_Bench_init) (defScope s_Bench_init) [] [] (He.ma K (He.ga K "Bench") "__init__") fd := T.sd.def_ 53 (d := SF.d_Bench_init) rfl
theorem Fx.d_Bench_begin (T : Fx K mg) : ∃ fd, FunD K "begin" "Bench.begin" (defArgs s_Bench_begin) (defBody s_Bench_begin) (defScope s_Bench_begin) [] [] (He.ma K (He.ga K "Bench") "begin") fd := T.sd.def_ 54 (d := SF.d_Bench_begin) rfl
theorem Fx.d_Bench_begin_rows (T : Fx K mg) : ∃ fd, FunD K "begin_rows" "Bench.begin_rows" (defArgs s_Bench_begin_rows) (defBody s_Bench_begin_rows) (defScope s_Bench_begin_rows) [] [] (He.ma K (He.ga K "Bench") "begin_rows") fd := T.sd.def_ 55 (d := SF.d_Bench_begin_rows) rfl
theorem Fx.d_Bench_work (T : Fx K mg) : ∃ fd, FunD K "work" "Bench.work" (defArgs s_Bench_work) (defBody s_Bench_work) (defScope s_Bench_work) [] [] (He.ma K (He.ga K "Bench") "work") fd := T.sd.def_ 56 (d := SF.d_Bench_work) rfl
theorem Fx.d_Bench_go (T : Fx K mg) : ∃ fd, FunD K "go" "Bench.go" (defArgs s_Bench_go) (defBody s_Bench_go) (defScope s_Bench_go) [] [] (He.ma K (He.ga K "Bench") "go") fd := T.sd.def_ 57 (d := SF.d_Bench_go) rfl
theorem Fx.d_Bench_put (T : Fx K mg) : ∃ fd, FunD K "put" "Bench.put" (defArgs s_Bench_put) (defBody s_Bench_put) (defScope s_Bench_put) [] [] (He.ma K (He.ga K "Bench") "put") fd := T.sd.def_ 58 (d := SF.d_Bench_put) rfl
theorem Fx.d_Bench_row (T : Fx K mg) : ∃ fd, FunD K "row" "Bench.row" (defArgs s_Bench_row) (defBody s_Bench_row) (defScope s_Bench_row) [] [] (He.ma K (He.ga K "Bench") "row") fd := T.sd.def_ 59 (d := SF.d_Bench_row) rfl
theorem Fx.d_Bench_rest (T : Fx K mg) : ∃ fd, FunD K "rest" "Bench.rest" (defArgs s_Bench_rest) (defBody s_Bench_rest) (defScope s_Bench_rest) [] [] (He.ma K (He.ga K "Bench") "rest") fd := T.sd.def_ 60 (d := SF.d_Bench_rest) rfl
theorem Fx.d_Bench_looked (T : Fx K mg) : ∃ fd, FunD K "looked" "Bench.looked" (defArgs s_Bench_looked) (defBody s_Bench_looked) (defScope s_Bench_looked) [] [] (He.ma K (He.ga K "Bench") "looked") fd := T.sd.def_ 61 (d := SF.d_Bench_looked) rfl
theorem Fx.d_Bench_entries (T : Fx K mg) : ∃ fd, FunD K "entries" "Bench.entries" (defArgs s_Bench_entries) (defBody s_Bench_entries) (defScope s_Bench_entries) [] [] (He.ma K (He.ga K "Bench") "entries") fd := T.sd.def_ 62 (d := SF.d_Bench_entries) rfl
theorem Fx.d_Bench_deeds (T : Fx K mg) : ∃ fd, FunD K "deeds" "Bench.deeds" (defArgs s_Bench_deeds) (defBody s_Bench_deeds) (defScope s_Bench_deeds) [] [] (He.ma K (He.ga K "Bench") "deeds") fd := T.sd.def_ 63 (d := SF.d_Bench_deeds) rfl
end SF
end
section
set_option Elab.async false
set_option linter.all false
set_option maxRecDepth 100000
set_option maxHeartbeats 0
namespace SF
open PySem PySem.Spec PyProof.Rows L2
/-! ### the head: facts of the start's heap, by one more Bool -/
abbrev AlB : Type := He.AlD × Bool
/-- what the module's names reach: the functions and their code, the classes, what stands in these, its code -/
def refAt (g : Addr → Option Obj) (a : Addr) : List Addr := match g a with
  | some o => He.refsD o
  | none => []
def dicAt (g : Addr → Option Obj) (a : Addr) : List Addr := match g a with
  | some ⟨_, _, .dict es _, _⟩ => es.toList.flatMap fun e => He.refV e.val
  | _ => []
def asP (g : Addr → Option Obj) : List Addr := mainGlobals :: (refAt g mainGlobals).flatMap fun a => a :: (refAt g a).flatMap fun b => b :: (dicAt g b).flatMap fun c => c :: refAt g c
def obsB (ex : PySem.W.Frag → Bool) (fa : List He.Fa) (fn : List He.DefD) (g : Addr → Option Obj) : AlB := (He.obsD fa fn (He.frG g (asP g)), ex (He.frG g (asP g)))
def hookB (ex : PySem.W.Frag → Bool) (fa : List He.Fa) (fn : List He.DefD) : PySem.W.Hook where
  α := AlB
  obs := fun s => obsB ex fa fn s.heap.get?
  val := fun _ => (He.valD fn, true)
  says := fun _ h => ∃ K : PySem.W.Frag, K.In h ∧ He.SaysD fa fn K ∧ ex K = true
  of := fun _ _ e => ⟨_, He.frG_in, congrArg (fun z : AlB => z.1) e, congrArg (fun z : AlB => z.2) e⟩
  keeps := fun _ _ _ ⟨K, hK, c⟩ k => ⟨K, PySem.W.Frag.In.keeps hK k, c⟩
theorem obsB_eq {ex : PySem.W.Frag → Bool} {fa : List He.Fa} {fn : List He.DefD} {g : Addr → Option Obj} {s : Shared} (h : ∀ a, g a = s.heap.get? a) : obsB ex fa fn g = (hookB ex fa fn).obs s := by
  have e : g = s.heap.get? := funext h
  rw [e] <;> rfl
def loose_0 : List PySem.Str := ["_wall", "half_of", "SlackError", "NoFigure", "NoTable", "NoLooks", "NoRoom", "Spoilt", "NoText", "NoRow", "NoMore", "NoWork", "NoCell", "NoDeed", "BITS", "is_whole", "bits_of", "entry", "cells_of", "serves", "worth", "has_room", "scaled", "pair_worth", "look_of", "three_in_two", "width_for", "begun", "stepped", "Work"]
def loose_1 : List PySem.Str := ["RowsWork", "Bench", "_law_deck", "_law_pick", "_law_great", "_law_whole", "_law_name_of", "_law_edges", "_law_met", "_law_good", "_law_half", "_law_entry", "_law_set", "_law_table", "_law_spoilt", "_law_size", "_law_room", "_law_scaled", "_law_worth", "_law_pair_worth", "_law_step", "_law_numbers", "_law_bench", "_law_begun", "_law_looked", "_law_gone", "_law_put", "_law_rest", "_law_due", "_law_tried"]
def loose_2 : List PySem.Str := ["_law_deed_right", "_law_stands_right", "_law_deed"]
def loose : List PySem.Str := loose_0 ++ loose_1 ++ loose_2
abbrev R : PySem.W.OpenRow := PySem.W.OpenLaw.row PySem.Challenge.rw_slackfigures_k41_whole_benches
abbrev hk : PySem.W.Hook := hookB exB fa fn
def ob (s : PySem.W.SharedT) : AlB := obsB exB fa fn (HandSHeadRun.getT s)
theorem ob_eq (s : PySem.W.SharedT) : ob s = hk.obs s.abs := obsB_eq (HandSHeadRun.getT_eq s)
theorem run0 (w : World) : HandSHeadRun.RunEq R (PySem.W.view R.prog [74]) hk ob 6000 loose (w.withFollow "special-get-raises" false) := by
  intro os
  kernel_rfl
theorem run1 (w : World) : HandSHeadRun.RunEq R (PySem.W.view R.prog [74]) hk ob 6000 loose (w.withFollow "special-get-raises" true) := by
  intro os
  kernel_rfl
theorem run (w : World) : HandSHeadRun.RunEq R (PySem.W.view R.prog [74]) hk ob 6000 loose w :=
  PySem.W.byRow2 "special-get-raises" (P := fun w => HandSHeadRun.RunEq R (PySem.W.view R.prog [74]) hk ob 6000 loose w) run0 run1 w
end SF
end
section
set_option Elab.async false
set_option linter.all false
set_option maxRecDepth 100000
set_option maxHeartbeats 4000000
namespace SF
open PySem PySem.Spec PyProof.Rows L2 HotX L2H
abbrev Stop (h : Heap) (e : Addr) : Prop := ∃ o, h.get? e = some o ∧ o.cls = .type "StopIteration"
section
variable {prog : Program} {w : World} {A : Around} {E : Value → Shared → Prop} {s : Shared} {x1 : Addr}
/-- a new StopIteration is raised while x1 is handled -/
theorem stopHot {α : Type} {Q : α → Shared → Prop} (hot : HotAt A x1 s.heap) (hE : ∀ h' e, (∀ b o, s.heap.get? b = some o → h'.get? b = some o) → Stop h' e → E (.ref e) { s with heap := h' }) :
    wpAny (model prog w) A ((newExc (.type "StopIteration") [] >>= fun e => raiseNew e) : Sem α) Q E s := by
  obtain ⟨hh, o1, vs1, h1, d1, c1⟩ := hot
  refine wpAny_bind ?_
  simp only [newExc, newTuple]
  refine wpAny_bind (wpAny_newObj_type ?_ (by size_fits))
  refine wpAny_bind (m := firstArgMember _ _) (wpAny_of_eq (a := Value.none) (by first | rfl | (simp only [firstArgMember]; rfl)) (wpAny_newObj_type ?_ (by size_fits)))
  have k1 := Heap.get?_push_of_some { cls := .type "tuple", data := .seq ([] : List Value).toArray } h1
  refine raiseNew_hot ⟨hh, o1, vs1, Heap.get?_push_of_some _ k1, d1, c1⟩ (Nat.ne_of_lt (Heap.lt_size k1)) (Heap.get?_push_size _ rfl) rfl (by first | (simp; done) | (simp; omega) | (simp only [Array.size_append]; simp; omega)) (hE _ _ (fun b o e => ?_) ⟨_, Heap.get?_update_self _ (Heap.get?_push_size _ rfl) rfl, rfl⟩)
  have k2 := Heap.get?_push_of_some { cls := .type "tuple", data := .seq ([] : List Value).toArray } e
  rw [Heap.get?_update_other _ _ (Nat.ne_of_gt (Heap.lt_size k2))]
  exact Heap.get?_push_of_some _ k2
theorem hotAt_keep {h h' : Heap} (hot : HotAt A x1 h) (k : ∀ o, h.get? x1 = some o → h'.get? x1 = some o) : HotAt A x1 h' := by
  obtain ⟨hh, o1, vs1, h1, d1, c1⟩ := hot
  exact ⟨hh, o1, vs1, k _ h1, d1, c1⟩
/-- the next of a tuple's iterator at its end -/
theorem tupEndHot {it t : Addr} {i : Nat} {items} {Q : Option Value → Shared → Prop} (hot : HotAt A x1 s.heap) (hx1 : x1 ≠ it) (hit : IsTupIter s.heap it t i) (ht : IsTup s.heap t items) (hx : items[i]? = none)
    (hQ : ∀ h', Heap.ExtBut it s.heap h' → Q none { s with heap := h' }) : wpAny (model prog w) A (pyNext (.ref it)) Q E s := by
  obtain ⟨o, ho, hc, hd⟩ := id hit
  obtain ⟨ol, hol, _, nl, hdl⟩ := ht
  unfold pyNext
  refine wpAny_bind (wpAny_attempt (wpAny_callSpecial?_slot (name := Str.ofString "__next__") ⟨o, ho, hc⟩ PySem.F.slot_tuple_iterator_next (wpAny_call_entry PySem.F.slot_tuple_iterator_next ⟨o, ho, hc⟩ PySem.F.entry_tuple_iterator_next ?_ (PySem.F.args_tuple_iterator_next_1 _))))
  show wpAny _ _ (field (.ref it) 0 >>= _) _ _ s
  refine wpAny_bind (wpAny_field ho hd (x := .ref t) rfl ?_)
  show wpAny _ _ (if (Value.ref t == Value.none) = true then _ else _) _ _ s
  rw [if_neg (show ¬ ((Value.ref t == Value.none) = true) from Bool.false_ne_true)]
  show wpAny _ _ (field (.ref it) 1 >>= _) _ _ s
  refine wpAny_bind (wpAny_field ho hd (x := .int i 0) rfl ?_)
  show wpAny _ _ (seqItems? (.ref t) >>= _) _ _ s
  refine wpAny_bind (wpAny_seqItems hol hdl ?_)
  simp only [Int.toNat_natCast, hx]
  refine wpAny_bind (wpAny_rule (wpAny_bind (wpAny_setField ho hd (by simp) ?_)))
  refine stopHot (hotAt_keep (A := A.in1) hot fun o' e => ?_) fun h' e k st => ?_
  · show (s.heap.update it _).get? x1 = some o'
    rw [Heap.get?_update_other _ _ hx1.symm]
    exact e
  · refine wpAny_bind (wpAny_isInstance (T := "StopIteration") (b := true) st isSubtype_stop (wpAny_pure (hQ _ fun b o' hb e' => k b o' ?_)))
    show (s.heap.update it _).get? b = some o'
    rw [Heap.get?_update_other _ _ (fun z => hb z.symm)]
    exact e'
theorem unpackHot {t : Addr} {items : Array Value} {Q : List Value → Shared → Prop} (hot : HotAt A x1 s.heap) (ht : IsTup s.heap t items)
    (hQ : ∀ h', Heap.ExtBut s.heap.objs.size s.heap h' → Q items.toList { s with heap := h' }) : wpAny (model prog w) A (unpackItems (.ref t) items.size none) Q E s := by
  have lt : t ≠ s.heap.objs.size := by
    obtain ⟨o, ho, _⟩ := ht
    exact Nat.ne_of_lt (Heap.lt_size ho)
  have lx : x1 ≠ s.heap.objs.size := by
    obtain ⟨_, o, _, ho, _⟩ := hot
    exact Nat.ne_of_lt (Heap.lt_size ho)
  unfold unpackItems
  refine wpAny_bind ?_
  unfold notIterableAtAll
  refine wpAny_bind (wpAny_specialOf ht.typeIs slot_tuple_iter.lookup (wpAny_pure ?_))
  simp only [Bool.false_eq_true, if_false]
  refine wpAny_bind (wpAny_holding (iter_tuple ht (wpAny_bind (wpAny_holding (draw_tuple lt items.size 0 _ _ ⟨_, Heap.get?_push_size _ rfl, rfl, rfl⟩ (ht.push _) (by omega) fun h1 it1 sb1 => ?_)))))
  have hall : List.take items.size (List.drop 0 items.toList) = items.toList := (congrArg (List.take items.size) List.drop_zero).trans (List.take_of_length_le (by simp))
  rw [hall, if_neg (by simp)]
  have k1 : ∀ b o, b ≠ s.heap.objs.size → s.heap.get? b = some o → h1.get? b = some o := fun b o hb e => sb1.extBut b o hb (Heap.get?_push_of_some _ e)
  refine wpAny_bind (wpAny_holding (tupEndHot (hotAt_keep (h' := h1) hot fun o e => k1 _ o lx e) lx it1 ((ht.push _).extBut sb1.extBut lt) (by simp) fun h2 e2 => ?_))
  simp only [Option.isSome_none, Bool.false_eq_true, if_false]
  exact wpAny_pure (hQ h2 fun b o hb e => e2 b o hb (k1 b o hb e))
/-- a list's iterator at its end -/
theorem listEndHot {it l : Addr} {i : Nat} {items} {Q : Value → Shared → Prop} (hot : HotAt A x1 s.heap) (hx1 : x1 ≠ it) (hit : s.heap.IsListIter it l i) (hl : s.heap.IsList l items) (hx : items[i]? = none)
    (hE : ∀ h' e, Heap.ExtBut it s.heap h' → Stop h' e → E (.ref e) { s with heap := h' }) : wpAny (model prog w) A (Builtin.SmallTypes.nextOf (.ref it)) Q E s := by
  obtain ⟨o, ho, hc, hd⟩ := id hit
  obtain ⟨ol, hol, _, nl, hdl⟩ := hl
  unfold Builtin.SmallTypes.nextOf
  refine wpAny_bind (wpAny_callSpecial?_slot (name := Str.ofString "__next__") hit.typeIs slot_listiter_next (wpAny_call_entry slot_listiter_next hit.typeIs entry_listiter_next ?_ (args_listiter_next _)))
  show wpAny _ _ (field (.ref it) 0 >>= _) _ _ s
  refine wpAny_bind (wpAny_field ho hd (x := .ref l) rfl ?_)
  show wpAny _ _ (if (Value.ref l == Value.none) = true then _ else _) _ _ s
  rw [if_neg (show ¬ ((Value.ref l == Value.none) = true) from Bool.false_ne_true)]
  show wpAny _ _ (field (.ref it) 1 >>= _) _ _ s
  refine wpAny_bind (wpAny_field ho hd (x := .int i 0) rfl ?_)
  show wpAny _ _ (seqItems? (.ref l) >>= _) _ _ s
  refine wpAny_bind (wpAny_seqItems hol hdl ?_)
  simp only [Int.toNat_natCast, hx]
  refine wpAny_bind (wpAny_rule (wpAny_bind (wpAny_setField ho hd (by simp) ?_)))
  have other : ∀ b o', b ≠ it → s.heap.get? b = some o' → (s.heap.update it (Obj.mapFields (·.setIfInBounds 0 .none))).get? b = some o' := fun b o' hb e => by
    rw [Heap.get?_update_other _ _ (fun z => hb z.symm)]
    exact e
  exact stopHot (hotAt_keep (A := A.in1) hot fun o' e => other _ o' hx1 e) fun h' e k st => hE h' e (fun b o' hb q => k b o' (other b o' hb q)) st
/-- zip of two lists, the first at its end -/
theorem zipEndHot {z TI TO i1 i2 l1 l2 : Addr} {k1 k2 : Nat} {xs ys : Array Value} {a b : Value} {Q : Option Value → Shared → Prop} (hot : HotAt A x1 s.heap) (n1 : x1 ≠ i1) (nz : x1 ≠ z) (D : ZipApart z TI TO i1 i2 l1 l2)
    (hz : IsZip s.heap z TI TO .none) (hTI : IsPair s.heap TI (.ref i1) (.ref i2)) (hTO : IsPair s.heap TO a b) (h1 : s.heap.IsListIter i1 l1 k1) (hl1 : s.heap.IsList l1 xs) (hend : xs[k1]? = none)
    (hQ : ∀ h', (∀ c o, c ≠ z → c ≠ i1 → s.heap.get? c = some o → h'.get? c = some o) → Q none { s with heap := h' }) : wpAny (model prog w) A (pyNext (.ref z)) Q E s := by
  have hT : s.TypeIs (.ref z) "zip" := ⟨_, hz, rfl⟩
  unfold pyNext
  refine wpAny_bind (wpAny_attempt (wpAny_callSpecial?_slot (name := Str.ofString "__next__") hT PySem.F.slot_zip_next (wpAny_call_entry PySem.F.slot_zip_next hT PySem.F.entry_zip_next ?_ (PySem.F.args_zip_next_1 _))))
  show wpAny _ _ (field (.ref z) 2 >>= _) _ _ _
  refine wpAny_bind (wpAny_field hz rfl (x := .bool false) rfl ?_)
  show wpAny _ _ (field (.ref z) 3 >>= _) _ _ _
  refine wpAny_bind (wpAny_field hz rfl (x := .ref TI) rfl (wpAny_bind (wpAny_seqItems hTI rfl ?_)))
  show wpAny _ _ (Builtin.SmallTypes.ownedTupleIsFree (.ref z) >>= _) _ _ _
  refine wpAny_bind ?_
  unfold Builtin.SmallTypes.ownedTupleIsFree
  refine wpAny_bind (wpAny_field hz rfl (x := .none) rfl (wpAny_pure ?_))
  simp only [if_true]
  refine wpAny_bind (wpAny_rule (wpAny_bind (wpAny_field hz rfl (x := .ref TO) rfl (wpAny_bind (wpAny_setField_rec hz (by simp) fun g1 hz1 sb1 => ?_)))))
  have hz1 : IsZip g1 z TI TO .ellipsis := hz1
  refine wpAny_bind ?_
  simp only [List.zipIdx_cons, List.zipIdx_nil, List.forIn_cons, List.forIn_nil]
  refine wpAny_bind (wpAny_bind (wpAny_onRaise ?_))
  show wpAny _ _ (Builtin.SmallTypes.nextOf (.ref i1) >>= _) _ _ _
  refine wpAny_bind (listEndHot (A := A.in1) (hotAt_keep (A := A.in1) hot fun o e => sb1.extBut _ o nz e) n1 (h1.extBut sb1.extBut D.i1z) (hl1.extBut sb1.extBut D.l1z) hend fun g2 e k2 st => ?_)
  obtain ⟨oe, hoe, hce⟩ := st
  have hz2 : IsZip g2 z TI TO .ellipsis := k2 _ _ D.i1z.symm hz1
  have hez : e ≠ z := fun q => by
    subst q
    rw [hz2] at hoe
    cases hoe
    simp at hce
  refine wpAny_setField_rec hz2 (by simp) fun g3 _ sb3 => ?_
  refine wpAny_bind (wpAny_isInstance (T := "StopIteration") (b := true) ⟨oe, sb3.extBut _ _ hez hoe, hce⟩ isSubtype_stop (wpAny_pure (hQ _ fun c o cz c1 q => sb3.extBut _ _ cz (k2 _ _ c1 (sb1.extBut _ _ cz q)))))
end
end SF
end
section
set_option Elab.async false
set_option linter.all false
set_option maxRecDepth 100000
set_option maxHeartbeats 4000000
namespace SF
open PySem PySem.Spec PyProof.Rows L2 HotX L2H
section
variable {X : Cx} {pins : List (Addr × Obj)} {σ : L2.St} {H : Hp} {s : Shared}
theorem hotP (I : Inv X pins σ H s) {p : Addr × Obj} (h : Hot1 X.A p) (hp : p ∈ X.pn) : HotAt X.A p.1 s.heap := by
  obtain ⟨hh, v1, e1, c1⟩ := h
  exact ⟨hh, p.2, v1, (I.pin p (List.mem_append_left _ hp)).1, e1, c1⟩
/-! ### (a, b) = a tuple, while an exception is handled -/
theorem pg_tupH {es : List Expr} {k : Nat} {t : TGs} {n : Nat} {pos : Pos} (hc : HotC X) (h : PGs X es t)
    (hn : (assignEach es X.env).length = n := by rfl) (hst : (assignEach es X.env).findIdx? (·.1) = none := by rfl) : PG X (.Tuple es k pos) (gTup X.K n t) := by
  refine ⟨fun pins s σ H v u Q I r hw => ?_⟩
  obtain ⟨a, xs, rfl, hq, hl, hw⟩ := hw
  cases r
  obtain ⟨its, rv, ht, hz⟩ := I.tuple hq
  obtain ⟨p, hot, hp⟩ := hc
  have sz : (assignEach es X.env).length = its.toArray.size := by simp [hn, ← hl, rv.length]
  rw [PyProof.Rows.assign_Tuple]
  refine wpAny_bind (wpAny_standAt ?_)
  unfold unpack
  rw [sz, hst]
  refine wpAny_bind (wpAny_holding (unpackHot (hotP I hot hp) ht fun h' hx => ?_))
  exact h.run pins _ σ H xs _ Q (I.kept (t' := s.toks) fun b o e => hx b o (Nat.ne_of_lt (Heap.lt_size e)) e) (by simpa using rv) hw
end
/-! ### zip of two lists, the first one ends first, while an exception is handled -/
def ItzE (K : PySem.W.Frag) (a b : Addr) : It :=
  ⟨fun i H => ∃ (xs ys : List V) (x y : V), SqL K H a xs ∧ SqL K H b ys ∧ xs[i]? = some x ∧ ys[i]? = some y,
    fun i H v H' => ∃ T x y, v = .ref T ∧ H T = none ∧ H' = upd H T (.tup [x, y]) ∧ (∀ xs, SqL K H a xs → xs[i]? = some x) ∧ ∀ ys, SqL K H b ys → ys[i]? = some y,
    fun i H => ∃ xs ys : List V, SqL K H a xs ∧ SqL K H b ys ∧ xs.length ≤ i⟩
theorem turn_zipH {P : Program} {w : World} {K : PySem.W.Frag} {elts : List Expr} {kk : Nat} {tpos : Pos} {a b z TI TO i1 i2 : Addr} (D : ZipApart z TI TO i1 i2 a b) :
    TurnH P w K (.Tuple elts kk tpos) (ItzE K a b) [z, TI, TO, i1, i2] z (fun i h => IsZip h z TI TO .none ∧ IsPair h TI (.ref i1) (.ref i2) ∧ (∃ x y, IsPair h TO x y) ∧ h.IsListIter i1 a i ∧ h.IsListIter i2 b i) where
  mem := by simp
  obj := fun i h st c hc => by
    obtain ⟨hz, hTI, ⟨x, y, hTO⟩, ⟨o1, e1, _, d1⟩, o2, e2, _, d2⟩ := st
    simp only [List.mem_cons, List.not_mem_nil, or_false] at hc
    rcases hc with rfl | rfl | rfl | rfl | rfl
    · exact ⟨_, hz, fun v q => nomatch q⟩
    · exact ⟨_, hTI, fun v q => nomatch q⟩
    · exact ⟨_, hTO, fun v q => nomatch q⟩
    · exact ⟨o1, e1, fun v q => by rw [d1] at q; cases q⟩
    · exact ⟨o2, e2, fun v q => by rw [d2] at q; cases q⟩
  keep := fun i h h' ⟨hz, hTI, ⟨x, y, hTO⟩, h1, h2⟩ k => ⟨k z (by simp) _ hz, k TI (by simp) _ hTI, ⟨x, y, k TO (by simp) _ hTO⟩, h1.at fun o q => k i1 (by simp) o q, h2.at fun o q => k i2 (by simp) o q⟩
  item := by
    intro X hP hw hK _ i pins s σ H E I hf ⟨hz, hTI, ⟨x0, y0, hTO⟩, h1, h2⟩ ⟨xs, ys, x, y, hqx, hqy, hx, hy⟩
    subst hP hw hK
    obtain ⟨its, rv, p, _⟩ := I.list hqx
    obtain ⟨its2, rv2, p2, _⟩ := I.list hqy
    obtain ⟨u, hu, ru⟩ := rv.get hx
    obtain ⟨u2, hu2, ru2⟩ := rv2.get hy
    have old : ∀ c ∈ [z, TI, TO, i1, i2], c < s.heap.objs.size := fun c hc => by
      simp only [List.mem_cons, List.not_mem_nil, or_false] at hc
      obtain ⟨o1, e1, _⟩ := id h1
      obtain ⟨o2, e2, _⟩ := id h2
      rcases hc with rfl | rfl | rfl | rfl | rfl
      · exact Heap.lt_size hz
      · exact Heap.lt_size hTI
      · exact Heap.lt_size hTO
      · exact Heap.lt_size e1
      · exact Heap.lt_size e2
    refine wpAny_pyNext_zip_item D hz hTI hTO h1 h2 p.isList p2.isList (x := u) (y := u2) (by simpa using hu) (by simpa using hu2) fun h' z' TO' h1' h2' hT hsz hk => ⟨_, rfl, wpAny_letOwnedTupleGo_zip (s := { s with heap := h' }) z' fun h'' z'' sb => ?_⟩
    have hT2 : h''.get? s.heap.objs.size = some { cls := .type "tuple", data := .seq #[u, u2] } := (sb.2 _ (Nat.ne_of_gt (old z (by simp)))).trans hT
    have new : ObjOk X.prog X.w (upd H s.heap.objs.size (.tup [x, y])) h'' s.heap.objs.size (.tup [x, y]) := ⟨by show 2 ≤ sizeLine; decide, [u, u2], .cons ru (.cons ru2 .nil), ⟨_, hT2, rfl, _, rfl⟩⟩
    refine ⟨.ref s.heap.objs.size, _, I.turnedNew (t' := s.toks) (ch := [z, TI, TO, i1, i2]) (fun c o hb q => ?_) hf (Nat.le_refl _) new, rfl, ⟨_, x, y, rfl, I.hok.fresh (Nat.le_refl _), rfl, fun l hl => by rw [I.list_inj hl hqx]; exact hx, fun l hl => by rw [I.list_inj hl hqy]; exact hy⟩,
      ⟨z'', (sb.2 _ D.TIz).trans (hk _ _ D.TIz D.TITO D.TIi1 D.TIi2 hTI), ⟨u, u2, (sb.2 _ D.TOz).trans TO'⟩, h1'.at fun o q => (sb.2 _ D.i1z).trans q, h2'.at fun o q => (sb.2 _ D.i2z).trans q⟩, fun c hc => ?_⟩
    · simp only [List.mem_cons, List.not_mem_nil, or_false, not_or] at hb
      exact (sb.2 c hb.1).trans (hk c o hb.1 hb.2.2.1 hb.2.2.2.1 hb.2.2.2.2 q)
    · rw [upd_ne (Nat.ne_of_lt (old c hc))]
      exact (hf c hc).1
  done := by
    intro X hP hw hK hc i pins s σ H E I hf ⟨hz, hTI, ⟨x0, y0, hTO⟩, h1, h2⟩ ⟨xs, ys, hqx, hqy, hend⟩
    subst hP hw hK
    obtain ⟨its, rv, p, _⟩ := I.list hqx
    obtain ⟨q, hot, hq⟩ := hc
    have l1 := rv.length
    have np : ∀ c ∈ [z, TI, TO, i1, i2], q.1 ≠ c := fun c hc => (hf c hc).2.2.2.2.2 q (List.mem_append_left _ hq)
    refine zipEndHot (k2 := 0) (ys := #[]) (hotP I hot hq) (np i1 (by simp)) (np z (by simp)) D hz hTI hTO h1 p.isList (by simp; omega) fun h' hk => ⟨rfl, I.turnedL (t' := s.toks) (ch := [z, TI, TO, i1, i2]) (fun c o hb e => ?_) hf⟩
    simp only [List.mem_cons, List.not_mem_nil, or_false, not_or] at hb
    exact hk c o hb.1 hb.2.2.2.1 e
  self := fun _ _ _ _ _ st h => wpAny_pyIter_zip st.1 h
def iZipE (K : PySem.W.Frag) (ta : TA) : TI := fun σ H R => ta σ H fun vs H1 => ∃ a b xs ys, vs = [.ref a, .ref b] ∧ SqL K H1 a xs ∧ SqL K H1 b ys ∧ R (ItzE K a b) H1
theorem pi_zipH {X : Cx} {elts : List Expr} {kk : Nat} {tpos p pos : Pos} {e e2 : Expr} {ta : TA} (hg : Gl X "zip") (hm : X.mg "zip" = none) (ha : PA X [e, e2] ta)
    (hs : starEach [e, e2] X.env = (false, eval e X.env) :: starEach [e2] X.env := by rfl) (hpl : (backTo pos (starEach [e2] X.env)).any (·.1) = false := by rfl) :
    PIH X (.Tuple elts kk tpos) (.Call (.Name "zip" p) [e, e2] [] pos) (iZipE X.K ta) := by
  refine ⟨fun pins s σ H R I h => ?_⟩
  refine Call_ (ld_blt I hg hm PyProof.Rows.boot_zip (PyProof.Rows.callWith_type1 (thn (ha.run pos pins s σ H _ I h) fun us s1 ⟨vs, H1, I1, r1, a, b, xs, ys, ex, hqx, hqy, q⟩ => ?_) hs hpl))
  subst ex
  obtain ⟨u1, u2, rfl, ra, rb⟩ := vals2 r1
  cases ra
  cases rb
  obtain ⟨its, rv, p1, _⟩ := I1.list hqx
  obtain ⟨its2, rv2, p2, _⟩ := I1.list hqy
  refine call_zip_2 p1.isList p2.isList fun h' hz hTI hTO h1 h2 hsz hk => wpAny_pyIter_zip hz ?_
  refine ⟨s1.heap.objs.size + 4, [s1.heap.objs.size + 4, s1.heap.objs.size + 2, s1.heap.objs.size + 3, s1.heap.objs.size, s1.heap.objs.size + 1], _, _, H1, rfl, I1.kept (t' := s1.toks) hk, turn_zipH (PySem.W.ktu_apart s1.heap.objs.size a b p1.lt p2.lt), ⟨hz, hTI, ⟨_, _, hTO⟩, h1, h2⟩, fun c hc => ?_, q⟩
  have hle : s1.heap.objs.size ≤ c := by
    simp only [List.mem_cons, List.not_mem_nil, or_false] at hc
    have z : ∀ n : Nat, s1.heap.objs.size ≤ s1.heap.objs.size + n := fun n => Nat.le_add_right _ _
    rcases hc with rfl | rfl | rfl | rfl | rfl
    · exact z 4
    · exact z 2
    · exact z 3
    · exact z 0
    · exact z 1
  exact I1.fpOk hle (I1.hok.fresh hle)
/-! ### a comprehension while an exception is handled: the block bears the pin -/
abbrev blkH (X : Cx) (s : Shared) (H : Hp) (scope : Scope) (cenv : Env) (fp : List Addr) (p : Addr × Obj) : Cx := { X.blk s H scope cenv fp with pn := [p] }
theorem blkH_inv {X : Cx} {s : Shared} {H : Hp} {scope : Scope} {cenv : Env} {fp : List Addr} {p : Addr × Obj} {σ : L2.St} {H' : Hp} {s' : Shared} (I : Inv (X.blk s H scope cenv fp) [] σ H' s')
    (h : s'.heap.get? p.1 = some p.2 ∧ H' p.1 = none ∧ p.1 ≠ cenv.locals ∧ p.1 ∉ frs X.stack ∧ ∀ v, p.2.data ≠ .cell v) : Inv (blkH X s H scope cenv fp p) [] σ H' s' := by
  refine ⟨⟨I.ok.mod, I.ok.kind, I.ok.glob, I.ok.blt, I.ok.above, I.ok.inj, I.ok.has, I.ok.cab, I.ok.hd, I.ok.frames, I.ok.stk, I.ok.exf, I.ok.bs, I.ok.bsz, I.ok.noex, I.ok.exfs, I.ok.funs, I.ok.frf⟩, I.os, I.bare, I.base, I.loc, I.cell, I.free, I.freeC, fun q hq => ?_, I.hok, I.len⟩
  have e : q = p := by simpa using (show q ∈ [p] ++ ([] : List (Addr × Obj)) from hq)
  rw [e]
  exact h
section
variable {X : Cx}
theorem lcH {pins : List (Addr × Obj)} {s : Shared} {σ : L2.St} {H : Hp} {Q : VK} {elt tg iter : Expr} {ifs : List Expr} {scope : Scope} {own : List (Str × Nat)} {pos pos' : Pos} {wi : TI} {g : TG} {tt : TT} {te : TE} {p : Addr × Obj} (hot : Hot1 X.A p) (hp : p ∈ X.pn)
    (hN : X.N.Nodup) (I : Inv X pins σ H s) (hi : PIH X tg iter wi) (ok : BlkOk X.N X.env.scope scope own)
    (hg : ∀ (s : Shared) (H : Hp) (C : Addr) (cl : List (Str × Addr)) (fp : List Addr), PG (blkH X s H scope (compEnvC scope cl C X.env) fp p) tg g) (ht : ∀ (s : Shared) (H : Hp) (C : Addr) (cl : List (Str × Addr)) (fp : List Addr), PTs (blkH X s H scope (compEnvC scope cl C X.env) fp p) ifs tt)
    (he : ∀ (s : Shared) (H : Hp) (C : Addr) (cl : List (Str × Addr)) (fp : List Addr), PE (blkH X s H scope (compEnvC scope cl C X.env) fp p) elt te) (hs : ∀ x, foldedSetIterable iter X.env x = pure x)
    (h : tLc wi g tt te (own.map (·.2)) σ H Q) :
    wpAny (model X.prog X.w) X.A (comprehension (.ListComp elt [⟨tg, iter, ifs, 0⟩] scope pos) scope X.env pos' (newList []) false (eval iter X.env) none) (EP X pins σ Q) X.xe s := by
  refine wpAny_comprehension_free (use := none) rfl hs (closure_ok fun y hy e => (ok.free y hy e).elim (fun k => I.ok.has _ (.inl k)) fun k => I.ok.has _ (.inr k)) ok.kind (fun y hy e => by rw [ok.uniq y hy, e])
    (thn (hi.run pins s σ H _ I h) fun xv s1 hx => thn hx fun itv s2 ⟨it, fp, tn, J, H2, e, I2, T, st2, f2, q⟩ => ?_)
  subst e
  refine wpAny_newObj_type (newEnv_comp ?_) (by show 0 ≤ sizeLine; decide)
  generalize hD : s2.heap.objs.size = D
  obtain ⟨W, ⟨m0, w0⟩, turn⟩ := q D (I2.hok.fresh (Nat.le_of_eq hD))
  generalize hs3 : ({ s2 with heap := s2.heap.push { cls := .type "list", data := .seq ([] : List Value).toArray } } : Shared) = s3
  have h3 : s3.heap = s2.heap.push { cls := .type "list", data := .seq ([] : List Value).toArray } := by rw [← hs3]
  have I3 : Inv X pins σ (upd H2 D (.lst [])) s3 := by
    subst hs3
    refine I2.laid (t' := s2.toks) (fun b o e => Heap.get?_push_of_some _ e) (Nat.le_of_eq hD) ⟨Nat.zero_le _, [], 0, .nil, ?_⟩
    rw [← hD]
    exact Heap.get?_push_size _ rfl
  have f3 : ∀ b ∈ fp, FpOk X pins (upd H2 D (.lst [])) b ∧ b < s3.heap.objs.size := fun b hb => by
    obtain ⟨o, e, _⟩ := T.obj _ _ st2 b hb
    have hlt := Heap.lt_size e
    refine ⟨⟨?_, (f2 b hb).2⟩, by rw [h3, Heap.size_push]; exact Nat.lt_succ_of_lt hlt⟩
    rw [upd_ne (by rw [← hD]; exact Nat.ne_of_lt hlt)]
    exact (f2 b hb).1
  have I4 := block_start I3 ok hN f3
  have pp := I3.pin p (List.mem_append_left _ hp)
  show codeAny _ _ (.compStart (.ListComp elt [⟨tg, iter, ifs, 0⟩] scope pos) 0 (.ref it) (.ref D) (compEnvC scope (cellsFrom (s3.heap.objs.size + 1) scope.names (cloFrom X.env.cells scope.names [])) s3.heap.objs.size X.env)) (compPost (model X.prog X.w) X.A X.xe none (EP X pins σ Q) (.ref D) s3.heap.objs.size) { s3 with heap := pushCells (s3.heap.push { cls := .type "dict", data := .dict #[] }) scope.names }
  generalize hcl : cellsFrom (s3.heap.objs.size + 1) scope.names (cloFrom X.env.cells scope.names []) = cl at I4 ⊢
  have pg := hg s3 (upd H2 D (.lst [])) s3.heap.objs.size cl fp
  have pt := ht s3 (upd H2 D (.lst [])) s3.heap.objs.size cl fp
  have pe := he s3 (upd H2 D (.lst [])) s3.heap.objs.size cl fp
  have cL : (compEnvC scope cl s3.heap.objs.size X.env).locals = s3.heap.objs.size := rfl
  have kp : ∀ b o, s3.heap.get? b = some o → (pushCells (s3.heap.push { cls := .type "dict", data := .dict #[] }) scope.names).get? b = some o := fun b o e => pushCells_keeps _ _ _ _ (Heap.get?_push_of_some _ e)
  have J4 := blkH_inv I4 (p := p) ⟨kp _ _ pp.1, pp.2.1, by rw [cL]; exact Nat.ne_of_lt (Heap.lt_size pp.1), fun hm => (List.mem_cons.mp (I3.stkSub p.1 hm)).elim pp.2.2.1 pp.2.2.2.1, pp.2.2.2.2⟩
  generalize compEnvC scope cl s3.heap.objs.size X.env = ce at J4 pg pt pe cL ⊢
  have st4 : tn 0 (pushCells (s3.heap.push { cls := .type "dict", data := .dict #[] }) scope.names) := T.keep _ _ _ (T.keep _ _ s3.heap st2 fun b _ o e => by rw [h3]; exact Heap.get?_push_of_some _ e) fun b _ o e => kp b o e
  have nfp : ∀ b ∈ fp, (upd H2 D (.lst [])) b = none := fun b hb => (f3 b hb).1.1
  generalize upd H2 D (.lst []) = H3 at I3 J4 pg pt pe w0 nfp f3
  have hc : HotC (blkH X s3 H3 scope ce fp p) := ⟨p, hot, List.mem_cons_self⟩
  have stat : ∀ {σ' : L2.St} {H' : Hp} {s' : Shared}, Inv (blkH X s3 H3 scope ce fp p) [] σ' H' s' → (∀ b ∈ fp, H' b = none) → ∀ b ∈ fp, FpOk (blkH X s3 H3 scope ce fp p) [] H' b := fun {σ' H' s'} I' hn b hb =>
    ⟨hn b hb, (I'.ok.exf b hb).1, I'.ok.exfs b hb, .inl hb, fun x c e => (I'.ok.exf b hb).2 x c e, fun q hq => by
      have e : q = p := by simpa using (show q ∈ [p] ++ ([] : List (Addr × Obj)) from hq)
      rw [e]
      exact (f3 b hb).1.2.2.2.2.2 p (List.mem_append_left _ hp)⟩
  refine codeAny_compStart_list ?loop (T.self X.A 0 _ _ _ st4 ?loop)
  refine compLoop_any (fun n s' => ∃ i H', Inv (blkH X s3 H3 scope ce fp p) [] (wipe σ (own.map (·.2))) H' s' ∧ tn i s'.heap ∧ (∀ b ∈ fp, H' b = none) ∧ W i n H') ?_ m0 ⟨0, H3, J4, st4, nfp, w0⟩
  rintro n s5 ⟨i, H5, I5, st5, n5, w5⟩
  rcases turn i n H5 w5 with ⟨stop, qq⟩ | ⟨go, Nx, hNx, step⟩
  · refine thnF (T.done (blkH X s3 H3 scope ce fp p) rfl rfl rfl hc i [] s5 _ H5 (fun _ _ => False) I5 (stat I5 n5) st5 stop) fun r s6 ⟨hr, I6⟩ => ?_
    subst hr
    have I7 : Inv X pins σ H5 s6 := I3.call' (ch := fp) I6.os I6.base I6.hok I6.bare fun b hb => ⟨(f3 b hb).1.2.2.2.1, (f3 b hb).1.2.1, (f3 b hb).1.2.2.2.2.1, (f3 b hb).1.2.2.2.2.2⟩
    have nC : H5 s3.heap.objs.size = none := by
      rw [← cL]
      exact I6.free
    obtain ⟨m, hn, _⟩ := I6.loc
    have hn : s6.heap.Ns ce.locals m := hn
    rw [cL] at hn
    obtain ⟨g0, g1, g2, g3, g4, g5⟩ := I3.fpOk (Nat.le_refl _) nC
    exact ⟨m, hn, fun h'' sb => ⟨.ref D, H5, I7.turned (t' := s6.toks) (fun b o hb e => (sb.2 b hb).trans e) g0 g1 g3 g4 g5, rfl, qq⟩⟩
  · refine thnF (T.item (blkH X s3 H3 scope ce fp p) rfl rfl rfl hc i [] s5 _ H5 (fun _ _ => False) I5 (stat I5 n5) st5 go) fun r s6 ⟨u, hr, h6⟩ => ?_
    subst hr
    refine thnF h6 fun _ s7 ⟨x, H7, I7, r7, y7, st7, n7⟩ => ?_
    refine thnF (pg.run _ s7 _ H7 x u _ (I7.pinned (stat I7 n7) (T.obj _ _ st7)) r7 (step x H7 y7)) fun _ s8 ⟨σ8, H8, I8, hw8, q8⟩ => ?_
    refine thnF (pt.run _ s8 σ8 H8 _ I8 q8) fun b s9 ⟨H9, I9, q9⟩ => ?_
    have fin : ∀ {s' : Shared} {H' : Hp}, Inv (blkH X s3 H3 scope ce fp p) ([] ++ pinsAt fp s7.heap) σ8 H' s' → Nx H' → ∃ m, m < n ∧ ∃ i H', Inv (blkH X s3 H3 scope ce fp p) [] (wipe σ (own.map (·.2))) H' s' ∧ tn i s'.heap ∧ (∀ b ∈ fp, H' b = none) ∧ W i m H' := fun {s' H'} I' nx => by
      obtain ⟨m', hm, w'⟩ := hNx H' nx
      have pin' : ∀ b ∈ fp, ∀ o, s7.heap.get? b = some o → s'.heap.get? b = some o ∧ H' b = none := fun b hb o e =>
        have z := I'.pin (b, o) (List.mem_append_right _ (List.mem_append_right _ (mem_pinsAt hb e)))
        ⟨z.1, z.2.1⟩
      refine ⟨m', hm, i + 1, H', (I'.unpinned (pins := [])).weak (by rw [← hw8, wipe_length]) (fun j v e => ?_), T.keep _ _ _ st7 fun b hb o e => (pin' b hb o e).1, fun b hb => ?_, w'⟩
      · rw [← hw8] at e
        exact (wipe_some e).1
      · obtain ⟨o, e, _⟩ := T.obj _ _ st7 b hb
        exact (pin' b hb o e).2
    cases b with
    | false =>
      simp only [Bool.false_eq_true, if_false] at q9 ⊢
      exact fin I9 q9
    | true =>
      simp only [if_true] at q9 ⊢
      refine thnF (pe.run _ s9 σ8 H9 _ I9 q9) fun z s10 ⟨yv, H10, I10, r10, acc, hD10, hz10, nx⟩ => ?_
      exact app_ok (X := blkH X s3 H3 scope ce fp p) I10 hD10 hz10 r10 fun s11 I11 => fin I11 nx
theorem pe_lcH {elt tg iter : Expr} {ifs : List Expr} {scope : Scope} {own : List (Str × Nat)} {pos : Pos} {wi : TI} {g : TG} {tt : TT} {te : TE} {p : Addr × Obj} (hot : Hot1 X.A p) (hp : p ∈ X.pn) (hN : X.N.Nodup) (hi : PIH X tg iter wi) (ok : BlkOk X.N X.env.scope scope own)
    (hg : ∀ (s : Shared) (H : Hp) (C : Addr) (cl : List (Str × Addr)) (fp : List Addr), PG (blkH X s H scope (compEnvC scope cl C X.env) fp p) tg g) (ht : ∀ (s : Shared) (H : Hp) (C : Addr) (cl : List (Str × Addr)) (fp : List Addr), PTs (blkH X s H scope (compEnvC scope cl C X.env) fp p) ifs tt)
    (he : ∀ (s : Shared) (H : Hp) (C : Addr) (cl : List (Str × Addr)) (fp : List Addr), PE (blkH X s H scope (compEnvC scope cl C X.env) fp p) elt te) (hs : ∀ x, foldedSetIterable iter X.env x = pure x := by intro _; rfl) :
    PE X (.ListComp elt [⟨tg, iter, ifs, 0⟩] scope pos) (tLc wi g tt te (own.map (·.2))) := by
  refine ⟨fun pins s σ H Q I h => ?_⟩
  rw [eval_ListComp]
  exact lcH hot hp hN I hi ok hg ht he hs h
end
end SF
end
section
set_option Elab.async false
set_option linter.all false
set_option maxRecDepth 100000
set_option maxHeartbeats 4000000
namespace SF
open PySem PySem.Spec PyProof.Rows L2
/-! ### defs by promise, without their function data -/
structure FnX (P : Program) (w : World) (K : PySem.W.Frag) (mg : Str → Option Value) (base : Heap) (CX : CXT) (k : Nat) (f : Addr) (ps : List Str) (sp : Sp) : Prop where
  ex : ∃ fd, FnOk P w K mg base CX k f fd ps sp ∧ Binds K fd ps []
  kp : PySem.W.keepIn K (.ref f) = true
section
variable {P : Program} {w : World} {K : PySem.W.Frag} {mg : Str → Option Value} {base : Heap} {CX : CXT} {f : Addr} {ps : List Str} {sp : Sp}
theorem FnX.mono {j k : Nat} (F : FnX P w K mg base CX j f ps sp) (h : j ≤ k) : FnX P w K mg base CX k f ps sp := by
  obtain ⟨⟨fd, F1, b⟩, kp⟩ := F
  exact ⟨⟨fd, F1.mono h, b⟩, kp⟩
theorem FnX.imp {k : Nat} {sp' : Sp} (F : FnX P w K mg base CX k f ps sp) (h : ∀ vs H Q E, sp' vs H Q E → sp vs H Q E) : FnX P w K mg base CX k f ps sp' := by
  obtain ⟨⟨fd, F1, b⟩, kp⟩ := F
  exact ⟨⟨fd, F1.imp h, b⟩, kp⟩
theorem fx_of {N : List Str} {k : Nat} {x qual : Str} {params : Arguments} {body : List Stmt} {scope : Scope} (F0 : ∃ fd, FunD K x qual params body scope [] [] f fd) (S : FnScope N ps scope)
    (hb : ∀ (kV doc pm : Value) (an : Option Addr) (cdv ct : Value) (us : List Value), us.length = ps.length → bindArgs (PySem.W.fnOf x qual params body scope .none kV doc pm an cdv ct) ⟨us, []⟩ = pure (ps.zip us))
    (len : ∀ vs H Q E, sp vs H Q E → vs.length = ps.length)
    (hbody : ∀ (cdv : Value) (A : Around) (outer : List Env) (s : Shared) (H : Hp) (vs : List V) (Q : VK) (E : XK), Room k (A.deeper (envOfC qual scope s.heap.objs.size f cdv)) → sp vs H Q E →
      ∃ t, PSs (cxOf CX P w K mg base N qual scope f cdv A outer s H E) body t ∧ t { nx := fun _ H' => Q .non H', rt := Q } (L2.start N vs) H) : FnX P w K mg base CX (k + 1) f ps sp := by
  obtain ⟨fd, F⟩ := F0
  exact ⟨⟨fd, F.ok S len hbody, F.bindsN hb⟩, F.kp⟩
end
section
variable {X : Cx} {CX : CXT} {k : Nat} {f C : Addr} {ps : List Str} {sp : Sp} {E : XK} {x m : Str} {p pos apos : Pos} {e o : Expr} {es : List Expr} {ta : TE} {t : TA}
theorem pe_f (F : FnX X.prog X.w X.K X.mg X.base CX k f ps sp) (hr : Room k X.A) (hg : Gl X x) (hm : X.mg x = some (.ref f)) (hx : Passes CX X E)
    (ha : PA X (e :: es) t) (hdb : (x == ("__debug__" : Str)) = false := by decide) (he : starEach (e :: es) X.env = (false, eval e X.env) :: starEach es X.env := by rfl) (hpl : (backTo pos (starEach es X.env)).any (·.1) = false := by rfl) :
    PE X (.Call (.Name x p) (e :: es) [] pos) (tCall sp [] E t) := by
  obtain ⟨⟨fd, F1, b⟩, kp⟩ := F
  exact pe_call F1 hr hg hm kp b .nil hx ha hdb he hpl
theorem pe_m {pl : Sem Bool} (he : PE X o ta) (c : Cls X.K C) (hm : Meth X.K C m f) (F : FnX X.prog X.w X.K X.mg X.base CX k f ps sp) (hr : Room k X.A) (hx : Passes CX X E) (ha : PA X (e :: es) t)
    (hst : starEach (e :: es) X.env = (false, eval e X.env) :: starEach es X.env := by rfl) (hpl : (backTo pos (starEach es X.env)).any (·.1) = false := by rfl)
    (ht : eval (.Call (.Attribute o m apos) (e :: es) [] pos) X.env = (do
      let ov ← eval o X.env
      standAt apos.atName
      let (f, first) ← holding [ov] (getMethod ov m pl)
      callWith pos f first (backTo pos (starEach (e :: es) X.env)) (backToKw pos (keywordEach [] X.env))) := by rfl) :
    PE X (.Call (.Attribute o m apos) (e :: es) [] pos) (tMeth C m sp [] E ta t) := by
  obtain ⟨⟨fd, F1, b⟩, kp⟩ := F
  exact pe_meth (pl := pl) he c hm F1 hr b .nil hx ha hst hpl ht
theorem pe_m0 {pl : Sem Bool} (he : PE X o ta) (c : Cls X.K C) (hm : Meth X.K C m f) (F : FnX X.prog X.w X.K X.mg X.base CX k f ps sp) (hr : Room k X.A) (hx : Passes CX X E)
    (ht : eval (.Call (.Attribute o m apos) [] [] pos) X.env = (do
      let ov ← eval o X.env
      standAt apos.atName
      let (f, first) ← holding [ov] (getMethod ov m pl)
      callWith pos f first (backTo pos (starEach [] X.env)) (backToKw pos (keywordEach [] X.env))) := by rfl) :
    PE X (.Call (.Attribute o m apos) [] [] pos) (tMeth C m sp [] E ta tNil) := by
  obtain ⟨⟨fd, F1, b⟩, kp⟩ := F
  exact L2.pe_meth0 (pl := pl) he c hm F1 hr b .nil hx ht
theorem pe_mk (M : Mk X.K C f) (F : FnX X.prog X.w X.K X.mg X.base CX k f ps sp) (hr : Room (k + 1) X.A) (hg : Gl X x) (hm : X.mg x = some (.ref C)) (hx : Passes CX X E)
    (ha : PA X (e :: es) t) (hdb : (x == ("__debug__" : Str)) = false := by decide) (he : starEach (e :: es) X.env = (false, eval e X.env) :: starEach es X.env := by rfl) (hpl : (backTo pos (starEach es X.env)).any (·.1) = false := by rfl) :
    PE X (.Call (.Name x p) (e :: es) [] pos) (tMake C sp [] E t) := by
  obtain ⟨⟨fd, F1, b⟩, kp⟩ := F
  exact pe_make M F1 hr hg hm b .nil hx ha hdb he hpl
/-- o.m(e) within a try -/
def tMethS (C : Addr) (m : Str) (sp : Sp) (E : L2.St → XK) (ta : TE) (t : TA) : TE := fun σ H Q => ta σ H fun x H1 => ∃ a dx fs, x = .ref a ∧ H1 a = some (.ins C dx fs) ∧ fs.lookup m = none ∧ t σ H1 fun vs H2 => sp (x :: vs) H2 Q (E σ)
theorem pe_mS {pl : Sem Bool} {E : L2.St → XK} (he : PE X o ta) (c : Cls X.K C) (hm : Meth X.K C m f) (F : FnX X.prog X.w X.K X.mg X.base CX k f ps sp) (hr : Room k X.A) (hx : ∀ σ, PassesAt CX X σ (E σ)) (ha : PA X (e :: es) t)
    (hst : starEach (e :: es) X.env = (false, eval e X.env) :: starEach es X.env := by rfl) (hpl : (backTo pos (starEach es X.env)).any (·.1) = false := by rfl)
    (ht : eval (.Call (.Attribute o m apos) (e :: es) [] pos) X.env = (do
      let ov ← eval o X.env
      standAt apos.atName
      let (f, first) ← holding [ov] (getMethod ov m pl)
      callWith pos f first (backTo pos (starEach (e :: es) X.env)) (backToKw pos (keywordEach [] X.env))) := by rfl) :
    PE X (.Call (.Attribute o m apos) (e :: es) [] pos) (tMethS C m sp E ta t) := by
  obtain ⟨⟨fd, F1, b⟩, kp⟩ := F
  refine ⟨fun pins s σ H Q I h => ?_⟩
  refine PySem.W.methodCall_KW (pl := pl) (thn (he.run pins s σ H _ I h) fun u s1 ⟨x, H1, I1, rx, a, dx, fs, ex, ea, l, q⟩ => ?_) ht
  subst ex
  obtain rfl : u = Value.ref a := rx
  refine getmeth_ok I1 ea c hm l ?_
  refine PySem.W.callWith_K (first := [.ref a]) (h₀ := X.base) I.ok.mod.kin hm.kp (thn (ha.run pos pins s1 σ H1 _ I1 q) fun us s2 ⟨vs, H2, I2, r, q2⟩ => ⟨I2.kIn, ?_⟩) hst hpl
  exact run_fnS (us := .ref a :: us) (vs := .ref a :: vs) F1 hr b (hx σ) I2 (.cons rfl r) q2
end
/-! ### what a def lets out -/
theorem passN {X : Cx} : Passes (L2N.CX X.prog X.w) X L2.E0 := fun _ _ _ _ _ _ _ h => by
  obtain ⟨_, _, _, _, _, _, _, _, _, _, _, _, z⟩ := h
  exact z.elim
theorem takesN0 {X : Cx} : L2N.Takes X (fun _ _ _ _ => False) := fun _ _ x => by
  obtain ⟨_, _, _, _, _, _, _, _, _, _, _, _, _, _, _, _, z⟩ := x
  exact z.elim
/-- a callee's way out is the def's own -/
theorem passE {X : Cx} {E : XK} {E₁ : Value → Shared → Prop} (hs : X.stack = X.env :: X.outer) (hf : X.env.frame = some X.env.locals) (hex : X.ex = [])
    (hx : X.xe = fun e s' => wpAny (model X.prog X.w) X.A (leaving X.env e) (fun _ s'' => L2N.CX X.prog X.w X.outer X.H_0 X.s_0 E e s'') E₁ s') : Passes (L2N.CX X.prog X.w) X E :=
  L2N.passes_call (L2N.takes_of hs hf hex hx) fun _ _ _ _ h => h
end SF
end
section
set_option Elab.async false
set_option linter.all false
set_option maxRecDepth 100000
set_option maxHeartbeats 4000000
namespace SF
open PySem PySem.Spec PyProof.Rows L2
/-! ### the kind and the looks -/
structure Kd where
  k : Nat
  m : Int
  t : Nat
  p : Nat
def Kd.base (c : Kd) : Int := 2 ^ c.k
def Kd.half (c : Kd) : Int := c.base * 2 ^ c.p + 2
structure Kd.Ok (c : Kd) : Prop where
  k1 : 1 ≤ c.k
  k3 : c.k ≤ 3
  m1 : 1 ≤ c.m
  mb : c.m ≤ c.base - 1
  t1 : 1 ≤ c.t
  t5 : c.t ≤ 5
  p1 : 1 ≤ c.p
  p5 : c.p ≤ 5
theorem Kd.Ok.b2 {c : Kd} (h : c.Ok) : 2 ≤ c.base := by
  have h1 := h.k1
  have h3 := h.k3
  unfold Kd.base
  have : c.k = 1 ∨ c.k = 2 ∨ c.k = 3 := by omega
  rcases this with e | e | e <;> rw [e] <;> decide
theorem Kd.Ok.b8 {c : Kd} (h : c.Ok) : c.base ≤ 8 := by
  have h1 := h.k1
  have h3 := h.k3
  unfold Kd.base
  have : c.k = 1 ∨ c.k = 2 ∨ c.k = 3 := by omega
  rcases this with e | e | e <;> rw [e] <;> decide
theorem Kd.Ok.m7 {c : Kd} (h : c.Ok) : c.m ≤ 7 := by
  have := h.mb
  have := h.b8
  omega
theorem p32 {p : Nat} (h : p ≤ 5) : (2 : Int) ^ p ≤ 32 ∧ 1 ≤ (2 : Int) ^ p := by
  have : p = 0 ∨ p = 1 ∨ p = 2 ∨ p = 3 ∨ p = 4 ∨ p = 5 := by omega
  rcases this with e | e | e | e | e | e <;> rw [e] <;> decide
theorem Kd.Ok.half_lt {c : Kd} (h : c.Ok) : c.half ≤ 258 ∧ 4 ≤ c.half := by
  have h1 := h.b8
  have h2 := h.b2
  obtain ⟨h3, h4⟩ := p32 h.p5
  have h5 : c.base * 2 ^ c.p ≤ 8 * 32 := Int.mul_le_mul h1 h3 (by omega) (by omega)
  have h6 : 2 * 1 ≤ c.base * 2 ^ c.p := Int.mul_le_mul h2 h4 (by omega) (by omega)
  unfold Kd.half
  omega
/-- the two tuples -/
abbrev KndAt (K : PySem.W.Frag) (H : Hp) (a : Addr) (c : Kd) : Prop := SqT K H a [.int c.base, .int c.m]
abbrev LksAt (K : PySem.W.Frag) (H : Hp) (a : Addr) (c : Kd) : Prop := SqT K H a [.int (c.t : Nat), .int (c.p : Nat)]
/-- the shift's sides -/
theorem sm_abs {i : Int} {n : Nat} (hn : 65 ≤ n) (h0 : -(2 ^ 64) ≤ i) (h1 : i ≤ 2 ^ 64) : i.natAbs < 2 ^ n := Nat.lt_of_lt_of_le (m := 2 ^ 65) (by omega) (Nat.pow_le_pow_right (by decide) hn)
theorem vsub {a b : Nat} (h : b ≤ a) : V.int ((a : Int) - (b : Int)) = V.int ((a - b : Nat) : Int) := congrArg V.int (by omega)
theorem vsub1 {a : Nat} (h : 1 ≤ a) : V.int ((a : Int) - 1) = V.int ((a - 1 : Nat) : Int) := congrArg V.int (by omega)
theorem vmul (a b : Nat) : V.int ((a : Int) * (b : Int)) = V.int ((a * b : Nat) : Int) := congrArg V.int (Int.natCast_mul a b).symm
def ab (i : Int) : Int := if i < 0 then -i else i
theorem ab_nn (i : Int) : 0 ≤ ab i := by unfold ab; split <;> omega
theorem ab_nat (i : Int) : ab i = (i.natAbs : Nat) := by unfold ab; split <;> omega
abbrev NewT (H : Hp) (xs : List V) (Q : VK) : Prop := ∀ H' r, Evl.Ex H H' → H r = none → H' r = some (.tup xs) → Q (.ref r) H'
abbrev NewL (H : Hp) (xs : List V) (Q : VK) : Prop := ∀ H' r, Evl.Ex H H' → H r = none → H' r = some (.lst xs) → Q (.ref r) H'
/-- an entry -/
def cv : Option Int → V
  | none => .non
  | some i => .int i
/-! ### half_of -/
def spHalf (K : PySem.W.Frag) : Sp := fun vs H Q _ => ∃ a b c, vs = [.ref a, .ref b] ∧ KndAt K H a c ∧ LksAt K H b c ∧ c.Ok ∧ Q (.int c.half) H
theorem sc_half_of : FnScope ["kind", "looks"] ["kind", "looks"] (defScope s_half_of) := ⟨rfl, rfl, rfl, by decide +kernel, rfl, by decide +kernel, by decide +kernel⟩
theorem ok_half_of {P : Program} {w : World} {K : PySem.W.Frag} {mg : Str → Option Value} {base : Heap} (T : Fx K mg) : FnX P w K mg base CX0 1 (He.ga K "half_of") ["kind", "looks"] (spHalf K) := by
  refine fx_of T.d_half_of sc_half_of (fun _ _ _ _ _ _ us hl => match us, hl with | [_, _], _ => rfl) (fun vs H Q E h => ?_) (fun cdv A outer s H vs Q E hr h => ⟨_, PSs.nox ((pss_one (ps_ret (pe_op op_add (pe_op op_shlN (pe_ix ix_tup (pv 0) pe_int (fun _ _ => rfl)) (pe_ix ix_tup (pv 1) pe_int (fun _ _ => rfl))) pe_int)))), ?_⟩)
  · obtain ⟨a, b, c, rfl, _⟩ := h
    rfl
  · obtain ⟨a, b, c, rfl, hk, hl, ok, hQ⟩ := h
    have b8 := ok.b8
    have b2 := ok.b2
    have p5 := ok.p5
    repeat (first | refine ⟨_, rfl, ?_⟩ | refine ⟨_, _, rfl, rfl, ?_⟩ | refine ⟨_, _, _, _, rfl, rfl, by assumption, rfl, ?_⟩ | refine ⟨rfl, _, rfl, ?_⟩)
    refine ⟨shl_ok (n := 65) (sm_abs (by omega) (by omega) (by omega)) (by omega), ?_⟩
    exact ⟨_, _, rfl, rfl, hQ⟩
/-! ### bits_of -/
def spBits : Sp := fun vs H Q _ => ∃ c : Kd, vs = [.int c.base] ∧ c.Ok ∧ Q (.int (c.k : Nat)) H
theorem bits_at {c : Kd} (ok : c.Ok) : ([(2, 1), (4, 2), (8, 3), (16, 4)] : List (Int × Int)).lookup c.base = some ((c.k : Nat) : Int) := by
  have h1 := ok.k1
  have h3 := ok.k3
  unfold Kd.base
  have : c.k = 1 ∨ c.k = 2 ∨ c.k = 3 := by omega
  rcases this with e | e | e <;> rw [e] <;> decide +kernel
theorem bits_kints {K : PySem.W.Frag} {mg : Str → Option Value} (T : Fx K mg) : KInts K (He.ga K "BITS") fun i => ([(2, 1), (4, 2), (8, 3), (16, 4)] : List (Int × Int)).lookup i := by
  have h := T.ex
  unfold exB at h
  exact intsB_ok (He.ba h).1
theorem sc_bits_of : FnScope ["base"] ["base"] (defScope s_bits_of) := ⟨rfl, rfl, rfl, by decide +kernel, rfl, by decide +kernel, by decide +kernel⟩
theorem ok_bits_of {P : Program} {w : World} {K : PySem.W.Frag} {mg : Str → Option Value} {base : Heap} (T : Fx K mg) : FnX P w K mg base CX0 1 (He.ga K "bits_of") ["base"] (spBits) := by
  refine fx_of T.d_bits_of sc_bits_of (fun _ _ _ _ _ _ us hl => match us, hl with | [_], _ => rfl) (fun vs H Q E h => ?_) (fun cdv A outer s H vs Q E hr h => ⟨_, PSs.nox ((pss_one (ps_ret (pe_ix SF.ix_kints (pe_glob rfl T.g_BITS (v := .ref (He.ga K "BITS")) rfl) (pv 0) (fun _ _ => rfl))))), ?_⟩)
  · obtain ⟨c, rfl, _⟩ := h
    rfl
  · obtain ⟨c, rfl, ok, hQ⟩ := h
    exact ⟨_, rfl, _, _, _, _, rfl, rfl, bits_kints T, bits_at ok, hQ⟩
/-! ### is_whole -/
def spWhole (K : PySem.W.Frag) : Sp := fun vs H Q _ => ∃ (x : V) (a b : Bool) (t : Value), vs = [x] ∧ TyX K H x t ∧ PySem.W.kitOne K t (.type "int") = some a ∧ PySem.W.kitOne K t (.type "bool") = some b ∧ Q (.bl (a && !b)) H
theorem sc_is_whole : FnScope ["thing"] ["thing"] (defScope s_is_whole) := ⟨rfl, rfl, rfl, by decide +kernel, rfl, by decide +kernel, by decide +kernel⟩
theorem ok_is_whole {P : Program} {w : World} {K : PySem.W.Frag} {mg : Str → Option Value} {base : Heap} (T : Fx K mg) : FnX P w K mg base CX0 1 (He.ga K "is_whole") ["thing"] (spWhole K) := by
  refine fx_of T.d_is_whole sc_is_whole (fun _ _ _ _ _ _ us hl => match us, hl with | [_], _ => rfl) (fun vs H Q E h => ?_) (fun cdv A outer s H vs Q E hr h => ⟨_, PSs.nox ((pss_one (ps_ret (pe_and (pe_callB call_isi (by rfl) T.b_isinstance (by decide +kernel) (pa_cons (pv 0) (pa_cons (pe_bltn (by rfl) T.b_int (by decide +kernel) (v := .ty "int") rfl) pa_nil))) (pe_one (pe_not (pe_callB call_isi (by rfl) T.b_isinstance (by decide +kernel) (pa_cons (pv 0) (pa_cons (pe_bltn (by rfl) T.b_bool (by decide +kernel) (v := .ty "bool") rfl) pa_nil))))))))), ?_⟩)
  · obtain ⟨x, a, b, t, rfl, _⟩ := h
    rfl
  · obtain ⟨x, a, b, t, rfl, ty, h1, h2, hQ⟩ := h
    refine ⟨_, rfl, _, _, _, _, _, rfl, .ty _, ty, h1, _, rfl, ?_⟩
    cases a with
    | false => exact hQ
    | true => exact ⟨_, rfl, _, _, _, _, _, rfl, .ty _, ty, h2, _, rfl, hQ⟩
end SF
end
section
set_option Elab.async false
set_option linter.all false
set_option maxRecDepth 100000
set_option maxHeartbeats 4000000
namespace SF
open PySem PySem.Spec PyProof.Rows L2
theorem itT {c A B : Prop} [Decidable c] (hc : c) (h : A) : if decide c = true then A else B := by
  rw [if_pos (decide_eq_true hc)]
  exact h
theorem itF {c A B : Prop} [Decidable c] (hc : ¬ c) (h : B) : if decide c = true then A else B := by
  rw [if_neg (by rw [decide_eq_false hc]; decide)]
  exact h
theorem itD {c A B : Prop} [Decidable c] (h1 : c → A) (h2 : ¬ c → B) : if decide c = true then A else B := by
  by_cases hc : c
  · exact itT hc (h1 hc)
  · exact itF hc (h2 hc)
theorem itN {c A B : Prop} [Decidable c] (h1 : c → B) (h2 : ¬ c → A) : if (!decide c) = true then A else B := by
  by_cases hc : c
  · rw [decide_eq_true hc, if_neg (by decide)]
    exact h1 hc
  · rw [decide_eq_false hc, if_pos (by decide)]
    exact h2 hc
theorem itB {b : Bool} {A B : Prop} (h1 : b = true → A) (h2 : b = false → B) : if b = true then A else B := by
  cases b with
  | true => exact h1 rfl
  | false => exact h2 rfl
theorem v_int {i j : Int} (h : V.int i = V.int j) : i = j := V.int.inj h
/-! ### entry -/
/-- a table's rows at one list -/
def TabR (K : PySem.W.Frag) (H : Hp) (a : Addr) (tab : List (List (Option Int))) : Prop := ∃ as : List Addr, SqL K H a (as.map V.ref) ∧ as.length = tab.length ∧ ∀ (i : Nat) (b : Addr) (row : List (Option Int)), as[i]? = some b → tab[i]? = some row → SqL K H b (row.map cv)
def entAt (tab : List (List (Option Int))) (i j : Nat) : Option (Option Int) := (tab[i]?).bind fun r => r[j]?
theorem vnat {i : Int} (h : 0 ≤ i) : V.int i = V.int ((i.toNat : Nat) : Int) := congrArg V.int (Int.toNat_of_nonneg h).symm
theorem atI_of {xs : List V} {i : Int} {v : V} (h0 : 0 ≤ i) (h : xs[i.toNat]? = some v) : atI xs i = some v := by
  have e : i = ((i.toNat : Nat) : Int) := (Int.toNat_of_nonneg h0).symm
  rw [e]
  exact atI_nat h
/-- both indices of an entry -/
theorem tabR_at {K : PySem.W.Frag} {H : Hp} {a : Addr} {tab : List (List (Option Int))} {i j : Nat} {e : Option Int} (h : TabR K H a tab) (he : entAt tab i j = some e) :
    ∃ as b row, SqL K H a as ∧ as[i]? = some (V.ref b) ∧ SqL K H b row ∧ row[j]? = some (cv e) := by
  obtain ⟨as, h1, h2, h3⟩ := h
  unfold entAt at he
  cases hr : tab[i]? with
  | none => rw [hr] at he; cases he
  | some row =>
    rw [hr] at he
    have hlt : i < as.length := by rw [h2]; exact (List.getElem?_eq_some_iff.mp hr).1
    refine ⟨_, as[i], _, h1, ?_, h3 i as[i] row (List.getElem?_eq_getElem hlt) hr, ?_⟩
    · rw [List.getElem?_map, List.getElem?_eq_getElem hlt]; rfl
    · rw [List.getElem?_map, show row[j]? = some e from he]; rfl
def spEntry (K : PySem.W.Frag) : Sp := fun vs H Q _ => ∃ (a b tb cl : Addr) (c : Kd) (tab : List (List (Option Int))) (x y : Int) (e : Option Int), vs = [.ref a, .ref b, .ref tb, .ref cl] ∧ KndAt K H a c ∧ LksAt K H b c ∧ c.Ok ∧ TabR K H tb tab ∧ SqT K H cl [.int x, .int y] ∧
  0 ≤ x - 2 ^ (c.t - 1) ∧ 0 ≤ y + c.half ∧ entAt tab (x - 2 ^ (c.t - 1)).toNat (y + c.half).toNat = some e ∧ Q (cv e) H
theorem sc_entry : FnScope ["kind", "looks", "table", "cell"] ["kind", "looks", "table", "cell"] (defScope s_entry) := ⟨rfl, rfl, rfl, by decide +kernel, rfl, by decide +kernel, by decide +kernel⟩
theorem ok_entry {P : Program} {w : World} {K : PySem.W.Frag} {mg : Str → Option Value} {base : Heap} (T : Fx K mg) : FnX P w K mg base CX0 2 (He.ga K "entry") ["kind", "looks", "table", "cell"] (spEntry K) := by
  refine fx_of T.d_entry sc_entry (fun _ _ _ _ _ _ us hl => match us, hl with | [_, _, _, _], _ => rfl) (fun vs H Q E h => ?_) (fun cdv A outer s H vs Q E hr h => ⟨_, PSs.nox ((pss_one (ps_ret (pe_ix ix_list (pe_ix ix_list (pv 2) (pe_op op_sub (pe_ix ix_tup (pv 3) pe_int (fun _ _ => rfl)) (pe_op op_oneShl pe_int (pe_op op_sub (pe_ix ix_tup (pv 1) pe_int (fun _ _ => rfl)) pe_int))) (fun _ _ => rfl)) (pe_op op_add (pe_ix ix_tup (pv 3) pe_int (fun _ _ => rfl)) (pe_f (ok_half_of T) hr (by rfl) T.g_half_of pass0 (pa_cons (pv 0) (pa_cons (pv 1) pa_nil)))) (fun _ _ => rfl))))), ?_⟩)
  · obtain ⟨a, b, tb, cl, c, tab, x, y, e, rfl, _⟩ := h
    rfl
  · obtain ⟨a, b, tb, cl, c, tab, x, y, e, rfl, hk, hl, ok, ht, hc, hx, hy, he, hQ⟩ := h
    obtain ⟨as, rb, row, q1, q2, q3, q4⟩ := tabR_at ht he
    have t1 := ok.t1
    have t5 := ok.t5
    repeat (first | refine ⟨_, rfl, ?_⟩ | refine ⟨_, _, rfl, rfl, ?_⟩ | refine ⟨_, _, _, _, rfl, rfl, by assumption, rfl, ?_⟩ | refine ⟨rfl, _, rfl, ?_⟩)
    refine ⟨c.t - 1, rfl, vsub1 t1, by omega, ?_⟩
    refine ⟨_, _, rfl, rfl, ?_⟩
    refine ⟨_, _, _, _, rfl, rfl, q1, atI_of hx q2, ?_⟩
    repeat (first | refine ⟨_, rfl, ?_⟩ | refine ⟨_, _, rfl, rfl, ?_⟩ | refine ⟨_, _, _, _, rfl, rfl, by assumption, rfl, ?_⟩ | refine ⟨rfl, _, rfl, ?_⟩)
    refine ⟨_, _, _, rfl, hk, hl, ok, ?_⟩
    refine ⟨_, _, rfl, rfl, ?_⟩
    exact ⟨_, _, _, _, rfl, rfl, q3, atI_of hy q4, hQ⟩
/-! ### cells_of, sight 1 -/
def spCells (K : PySem.W.Frag) : Sp := fun vs H Q _ => ∃ (a b p : Addr) (c : Kd) (w : Nat) (d r : Int), vs = [.ref a, .ref b, .int 1, .ref p] ∧ LksAt K H b c ∧ SqT K H p [.int (w : Nat), .int d, .int r] ∧ c.t ≤ w ∧ c.p ≤ w ∧
  ∀ H' l q, Evl.Ex H H' → H' q = some (.tup [.int (d / 2 ^ (w - c.t)), .int (r / 2 ^ (w - c.p))]) → H' l = some (.lst [.ref q]) → Q (.ref l) H'
theorem sc_cells_of : FnScope ["kind", "looks", "sight", "point", "wide", "divisor", "rest", "top", "look"] ["kind", "looks", "sight", "point"] (defScope s_cells_of) := ⟨rfl, rfl, rfl, by decide +kernel, rfl, by decide +kernel, by decide +kernel⟩
theorem ok_cells_of {P : Program} {w : World} {K : PySem.W.Frag} {mg : Str → Option Value} {base : Heap} (T : Fx K mg) : FnX P w K mg base CX0 1 (He.ga K "cells_of") ["kind", "looks", "sight", "point"] (spCells K) := by
  refine fx_of T.d_cells_of sc_cells_of (fun _ _ _ _ _ _ us hl => match us, hl with | [_, _, _, _], _ => rfl) (fun vs H Q E h => ?_) (fun cdv A outer s H vs Q E hr h => ⟨_, PSs.nox ((pss_cons (ps_asg (pv 3) (pg_tup rfl (pgs_cons (pg_name (i := 4) sc_cells_of.nd rfl (Or.inl rfl)) (pgs_cons (pg_name (i := 5) sc_cells_of.nd rfl (Or.inl rfl)) (pgs_cons (pg_name (i := 6) sc_cells_of.nd rfl (Or.inl rfl)) pgs_nil)))))
  (pss_cons (ps_set (i := 7) sc_cells_of.nd rfl (Or.inl rfl) (pe_op op_shrN (pv 5) (pe_op op_sub (pv 4) (pe_ix ix_tup (pv 1) pe_int (fun _ _ => rfl)))))
  (pss_cons (ps_set (i := 8) sc_cells_of.nd rfl (Or.inl rfl) (pe_op op_shrN (pv 6) (pe_op op_sub (pv 4) (pe_ix ix_tup (pv 1) pe_int (fun _ _ => rfl)))))
  (pss_cons (ps_if (pt_cmpR op_eq (pv 2) pe_int (nomark _)) (pss_one (ps_ret (pe_lst (pa_cons (pe_tup (pa_cons (pv 7) (pa_cons (pv 8) pa_nil))) pa_nil)))) pss_nil)
  (pss_one (ps_ret (pe_lst (pa_cons (pe_tup (pa_cons (pv 7) (pa_cons (pv 8) pa_nil))) (pa_cons (pe_tup (pa_cons (pv 7) (pa_cons (pe_op op_sub (pv 8) pe_int) pa_nil))) pa_nil)))))))))), ?_⟩)
  · obtain ⟨a, b, p, c, w, d, r, rfl, _⟩ := h
    rfl
  · obtain ⟨a, b, p, c, w, d, r, rfl, hl, hp, ht, hpp, hQ⟩ := h
    refine ⟨_, rfl, _, _, rfl, hp, rfl, ?_⟩
    refine ⟨_, _, rfl, _, _, rfl, _, _, rfl, rfl, ?_⟩
    repeat (first | refine ⟨_, rfl, ?_⟩ | refine ⟨_, _, rfl, rfl, ?_⟩ | refine ⟨_, _, _, _, rfl, rfl, by assumption, rfl, ?_⟩ | refine ⟨rfl, _, rfl, ?_⟩)
    refine ⟨_, w - c.t, rfl, vsub ht, ?_⟩
    repeat (first | refine ⟨_, rfl, ?_⟩ | refine ⟨_, _, rfl, rfl, ?_⟩ | refine ⟨_, _, _, _, rfl, rfl, by assumption, rfl, ?_⟩ | refine ⟨rfl, _, rfl, ?_⟩)
    refine ⟨_, w - c.p, rfl, vsub hpp, ?_⟩
    repeat (first | refine ⟨_, rfl, ?_⟩ | refine ⟨_, _, rfl, rfl, ?_⟩ | refine ⟨_, _, _, _, rfl, rfl, by assumption, rfl, ?_⟩ | refine ⟨rfl, _, rfl, ?_⟩)
    refine ⟨by show 2 ≤ sizeLine; decide, fun q hq => ?_⟩
    refine ⟨by show 1 ≤ sizeLine; decide, fun l hl2 => ?_⟩
    have e1 : Evl.Ex H (upd H q (.tup [.int (d / 2 ^ (w - c.t)), .int (r / 2 ^ (w - c.p))])) := Evl.Ex.new hq
    refine hQ _ l q (e1.trans (Evl.Ex.new hl2)) ?_ upd_same
    have e2 : q ≠ l := fun z => by
      rw [← z, upd_same] at hl2
      cases hl2
    rw [upd_ne e2, upd_same]
/-! ### serves -/
def spServes (K : PySem.W.Frag) : Sp := fun vs H Q _ => ∃ (a p : Addr) (c : Kd) (f w d r : Int), vs = [.ref a, .int f, .ref p] ∧ KndAt K H a c ∧ c.Ok ∧ SqT K H p [.int w, .int d, .int r] ∧ -(2 ^ 63) ≤ f ∧ f ≤ 2 ^ 63 ∧
  Q (.bl (decide ((c.base - 1) * ab (r - f * d) ≤ c.m * d))) H
theorem sc_serves : FnScope ["kind", "figure", "point", "wide", "divisor", "rest"] ["kind", "figure", "point"] (defScope s_serves) := ⟨rfl, rfl, rfl, by decide +kernel, rfl, by decide +kernel, by decide +kernel⟩
theorem ok_serves {P : Program} {w : World} {K : PySem.W.Frag} {mg : Str → Option Value} {base : Heap} (T : Fx K mg) : FnX P w K mg base CX0 1 (He.ga K "serves") ["kind", "figure", "point"] (spServes K) := by
  refine fx_of T.d_serves sc_serves (fun _ _ _ _ _ _ us hl => match us, hl with | [_, _, _], _ => rfl) (fun vs H Q E h => ?_) (fun cdv A outer s H vs Q E hr h => ⟨_, PSs.nox ((pss_cons (ps_asg (pv 2) (pg_tup rfl (pgs_cons (pg_name (i := 3) sc_serves.nd rfl (Or.inl rfl)) (pgs_cons (pg_name (i := 4) sc_serves.nd rfl (Or.inl rfl)) (pgs_cons (pg_name (i := 5) sc_serves.nd rfl (Or.inl rfl)) pgs_nil)))))
  (pss_one (ps_ret (pe_cmpR op_le (pe_op op_mul (pe_op op_sub (pe_ix ix_tup (pv 0) pe_int (fun _ _ => rfl)) pe_int) (pe_callB call_abs (by rfl) T.b_abs (by decide +kernel) (pa_cons (pe_op op_sub (pv 5) (pe_op op_mul (pv 1) (pv 4))) pa_nil))) (pe_op op_mul (pe_ix ix_tup (pv 0) pe_int (fun _ _ => rfl)) (pv 4)) (nomark _)))))), ?_⟩)
  · obtain ⟨a, p, c, f, w, d, r, rfl, _⟩ := h
    rfl
  · obtain ⟨a, p, c, f, w, d, r, rfl, hk, ok, hp, h1, h2, hQ⟩ := h
    have b8 := ok.b8
    have b2 := ok.b2
    have m1 := ok.m1
    have m7 := ok.m7
    refine ⟨_, rfl, _, _, rfl, hp, rfl, ?_⟩
    refine ⟨_, _, rfl, _, _, rfl, _, _, rfl, rfl, ?_⟩
    repeat (first | refine ⟨_, rfl, ?_⟩ | refine ⟨_, _, rfl, rfl, ?_⟩ | refine ⟨_, _, _, _, rfl, rfl, by assumption, rfl, ?_⟩ | refine ⟨rfl, _, rfl, ?_⟩)
    refine ⟨.inl ⟨by omega, by omega⟩, ?_⟩
    repeat (first | refine ⟨_, rfl, ?_⟩ | refine ⟨_, _, rfl, rfl, ?_⟩ | refine ⟨_, _, _, _, rfl, rfl, by assumption, rfl, ?_⟩ | refine ⟨rfl, _, rfl, ?_⟩)
    refine ⟨.inl ⟨by omega, by omega⟩, ?_⟩
    repeat (first | refine ⟨_, rfl, ?_⟩ | refine ⟨_, _, rfl, rfl, ?_⟩ | refine ⟨_, _, _, _, rfl, rfl, by assumption, rfl, ?_⟩ | refine ⟨rfl, _, rfl, ?_⟩)
    refine ⟨.inl ⟨by omega, by omega⟩, ?_⟩
    exact ⟨_, _, rfl, rfl, hQ⟩
/-! ### worth -/
def wo (b : Int) (ns : List Int) : Int := ns.foldl (fun a f => a * b + f) 0
def spWorth (K : PySem.W.Frag) : Sp := fun vs H Q _ => ∃ (a r : Addr) (c : Kd) (ns : List Int), vs = [.ref a, .ref r] ∧ KndAt K H a c ∧ c.Ok ∧ SqL K H r (ns.map V.int) ∧ Q (.int (wo c.base ns)) H
theorem wo_take {b : Int} {ns : List Int} {i : Nat} {f : Int} (h : ns[i]? = some f) : wo b (ns.take (i + 1)) = wo b (ns.take i) * b + f := by
  unfold wo
  rw [List.take_succ, h]
  simp [List.foldl_append]
theorem sc_worth : FnScope ["kind", "row", "found", "figure"] ["kind", "row"] (defScope s_worth) := ⟨rfl, rfl, rfl, by decide +kernel, rfl, by decide +kernel, by decide +kernel⟩
theorem ok_worth {P : Program} {w : World} {K : PySem.W.Frag} {mg : Str → Option Value} {base : Heap} (T : Fx K mg) : FnX P w K mg base CX0 1 (He.ga K "worth") ["kind", "row"] (spWorth K) := by
  refine fx_of T.d_worth sc_worth (fun _ _ _ _ _ _ us hl => match us, hl with | [_, _], _ => rfl) (fun vs H Q E h => ?_) (fun cdv A outer s H vs Q E hr h => ⟨_, PSs.nox ((pss_cons (ps_set (i := 2) sc_worth.nd rfl (Or.inl rfl) pe_int)
  (pss_cons (ps_for PassesOwn.never rfl (pi_list (pv 1)) (pg_name (i := 3) sc_worth.nd rfl (Or.inl rfl)) (pss_one (ps_set (i := 2) sc_worth.nd rfl (Or.inl rfl) (pe_op op_add (pe_op op_mul (pv 2) (pe_ix ix_tup (pv 0) pe_int (fun _ _ => rfl))) (pv 3)))))
  (pss_one (ps_ret (pv 2)))))), ?_⟩)
  · obtain ⟨a, r, c, ns, rfl, _⟩ := h
    rfl
  · obtain ⟨a, r, c, ns, rfl, hk, ok, hr2, hQ⟩ := h
    have b8 := ok.b8
    have b2 := ok.b2
    refine ⟨_, rfl, _, rfl, ⟨_, hr2⟩, for_list (xs := ns.map V.int) (fun i σ H' => H' = H ∧ ∃ z, σ = [some (.ref a), some (.ref r), some (.int (wo c.base (ns.take i))), z]) ⟨rfl, _, rfl⟩ ?_ ?_ ?_⟩
    · rintro i σ H' hi ⟨rfl, z, rfl⟩
      exact hr2
    · rintro i x σ H' hx ⟨rfl, z, rfl⟩
      rw [List.getElem?_map] at hx
      cases hf : ns[i]? with
      | none => rw [hf] at hx; cases hx
      | some f =>
        rw [hf] at hx
        cases hx
        repeat (first | refine ⟨_, rfl, ?_⟩ | refine ⟨_, _, rfl, rfl, ?_⟩ | refine ⟨_, _, _, _, rfl, rfl, by assumption, rfl, ?_⟩ | refine ⟨rfl, _, rfl, ?_⟩)
        refine ⟨.inr ⟨by omega, by omega⟩, ?_⟩
        repeat (first | refine ⟨_, rfl, ?_⟩ | refine ⟨_, _, rfl, rfl, ?_⟩ | refine ⟨_, _, _, _, rfl, rfl, by assumption, rfl, ?_⟩ | refine ⟨rfl, _, rfl, ?_⟩)
        refine ⟨rfl, some (V.int f), ?_⟩
        rw [wo_take hf]
        rfl
    · rintro σ H' ⟨rfl, z, rfl⟩
      rw [List.length_map, List.take_length]
      exact ⟨_, rfl, hQ⟩
end SF
end
section
set_option Elab.async false
set_option linter.all false
set_option maxRecDepth 100000
set_option maxHeartbeats 4000000
namespace SF
open PySem PySem.Spec PyProof.Rows L2
abbrev bits (i : Int) : Nat := Builtin.Int.intBits i
theorem TabR.ex {K : PySem.W.Frag} {H H' : Hp} {a : Addr} {tab : List (List (Option Int))} (e : Evl.Ex H H') (h : TabR K H a tab) : TabR K H' a tab := by
  obtain ⟨as, h1, h2, h3⟩ := h
  exact ⟨as, Evl.ex_l e h1, h2, fun i b row p q => Evl.ex_l e (h3 i b row p q)⟩
/-! ### has_room -/
def room (c : Kd) (x d : Int) (n : Nat) : Prop := (c.base - 1) * ab x ≤ c.m * d * 2 ^ (c.k * n)
instance (c : Kd) (x d : Int) (n : Nat) : Decidable (room c x d n) := inferInstanceAs (Decidable (_ ≤ _))
def Big (i : Int) : Prop := i.natAbs < 2 ^ 1000
theorem kn_le {c : Kd} (ok : c.Ok) {n : Nat} (h : n ≤ 1010) : c.k * n ≤ 3030 := Nat.mul_le_mul ok.k3 h
theorem md_lt {c : Kd} (ok : c.Ok) {d : Int} (h : Big d) : (c.m * d).natAbs < 2 ^ 1003 := by
  rw [Int.natAbs_mul]
  have h1 := ok.m1
  have h7 := ok.m7
  have h2 : c.m.natAbs < 2 ^ 3 := by omega
  calc c.m.natAbs * d.natAbs < 2 ^ 3 * 2 ^ 1000 := Nat.mul_lt_mul'' h2 h
    _ = 2 ^ 1003 := by rw [← Nat.pow_add]
def spRoom (K : PySem.W.Frag) : Sp := fun vs H Q _ => ∃ (a : Addr) (c : Kd) (x d : Int) (n : Nat), vs = [.ref a, .int x, .int d, .int (n : Nat)] ∧ KndAt K H a c ∧ c.Ok ∧ Big d ∧ n ≤ 1010 ∧ Q (.bl (decide (room c x d n))) H
theorem sc_has_room : FnScope ["kind", "x", "divisor", "many", "base", "most"] ["kind", "x", "divisor", "many"] (defScope s_has_room) := ⟨rfl, rfl, rfl, by decide +kernel, rfl, by decide +kernel, by decide +kernel⟩
theorem ok_has_room {P : Program} {w : World} {K : PySem.W.Frag} {mg : Str → Option Value} {base : Heap} (T : Fx K mg) : FnX P w K mg base CX0 2 (He.ga K "has_room") ["kind", "x", "divisor", "many"] (spRoom K) := by
  refine fx_of T.d_has_room sc_has_room (fun _ _ _ _ _ _ us hl => match us, hl with | [_, _, _, _], _ => rfl) (fun vs H Q E h => ?_) (fun cdv A outer s H vs Q E hr h => ⟨_, PSs.nox ((pss_cons (ps_asg (pv 0) (pg_tup rfl (pgs_cons (pg_name (i := 4) sc_has_room.nd rfl (Or.inl rfl)) (pgs_cons (pg_name (i := 5) sc_has_room.nd rfl (Or.inl rfl)) pgs_nil))))
  (pss_one (ps_ret (pe_cmpR op_le (pe_op op_mul (pe_op op_sub (pv 4) pe_int) (pe_callB call_abs (by rfl) T.b_abs (by decide +kernel) (pa_cons (pv 1) pa_nil))) (pe_op op_shlN (pe_op op_mul (pv 5) (pv 2)) (pe_op op_mul (pe_f (ok_bits_of T) hr (by rfl) T.g_bits_of pass0 (pa_cons (pv 4) pa_nil)) (pv 3))) (nomark _)))))), ?_⟩)
  · obtain ⟨a, c, x, d, n, rfl, _⟩ := h
    rfl
  · obtain ⟨a, c, x, d, n, rfl, hk, ok, hd, hn, hQ⟩ := h
    have b8 := ok.b8
    have b2 := ok.b2
    have m1 := ok.m1
    have m7 := ok.m7
    have k3 := ok.k3
    have kn := kn_le ok hn
    refine ⟨_, rfl, _, _, rfl, hk, rfl, ?_⟩
    refine ⟨_, _, rfl, _, _, rfl, rfl, ?_⟩
    repeat (first | refine ⟨_, rfl, ?_⟩ | refine ⟨_, _, rfl, rfl, ?_⟩ | refine ⟨_, _, _, _, rfl, rfl, by assumption, rfl, ?_⟩ | refine ⟨rfl, _, rfl, ?_⟩)
    refine ⟨.inl ⟨by omega, by omega⟩, ?_⟩
    repeat (first | refine ⟨_, rfl, ?_⟩ | refine ⟨_, _, rfl, rfl, ?_⟩ | refine ⟨_, _, _, _, rfl, rfl, by assumption, rfl, ?_⟩ | refine ⟨rfl, _, rfl, ?_⟩)
    refine ⟨.inl ⟨by omega, by omega⟩, ?_⟩
    repeat (first | refine ⟨_, rfl, ?_⟩ | refine ⟨_, _, rfl, rfl, ?_⟩ | refine ⟨_, _, _, _, rfl, rfl, by assumption, rfl, ?_⟩ | refine ⟨rfl, _, rfl, ?_⟩)
    refine ⟨ok, ?_⟩
    repeat (first | refine ⟨_, rfl, ?_⟩ | refine ⟨_, _, rfl, rfl, ?_⟩ | refine ⟨_, _, _, _, rfl, rfl, by assumption, rfl, ?_⟩ | refine ⟨rfl, _, rfl, ?_⟩)
    refine ⟨.inl ⟨by omega, by omega⟩, ?_⟩
    refine ⟨_, c.k * n, rfl, vmul _ _, shl_ok (md_lt ok hd) (by omega), ?_⟩
    exact ⟨_, _, rfl, rfl, hQ⟩
/-! ### scaled -/
def mx (c : Kd) : Int := if (c.p : Int) > (c.t : Int) then (c.p : Nat) else (c.t : Nat)
def g0 (c : Kd) (d : Int) (n : Nat) : Int := d * 2 ^ (c.k * n)
def gm (c : Kd) (d : Int) (n : Nat) : Int := if mx c - ((bits (g0 c d n) : Nat) : Int) > 0 then mx c - ((bits (g0 c d n) : Nat) : Int) else 0
theorem gm_nn (c : Kd) (d : Int) (n : Nat) : 0 ≤ gm c d n := by unfold gm; split <;> omega
theorem mx_le {c : Kd} (ok : c.Ok) : mx c ≤ 5 := by
  have := ok.p5
  have := ok.t5
  unfold mx; split <;> omega
theorem gm_le {c : Kd} (ok : c.Ok) (d : Int) (n : Nat) : gm c d n ≤ 5 := by
  have := mx_le ok
  unfold gm; split <;> omega
theorem g0_lt {c : Kd} (ok : c.Ok) {d : Int} {n : Nat} (hd : Big d) (hn : n ≤ 1010) : (g0 c d n).natAbs < 2 ^ 4030 := by
  unfold g0
  rw [Int.natAbs_mul, Int.natAbs_pow]
  have kn := kn_le ok hn
  calc d.natAbs * (2 : Int).natAbs ^ (c.k * n) < 2 ^ 1000 * 2 ^ (c.k * n) := Nat.mul_lt_mul_of_pos_right hd (Nat.two_pow_pos _)
    _ ≤ 2 ^ 1000 * 2 ^ 3030 := Nat.mul_le_mul_left _ (Nat.pow_le_pow_right (by decide) kn)
    _ = 2 ^ 4030 := by rw [← Nat.pow_add]
def spScaled (K : PySem.W.Frag) : Sp := fun vs H Q E => ∃ (a b : Addr) (c : Kd) (x d : Int) (n : Nat), vs = [.ref a, .ref b, .int x, .int d, .int (n : Nat)] ∧ KndAt K H a c ∧ LksAt K H b c ∧ c.Ok ∧ Big x ∧ Big d ∧ n ≤ 1010 ∧
  (room c x d n → NewT H [.int (((bits (g0 c d n) : Nat) : Int) + gm c d n), .int (g0 c d n * 2 ^ (gm c d n).toNat), .int (x * 2 ^ (gm c d n).toNat)] Q) ∧ (¬ room c x d n → E (.ref (He.ga K "NoRoom")) none H)
theorem sc_scaled : FnScope ["kind", "looks", "x", "divisor", "many", "great", "wide", "more"] ["kind", "looks", "x", "divisor", "many"] (defScope s_scaled) := ⟨rfl, rfl, rfl, by decide +kernel, rfl, by decide +kernel, by decide +kernel⟩
theorem ok_scaled {P : Program} {w : World} {K : PySem.W.Frag} {mg : Str → Option Value} {base : Heap} (T : Fx K mg) : FnX P w K mg base (L2N.CX P w) 3 (He.ga K "scaled") ["kind", "looks", "x", "divisor", "many"] (spScaled K) := by
  refine fx_of T.d_scaled sc_scaled (fun _ _ _ _ _ _ us hl => match us, hl with | [_, _, _, _, _], _ => rfl) (fun vs H Q E h => ?_) (fun cdv A outer s H vs Q E hr h => ⟨_, (pss_cons (ps_if (pt_not (pt_val (pe_f (ok_has_room T) hr (by rfl) T.g_has_room pass0 (pa_cons (pv 0) (pa_cons (pv 2) (pa_cons (pv 3) (pa_cons (pv 4) pa_nil))))))) (pss_one (L2N.ps_raise rfl (L2N.takes_of rfl rfl rfl rfl) (L2N.pmk_own PySem.F.excBase_ValueError T.x_NoRoom.1 T.g_NoRoom T.x_NoRoom.2.1 (raises_own T.x_NoRoom.2.2.1 T.x_NoRoom.2.2.2) rfl))) pss_nil)
  (pss_cons (ps_set (i := 5) sc_scaled.nd rfl (Or.inl rfl) (pe_op op_shlN (pv 3) (pe_op op_mul (pe_f (ok_bits_of T) (hr.mono (by decide)) (by rfl) T.g_bits_of pass0 (pa_cons (pe_ix ix_tup (pv 0) pe_int (fun _ _ => rfl)) pa_nil)) (pv 4))))
  (pss_cons (ps_set (i := 6) sc_scaled.nd rfl (Or.inl rfl) (pe_bits (pv 5)))
  (pss_cons (ps_set (i := 7) sc_scaled.nd rfl (Or.inl rfl) (pe_callB (call_max2 rfl) (by rfl) T.b_max (by decide +kernel) (pa_cons pe_int (pa_cons (pe_op op_sub (pe_callB (SF.cr_maxT2 rfl (hu_of hr)) (by rfl) T.b_max (by decide +kernel) (pa_cons (pv 1) pa_nil)) (pv 6)) pa_nil))))
  (pss_one (ps_ret (pe_tup (pa_cons (pe_op op_add (pv 6) (pv 7)) (pa_cons (pe_op op_shlN (pv 5) (pv 7)) (pa_cons (pe_op op_shlN (pv 2) (pv 7)) pa_nil)))))))))), ?_⟩)
  · obtain ⟨a, b, c, x, d, n, rfl, _⟩ := h
    rfl
  · obtain ⟨a, b, c, x, d, n, rfl, hk, hl, ok, hx, hd, hn, hQ, hE⟩ := h
    have b8 := ok.b8
    have b2 := ok.b2
    have k3 := ok.k3
    have kn := kn_le ok hn
    have gl := gm_le ok d n
    have gn := gm_nn c d n
    repeat (first | refine ⟨_, rfl, ?_⟩ | refine ⟨_, _, rfl, rfl, ?_⟩ | refine ⟨_, _, _, _, rfl, rfl, by assumption, rfl, ?_⟩ | refine ⟨rfl, _, rfl, ?_⟩)
    refine ⟨_, c, _, _, _, rfl, hk, ok, hd, hn, ?_⟩
    refine ⟨_, rfl, ?_⟩
    refine itN (fun hroom => ?_) (fun hroom => hE hroom)
    repeat (first | refine ⟨_, rfl, ?_⟩ | refine ⟨_, _, rfl, rfl, ?_⟩ | refine ⟨_, _, _, _, rfl, rfl, by assumption, rfl, ?_⟩ | refine ⟨rfl, _, rfl, ?_⟩)
    refine ⟨ok, ?_⟩
    repeat (first | refine ⟨_, rfl, ?_⟩ | refine ⟨_, _, rfl, rfl, ?_⟩ | refine ⟨_, _, _, _, rfl, rfl, by assumption, rfl, ?_⟩ | refine ⟨rfl, _, rfl, ?_⟩)
    refine ⟨.inl ⟨by omega, by omega⟩, ?_⟩
    refine ⟨_, c.k * n, rfl, vmul _ _, shl_ok (n := 1000) hd (by omega), ?_⟩
    repeat (first | refine ⟨_, rfl, ?_⟩ | refine ⟨_, _, rfl, rfl, ?_⟩ | refine ⟨_, _, _, _, rfl, rfl, by assumption, rfl, ?_⟩ | refine ⟨rfl, _, rfl, ?_⟩)
    refine ⟨_, _, _, rfl, hl, ?_⟩
    repeat (first | refine ⟨_, rfl, ?_⟩ | refine ⟨_, _, rfl, rfl, ?_⟩ | refine ⟨_, _, _, _, rfl, rfl, by assumption, rfl, ?_⟩ | refine ⟨rfl, _, rfl, ?_⟩)
    refine ⟨_, _, rfl, ?_⟩
    repeat (first | refine ⟨_, rfl, ?_⟩ | refine ⟨_, _, rfl, rfl, ?_⟩ | refine ⟨_, _, _, _, rfl, rfl, by assumption, rfl, ?_⟩ | refine ⟨rfl, _, rfl, ?_⟩)
    refine ⟨_, (gm c d n).toNat, rfl, vnat gn, shl_ok (g0_lt ok hd hn) (by omega), ?_⟩
    repeat (first | refine ⟨_, rfl, ?_⟩ | refine ⟨_, _, rfl, rfl, ?_⟩ | refine ⟨_, _, _, _, rfl, rfl, by assumption, rfl, ?_⟩ | refine ⟨rfl, _, rfl, ?_⟩)
    refine ⟨_, (gm c d n).toNat, rfl, vnat gn, shl_ok hx (by omega), ?_⟩
    exact ⟨by show 3 ≤ sizeLine; decide, fun p hp => hQ hroom _ p (Evl.Ex.new hp) hp upd_same⟩
/-! ### pair_worth -/
def pw (w : Nat) (a b : Int) : Int := if (a + b) % 2 ^ w * 2 ≥ 2 ^ w then (a + b) % 2 ^ w - 2 ^ w else (a + b) % 2 ^ w
def spPairW (K : PySem.W.Frag) : Sp := fun vs H Q _ => ∃ (p : Addr) (w : Nat) (a b : Int), vs = [.int (w : Nat), .ref p] ∧ SqT K H p [.int a, .int b] ∧ w ≤ 100000 ∧ Q (.int (pw w a b)) H
theorem two_pos (w : Nat) : (0 : Int) < 2 ^ w := Int.pow_pos (by decide)
theorem sc_pair_worth : FnScope ["width", "pair", "size", "left"] ["width", "pair"] (defScope s_pair_worth) := ⟨rfl, rfl, rfl, by decide +kernel, rfl, by decide +kernel, by decide +kernel⟩
theorem ok_pair_worth {P : Program} {w : World} {K : PySem.W.Frag} {mg : Str → Option Value} {base : Heap} (T : Fx K mg) : FnX P w K mg base CX0 1 (He.ga K "pair_worth") ["width", "pair"] (spPairW K) := by
  refine fx_of T.d_pair_worth sc_pair_worth (fun _ _ _ _ _ _ us hl => match us, hl with | [_, _], _ => rfl) (fun vs H Q E h => ?_) (fun cdv A outer s H vs Q E hr h => ⟨_, PSs.nox ((pss_cons (ps_set (i := 2) sc_pair_worth.nd rfl (Or.inl rfl) (pe_op op_oneShl pe_int (pv 0)))
  (pss_cons (ps_set (i := 3) sc_pair_worth.nd rfl (Or.inl rfl) (pe_op op_mod (pe_op op_add (pe_ix ix_tup (pv 1) pe_int (fun _ _ => rfl)) (pe_ix ix_tup (pv 1) pe_int (fun _ _ => rfl))) (pv 2)))
  (pss_cons (ps_if (pt_cmpR op_ge (pe_op op_mul pe_int (pv 3)) (pv 2) (nomark _)) (pss_one (ps_ret (pe_op op_sub (pv 3) (pv 2)))) pss_nil)
  (pss_one (ps_ret (pv 3))))))), ?_⟩)
  · obtain ⟨p, w, a, b, rfl, _⟩ := h
    rfl
  · obtain ⟨p, w, a, b, rfl, hp, hw, hQ⟩ := h
    refine ⟨_, rfl, w, rfl, rfl, by omega, ?_⟩
    repeat (first | refine ⟨_, rfl, ?_⟩ | refine ⟨_, _, rfl, rfl, ?_⟩ | refine ⟨_, _, _, _, rfl, rfl, by assumption, rfl, ?_⟩ | refine ⟨rfl, _, rfl, ?_⟩)
    refine ⟨two_pos w, ?_⟩
    repeat (first | refine ⟨_, rfl, ?_⟩ | refine ⟨_, _, rfl, rfl, ?_⟩ | refine ⟨_, _, _, _, rfl, rfl, by assumption, rfl, ?_⟩ | refine ⟨rfl, _, rfl, ?_⟩)
    refine ⟨.inl ⟨by decide, by decide⟩, ?_⟩
    repeat (first | refine ⟨_, rfl, ?_⟩ | refine ⟨_, _, rfl, rfl, ?_⟩ | refine ⟨_, _, _, _, rfl, rfl, by assumption, rfl, ?_⟩ | refine ⟨rfl, _, rfl, ?_⟩)
    refine itD (fun hc => ?_) (fun hc => ?_)
    · refine ⟨_, rfl, _, rfl, _, _, rfl, rfl, ?_⟩
      have e : pw w a b = (a + b) % 2 ^ w - 2 ^ w := by
        unfold pw
        rw [if_pos (by omega)]
      rw [e] at hQ
      exact hQ
    · refine ⟨_, rfl, ?_⟩
      have e : pw w a b = (a + b) % 2 ^ w := by
        unfold pw
        rw [if_neg (by omega)]
      rw [e] at hQ
      exact hQ
/-! ### look_of -/
def spLook (K : PySem.W.Frag) : Sp := fun vs H Q _ => ∃ (p : Addr) (w l : Nat) (a b : Int), vs = [.int (w : Nat), .ref p, .int (l : Nat)] ∧ SqT K H p [.int a, .int b] ∧ l ≤ w ∧ w ≤ 100000 ∧ ∀ H', Evl.Ex H H' → Q (.int (pw (w - l) (a / 2 ^ l) (b / 2 ^ l))) H'
theorem sc_look_of : FnScope ["width", "pair", "low"] ["width", "pair", "low"] (defScope s_look_of) := ⟨rfl, rfl, rfl, by decide +kernel, rfl, by decide +kernel, by decide +kernel⟩
theorem ok_look_of {P : Program} {w : World} {K : PySem.W.Frag} {mg : Str → Option Value} {base : Heap} (T : Fx K mg) : FnX P w K mg base CX0 2 (He.ga K "look_of") ["width", "pair", "low"] (spLook K) := by
  refine fx_of T.d_look_of sc_look_of (fun _ _ _ _ _ _ us hl => match us, hl with | [_, _, _], _ => rfl) (fun vs H Q E h => ?_) (fun cdv A outer s H vs Q E hr h => ⟨_, PSs.nox ((pss_one (ps_ret (pe_f (ok_pair_worth T) hr (by rfl) T.g_pair_worth pass0 (pa_cons (pe_op op_sub (pv 0) (pv 2)) (pa_cons (pe_tup (pa_cons (pe_op op_shrN (pe_ix ix_tup (pv 1) pe_int (fun _ _ => rfl)) (pv 2)) (pa_cons (pe_op op_shrN (pe_ix ix_tup (pv 1) pe_int (fun _ _ => rfl)) (pv 2)) pa_nil))) pa_nil)))))), ?_⟩)
  · obtain ⟨p, w, l, a, b, rfl, _⟩ := h
    rfl
  · obtain ⟨p, w, l, a, b, rfl, hp, hl, hw, hQ⟩ := h
    repeat (first | refine ⟨_, rfl, ?_⟩ | refine ⟨_, _, rfl, rfl, ?_⟩ | refine ⟨_, _, _, _, rfl, rfl, by assumption, rfl, ?_⟩ | refine ⟨rfl, _, rfl, ?_⟩)
    refine ⟨by show 2 ≤ sizeLine; decide, fun q hq => ?_⟩
    refine ⟨q, w - l, _, _, congrArg (fun z => [z, V.ref q]) (vsub hl), Evl.st_of upd_same, by omega, ?_⟩
    exact hQ _ (Evl.Ex.new hq)
/-! ### three_in_two -/
def t3o (a b c : Int) : Int := Builtin.bitXor (Builtin.bitXor a b) c
def t3m (a b c : Int) : Int := Builtin.bitOr (Builtin.bitOr (Builtin.bitAnd a b) (Builtin.bitAnd a c)) (Builtin.bitAnd b c)
def spThree (K : PySem.W.Frag) : Sp := fun vs H Q _ => ∃ (w : Nat) (a b c : Int), vs = [.int (w : Nat), .int a, .int b, .int c] ∧ w ≤ 100000 ∧ NewT H [.int (t3o a b c), .int (2 * t3m a b c % 2 ^ w)] Q
theorem sc_three_in_two : FnScope ["width", "one", "other", "third", "odd", "twice"] ["width", "one", "other", "third"] (defScope s_three_in_two) := ⟨rfl, rfl, rfl, by decide +kernel, rfl, by decide +kernel, by decide +kernel⟩
theorem ok_three_in_two {P : Program} {w : World} {K : PySem.W.Frag} {mg : Str → Option Value} {base : Heap} (T : Fx K mg) : FnX P w K mg base CX0 1 (He.ga K "three_in_two") ["width", "one", "other", "third"] (spThree K) := by
  refine fx_of T.d_three_in_two sc_three_in_two (fun _ _ _ _ _ _ us hl => match us, hl with | [_, _, _, _], _ => rfl) (fun vs H Q E h => ?_) (fun cdv A outer s H vs Q E hr h => ⟨_, PSs.nox ((pss_cons (ps_set (i := 4) sc_three_in_two.nd rfl (Or.inl rfl) (pe_op op_xor (pe_op op_xor (pv 1) (pv 2)) (pv 3)))
  (pss_cons (ps_set (i := 5) sc_three_in_two.nd rfl (Or.inl rfl) (pe_op op_or (pe_op op_or (pe_op op_and (pv 1) (pv 2)) (pe_op op_and (pv 1) (pv 3))) (pe_op op_and (pv 2) (pv 3))))
  (pss_one (ps_ret (pe_tup (pa_cons (pv 4) (pa_cons (pe_op op_mod (pe_op op_mul pe_int (pv 5)) (pe_op op_oneShl pe_int (pv 0))) pa_nil)))))))), ?_⟩)
  · obtain ⟨w, a, b, c, rfl, _⟩ := h
    rfl
  · obtain ⟨w, a, b, c, rfl, hw, hQ⟩ := h
    repeat (first | refine ⟨_, rfl, ?_⟩ | refine ⟨_, _, rfl, rfl, ?_⟩ | refine ⟨_, _, _, _, rfl, rfl, by assumption, rfl, ?_⟩ | refine ⟨rfl, _, rfl, ?_⟩)
    refine ⟨.inl ⟨by decide, by decide⟩, ?_⟩
    refine ⟨_, rfl, w, rfl, rfl, by omega, ?_⟩
    refine ⟨_, _, rfl, rfl, two_pos w, ?_⟩
    exact ⟨by show 2 ≤ sizeLine; decide, fun p hp => hQ _ p (Evl.Ex.new hp) hp upd_same⟩
/-! ### width_for, begun -/
def spWidth (K : PySem.W.Frag) : Sp := fun vs H Q _ => ∃ (a : Addr) (c : Kd) (w : Nat), vs = [.ref a, .int (w : Nat)] ∧ KndAt K H a c ∧ c.Ok ∧ Q (.int ((w + c.k + 2 : Nat) : Int)) H
theorem sc_width_for : FnScope ["kind", "wide"] ["kind", "wide"] (defScope s_width_for) := ⟨rfl, rfl, rfl, by decide +kernel, rfl, by decide +kernel, by decide +kernel⟩
theorem ok_width_for {P : Program} {w : World} {K : PySem.W.Frag} {mg : Str → Option Value} {base : Heap} (T : Fx K mg) : FnX P w K mg base CX0 2 (He.ga K "width_for") ["kind", "wide"] (spWidth K) := by
  refine fx_of T.d_width_for sc_width_for (fun _ _ _ _ _ _ us hl => match us, hl with | [_, _], _ => rfl) (fun vs H Q E h => ?_) (fun cdv A outer s H vs Q E hr h => ⟨_, PSs.nox ((pss_one (ps_ret (pe_op op_add (pe_op op_add (pv 1) (pe_f (ok_bits_of T) hr (by rfl) T.g_bits_of pass0 (pa_cons (pe_ix ix_tup (pv 0) pe_int (fun _ _ => rfl)) pa_nil))) pe_int)))), ?_⟩)
  · obtain ⟨a, c, w, rfl, _⟩ := h
    rfl
  · obtain ⟨a, c, w, rfl, hk, ok, hQ⟩ := h
    repeat (first | refine ⟨_, rfl, ?_⟩ | refine ⟨_, _, rfl, rfl, ?_⟩ | refine ⟨_, _, _, _, rfl, rfl, by assumption, rfl, ?_⟩ | refine ⟨rfl, _, rfl, ?_⟩)
    refine ⟨ok, ?_⟩
    have e : V.int ((w : Int) + (c.k : Int) + 2) = V.int ((w + c.k + 2 : Nat) : Int) := congrArg V.int (by omega)
    rw [← e] at hQ
    exact ⟨_, _, rfl, rfl, _, _, rfl, rfl, hQ⟩
def spBegun (K : PySem.W.Frag) : Sp := fun vs H Q _ => ∃ (a : Addr) (c : Kd) (w : Nat) (l : Int), vs = [.ref a, .int (w : Nat), .int l] ∧ KndAt K H a c ∧ c.Ok ∧ w ≤ 10000 ∧ NewT H [.int (l % 2 ^ (w + c.k + 2)), .int 0] Q
theorem sc_begun : FnScope ["kind", "wide", "left"] ["kind", "wide", "left"] (defScope s_begun) := ⟨rfl, rfl, rfl, by decide +kernel, rfl, by decide +kernel, by decide +kernel⟩
theorem ok_begun {P : Program} {w : World} {K : PySem.W.Frag} {mg : Str → Option Value} {base : Heap} (T : Fx K mg) : FnX P w K mg base CX0 3 (He.ga K "begun") ["kind", "wide", "left"] (spBegun K) := by
  refine fx_of T.d_begun sc_begun (fun _ _ _ _ _ _ us hl => match us, hl with | [_, _, _], _ => rfl) (fun vs H Q E h => ?_) (fun cdv A outer s H vs Q E hr h => ⟨_, PSs.nox ((pss_one (ps_ret (pe_tup (pa_cons (pe_op op_mod (pv 2) (pe_op op_oneShl pe_int (pe_f (ok_width_for T) hr (by rfl) T.g_width_for pass0 (pa_cons (pv 0) (pa_cons (pv 1) pa_nil))))) (pa_cons pe_int pa_nil)))))), ?_⟩)
  · obtain ⟨a, c, w, l, rfl, _⟩ := h
    rfl
  · obtain ⟨a, c, w, l, rfl, hk, ok, hw, hQ⟩ := h
    have k3 := ok.k3
    repeat (first | refine ⟨_, rfl, ?_⟩ | refine ⟨_, _, rfl, rfl, ?_⟩ | refine ⟨_, _, _, _, rfl, rfl, by assumption, rfl, ?_⟩ | refine ⟨rfl, _, rfl, ?_⟩)
    refine ⟨_, c, _, rfl, hk, ok, ?_⟩
    refine ⟨_, rfl, rfl, by omega, ?_⟩
    refine ⟨_, _, rfl, rfl, two_pos _, ?_⟩
    exact ⟨by show 2 ≤ sizeLine; decide, fun p hp => hQ _ p (Evl.Ex.new hp) hp upd_same⟩
end SF
end
section
set_option Elab.async false
set_option linter.all false
set_option maxRecDepth 100000
set_option maxHeartbeats 4000000
namespace SF
open PySem PySem.Spec PyProof.Rows L2
/-! ### stepped -/
/-- one half of the pair, a place further -/
def stA (c : Kd) (w : Nat) (a : Int) : Int := a * c.base % 2 ^ (w + c.k + 2)
def lkR (c : Kd) (w : Nat) (a b : Int) : Int := pw (w + c.k + 2 - (w - c.p)) (stA c w a / 2 ^ (w - c.p)) (stA c w b / 2 ^ (w - c.p))
def reR (c : Kd) (w : Nat) (a b : Int) : Int := pw (w + c.k + 2) (stA c w a) (stA c w b)
def sv (c : Kd) (f g r : Int) : Prop := (c.base - 1) * ab (r - f * g) ≤ c.m * g
instance (c : Kd) (f g r : Int) : Decidable (sv c f g r) := inferInstanceAs (Decidable (_ ≤ _))
def thR (c : Kd) (w : Nat) (f g : Int) : Int := -f * g % 2 ^ (w + c.k + 2)
abbrev topI (c : Kd) (x : Int) : Nat := (x - 2 ^ (c.t - 1)).toNat
abbrev colI (c : Kd) (y : Int) : Nat := (y + c.half).toNat
def spStepped (K : PySem.W.Frag) : Sp := fun vs H Q _ => ∃ (a b tb p : Addr) (c : Kd) (tab : List (List (Option Int))) (w : Nat) (g x y : Int) (e : Option Int), vs = [.ref a, .ref b, .ref tb, .int (w : Nat), .int g, .ref p] ∧ KndAt K H a c ∧ LksAt K H b c ∧ c.Ok ∧ TabR K H tb tab ∧ SqT K H p [.int x, .int y] ∧
  w ≤ 10000 ∧ c.t ≤ w ∧ c.p ≤ w ∧ 0 ≤ g / 2 ^ (w - c.t) - 2 ^ (c.t - 1) ∧ 0 ≤ lkR c w x y + c.half ∧ entAt tab (topI c (g / 2 ^ (w - c.t))) (colI c (lkR c w x y)) = some e ∧
  (e = none → NewT H [.int (lkR c w x y), .non, .ref p] Q) ∧
  (∀ f, e = some f → -(2 ^ 63) ≤ f ∧ f ≤ 2 ^ 63 ∧ (¬ sv c f g (reR c w x y) → NewT H [.int (lkR c w x y), .non, .ref p] Q) ∧
    (sv c f g (reR c w x y) → ∀ H' r q, Evl.Ex H H' → H r = none → H' r = some (.tup [.int (lkR c w x y), .int f, .ref q]) → H q = none →
      H' q = some (.tup [.int (t3o (stA c w x) (stA c w y) (thR c w f g)), .int (2 * t3m (stA c w x) (stA c w y) (thR c w f g) % 2 ^ (w + c.k + 2))]) → Q (.ref r) H'))
theorem sc_stepped : FnScope ["kind", "looks", "table", "wide", "great", "pair", "width", "size", "first", "second", "look", "figure"] ["kind", "looks", "table", "wide", "great", "pair"] (defScope s_stepped) := ⟨rfl, rfl, rfl, by decide +kernel, rfl, by decide +kernel, by decide +kernel⟩
theorem ok_stepped {P : Program} {w : World} {K : PySem.W.Frag} {mg : Str → Option Value} {base : Heap} (T : Fx K mg) : FnX P w K mg base CX0 3 (He.ga K "stepped") ["kind", "looks", "table", "wide", "great", "pair"] (spStepped K) := by
  refine fx_of T.d_stepped sc_stepped (fun _ _ _ _ _ _ us hl => match us, hl with | [_, _, _, _, _, _], _ => rfl) (fun vs H Q E h => ?_) (fun cdv A outer s H vs Q E hr h => ⟨_, PSs.nox ((pss_cons (ps_set (i := 6) sc_stepped.nd rfl (Or.inl rfl) (pe_f (ok_width_for T) hr (by rfl) T.g_width_for pass0 (pa_cons (pv 0) (pa_cons (pv 3) pa_nil))))
  (pss_cons (ps_set (i := 7) sc_stepped.nd rfl (Or.inl rfl) (pe_op op_oneShl pe_int (pv 6)))
  (pss_cons (ps_set (i := 8) sc_stepped.nd rfl (Or.inl rfl) (pe_op op_mod (pe_op op_mul (pe_ix ix_tup (pv 5) pe_int (fun _ _ => rfl)) (pe_ix ix_tup (pv 0) pe_int (fun _ _ => rfl))) (pv 7)))
  (pss_cons (ps_set (i := 9) sc_stepped.nd rfl (Or.inl rfl) (pe_op op_mod (pe_op op_mul (pe_ix ix_tup (pv 5) pe_int (fun _ _ => rfl)) (pe_ix ix_tup (pv 0) pe_int (fun _ _ => rfl))) (pv 7)))
  (pss_cons (ps_set (i := 10) sc_stepped.nd rfl (Or.inl rfl) (pe_f (ok_look_of T) hr (by rfl) T.g_look_of pass0 (pa_cons (pv 6) (pa_cons (pe_tup (pa_cons (pv 8) (pa_cons (pv 9) pa_nil))) (pa_cons (pe_op op_sub (pv 3) (pe_ix ix_tup (pv 1) pe_int (fun _ _ => rfl))) pa_nil)))))
  (pss_cons (ps_set (i := 11) sc_stepped.nd rfl (Or.inl rfl) (pe_f (ok_entry T) hr (by rfl) T.g_entry pass0 (pa_cons (pv 0) (pa_cons (pv 1) (pa_cons (pv 2) (pa_cons (pe_tup (pa_cons (pe_op op_shrN (pv 4) (pe_op op_sub (pv 3) (pe_ix ix_tup (pv 1) pe_int (fun _ _ => rfl)))) (pa_cons (pv 10) pa_nil))) pa_nil))))))
  (pss_cons (ps_if (PW.pt (pw_or (pt_cmpR op_isN (pv 11) pe_non (nomark _)) (pw_or1 (pt_not (pt_val (pe_f (ok_serves T) (hr.mono (by decide)) (by rfl) T.g_serves pass0 (pa_cons (pv 0) (pa_cons (pv 11) (pa_cons (pe_tup (pa_cons (pv 3) (pa_cons (pv 4) (pa_cons (pe_f (ok_pair_worth T) (hr.mono (by decide)) (by rfl) T.g_pair_worth pass0 (pa_cons (pv 6) (pa_cons (pe_tup (pa_cons (pv 8) (pa_cons (pv 9) pa_nil))) pa_nil))) pa_nil)))) pa_nil))))))))) (pss_one (ps_ret (pe_tup (pa_cons (pv 10) (pa_cons pe_non (pa_cons (pv 5) pa_nil)))))) pss_nil)
  (pss_one (ps_ret (pe_tup (pa_cons (pv 10) (pa_cons (pv 11) (pa_cons (pe_f (ok_three_in_two T) (hr.mono (by decide)) (by rfl) T.g_three_in_two pass0 (pa_cons (pv 6) (pa_cons (pv 8) (pa_cons (pv 9) (pa_cons (pe_op op_mod (pe_op op_mul (pe_un un_neg (pv 11)) (pv 4)) (pv 7)) pa_nil))))) pa_nil)))))))))))))), ?_⟩)
  · obtain ⟨a, b, tb, p, c, tab, w, g, x, y, e, rfl, _⟩ := h
    rfl
  · obtain ⟨a, b, tb, p, c, tab, w, g, x, y, e, rfl, hk, hl, ok, ht, hp, hw, hwt, hwp, i1, i2, he, hN, hS⟩ := h
    have k3 := ok.k3
    have b8 := ok.b8
    have b2 := ok.b2
    repeat (first | refine ⟨_, rfl, ?_⟩ | refine ⟨_, _, rfl, rfl, ?_⟩ | refine ⟨_, _, _, _, rfl, rfl, by assumption, rfl, ?_⟩ | refine ⟨rfl, _, rfl, ?_⟩)
    refine ⟨_, c, _, rfl, hk, ok, ?_⟩
    refine ⟨_, rfl, w + c.k + 2, rfl, rfl, by omega, ?_⟩
    repeat (first | refine ⟨_, rfl, ?_⟩ | refine ⟨_, _, rfl, rfl, ?_⟩ | refine ⟨_, _, _, _, rfl, rfl, by assumption, rfl, ?_⟩ | refine ⟨rfl, _, rfl, ?_⟩)
    refine ⟨.inr ⟨by omega, by omega⟩, ?_⟩
    refine ⟨_, rfl, _, _, rfl, rfl, two_pos _, ?_⟩
    repeat (first | refine ⟨_, rfl, ?_⟩ | refine ⟨_, _, rfl, rfl, ?_⟩ | refine ⟨_, _, _, _, rfl, rfl, by assumption, rfl, ?_⟩ | refine ⟨rfl, _, rfl, ?_⟩)
    refine ⟨.inr ⟨by omega, by omega⟩, ?_⟩
    refine ⟨_, rfl, _, _, rfl, rfl, two_pos _, ?_⟩
    repeat (first | refine ⟨_, rfl, ?_⟩ | refine ⟨_, _, rfl, rfl, ?_⟩ | refine ⟨_, _, _, _, rfl, rfl, by assumption, rfl, ?_⟩ | refine ⟨rfl, _, rfl, ?_⟩)
    refine ⟨by show 2 ≤ sizeLine; decide, fun q1 hq1 => ?_⟩
    have e1 : Evl.Ex H (upd H q1 (.tup [.int (stA c w x), .int (stA c w y)])) := Evl.Ex.new hq1
    have hq1' : (upd H q1 (.tup [.int (stA c w x), .int (stA c w y)])) q1 = some (.tup [.int (stA c w x), .int (stA c w y)]) := upd_same
    refine ⟨_, rfl, _, rfl, ?_⟩
    refine ⟨_, _, _, _, rfl, rfl, Evl.ex_t e1 hl, rfl, ?_⟩
    refine ⟨_, _, rfl, rfl, ?_⟩
    refine ⟨q1, w + c.k + 2, w - c.p, _, _, congrArg (fun z => [V.int ((w + c.k + 2 : Nat) : Int), V.ref q1, z]) (vsub hwp), Evl.st_of hq1', by omega, by omega, fun H2 e2 => ?_⟩
    have e12 := e1.trans e2
    have hl2 := Evl.ex_t e12 hl
    refine ⟨_, rfl, _, rfl, _, rfl, _, rfl, _, rfl, _, rfl, ?_⟩
    refine ⟨_, _, _, _, rfl, rfl, hl2, rfl, ?_⟩
    refine ⟨_, _, rfl, rfl, ?_⟩
    refine ⟨_, w - c.t, rfl, vsub hwt, ?_⟩
    refine ⟨_, rfl, ?_⟩
    refine ⟨by show 2 ≤ sizeLine; decide, fun q2 hq2 => ?_⟩
    have e3 : Evl.Ex H (upd H2 q2 (.tup [.int (g / 2 ^ (w - c.t)), .int (lkR c w x y)])) := e12.trans (Evl.Ex.new hq2)
    refine ⟨_, _, _, q2, c, tab, _, _, e, rfl, Evl.ex_t e3 hk, Evl.ex_t e3 hl, ok, ht.ex e3, Evl.st_of upd_same, i1, i2, he, ?_⟩
    refine ⟨_, rfl, rfl, _, rfl, ?_⟩
    cases e with
    | none =>
      refine ⟨_, rfl, _, rfl, ?_⟩
      exact ⟨by show 3 ≤ sizeLine; decide, fun r hr1 => hN rfl _ r (e3.trans (Evl.Ex.new hr1)) (Evl.fresh_back e3 hr1) upd_same⟩
    | some f =>
      obtain ⟨f1, f2, hA, hB⟩ := hS f rfl
      refine ⟨_, rfl, _, rfl, _, rfl, _, rfl, _, rfl, _, rfl, _, rfl, ?_⟩
      refine ⟨by show 2 ≤ sizeLine; decide, fun q3 hq3 => ?_⟩
      have e4 := e3.trans (Evl.Ex.new (o := .tup [.int (stA c w x), .int (stA c w y)]) hq3)
      refine ⟨q3, w + c.k + 2, _, _, rfl, Evl.st_of upd_same, by omega, ?_⟩
      refine ⟨by show 3 ≤ sizeLine; decide, fun q4 hq4 => ?_⟩
      have e5 := e4.trans (Evl.Ex.new (o := .tup [.int (w : Nat), .int g, .int (reR c w x y)]) hq4)
      refine ⟨_, q4, c, f, _, _, _, rfl, Evl.ex_t e5 hk, ok, Evl.st_of upd_same, f1, f2, ?_⟩
      refine ⟨_, rfl, ?_⟩
      refine itN (fun hs => ?_) (fun hs => ?_)
      · refine ⟨_, rfl, _, rfl, _, rfl, _, rfl, _, rfl, _, rfl, ?_⟩
        refine ⟨_, rfl, _, rfl, ?_⟩
        refine ⟨_, _, rfl, rfl, .inl ⟨by omega, by omega⟩, ?_⟩
        refine ⟨_, rfl, _, _, rfl, rfl, two_pos _, ?_⟩
        refine ⟨w + c.k + 2, _, _, _, rfl, by omega, fun H6 q5 e6 hn5 h5 => ?_⟩
        have e7 := e5.trans e6
        refine ⟨by show 3 ≤ sizeLine; decide, fun r hr1 => ?_⟩
        refine hB hs _ r q5 (e7.trans (Evl.Ex.new hr1)) (Evl.fresh_back e7 hr1) upd_same (Evl.fresh_back e5 hn5) ?_
        rw [upd_ne (ne_of_none h5 hr1)]
        exact h5
      · refine ⟨_, rfl, _, rfl, ?_⟩
        exact ⟨by show 3 ≤ sizeLine; decide, fun r hr1 => hA hs _ r (e5.trans (Evl.Ex.new hr1)) (Evl.fresh_back e5 hr1) upd_same⟩
/-! ### what does not change: the frame of a def that makes new objects only -/
end SF
end
section
set_option Elab.async false
set_option linter.all false
set_option maxRecDepth 100000
set_option maxHeartbeats 4000000
namespace SF
open PySem PySem.Spec PyProof.Rows L2
/-! ### the mirror's state -/
structure Wk where
  rows : Bool
  x : Int
  d : Int
  left : Nat
  figs : List Int
  wide : Nat
  great : Int
  sa : Int
  sb : Int
inductive Deed where
  | beg (rows : Bool) (x d : Int) (n : Nat)
  | step (n : Int)
  | put (top look : Int) (e : Option Int)
def wordOf (r : Bool) : Str := if r = true then "rows" else "begin"
def Deed.vs : Deed → List V
  | .beg r x d n => [.str (wordOf r), .int x, .int d, .int (n : Nat)]
  | .step n => [.str "step", .int n]
  | .put t l e => [.str "put", .int t, .int l, cv e]
structure Sta where
  tab : List (List (Option Int))
  works : List Wk
  seen : List (List Key × V)
  deeds : List Deed
/-! ### whose an address is -/
inductive Tg where
  | no | row (s : Bool) (i : Nat) | ws (s : Bool) | wk (s : Bool) (i : Nat) | fig (i : Nat) | sn (s : Bool) | dn (s : Bool) | oth | dk
  deriving DecidableEq
def Tg.sd : Tg → Nat
  | .no => 0
  | .row s _ | .ws s | .wk s _ | .sn s | .dn s => if s = true then 1 else 2
  | .fig _ => 1
  | .oth => 3
  | .dk => 4
abbrev TT1 : Type := Addr → Tg
def TgOk (T : TT1) (H : Hp) : Prop := ∀ a, H a = none → T a = .no
/-- what is tracked keeps its tag, and its content if its tag is not one of p -/
def Fr (p : Tg → Prop) (T : TT1) (H : Hp) (T' : TT1) (H' : Hp) : Prop := ∀ a o, H a = some o → T' a = T a ∧ (¬ p (T a) → H' a = some o)
theorem Fr.trans {p : Tg → Prop} {T T1 T2 : TT1} {H H1 H2 : Hp} (f : Fr p T H T1 H1) (g : Fr p T1 H1 T2 H2) (t : ∀ a o, H a = some o → ∃ o', H1 a = some o') : Fr p T H T2 H2 := fun a o h => by
  obtain ⟨h1, h2⟩ := f a o h
  obtain ⟨o', ho⟩ := t a o h
  obtain ⟨h3, h4⟩ := g a o' ho
  refine ⟨h3.trans h1, fun hp => ?_⟩
  have h5 := h2 hp
  exact (g a o h5).2 (by rw [h1]; exact hp)
/-- .. the tracked stays tracked -/
def Gr (H H' : Hp) : Prop := ∀ a, H' a = none → H a = none
theorem Gr.ex {H H' : Hp} (e : Evl.Ex H H') : Gr H H' := fun a h => Evl.fresh_back e h
theorem Gr.upd {H : Hp} {a : Addr} {o : HO} : Gr H (upd H a o) := fun b h => by
  by_cases e : b = a
  · rw [e, upd_same] at h
    cases h
  · rw [upd_ne e] at h
    exact h
theorem Gr.trans {H H1 H2 : Hp} (a : Gr H H1) (b : Gr H1 H2) : Gr H H2 := fun x h => a x (b x h)
theorem Gr.refl (H : Hp) : Gr H H := fun _ h => h
theorem TgOk.gr {T : TT1} {H H' : Hp} (t : TgOk T H) (g : Gr H H') : TgOk T H' := fun a h => t a (g a h)
/-- the two together: tags and contents go on -/
structure Go (p : Tg → Prop) (T : TT1) (H : Hp) (T' : TT1) (H' : Hp) : Prop where
  fr : Fr p T H T' H'
  gr : Gr H H'
theorem Go.trans {p : Tg → Prop} {T T1 T2 : TT1} {H H1 H2 : Hp} (f : Go p T H T1 H1) (g : Go p T1 H1 T2 H2) : Go p T H T2 H2 :=
  ⟨f.fr.trans g.fr fun a o h => by
    cases e : H1 a with
    | none => rw [f.gr a e] at h; cases h
    | some o' => exact ⟨o', rfl⟩, f.gr.trans g.gr⟩
theorem Go.refl {p : Tg → Prop} {T : TT1} {H : Hp} : Go p T H T H := ⟨fun a o h => ⟨rfl, fun _ => h⟩, Gr.refl H⟩
theorem Go.ex {p : Tg → Prop} {T : TT1} {H H' : Hp} (e : Evl.Ex H H') : Go p T H T H' := ⟨fun a o h => ⟨rfl, fun _ => e a o h⟩, Gr.ex e⟩
theorem Go.upd {p : Tg → Prop} {T : TT1} {H : Hp} {a : Addr} {o : HO} (h : p (T a)) : Go p T H T (upd H a o) := ⟨fun b u e => ⟨rfl, fun hp => by
  have n : b ≠ a := fun z => hp (by rw [z]; exact h)
  rw [upd_ne n]
  exact e⟩, Gr.upd⟩
theorem Go.mono {p q : Tg → Prop} {T T' : TT1} {H H' : Hp} (f : Go p T H T' H') (h : ∀ t, p t → q t) : Go q T H T' H' := ⟨fun a o e => ⟨(f.fr a o e).1, fun hq => (f.fr a o e).2 fun hp => hq (h _ hp)⟩, f.gr⟩
/-- a new tag for what is not tracked yet -/
def tagAt (T : TT1) (a : Addr) (t : Tg) : TT1 := fun b => if b = a then t else T b
theorem tagAt_same {T : TT1} {a : Addr} {t : Tg} : tagAt T a t a = t := by unfold tagAt; rw [if_pos rfl]
theorem tagAt_ne {T : TT1} {a b : Addr} {t : Tg} (h : b ≠ a) : tagAt T a t b = T b := by unfold tagAt; rw [if_neg h]
theorem Go.tag {p : Tg → Prop} {T : TT1} {H : Hp} {a : Addr} {t : Tg} (h : H a = none) : Go p T H (tagAt T a t) H := ⟨fun b o e => ⟨tagAt_ne fun z => (by
  rw [z, h] at e
  cases e), fun _ => e⟩, Gr.refl H⟩
/-- content of an untouched address -/
theorem Go.at {p : Tg → Prop} {T T' : TT1} {H H' : Hp} (f : Go p T H T' H') {a : Addr} {o : HO} (h : H a = some o) (hp : ¬ p (T a)) : H' a = some o ∧ T' a = T a := ⟨(f.fr a o h).2 hp, (f.fr a o h).1⟩
/-! ### the parts -/
def RowsAt (s : Bool) (T : TT1) (H : Hp) (r : Addr) (tab : List (List (Option Int))) : Prop := ∃ as : List Addr, H r = some (.lst (as.map V.ref)) ∧ T r = .no ∧ as.length = tab.length ∧
  ∀ (i : Nat) (b : Addr) (row : List (Option Int)), as[i]? = some b → tab[i]? = some row → T b = .row s i ∧ H b = some (.lst (row.map cv))
def DeedsAt (s : Bool) (T : TT1) (H : Hp) (dn : Addr) (ds : List Deed) : Prop := ∃ as : List Addr, H dn = some (.lst (as.map V.ref)) ∧ T dn = .dn s ∧ as.length = ds.length ∧
  ∀ (i : Nat) (b : Addr) (d : Deed), as[i]? = some b → ds[i]? = some d → T b = .no ∧ H b = some (.tup d.vs)
def SeenAt (s : Bool) (T : TT1) (H : Hp) (sn : Addr) (kvs : List (List Key × V)) : Prop := H sn = some (.dT kvs) ∧ T sn = .sn s
def KLAt (T : TT1) (H : Hp) (k l : Addr) (c : Kd) : Prop := (H k = some (.tup [.int c.base, .int c.m]) ∧ T k = .no) ∧ H l = some (.tup [.int (c.t : Nat), .int (c.p : Nat)]) ∧ T l = .no
def StandAt (T : TT1) (H : Hp) (v : V) (w : Wk) : Prop := if w.rows = true then ∃ q, v = .ref q ∧ H q = some (.tup [.int w.sa, .int w.sb]) ∧ T q = .no else v = .int w.sa
def clsOf (K : PySem.W.Frag) (r : Bool) : Addr := if r = true then He.ga K "RowsWork" else He.ga K "Work"
def wFields (k l n f : Addr) (sv : V) (w : Wk) : List (Str × V) := [("kind", .ref k), ("looks", .ref l), ("numbers", .ref n), ("left", .int (w.left : Nat)), ("figures", .ref f), ("wide", .int (w.wide : Nat)), ("great", .int w.great), ("stand", sv)]
def WorkB (K : PySem.W.Frag) (c : Kd) (T : TT1) (H : Hp) (i : Nat) (a : Addr) (w : Wk) : Prop := ∃ (dx k l n f : Addr) (sv : V), H a = some (.ins (clsOf K w.rows) dx (wFields k l n f sv w)) ∧ T a = .wk true i ∧ KLAt T H k l c ∧
  (H n = some (.tup [.int w.x, .int w.d]) ∧ T n = .no) ∧ (H f = some (.lst (w.figs.map V.int)) ∧ T f = .fig i) ∧ StandAt T H sv w
def wDict (n f : Addr) (sv : V) (w : Wk) : List (Key × V) := [(.inr "word", .str (wordOf w.rows)), (.inr "numbers", .ref n), (.inr "left", .int (w.left : Nat)), (.inr "row", .ref f), (.inr "wide", .int (w.wide : Nat)), (.inr "great", .int w.great), (.inr "stand", sv)]
def WorkO (T : TT1) (H : Hp) (i : Nat) (a : Addr) (w : Wk) : Prop := ∃ (n f : Addr) (sv : V), H a = some (.dK (wDict n f sv w)) ∧ T a = .wk false i ∧
  (H n = some (.tup [.int w.x, .int w.d]) ∧ T n = .no) ∧ (H f = some (.lst (w.figs.map V.int)) ∧ T f = .no) ∧ StandAt T H sv w
def WorksAt (W : TT1 → Hp → Nat → Addr → Wk → Prop) (s : Bool) (T : TT1) (H : Hp) (ws : Addr) (wl : List Wk) : Prop := ∃ as : List Addr, H ws = some (.lst (as.map V.ref)) ∧ T ws = .ws s ∧ as.length = wl.length ∧
  ∀ (i : Nat) (b : Addr) (w : Wk), as[i]? = some b → wl[i]? = some w → W T H i b w
def BenchAt (K : PySem.W.Frag) (c : Kd) (T : TT1) (H : Hp) (b : Addr) (S : Sta) : Prop := ∃ dx k l r ws sn dn : Addr,
  (H b = some (.ins (He.ga K "Bench") dx [("kind", .ref k), ("looks", .ref l), ("rows", .ref r), ("works", .ref ws), ("seen", .ref sn), ("done", .ref dn)]) ∧ T b = .no) ∧ KLAt T H k l c ∧
  RowsAt true T H r S.tab ∧ WorksAt (WorkB K c) true T H ws S.works ∧ SeenAt true T H sn S.seen ∧ DeedsAt true T H dn S.deeds
def OwnAt (c : Kd) (T : TT1) (H : Hp) (o : Addr) (S : Sta) : Prop := ∃ k l r ws sn dn : Addr,
  (H o = some (.dK [(.inr "kind", .ref k), (.inr "looks", .ref l), (.inr "table", .ref r), (.inr "works", .ref ws), (.inr "seen", .ref sn), (.inr "deeds", .ref dn)]) ∧ T o = .no) ∧ KLAt T H k l c ∧
  RowsAt false T H r S.tab ∧ WorksAt WorkO false T H ws S.works ∧ SeenAt false T H sn S.seen ∧ DeedsAt false T H dn S.deeds
/-! ### they go on -/
section
variable {p : Tg → Prop} {T T' : TT1} {H H' : Hp} {s : Bool} {c : Kd} {K : PySem.W.Frag}
theorem RowsAt.go {r : Addr} {tab : List (List (Option Int))} (f : Go p T H T' H') (h0 : ¬ p .no) (h1 : ∀ i, ¬ p (.row s i)) (h : RowsAt s T H r tab) : RowsAt s T' H' r tab := by
  obtain ⟨as, a1, a2, a3, a4⟩ := h
  obtain ⟨b1, b2⟩ := f.at a1 (by rw [a2]; exact h0)
  refine ⟨as, b1, b2.trans a2, a3, fun i b row h2 h3 => ?_⟩
  obtain ⟨c1, c2⟩ := a4 i b row h2 h3
  obtain ⟨d1, d2⟩ := f.at c2 (by rw [c1]; exact h1 i)
  exact ⟨d2.trans c1, d1⟩
theorem DeedsAt.go {r : Addr} {ds : List Deed} (f : Go p T H T' H') (h0 : ¬ p .no) (h1 : ¬ p (.dn s)) (h : DeedsAt s T H r ds) : DeedsAt s T' H' r ds := by
  obtain ⟨as, a1, a2, a3, a4⟩ := h
  obtain ⟨b1, b2⟩ := f.at a1 (by rw [a2]; exact h1)
  refine ⟨as, b1, b2.trans a2, a3, fun i b row h2 h3 => ?_⟩
  obtain ⟨c1, c2⟩ := a4 i b row h2 h3
  obtain ⟨d1, d2⟩ := f.at c2 (by rw [c1]; exact h0)
  exact ⟨d2.trans c1, d1⟩
theorem SeenAt.go {r : Addr} {kvs : List (List Key × V)} (f : Go p T H T' H') (h1 : ¬ p (.sn s)) (h : SeenAt s T H r kvs) : SeenAt s T' H' r kvs := by
  obtain ⟨a1, a2⟩ := h
  obtain ⟨b1, b2⟩ := f.at a1 (by rw [a2]; exact h1)
  exact ⟨b1, b2.trans a2⟩
theorem noAt {a : Addr} {o : HO} (f : Go p T H T' H') (h0 : ¬ p .no) (h : H a = some o ∧ T a = .no) : H' a = some o ∧ T' a = .no := by
  obtain ⟨b1, b2⟩ := f.at h.1 (by rw [h.2]; exact h0)
  exact ⟨b1, b2.trans h.2⟩
theorem KLAt.go {k l : Addr} (f : Go p T H T' H') (h0 : ¬ p .no) (h : KLAt T H k l c) : KLAt T' H' k l c := ⟨noAt f h0 h.1, noAt f h0 h.2⟩
theorem StandAt.go {v : V} {w : Wk} (f : Go p T H T' H') (h0 : ¬ p .no) (h : StandAt T H v w) : StandAt T' H' v w := by
  unfold StandAt at h ⊢
  split at h
  · rename_i e
    rw [if_pos e]
    obtain ⟨q, h1, h2⟩ := h
    exact ⟨q, h1, noAt f h0 h2⟩
  · rename_i e
    rw [if_neg e]
    exact h
theorem WorkB.go {i : Nat} {a : Addr} {w : Wk} (f : Go p T H T' H') (h0 : ¬ p .no) (h1 : ¬ p (.wk true i)) (h2 : ¬ p (.fig i)) (h : WorkB K c T H i a w) : WorkB K c T' H' i a w := by
  obtain ⟨dx, k, l, n, g, sv, a1, a2, a3, a4, a5, a6⟩ := h
  obtain ⟨b1, b2⟩ := f.at a1 (by rw [a2]; exact h1)
  obtain ⟨d1, d2⟩ := f.at a5.1 (by rw [a5.2]; exact h2)
  exact ⟨dx, k, l, n, g, sv, b1, b2.trans a2, a3.go f h0, noAt f h0 a4, ⟨d1, d2.trans a5.2⟩, a6.go f h0⟩
theorem WorkO.go {i : Nat} {a : Addr} {w : Wk} (f : Go p T H T' H') (h0 : ¬ p .no) (h1 : ¬ p (.wk false i)) (h : WorkO T H i a w) : WorkO T' H' i a w := by
  obtain ⟨n, g, sv, a1, a2, a4, a5, a6⟩ := h
  obtain ⟨b1, b2⟩ := f.at a1 (by rw [a2]; exact h1)
  exact ⟨n, g, sv, b1, b2.trans a2, noAt f h0 a4, noAt f h0 a5, a6.go f h0⟩
theorem WorksAt.go {W : TT1 → Hp → Nat → Addr → Wk → Prop} {ws : Addr} {wl : List Wk} (f : Go p T H T' H') (h1 : ¬ p (.ws s)) (hW : ∀ i a w, W T H i a w → W T' H' i a w) (h : WorksAt W s T H ws wl) : WorksAt W s T' H' ws wl := by
  obtain ⟨as, a1, a2, a3, a4⟩ := h
  obtain ⟨b1, b2⟩ := f.at a1 (by rw [a2]; exact h1)
  exact ⟨as, b1, b2.trans a2, a3, fun i b w h2 h3 => hW i b w (a4 i b w h2 h3)⟩
theorem BenchAt.go {b : Addr} {S : Sta} (f : Go p T H T' H') (h0 : ∀ t, p t → t.sd ≠ 0 ∧ t.sd ≠ 1) (h : BenchAt K c T H b S) : BenchAt K c T' H' b S := by
  obtain ⟨dx, k, l, r, ws, sn, dn, a1, a2, a3, a4, a5, a6⟩ := h
  have n0 : ¬ p .no := fun z => (h0 _ z).1 rfl
  have n1 : ∀ t : Tg, t.sd = 1 → ¬ p t := fun t e z => (h0 _ z).2 e
  exact ⟨dx, k, l, r, ws, sn, dn, noAt f n0 a1, a2.go f n0, a3.go f n0 fun i => n1 _ rfl, a4.go f (n1 _ rfl) fun i a w h => h.go f n0 (n1 _ rfl) (n1 _ rfl), a5.go f (n1 _ rfl), a6.go f n0 (n1 _ rfl)⟩
theorem OwnAt.go {b : Addr} {S : Sta} (f : Go p T H T' H') (h0 : ∀ t, p t → t.sd ≠ 0 ∧ t.sd ≠ 2) (h : OwnAt c T H b S) : OwnAt c T' H' b S := by
  obtain ⟨k, l, r, ws, sn, dn, a1, a2, a3, a4, a5, a6⟩ := h
  have n0 : ¬ p .no := fun z => (h0 _ z).1 rfl
  have n1 : ∀ t : Tg, t.sd = 2 → ¬ p t := fun t e z => (h0 _ z).2 e
  exact ⟨k, l, r, ws, sn, dn, noAt f n0 a1, a2.go f n0, a3.go f n0 fun i => n1 _ rfl, a4.go f (n1 _ rfl) fun i a w h => h.go f n0 (n1 _ rfl), a5.go f (n1 _ rfl), a6.go f n0 (n1 _ rfl)⟩
/-! ### changes -/
theorem get_app {α : Type} {l : List α} {x y : α} {i : Nat} (h : (l ++ [x])[i]? = some y) : l[i]? = some y ∨ (i = l.length ∧ y = x) := by
  by_cases hi : i < l.length
  · rw [List.getElem?_append_left hi] at h
    exact .inl h
  · rw [List.getElem?_append_right (by omega)] at h
    have e : i - l.length = 0 := by
      cases hz : i - l.length with
      | zero => rfl
      | succ n => rw [hz] at h; cases h
    rw [e] at h
    exact .inr ⟨by omega, (Option.some.inj h).symm⟩
theorem DeedsAt.app {dn q : Addr} {ds : List Deed} {d : Deed} (h : DeedsAt s T H dn ds) (hq : H q = some (.tup d.vs)) (tq : T q = .no) : ∃ xs, H dn = some (.lst xs) ∧ xs.length = ds.length ∧ DeedsAt s T (upd H dn (.lst (xs ++ [.ref q]))) dn (ds ++ [d]) := by
  obtain ⟨as, a1, a2, a3, a4⟩ := h
  refine ⟨_, a1, by rw [List.length_map]; exact a3, as ++ [q], by rw [upd_same, List.map_append]; rfl, a2, by rw [List.length_append, List.length_append, a3]; rfl, fun i b e h1 h2 => ?_⟩
  have ne : ∀ b, T b = .no → b ≠ dn := fun b hb z => by
    rw [z, a2] at hb
    cases hb
  rcases get_app h1 with h1 | ⟨e1, rfl⟩
  · have hi := (List.getElem?_eq_some_iff.mp h1).1
    rw [List.getElem?_append_left (by omega)] at h2
    obtain ⟨c1, c2⟩ := a4 i b e h1 h2
    exact ⟨c1, by rw [upd_ne (ne b c1)]; exact c2⟩
  · rw [List.getElem?_append_right (by omega), show i - ds.length = 0 by omega] at h2
    cases h2
    exact ⟨tq, by rw [upd_ne (ne b tq)]; exact hq⟩
theorem RowsAt.set {r b : Addr} {tab : List (List (Option Int))} {i j : Nat} {e : Option Int} (h : RowsAt s T H r tab) : (∃ row as, tab[i]? = some row ∧ H r = some (.lst as) ∧ as[i]? = some (.ref b)) →
    ∃ row, tab[i]? = some row ∧ T b = .row s i ∧ H b = some (.lst (row.map cv)) ∧ RowsAt s T (upd H b (.lst ((row.map cv).set j (cv e)))) r (tab.set i (row.set j e)) := by
  rintro ⟨row, bs, h1, h2, h3⟩
  obtain ⟨as, a1, a2, a3, a4⟩ := h
  rw [a1] at h2
  cases h2
  rw [List.getElem?_map] at h3
  cases hb : as[i]? with
  | none => rw [hb] at h3; cases h3
  | some b' =>
    rw [hb] at h3
    cases h3
    obtain ⟨c1, c2⟩ := a4 i b row hb h1
    have nr : r ≠ b := fun z => by
      rw [← z, a2] at c1
      cases c1
    refine ⟨row, h1, c1, c2, as, by rw [upd_ne nr]; exact a1, a2, by rw [List.length_set]; exact a3, fun i' b2 row' g1 g2 => ?_⟩
    by_cases ei : i = i'
    · subst ei
      rw [hb] at g1
      cases g1
      have hi := (List.getElem?_eq_some_iff.mp h1).1
      rw [List.getElem?_set_self hi] at g2
      cases g2
      exact ⟨c1, by rw [upd_same, List.map_set]⟩
    · rw [List.getElem?_set_ne ei] at g2
      obtain ⟨d1, d2⟩ := a4 i' b2 row' g1 g2
      have nb : b2 ≠ b := fun z => by
        rw [z, c1] at d1
        injection d1 with _ d1
        exact ei d1
      exact ⟨d1, by rw [upd_ne nb]; exact d2⟩
theorem RowsAt.tabR {r : Addr} {tab : List (List (Option Int))} (h : RowsAt s T H r tab) : TabR K H r tab := by
  obtain ⟨as, a1, a2, a3, a4⟩ := h
  exact ⟨as, Evl.sq_of a1, a3, fun i b row h1 h2 => Evl.sq_of (a4 i b row h1 h2).2⟩
end
end SF
end
section
set_option Elab.async false
set_option linter.all false
set_option maxRecDepth 100000
set_option maxHeartbeats 4000000
namespace SF
open PySem PySem.Spec PyProof.Rows L2
/-! ### the class of a work, by r -/
section
variable {K : PySem.W.Frag} {mg : Str → Option Value}
theorem Fx.sameB (T : Fx K mg) : He.ma K (He.ga K "RowsWork") "__init__" = He.ma K (He.ga K "Work") "__init__" ∧ He.ma K (He.ga K "RowsWork") "rest" = He.ma K (He.ga K "Work") "rest" := by
  have h := T.ex
  unfold exB at h
  have h2 := He.ba (He.ba (He.ba h).2).1
  exact ⟨of_decide_eq_true h2.1, of_decide_eq_true h2.2⟩
def beA (K : PySem.W.Frag) (r : Bool) : Addr := He.ma K (clsOf K r) "begin"
def trA (K : PySem.W.Frag) (r : Bool) : Addr := He.ma K (clsOf K r) "tried"
theorem Fx.c_of (T : Fx K mg) (r : Bool) : Cls K (clsOf K r) := by
  cases r
  · exact T.c_Work
  · exact T.c_RowsWork
theorem Fx.k_of (T : Fx K mg) (r : Bool) : Mk K (clsOf K r) (He.ma K (He.ga K "Work") "__init__") := by
  cases r
  · exact T.k_Work
  · have h := T.k_RowsWork
    rw [T.sameB.1] at h
    exact h
theorem Fx.mb_of (T : Fx K mg) (r : Bool) : Meth K (clsOf K r) "begin" (beA K r) := by
  cases r
  · exact T.m_Work_begin
  · exact T.m_RowsWork_begin
theorem Fx.mt_of (T : Fx K mg) (r : Bool) : Meth K (clsOf K r) "tried" (trA K r) := by
  cases r
  · exact T.m_Work_tried
  · exact T.m_RowsWork_tried
theorem Fx.mr_of (T : Fx K mg) (r : Bool) : Meth K (clsOf K r) "rest" (He.ma K (He.ga K "Work") "rest") := by
  cases r
  · exact T.m_Work_rest
  · have h := T.m_RowsWork_rest
    rw [T.sameB.2] at h
    exact h
theorem Fx.n_kind (T : Fx K mg) (r : Bool) : NoAttr K (clsOf K r) "kind" := by cases r; exact T.n_Work_kind; exact T.n_RowsWork_kind
theorem Fx.n_looks (T : Fx K mg) (r : Bool) : NoAttr K (clsOf K r) "looks" := by cases r; exact T.n_Work_looks; exact T.n_RowsWork_looks
theorem Fx.n_numbers (T : Fx K mg) (r : Bool) : NoAttr K (clsOf K r) "numbers" := by cases r; exact T.n_Work_numbers; exact T.n_RowsWork_numbers
theorem Fx.n_left (T : Fx K mg) (r : Bool) : NoAttr K (clsOf K r) "left" := by cases r; exact T.n_Work_left; exact T.n_RowsWork_left
theorem Fx.n_figures (T : Fx K mg) (r : Bool) : NoAttr K (clsOf K r) "figures" := by cases r; exact T.n_Work_figures; exact T.n_RowsWork_figures
theorem Fx.n_wide (T : Fx K mg) (r : Bool) : NoAttr K (clsOf K r) "wide" := by cases r; exact T.n_Work_wide; exact T.n_RowsWork_wide
theorem Fx.n_great (T : Fx K mg) (r : Bool) : NoAttr K (clsOf K r) "great" := by cases r; exact T.n_Work_great; exact T.n_RowsWork_great
theorem Fx.n_stand (T : Fx K mg) (r : Bool) : NoAttr K (clsOf K r) "stand" := by cases r; exact T.n_Work_stand; exact T.n_RowsWork_stand
end
/-! ### begin -/
/-- the fields behind scaled, before begin -/
def preF (k l n f : Addr) (left wide : Nat) (great : Int) : List (Str × V) := [("kind", .ref k), ("looks", .ref l), ("numbers", .ref n), ("left", .int (left : Nat)), ("figures", .ref f), ("wide", .int (wide : Nat)), ("great", .int great)]
def spBegin (K : PySem.W.Frag) (r : Bool) : Sp := fun vs H Q _ => ∃ (a dx k l n f : Addr) (c : Kd) (left wide : Nat) (great x : Int), vs = [.ref a, .int x] ∧ H a = some (.ins (clsOf K r) dx (preF k l n f left wide great)) ∧ KndAt K H k c ∧ c.Ok ∧ wide ≤ 10000 ∧
  ∀ (H' : Hp) (sv : V), (∀ b o, b ≠ a → H b = some o → H' b = some o) → H' a = some (.ins (clsOf K r) dx (preF k l n f left wide great ++ [(("stand" : Str), sv)])) →
    (if r = true then ∃ q, sv = .ref q ∧ H q = none ∧ H' q = some (.tup [.int (x % 2 ^ (wide + c.k + 2)), .int 0]) else sv = .int x) → Q .non H'
theorem pre_put {k l n f : Addr} {left wide : Nat} {great : Int} {sv : V} : putF "stand" sv (preF k l n f left wide great) = preF k l n f left wide great ++ [(("stand" : Str), sv)] := rfl
theorem sc_Work_begin : FnScope ["self", "rest"] ["self", "rest"] (defScope s_Work_begin) := ⟨rfl, rfl, rfl, by decide +kernel, rfl, by decide +kernel, by decide +kernel⟩
theorem ok_Work_begin {P : Program} {w : World} {K : PySem.W.Frag} {mg : Str → Option Value} {base : Heap} (T : Fx K mg) : FnX P w K mg base CX0 1 (He.ma K (He.ga K "Work") "begin") ["self", "rest"] (spBegin K false) := by
  refine fx_of T.d_Work_begin sc_Work_begin (fun _ _ _ _ _ _ us hl => match us, hl with | [_, _], _ => rfl) (fun vs H Q E h => ?_) (fun cdv A outer s H vs Q E hr h => ⟨_, PSs.nox ((pss_one (ps_fld (pv 0) (pv 1) rfl))), ?_⟩)
  · obtain ⟨a, dx, k, l, n, f, c, left, wide, great, x, rfl, _⟩ := h
    rfl
  · obtain ⟨a, dx, k, l, n, f, c, left, wide, great, x, rfl, ha, hk, ok, hw, hQ⟩ := h
    refine ⟨_, rfl, _, rfl, a, _, dx, _, rfl, ha, T.c_of false, T.n_stand false, by show 7 < 1000; decide, ?_⟩
    refine hQ _ (.int x) (fun b o hb e => by rw [upd_ne hb]; exact e) ?_ rfl
    rw [upd_same, pre_put]
theorem sc_RowsWork_begin : FnScope ["self", "rest"] ["self", "rest"] (defScope s_RowsWork_begin) := ⟨rfl, rfl, rfl, by decide +kernel, rfl, by decide +kernel, by decide +kernel⟩
theorem ok_RowsWork_begin {P : Program} {w : World} {K : PySem.W.Frag} {mg : Str → Option Value} {base : Heap} (T : Fx K mg) : FnX P w K mg base CX0 4 (He.ma K (He.ga K "RowsWork") "begin") ["self", "rest"] (spBegin K true) := by
  refine fx_of T.d_RowsWork_begin sc_RowsWork_begin (fun _ _ _ _ _ _ us hl => match us, hl with | [_, _], _ => rfl) (fun vs H Q E h => ?_) (fun cdv A outer s H vs Q E hr h => ⟨_, PSs.nox ((pss_one (ps_fld (pv 0) (pe_f (ok_begun T) hr (by rfl) T.g_begun pass0 (pa_cons (pe_fld (pv 0) rfl) (pa_cons (pe_fld (pv 0) rfl) (pa_cons (pv 1) pa_nil)))) rfl))), ?_⟩)
  · obtain ⟨a, dx, k, l, n, f, c, left, wide, great, x, rfl, _⟩ := h
    rfl
  · obtain ⟨a, dx, k, l, n, f, c, left, wide, great, x, rfl, ha, hk, ok, hw, hQ⟩ := h
    refine ⟨_, rfl, a, _, dx, _, _, rfl, ha, T.c_of true, T.n_kind true, rfl, ?_⟩
    refine ⟨_, rfl, a, _, dx, _, _, rfl, ha, T.c_of true, T.n_wide true, rfl, ?_⟩
    refine ⟨_, rfl, ?_⟩
    refine ⟨k, c, wide, x, rfl, hk, ok, hw, fun H2 q e2 hq h2 => ?_⟩
    refine ⟨_, rfl, a, _, dx, _, rfl, e2 _ _ ha, T.c_of true, T.n_stand true, by show 7 < 1000; decide, ?_⟩
    have ne : q ≠ a := fun z => by
      rw [z, ha] at hq
      cases hq
    refine hQ _ (.ref q) (fun b o hb e => by rw [upd_ne hb]; exact e2 _ _ e) ?_ ⟨q, rfl, hq, ?_⟩
    · rw [upd_same, pre_put]
    · rw [upd_ne ne]
      exact h2
end SF
end
section
set_option Elab.async false
set_option linter.all false
set_option maxRecDepth 100000
set_option maxHeartbeats 4000000
namespace SF
open PySem PySem.Spec PyProof.Rows L2
section
variable {P : Program} {w : World} {K : PySem.W.Frag} {mg : Str → Option Value} {base : Heap}
theorem ok_begin (T : Fx K mg) (r : Bool) : FnX P w K mg base CX0 4 (beA K r) ["self", "rest"] (spBegin K r) := by
  cases r
  · exact (ok_Work_begin T).mono (by decide)
  · exact ok_RowsWork_begin T
end
/-! ### all but one object go on -/
def ExX (a : Addr) (H H' : Hp) : Prop := ∀ b o, b ≠ a → H b = some o → H' b = some o
theorem ExX.refl {a : Addr} {H : Hp} : ExX a H H := fun _ _ _ h => h
theorem ExX.trans {a : Addr} {H H1 H2 : Hp} (x : ExX a H H1) (y : ExX a H1 H2) : ExX a H H2 := fun b o n h => y b o n (x b o n h)
theorem ExX.ex {a : Addr} {H H' : Hp} (e : Evl.Ex H H') : ExX a H H' := fun b o _ h => e b o h
theorem ExX.at {a : Addr} {H : Hp} {o : HO} : ExX a H (upd H a o) := fun b u n h => by rw [upd_ne n]; exact h
theorem ExX.back {a b : Addr} {H H' : Hp} (x : ExX a H H') (n : b ≠ a) (h : H' b = none) : H b = none := by
  cases e : H b with
  | none => rfl
  | some o =>
    rw [x b o n e] at h
    cases h
theorem ExX.t {K : PySem.W.Frag} {a b : Addr} {H H' : Hp} {xs : List V} {C dx : Addr} {fs : List (Str × V)} (x : ExX a H H') (ha : H a = some (.ins C dx fs)) (h : SqT K H b xs) : SqT K H' b xs := by
  rcases h with h | h
  · rcases h with h | ⟨o, h⟩
    · refine .inl (.inl (x b _ (fun z => ?_) h))
      rw [z, ha] at h
      cases h
    · refine .inl (.inr ⟨o, x b _ (fun z => ?_) h⟩)
      rw [z, ha] at h
      cases h
  · exact .inr h
/-! ### the heap behind a step, by a name -/
theorem st_fld {K : PySem.W.Frag} {H : Hp} {a C dx : Addr} {fs : List (Str × V)} {f : Str} {y : V} {N : Hp → Prop} (ha : H a = some (.ins C dx fs)) (c : Cls K C) (n : NoAttr K C f) (l : fs.length < 1000) (k : ∀ H', ExX a H H' → Gr H H' → H' a = some (.ins C dx (putF f y fs)) → H' = upd H a (.ins C dx (putF f y fs)) → N H') :
    ∃ a' C' dx' fs', V.ref a = .ref a' ∧ H a' = some (.ins C' dx' fs') ∧ Cls K C' ∧ NoAttr K C' f ∧ fs'.length < 1000 ∧ N (upd H a' (.ins C' dx' (putF f y fs'))) :=
  ⟨a, C, dx, fs, rfl, ha, c, n, l, k _ ExX.at Gr.upd upd_same rfl⟩
/-! ### Work.__init__ -/
def gW (c : Kd) (d : Int) (n : Nat) : Nat := bits (g0 c d n) + (gm c d n).toNat
def gG (c : Kd) (d : Int) (n : Nat) : Int := g0 c d n * 2 ^ (gm c d n).toNat
def gX (c : Kd) (x d : Int) (n : Nat) : Int := x * 2 ^ (gm c d n).toNat
def w0 (c : Kd) (r : Bool) (x d : Int) (n : Nat) : Wk := ⟨r, x, d, n, [], gW c d n, gG c d n, if r = true then gX c x d n % 2 ^ (gW c d n + c.k + 2) else gX c x d n, 0⟩
theorem gW_le {c : Kd} (ok : c.Ok) {d : Int} {n : Nat} (hd : Big d) (hn : n ≤ 1010) : gW c d n ≤ 4035 := by
  have h1 : bits (g0 c d n) ≤ 4030 := intBits_le_iff.mpr (g0_lt ok hd hn)
  have h2 := gm_le ok d n
  unfold gW
  omega
def spScaled2 (K : PySem.W.Frag) : Sp := fun vs H Q E => ∃ (a b : Addr) (c : Kd) (x d : Int) (n : Nat), vs = [.ref a, .ref b, .int x, .int d, .int (n : Nat)] ∧ KndAt K H a c ∧ LksAt K H b c ∧ c.Ok ∧ Big x ∧ Big d ∧ n ≤ 1010 ∧
  (room c x d n → NewT H [.int ((gW c d n : Nat) : Int), .int (gG c d n), .int (gX c x d n)] Q) ∧ (¬ room c x d n → E (.ref (He.ga K "NoRoom")) none H)
theorem ok_scaled2 {P : Program} {w : World} {K : PySem.W.Frag} {mg : Str → Option Value} {base : Heap} (T : Fx K mg) : FnX P w K mg base (L2N.CX P w) 3 (He.ga K "scaled") ["kind", "looks", "x", "divisor", "many"] (spScaled2 K) :=
  (ok_scaled T).imp fun vs H Q E ⟨a, b, c, x, d, n, e, hk, hl, ok, hx, hd, hn, hQ, hE⟩ => ⟨a, b, c, x, d, n, e, hk, hl, ok, hx, hd, hn, fun hr => by
    have e2 : V.int ((gW c d n : Nat) : Int) = V.int (((bits (g0 c d n) : Nat) : Int) + gm c d n) := congrArg V.int (by
      have := gm_nn c d n
      unfold gW
      omega)
    have h := hQ hr
    rw [e2] at h
    exact h, hE⟩
def StandN (H H' : Hp) (sv : V) (w : Wk) : Prop := if w.rows = true then ∃ q, sv = .ref q ∧ H q = none ∧ H' q = some (.tup [.int w.sa, .int w.sb]) else sv = .int w.sa
def spInit (K : PySem.W.Frag) (r : Bool) : Sp := fun vs H Q E => ∃ (a dx k l : Addr) (c : Kd) (x d : Int) (n : Nat), vs = [.ref a, .ref k, .ref l, .int x, .int d, .int (n : Nat)] ∧ H a = some (.ins (clsOf K r) dx []) ∧ KndAt K H k c ∧ LksAt K H l c ∧ c.Ok ∧ Big x ∧ Big d ∧ n ≤ 1010 ∧
  (room c x d n → ∀ (H' : Hp) (nn f : Addr) (sv : V), ExX a H H' → H nn = none → H f = none → nn ≠ a → f ≠ a → H' a = some (.ins (clsOf K r) dx (wFields k l nn f sv (w0 c r x d n))) → H' nn = some (.tup [.int x, .int d]) → H' f = some (.lst []) → StandN H H' sv (w0 c r x d n) → Q .non H') ∧
  (¬ room c x d n → ∀ H', ExX a H H' → E (.ref (He.ga K "NoRoom")) none H')
theorem sc_Work_init : FnScope ["self", "kind", "looks", "x", "divisor", "many", "rest"] ["self", "kind", "looks", "x", "divisor", "many"] (defScope s_Work_init) := ⟨rfl, rfl, rfl, by decide +kernel, rfl, by decide +kernel, by decide +kernel⟩
theorem ok_Work_init {P : Program} {w : World} {K : PySem.W.Frag} {mg : Str → Option Value} {base : Heap} (T : Fx K mg) (r : Bool) : FnX P w K mg base (L2N.CX P w) 5 (He.ma K (He.ga K "Work") "__init__") ["self", "kind", "looks", "x", "divisor", "many"] (spInit K r) := by
  refine fx_of T.d_Work_init sc_Work_init (fun _ _ _ _ _ _ us hl => match us, hl with | [_, _, _, _, _, _], _ => rfl) (fun vs H Q E h => ?_) (fun cdv A outer s H vs Q E hr h => ⟨_, (pss_cons (ps_fld (pv 0) (pv 1) rfl)
  (pss_cons (ps_fld (pv 0) (pv 2) rfl)
  (pss_cons (ps_fld (pv 0) (pe_tup (pa_cons (pv 3) (pa_cons (pv 4) pa_nil))) rfl)
  (pss_cons (ps_fld (pv 0) (pv 5) rfl)
  (pss_cons (ps_fld (pv 0) (pe_lst pa_nil) rfl)
  (pss_cons (ps_asg (pe_f (ok_scaled2 T) (hr.mono (by decide)) (by rfl) T.g_scaled (passE rfl rfl rfl rfl) (pa_cons (pv 1) (pa_cons (pv 2) (pa_cons (pv 3) (pa_cons (pv 4) (pa_cons (pv 5) pa_nil)))))) (pg_tup rfl (pgs_cons (SF.pg_fld (pv 0)) (pgs_cons (SF.pg_fld (pv 0)) (pgs_cons (pg_name (i := 6) sc_Work_init.nd rfl (Or.inl rfl)) pgs_nil)))))
  (pss_one (ps_expr (pe_m (pv 0) (T.c_of r) (T.mb_of r) (ok_begin T r) hr pass0 (pa_cons (pv 6) pa_nil)))))))))), ?_⟩)
  · obtain ⟨a, dx, k, l, c, x, d, n, rfl, _⟩ := h
    rfl
  · obtain ⟨a, dx, k, l, c, x, d, n, rfl, ha, hk, hl, ok, hx, hd, hn, hQ, hE⟩ := h
    have gw := gW_le ok hd hn
    refine ⟨_, rfl, _, rfl, st_fld ha (T.c_of r) (T.n_kind r) (by show 0 < 1000; decide) fun H1 x1 _ ha1 _ => ?_⟩
    refine ⟨_, rfl, _, rfl, st_fld ha1 (T.c_of r) (T.n_looks r) (by show 1 < 1000; decide) fun H2 x2 _ ha2 _ => ?_⟩
    refine ⟨_, rfl, _, rfl, ?_⟩
    refine ⟨by show 2 ≤ sizeLine; decide, fun nn hnn => ?_⟩
    generalize gH3 : upd H2 nn (.tup [.int x, .int d]) = H3
    have eH3 : Evl.Ex H2 H3 := by rw [← gH3]; exact Evl.Ex.new hnn
    have oH3 : H3 nn = some (.tup [.int x, .int d]) := by rw [← gH3]; exact upd_same
    have e3 := eH3
    have hn3 := oH3
    have y2 := x1.trans x2
    have y3 := y2.trans (ExX.ex e3)
    have ha3 := e3 _ _ ha2
    have ne1 : nn ≠ a := fun z => by
      rw [z, ha2] at hnn
      cases hnn
    refine ⟨_, rfl, st_fld ha3 (T.c_of r) (T.n_numbers r) (by show 2 < 1000; decide) fun H4 x4 _ ha4 _ => ?_⟩
    have hn4 := x4 _ _ ne1 hn3
    refine ⟨_, rfl, _, rfl, st_fld ha4 (T.c_of r) (T.n_left r) (by show 3 < 1000; decide) fun H5 x5 _ ha5 _ => ?_⟩
    have hn5 := x5 _ _ ne1 hn4
    refine ⟨by show 0 ≤ sizeLine; decide, fun f hf => ?_⟩
    generalize gH6 : upd H5 f (.lst []) = H6
    have eH6 : Evl.Ex H5 H6 := by rw [← gH6]; exact Evl.Ex.new hf
    have oH6 : H6 f = some (.lst []) := by rw [← gH6]; exact upd_same
    have e6 := eH6
    have hf6 := oH6
    have ha6 := e6 _ _ ha5
    have hn6 := e6 _ _ hn5
    have ne2 : f ≠ a := fun z => by
      rw [z, ha5] at hf
      cases hf
    refine ⟨_, rfl, st_fld ha6 (T.c_of r) (T.n_figures r) (by show 4 < 1000; decide) fun H7 x7 _ ha7 _ => ?_⟩
    have hn7 := x7 _ _ ne1 hn6
    have hf7 := x7 _ _ ne2 hf6
    have y5 := (y3.trans x4).trans x5
    have y7 := (y5.trans (ExX.ex e6)).trans x7
    refine ⟨_, rfl, _, rfl, _, rfl, _, rfl, _, rfl, ?_⟩
    refine ⟨_, _, c, x, d, n, rfl, y7.t ha hk, y7.t ha hl, ok, hx, hd, hn, fun hroom H8 q e8 hq h8 => ?_, fun hroom => hE hroom _ y7⟩
    have ha8 := e8 _ _ ha7
    have hn8 := e8 _ _ hn7
    have hf8 := e8 _ _ hf7
    refine ⟨q, _, rfl, Evl.st_of h8, rfl, _, _, rfl, _, rfl, a, _, dx, _, rfl, ha8, T.c_of r, T.n_wide r, by show 5 < 1000; decide, ?_⟩
    have ha9 : (upd H8 a (.ins (clsOf K r) dx (putF "wide" (V.int ((gW c d n : Nat) : Int)) (putF "figures" (V.ref f) (putF "left" (V.int ↑n) (putF "numbers" (V.ref nn) (putF "looks" (V.ref l) (putF "kind" (V.ref k) [])))))))) a = _ := upd_same
    generalize gH9 : upd H8 a _ = H9 at ha9 ⊢
    have x9 : ExX a H8 H9 := by rw [← gH9]; exact ExX.at
    refine ⟨_, _, rfl, _, rfl, a, _, dx, _, rfl, ha9, T.c_of r, T.n_great r, by show 6 < 1000; decide, ?_⟩
    have ha10 : (upd H9 a (.ins (clsOf K r) dx (putF "great" (V.int (gG c d n)) (putF "wide" (V.int ((gW c d n : Nat) : Int)) (putF "figures" (V.ref f) (putF "left" (V.int ↑n) (putF "numbers" (V.ref nn) (putF "looks" (V.ref l) (putF "kind" (V.ref k) []))))))))) a = _ := upd_same
    generalize gH10 : upd H9 a _ = H10 at ha10 ⊢
    have x10 : ExX a H9 H10 := by rw [← gH10]; exact ExX.at
    refine ⟨_, _, rfl, rfl, ?_⟩
    have y10 := ((y7.trans (ExX.ex e8)).trans x9).trans x10
    have hn10 := x10 _ _ ne1 (x9 _ _ ne1 hn8)
    have hf10 := x10 _ _ ne2 (x9 _ _ ne2 hf8)
    refine ⟨_, rfl, a, dx, _, rfl, ha10, rfl, _, rfl, ?_⟩
    refine ⟨a, dx, _, _, nn, f, c, n, gW c d n, gG c d n, gX c x d n, rfl, ha10, y10.t ha hk, ok, by omega, fun H11 sv x11 ha11 hsv => ?_⟩
    have y11 := y10.trans x11
    refine hQ hroom H11 nn f sv y11 (y2.back ne1 hnn) (y5.back ne2 hf) ne1 ne2 ha11 (x11 _ _ ne1 hn10) (x11 _ _ ne2 hf10) ?_
    unfold StandN
    cases r with
    | false => exact hsv
    | true =>
      obtain ⟨q2, e1, e2, e3⟩ := hsv
      refine ⟨q2, e1, y10.back (fun z => ?_) e2, e3⟩
      rw [z, ha10] at e2
      cases e2
end SF
end
section
set_option Elab.async false
set_option linter.all false
set_option maxRecDepth 100000
set_option maxHeartbeats 4000000
namespace SF
open PySem PySem.Spec PyProof.Rows L2
/-! ### one turn of a work -/
def Wk.lk (c : Kd) (w : Wk) : Int := if w.rows = true then lkR c w.wide w.sa w.sb else w.sa * c.base / 2 ^ (w.wide - c.p)
def Wk.tp (c : Kd) (w : Wk) : Int := w.great / 2 ^ (w.wide - c.t)
def Wk.rs (c : Kd) (w : Wk) : Int := if w.rows = true then reR c w.wide w.sa w.sb else w.sa * c.base
def Wk.stF (c : Kd) (w : Wk) : Option Int → Option Int
  | none => none
  | some f => if sv c f w.great (w.rs c) then some f else none
def Wk.nxt (c : Kd) (w : Wk) (f : Int) : Wk := { w with
  left := w.left - 1, figs := w.figs ++ [f],
  sa := if w.rows = true then t3o (stA c w.wide w.sa) (stA c w.wide w.sb) (thR c w.wide f w.great) else w.sa * c.base - f * w.great,
  sb := if w.rows = true then 2 * t3m (stA c w.wide w.sa) (stA c w.wide w.sb) (thR c w.wide f w.great) % 2 ^ (w.wide + c.k + 2) else 0 }
/-- what a turn needs of numbers: the entry is there -/
structure Fit (c : Kd) (tab : List (List (Option Int))) (w : Wk) (e : Option Int) : Prop where
  wd : w.wide ≤ 8000
  wt : c.t ≤ w.wide
  wp : c.p ≤ w.wide
  i1 : 0 ≤ w.tp c - 2 ^ (c.t - 1)
  i2 : 0 ≤ w.lk c + c.half
  at_ : entAt tab (topI c (w.tp c)) (colI c (w.lk c)) = some e
  fb : ∀ f, e = some f → -(2 ^ 63) ≤ f ∧ f ≤ 2 ^ 63
def spTried (K : PySem.W.Frag) (r : Bool) : Sp := fun vs H Q _ => ∃ (a tb : Addr) (i : Nat) (c : Kd) (T1 : TT1) (w : Wk) (tab : List (List (Option Int))) (e : Option Int), vs = [.ref a, .ref tb] ∧ w.rows = r ∧ WorkB K c T1 H i a w ∧ c.Ok ∧ TabR K H tb tab ∧ Fit c tab w e ∧
  ∀ (H' : Hp) (q cl : Addr) (sv' : V), Evl.Ex H H' → H' q = some (.tup [.ref cl, cv (w.stF c e), sv']) → H' cl = some (.tup [.int (w.tp c), .int (w.lk c)]) → (∀ f, w.stF c e = some f → StandN H H' sv' (w.nxt c f)) → Q (.ref q) H'
theorem sc_Work_tried : FnScope ["self", "table", "rest", "point", "cell", "figure"] ["self", "table"] (defScope s_Work_tried) := ⟨rfl, rfl, rfl, by decide +kernel, rfl, by decide +kernel, by decide +kernel⟩
theorem ok_Work_tried {P : Program} {w : World} {K : PySem.W.Frag} {mg : Str → Option Value} {base : Heap} (T : Fx K mg) : FnX P w K mg base CX0 3 (He.ma K (He.ga K "Work") "tried") ["self", "table"] (spTried K false) := by
  refine fx_of T.d_Work_tried sc_Work_tried (fun _ _ _ _ _ _ us hl => match us, hl with | [_, _], _ => rfl) (fun vs H Q E h => ?_) (fun cdv A outer s H vs Q E hr h => ⟨_, PSs.nox ((pss_cons (ps_set (i := 2) sc_Work_tried.nd rfl (Or.inl rfl) (pe_op op_mul (pe_fld (pv 0) rfl) (pe_ix ix_tup (pe_fld (pv 0) rfl) pe_int (fun _ _ => rfl))))
  (pss_cons (ps_set (i := 3) sc_Work_tried.nd rfl (Or.inl rfl) (pe_tup (pa_cons (pe_fld (pv 0) rfl) (pa_cons (pe_fld (pv 0) rfl) (pa_cons (pv 2) pa_nil)))))
  (pss_cons (ps_set (i := 4) sc_Work_tried.nd rfl (Or.inl rfl) (pe_ix ix_list (pe_f (ok_cells_of T) (hr.mono (by decide)) (by rfl) T.g_cells_of pass0 (pa_cons (pe_fld (pv 0) rfl) (pa_cons (pe_fld (pv 0) rfl) (pa_cons pe_int (pa_cons (pv 3) pa_nil))))) pe_int (fun _ _ => rfl)))
  (pss_cons (ps_set (i := 5) sc_Work_tried.nd rfl (Or.inl rfl) (pe_f (ok_entry T) hr (by rfl) T.g_entry pass0 (pa_cons (pe_fld (pv 0) rfl) (pa_cons (pe_fld (pv 0) rfl) (pa_cons (pv 1) (pa_cons (pv 4) pa_nil))))))
  (pss_cons (ps_if (PW.pt (pw_or (pt_cmpR op_isN (pv 5) pe_non (nomark _)) (pw_or1 (pt_not (pt_val (pe_f (ok_serves T) (hr.mono (by decide)) (by rfl) T.g_serves pass0 (pa_cons (pe_fld (pv 0) rfl) (pa_cons (pv 5) (pa_cons (pv 3) pa_nil))))))))) (pss_one (ps_ret (pe_tup (pa_cons (pv 4) (pa_cons pe_non (pa_cons (pe_fld (pv 0) rfl) pa_nil)))))) pss_nil)
  (pss_one (ps_ret (pe_tup (pa_cons (pv 4) (pa_cons (pv 5) (pa_cons (pe_op op_sub (pv 2) (pe_op op_mul (pv 5) (pe_fld (pv 0) rfl))) pa_nil)))))))))))), ?_⟩)
  · obtain ⟨a, tb, i, c, T1, w, tab, e, rfl, _⟩ := h
    rfl
  · obtain ⟨a, tb, i, c, T1, w, tab, e, rfl, hr1, hw, ok, ht, ft, hQ⟩ := h
    obtain ⟨dx, k, l, n, f, sv1, ha, _, ⟨⟨hk, _⟩, hl, _⟩, _, _, hs⟩ := hw
    have b8 := ok.b8
    have b2 := ok.b2
    have er : w.rows = false := hr1
    rw [er] at ha
    have hsv : sv1 = .int w.sa := by
      unfold StandAt at hs
      rw [if_neg (by rw [er]; decide)] at hs
      exact hs
    subst hsv
    have elk : w.lk c = w.sa * c.base / 2 ^ (w.wide - c.p) := by unfold Wk.lk; rw [if_neg (by rw [er]; decide)]
    have ers : w.rs c = w.sa * c.base := by unfold Wk.rs; rw [if_neg (by rw [er]; decide)]
    refine ⟨_, rfl, a, _, dx, _, _, rfl, ha, T.c_of false, T.n_stand false, rfl, ?_⟩
    refine ⟨_, rfl, a, _, dx, _, _, rfl, ha, T.c_of false, T.n_kind false, rfl, ?_⟩
    refine ⟨_, _, _, _, rfl, rfl, Evl.st_of hk, rfl, ?_⟩
    refine ⟨_, _, rfl, rfl, .inr ⟨by omega, by omega⟩, ?_⟩
    refine ⟨_, rfl, a, _, dx, _, _, rfl, ha, T.c_of false, T.n_wide false, rfl, ?_⟩
    refine ⟨_, rfl, a, _, dx, _, _, rfl, ha, T.c_of false, T.n_great false, rfl, ?_⟩
    refine ⟨_, rfl, ?_⟩
    refine ⟨by show 3 ≤ sizeLine; decide, fun pt hpt => ?_⟩
    try dsimp only
    generalize gH1 : upd H pt (.tup [.int (w.wide : Nat), .int w.great, .int (w.sa * c.base)]) = H1
    have eH1 : Evl.Ex H H1 := by rw [← gH1]; exact Evl.Ex.new hpt
    have oH1 : H1 pt = some (.tup [.int (w.wide : Nat), .int w.great, .int (w.sa * c.base)]) := by rw [← gH1]; exact upd_same
    refine ⟨_, rfl, a, _, dx, _, _, rfl, eH1 _ _ ha, T.c_of false, T.n_kind false, rfl, ?_⟩
    refine ⟨_, rfl, a, _, dx, _, _, rfl, eH1 _ _ ha, T.c_of false, T.n_looks false, rfl, ?_⟩
    refine ⟨_, rfl, ?_⟩
    refine ⟨_, _, pt, c, w.wide, _, _, rfl, Evl.ex_t eH1 (Evl.st_of hl), Evl.st_of oH1, ft.wt, ft.wp, fun H2 l2 cl e2 h2 h3 => ?_⟩
    have e12 := eH1.trans e2
    refine ⟨_, _, _, _, rfl, rfl, Evl.sq_of h3, rfl, ?_⟩
    refine ⟨_, rfl, a, _, dx, _, _, rfl, e12 _ _ ha, T.c_of false, T.n_kind false, rfl, ?_⟩
    refine ⟨_, rfl, a, _, dx, _, _, rfl, e12 _ _ ha, T.c_of false, T.n_looks false, rfl, ?_⟩
    refine ⟨_, rfl, _, rfl, ?_⟩
    have at2 := ft.at_
    have i22 := ft.i2
    rw [elk] at at2 i22
    refine ⟨_, _, _, cl, c, tab, _, _, e, rfl, Evl.ex_t e12 (Evl.st_of hk), Evl.ex_t e12 (Evl.st_of hl), ok, ht.ex e12, Evl.st_of h2, ft.i1, i22, at2, ?_⟩
    refine ⟨_, rfl, rfl, _, rfl, ?_⟩
    have hcl : ∀ H', Evl.Ex H2 H' → H' cl = some (.tup [.int (w.tp c), .int (w.lk c)]) := fun H' e' => by
      rw [elk]
      exact e' _ _ h2
    cases e with
    | none =>
      refine ⟨_, rfl, ?_⟩
      refine ⟨_, rfl, a, _, dx, _, _, rfl, e12 _ _ ha, T.c_of false, T.n_stand false, rfl, ?_⟩
      refine ⟨by show 3 ≤ sizeLine; decide, fun q hq => ?_⟩
      try dsimp only
      generalize gH3 : upd H2 q (.tup [.ref cl, .non, .int w.sa]) = H3
      have eH3 : Evl.Ex H2 H3 := by rw [← gH3]; exact Evl.Ex.new hq
      have oH3 : H3 q = some (.tup [.ref cl, .non, .int w.sa]) := by rw [← gH3]; exact upd_same
      exact hQ H3 q cl _ (e12.trans eH3) oH3 (hcl _ eH3) fun f z => nomatch z
    | some f =>
      obtain ⟨f1, f2⟩ := ft.fb f rfl
      refine ⟨_, rfl, a, _, dx, _, _, rfl, e12 _ _ ha, T.c_of false, T.n_kind false, rfl, ?_⟩
      refine ⟨_, rfl, _, rfl, ?_⟩
      refine ⟨k, pt, c, f, _, _, _, rfl, Evl.ex_t e12 (Evl.st_of hk), ok, Evl.st_of (e2 _ _ oH1), f1, f2, ?_⟩
      refine ⟨_, rfl, ?_⟩
      refine itN (fun hs1 => ?_) (fun hs1 => ?_)
      · have hs2 : sv c f w.great (w.rs c) := by rw [ers]; exact hs1
        have est : w.stF c (some f) = some f := by unfold Wk.stF; exact if_pos hs2
        refine ⟨_, rfl, _, rfl, _, rfl, _, rfl, ?_⟩
        refine ⟨_, rfl, a, _, dx, _, _, rfl, e12 _ _ ha, T.c_of false, T.n_great false, rfl, ?_⟩
        refine ⟨_, _, rfl, rfl, .inl ⟨by omega, by omega⟩, ?_⟩
        refine ⟨_, _, rfl, rfl, ?_⟩
        refine ⟨by show 3 ≤ sizeLine; decide, fun q hq => ?_⟩
        try dsimp only
        generalize gH3 : upd H2 q (.tup [.ref cl, cv (some f), .int (w.sa * c.base - f * w.great)]) = H3
        have eH3 : Evl.Ex H2 H3 := by rw [← gH3]; exact Evl.Ex.new hq
        have oH3 : H3 q = some (.tup [.ref cl, cv (some f), .int (w.sa * c.base - f * w.great)]) := by rw [← gH3]; exact upd_same
        refine hQ H3 q cl (.int (w.sa * c.base - f * w.great)) (e12.trans eH3) (by rw [est]; exact oH3) (hcl _ eH3) fun g z => ?_
        rw [est] at z
        cases z
        unfold StandN
        rw [if_neg (by show ¬ w.rows = true; rw [er]; decide)]
        show V.int _ = V.int (if w.rows = true then _ else _)
        rw [if_neg (by rw [er]; decide)]
      · have hs2 : ¬ sv c f w.great (w.rs c) := by rw [ers]; exact hs1
        have est : w.stF c (some f) = none := by unfold Wk.stF; exact if_neg hs2
        refine ⟨_, rfl, ?_⟩
        refine ⟨_, rfl, a, _, dx, _, _, rfl, e12 _ _ ha, T.c_of false, T.n_stand false, rfl, ?_⟩
        refine ⟨by show 3 ≤ sizeLine; decide, fun q hq => ?_⟩
        try dsimp only
        generalize gH3 : upd H2 q (.tup [.ref cl, .non, .int w.sa]) = H3
        have eH3 : Evl.Ex H2 H3 := by rw [← gH3]; exact Evl.Ex.new hq
        have oH3 : H3 q = some (.tup [.ref cl, .non, .int w.sa]) := by rw [← gH3]; exact upd_same
        exact hQ H3 q cl _ (e12.trans eH3) (by rw [est]; exact oH3) (hcl _ eH3) fun f z => by rw [est] at z; cases z
def svF (c : Kd) (g r : Int) : Option Int → Option Int
  | none => none
  | some f => if sv c f g r then some f else none
def spStep2 (K : PySem.W.Frag) : Sp := fun vs H Q _ => ∃ (a b tb p : Addr) (c : Kd) (tab : List (List (Option Int))) (w : Nat) (g x y : Int) (e : Option Int), vs = [.ref a, .ref b, .ref tb, .int (w : Nat), .int g, .ref p] ∧ KndAt K H a c ∧ LksAt K H b c ∧ c.Ok ∧ TabR K H tb tab ∧ SqT K H p [.int x, .int y] ∧
  w ≤ 10000 ∧ c.t ≤ w ∧ c.p ≤ w ∧ 0 ≤ g / 2 ^ (w - c.t) - 2 ^ (c.t - 1) ∧ 0 ≤ lkR c w x y + c.half ∧ entAt tab (topI c (g / 2 ^ (w - c.t))) (colI c (lkR c w x y)) = some e ∧ (∀ f, e = some f → -(2 ^ 63) ≤ f ∧ f ≤ 2 ^ 63) ∧
  ∀ (H' : Hp) (r : Addr) (sv' : V), Evl.Ex H H' → H' r = some (.tup [.int (lkR c w x y), cv (svF c g (reR c w x y) e), sv']) →
    (∀ f, svF c g (reR c w x y) e = some f → ∃ q, sv' = .ref q ∧ H q = none ∧ H' q = some (.tup [.int (t3o (stA c w x) (stA c w y) (thR c w f g)), .int (2 * t3m (stA c w x) (stA c w y) (thR c w f g) % 2 ^ (w + c.k + 2))])) → Q (.ref r) H'
theorem ok_step2 {P : Program} {w : World} {K : PySem.W.Frag} {mg : Str → Option Value} {base : Heap} (T : Fx K mg) : FnX P w K mg base CX0 3 (He.ga K "stepped") ["kind", "looks", "table", "wide", "great", "pair"] (spStep2 K) :=
  (ok_stepped T).imp fun vs H Q E ⟨a, b, tb, p, c, tab, w, g, x, y, e, ev, hk, hl, ok, ht, hp, hw, hwt, hwp, i1, i2, he, hf, hQ⟩ => ⟨a, b, tb, p, c, tab, w, g, x, y, e, ev, hk, hl, ok, ht, hp, hw, hwt, hwp, i1, i2, he,
    fun en H' r e' _ h' => by
      subst en
      exact hQ H' r _ e' h' fun f z => (nomatch z),
    fun f ef => by
      subst ef
      obtain ⟨f1, f2⟩ := hf f rfl
      refine ⟨f1, f2, fun hs H' r e' _ h' => ?_, fun hs H' r q e' _ h' hq hq' => ?_⟩
      · have es : svF c g (reR c w x y) (some f) = none := if_neg hs
        exact hQ H' r _ e' (by rw [es]; exact h') fun f z => by rw [es] at z; cases z
      · have es : svF c g (reR c w x y) (some f) = some f := if_pos hs
        refine hQ H' r _ e' (by rw [es]; exact h') fun f' z => ?_
        rw [es] at z
        cases z
        exact ⟨q, rfl, hq, hq'⟩⟩
theorem sc_RowsWork_tried : FnScope ["self", "table", "look", "figure", "behind"] ["self", "table"] (defScope s_RowsWork_tried) := ⟨rfl, rfl, rfl, by decide +kernel, rfl, by decide +kernel, by decide +kernel⟩
theorem ok_RowsWork_tried {P : Program} {w : World} {K : PySem.W.Frag} {mg : Str → Option Value} {base : Heap} (T : Fx K mg) : FnX P w K mg base CX0 4 (He.ma K (He.ga K "RowsWork") "tried") ["self", "table"] (spTried K true) := by
  refine fx_of T.d_RowsWork_tried sc_RowsWork_tried (fun _ _ _ _ _ _ us hl => match us, hl with | [_, _], _ => rfl) (fun vs H Q E h => ?_) (fun cdv A outer s H vs Q E hr h => ⟨_, PSs.nox ((pss_cons (ps_asg (pe_f (ok_step2 T) hr (by rfl) T.g_stepped pass0 (pa_cons (pe_fld (pv 0) rfl) (pa_cons (pe_fld (pv 0) rfl) (pa_cons (pv 1) (pa_cons (pe_fld (pv 0) rfl) (pa_cons (pe_fld (pv 0) rfl) (pa_cons (pe_fld (pv 0) rfl) pa_nil))))))) (pg_tup rfl (pgs_cons (pg_name (i := 2) sc_RowsWork_tried.nd rfl (Or.inl rfl)) (pgs_cons (pg_name (i := 3) sc_RowsWork_tried.nd rfl (Or.inl rfl)) (pgs_cons (pg_name (i := 4) sc_RowsWork_tried.nd rfl (Or.inl rfl)) pgs_nil)))))
  (pss_one (ps_ret (pe_tup (pa_cons (pe_tup (pa_cons (pe_op op_shrN (pe_fld (pv 0) rfl) (pe_op op_sub (pe_fld (pv 0) rfl) (pe_ix ix_tup (pe_fld (pv 0) rfl) pe_int (fun _ _ => rfl)))) (pa_cons (pv 2) pa_nil))) (pa_cons (pv 3) (pa_cons (pv 4) pa_nil)))))))), ?_⟩)
  · obtain ⟨a, tb, i, c, T1, w, tab, e, rfl, _⟩ := h
    rfl
  · obtain ⟨a, tb, i, c, T1, w, tab, e, rfl, hr1, hw, ok, ht, ft, hQ⟩ := h
    obtain ⟨dx, k, l, n, f, sv1, ha, _, ⟨⟨hk, _⟩, hl, _⟩, _, _, hs⟩ := hw
    have er : w.rows = true := hr1
    rw [er] at ha
    unfold StandAt at hs
    rw [if_pos er] at hs
    obtain ⟨p0, rfl, hp0, _⟩ := hs
    have elk : w.lk c = lkR c w.wide w.sa w.sb := by unfold Wk.lk; rw [if_pos er]
    have ers : w.rs c = reR c w.wide w.sa w.sb := by unfold Wk.rs; rw [if_pos er]
    have est : w.stF c e = svF c w.great (reR c w.wide w.sa w.sb) e := by
      cases e with
      | none => rfl
      | some f =>
        show (if sv c f w.great (w.rs c) then some f else none) = _
        rw [ers]
        rfl
    have at2 := ft.at_
    have i22 := ft.i2
    rw [elk] at at2 i22
    refine ⟨_, rfl, a, _, dx, _, _, rfl, ha, T.c_of true, T.n_kind true, rfl, ?_⟩
    refine ⟨_, rfl, a, _, dx, _, _, rfl, ha, T.c_of true, T.n_looks true, rfl, ?_⟩
    refine ⟨_, rfl, ?_⟩
    refine ⟨_, rfl, a, _, dx, _, _, rfl, ha, T.c_of true, T.n_wide true, rfl, ?_⟩
    refine ⟨_, rfl, a, _, dx, _, _, rfl, ha, T.c_of true, T.n_great true, rfl, ?_⟩
    refine ⟨_, rfl, a, _, dx, _, _, rfl, ha, T.c_of true, T.n_stand true, rfl, ?_⟩
    refine ⟨k, l, tb, p0, c, tab, w.wide, w.great, _, _, e, rfl, Evl.st_of hk, Evl.st_of hl, ok, ht, Evl.st_of hp0, Nat.le_trans ft.wd (by decide), ft.wt, ft.wp, ft.i1, i22, at2, ft.fb, fun H1 r1 sv' e1 h1 hst => ?_⟩
    refine ⟨r1, _, rfl, Evl.st_of h1, rfl, _, _, rfl, _, _, rfl, _, _, rfl, rfl, ?_⟩
    refine ⟨_, rfl, a, _, dx, _, _, rfl, e1 _ _ ha, T.c_of true, T.n_great true, rfl, ?_⟩
    refine ⟨_, rfl, a, _, dx, _, _, rfl, e1 _ _ ha, T.c_of true, T.n_wide true, rfl, ?_⟩
    refine ⟨_, rfl, a, _, dx, _, _, rfl, e1 _ _ ha, T.c_of true, T.n_looks true, rfl, ?_⟩
    refine ⟨_, _, _, _, rfl, rfl, Evl.ex_t e1 (Evl.st_of hl), rfl, ?_⟩
    refine ⟨_, _, rfl, rfl, ?_⟩
    refine ⟨_, w.wide - c.t, rfl, vsub ft.wt, ?_⟩
    refine ⟨_, rfl, ?_⟩
    refine ⟨by show 2 ≤ sizeLine; decide, fun cl hcl => ?_⟩
    try dsimp only
    generalize gH2 : upd H1 cl (.tup [.int (w.great / 2 ^ (w.wide - c.t)), .int (lkR c w.wide w.sa w.sb)]) = H2
    have eH2 : Evl.Ex H1 H2 := by rw [← gH2]; exact Evl.Ex.new hcl
    have oH2 : H2 cl = some (.tup [.int (w.great / 2 ^ (w.wide - c.t)), .int (lkR c w.wide w.sa w.sb)]) := by rw [← gH2]; exact upd_same
    refine ⟨_, rfl, _, rfl, ?_⟩
    refine ⟨by show 3 ≤ sizeLine; decide, fun q hq => ?_⟩
    try dsimp only
    generalize gH3 : upd H2 q (.tup [.ref cl, cv (svF c w.great (reR c w.wide w.sa w.sb) e), sv']) = H3
    have eH3 : Evl.Ex H2 H3 := by rw [← gH3]; exact Evl.Ex.new hq
    have oH3 : H3 q = some (.tup [.ref cl, cv (svF c w.great (reR c w.wide w.sa w.sb) e), sv']) := by rw [← gH3]; exact upd_same
    refine hQ H3 q cl sv' ((e1.trans eH2).trans eH3) (by rw [est]; exact oH3) (by rw [elk]; exact eH3 _ _ oH2) fun g hg => ?_
    rw [est] at hg
    obtain ⟨q2, z1, z2, z3⟩ := hst g hg
    unfold StandN
    rw [if_pos (show (w.nxt c g).rows = true from er)]
    refine ⟨q2, z1, z2, ?_⟩
    show H3 q2 = some (.tup [.int (if w.rows = true then _ else _), .int (if w.rows = true then _ else _)])
    rw [if_pos er, if_pos er]
    exact eH3 _ _ (eH2 _ _ z3)
section
variable {P : Program} {w : World} {K : PySem.W.Frag} {mg : Str → Option Value} {base : Heap}
theorem ok_tried (T : Fx K mg) (r : Bool) : FnX P w K mg base CX0 4 (trA K r) ["self", "table"] (spTried K r) := by
  cases r
  · exact (ok_Work_tried T).mono (by decide)
  · exact ok_RowsWork_tried T
end
end SF
end
section
set_option Elab.async false
set_option linter.all false
set_option maxRecDepth 100000
set_option maxHeartbeats 4000000
namespace SF
open PySem PySem.Spec PyProof.Rows L2
/-! ### worth's size -/
theorem wo_lt {b : Int} (hb : b.natAbs ≤ 8) : ∀ (ns : List Int) (a : Int) (n : Nat), (∀ f ∈ ns, f.natAbs ≤ 7) → a.natAbs < 8 ^ n → (ns.foldl (fun a f => a * b + f) a).natAbs < 8 ^ (n + ns.length)
  | [], a, n, _, ha => ha
  | f :: ns, a, n, hf, ha => by
    have h1 := hf f List.mem_cons_self
    have h2 : (a * b + f).natAbs < 8 ^ (n + 1) := by
      have h3 : (a * b).natAbs ≤ a.natAbs * 8 := by
        rw [Int.natAbs_mul]
        exact Nat.mul_le_mul_left _ hb
      have h4 : (8 : Nat) ^ (n + 1) = 8 ^ n * 8 := Nat.pow_succ ..
      omega
    have := wo_lt hb ns (a * b + f) (n + 1) (fun g hg => hf g (List.mem_cons_of_mem _ hg)) h2
    rw [List.length_cons, show n + (ns.length + 1) = n + 1 + ns.length by omega]
    exact this
theorem wo_size {c : Kd} (ok : c.Ok) {ns : List Int} (hf : ∀ f ∈ ns, f.natAbs ≤ 7) (hl : ns.length ≤ 1010) : (wo c.base ns).natAbs < 2 ^ 3030 := by
  have b8 := ok.b8
  have b2 := ok.b2
  have h := wo_lt (b := c.base) (by omega) ns 0 0 hf (by decide)
  have e : (8 : Nat) ^ (0 + ns.length) = 2 ^ (3 * ns.length) := by
    rw [Nat.zero_add, Nat.pow_mul]
  rw [e] at h
  exact Nat.lt_of_lt_of_le h (Nat.pow_le_pow_right (by decide) (by omega))
/-! ### Work.rest -/
abbrev doneOf (c : Kd) (w : Wk) : Int := wo c.base (w.figs ++ List.replicate w.left 0)
def spRest (K : PySem.W.Frag) : Sp := fun vs H Q _ => ∃ (a : Addr) (i : Nat) (c : Kd) (T1 : TT1) (w : Wk), vs = [.ref a] ∧ WorkB K c T1 H i a w ∧ c.Ok ∧ w.figs.length + w.left ≤ 1010 ∧ (∀ f ∈ w.figs, f.natAbs ≤ 7) ∧ Big w.d ∧ NewT H [.int (w.x - doneOf c w * w.d), .int (w.left : Nat)] Q
theorem rep_flat (n : Nat) (v : V) : (List.replicate n [v]).flatten = List.replicate n v := by
  induction n with
  | zero => rfl
  | succ n ih => rw [List.replicate_succ, List.flatten_cons, ih]; rfl
theorem sc_Work_rest : FnScope ["self", "done"] ["self"] (defScope s_Work_rest) := ⟨rfl, rfl, rfl, by decide +kernel, rfl, by decide +kernel, by decide +kernel⟩
theorem ok_Work_rest {P : Program} {w : World} {K : PySem.W.Frag} {mg : Str → Option Value} {base : Heap} (T : Fx K mg) : FnX P w K mg base CX0 2 (He.ma K (He.ga K "Work") "rest") ["self"] (spRest K) := by
  refine fx_of T.d_Work_rest sc_Work_rest (fun _ _ _ _ _ _ us hl => match us, hl with | [_], _ => rfl) (fun vs H Q E h => ?_) (fun cdv A outer s H vs Q E hr h => ⟨_, PSs.nox ((pss_cons (ps_set (i := 1) sc_Work_rest.nd rfl (Or.inl rfl) (pe_f (ok_worth T) hr (by rfl) T.g_worth pass0 (pa_cons (pe_fld (pv 0) rfl) (pa_cons (pe_op op_cat (pe_fld (pv 0) rfl) (pe_op op_rep (pe_lst (pa_cons pe_int pa_nil)) (pe_fld (pv 0) rfl))) pa_nil))))
  (pss_one (ps_ret (pe_tup (pa_cons (pe_op op_sub (pe_ix ix_tup (pe_fld (pv 0) rfl) pe_int (fun _ _ => rfl)) (pe_op op_mulW (pv 1) (pe_ix ix_tup (pe_fld (pv 0) rfl) pe_int (fun _ _ => rfl)))) (pa_cons (pe_fld (pv 0) rfl) pa_nil))))))), ?_⟩)
  · obtain ⟨a, i, c, T1, w, rfl, _⟩ := h
    rfl
  · obtain ⟨a, i, c, T1, w, rfl, hw, ok, hl, hf, hd, hQ⟩ := h
    obtain ⟨dx, k, l, n, f, sv1, ha, _, ⟨⟨hk, _⟩, _, _⟩, ⟨hn, _⟩, ⟨hfg, _⟩, _⟩ := hw
    have sz : ∀ z, z ≤ 1010 → z ≤ sizeLine := fun z hz => Nat.le_trans hz (by decide)
    refine ⟨_, rfl, a, _, dx, _, _, rfl, ha, T.c_of _, T.n_kind _, rfl, ?_⟩
    refine ⟨_, rfl, a, _, dx, _, _, rfl, ha, T.c_of _, T.n_figures _, rfl, ?_⟩
    refine ⟨by show 1 ≤ sizeLine; decide, fun z hz => ?_⟩
    try dsimp only
    generalize gH1 : upd H z (.lst [.int 0]) = H1
    have eH1 : Evl.Ex H H1 := by rw [← gH1]; exact Evl.Ex.new hz
    have oH1 : H1 z = some (.lst [.int 0]) := by rw [← gH1]; exact upd_same
    refine ⟨_, rfl, a, _, dx, _, _, rfl, eH1 _ _ ha, T.c_of _, T.n_left _, rfl, ?_⟩
    refine ⟨z, _, _, rfl, rfl, oH1, by omega, by omega, by show 1 * _ ≤ _; rw [Nat.one_mul]; exact sz _ (by omega), fun p hp => ?_⟩
    try dsimp only
    rw [show (((w.left : Nat) : Int)).toNat = w.left from rfl, rep_flat]
    generalize gH2 : upd H1 p (.lst (List.replicate w.left (.int 0))) = H2
    have eH2 : Evl.Ex H1 H2 := by rw [← gH2]; exact Evl.Ex.new hp
    have oH2 : H2 p = some (.lst (List.replicate w.left (.int 0))) := by rw [← gH2]; exact upd_same
    have e12 := eH1.trans eH2
    refine ⟨f, p, _, _, rfl, rfl, e12 _ _ hfg, oH2, by rw [List.length_map, List.length_replicate]; exact sz _ hl, fun q hq => ?_⟩
    have ec : w.figs.map V.int ++ List.replicate w.left (V.int 0) = (w.figs ++ List.replicate w.left 0).map V.int := by rw [List.map_append, List.map_replicate]
    rw [ec]
    generalize gH3 : upd H2 q (.lst ((w.figs ++ List.replicate w.left 0).map V.int)) = H3
    have eH3 : Evl.Ex H2 H3 := by rw [← gH3]; exact Evl.Ex.new hq
    have oH3 : H3 q = some (.lst ((w.figs ++ List.replicate w.left 0).map V.int)) := by rw [← gH3]; exact upd_same
    have e13 := e12.trans eH3
    refine ⟨k, q, c, _, rfl, Evl.st_of (e13 _ _ hk), ok, Evl.sq_of oH3, ?_⟩
    refine ⟨_, rfl, a, _, dx, _, _, rfl, e13 _ _ ha, T.c_of _, T.n_numbers _, rfl, ?_⟩
    refine ⟨_, _, _, _, rfl, rfl, Evl.st_of (e13 _ _ hn), rfl, ?_⟩
    refine ⟨_, rfl, ?_⟩
    refine ⟨_, rfl, a, _, dx, _, _, rfl, e13 _ _ ha, T.c_of _, T.n_numbers _, rfl, ?_⟩
    refine ⟨_, _, _, _, rfl, rfl, Evl.st_of (e13 _ _ hn), rfl, ?_⟩
    refine ⟨_, _, rfl, rfl, wide_mul (a := 3030) (b := 1000) (wo_size ok (fun g hg => ?_) (by rw [List.length_append, List.length_replicate]; exact hl)) hd (by decide) (by decide) (by decide), ?_⟩
    · rcases List.mem_append.mp hg with h1 | h1
      · exact hf g h1
      · rw [(List.mem_replicate.mp h1).2]; decide
    refine ⟨_, _, rfl, rfl, ?_⟩
    refine ⟨_, rfl, a, _, dx, _, _, rfl, e13 _ _ ha, T.c_of _, T.n_left _, rfl, ?_⟩
    exact ⟨by show 2 ≤ sizeLine; decide, fun r hr1 => hQ _ r (e13.trans (Evl.Ex.new hr1)) (Evl.fresh_back e13 hr1) upd_same⟩
end SF
end
section
set_option Elab.async false
set_option linter.all false
set_option maxRecDepth 100000
set_option maxHeartbeats 4000000
namespace SF
open PySem PySem.Spec PyProof.Rows L2
/-! ### [list(row) for row in table] -/
theorem ex_new2 {H H' : Hp} {p : Addr} {o : HO} (e : Evl.Ex H H') (h : H' p = none) : Evl.Ex H (upd H' p o) := e.trans (Evl.Ex.new h)
theorem wipe1 {σ : L2.St} {i : Nat} {x : V} : wipe ((wipe σ [i]).set i (some x)) [i] = wipe σ [i] := by
  show ((σ.set i none).set i (some x)).set i none = σ.set i none
  rw [List.set_set, List.set_set]
theorem slot1 {σ : L2.St} {i : Nat} {x : V} (hi : i < σ.length) : ((wipe σ [i]).set i (some x))[i]? = some (some x) := by
  show ((σ.set i none).set i (some x))[i]? = some (some x)
  rw [List.set_set, List.getElem?_set_self hi]
/-- new lists at as hold the rows -/
def Fresh (H : Hp) (D : Addr) (as : List Addr) : Prop := as.Nodup ∧ ∀ a ∈ as, H a = none ∧ a ≠ D
def RowsIn (H' : Hp) (as : List Addr) (tab : List (List (Option Int))) : Prop := as.length = tab.length ∧ ∀ (j : Nat) (a : Addr) (row : List (Option Int)), as[j]? = some a → tab[j]? = some row → H' a = some (.lst (row.map cv))
theorem copy_rows {K : PySem.W.Frag} {tl : TE} {σ : L2.St} {H : Hp} {t : Addr} {tab : List (List (Option Int))} {Q : VK} (i : Nat) (hi : i < σ.length) (htl : ∀ R : V → Hp → Prop, R (.ref t) H → tl σ H R) (ht : TabR K H t tab) (hz : tab.length ≤ 1000)
    (hQ : ∀ (H' : Hp) (D : Addr) (as : List Addr), Evl.Ex H H' → H D = none → Fresh H D as → H' D = some (.lst (as.map V.ref)) → RowsIn H' as tab → Q (.ref D) H') :
    tLc (iList K tl) (gName i) tYes (tCB (Evl.rListS K) (tCons (tVar i) tNil)) [i] σ H Q := by
  obtain ⟨as0, h1, h2, h3⟩ := ht
  refine htl _ ⟨t, rfl, ⟨_, h1⟩, fun D hD => lc_list (xs := as0.map V.ref) (fun j H' => Evl.Ex H H' ∧ ∃ as : List Addr, as.length = j ∧ Fresh H D as ∧ H' D = some (.lst (as.map V.ref)) ∧
    ∀ (j : Nat) (a : Addr) (row : List (Option Int)), as[j]? = some a → tab[j]? = some row → H' a = some (.lst (row.map cv))) ?_ ?_ ?_ ?_⟩
  · exact ⟨Evl.Ex.new hD, [], rfl, ⟨List.nodup_nil, fun a z => nomatch z⟩, upd_same, fun j a row z => nomatch z⟩
  · rintro j H' _ ⟨e, _⟩
    exact Evl.ex_l e h1
  · rintro j x H' hx ⟨e, as, hl, ⟨hn, hf⟩, hd, hr⟩
    rw [List.getElem?_map] at hx
    cases ha0 : as0[j]? with
    | none => rw [ha0] at hx; cases hx
    | some a0 =>
      rw [ha0] at hx
      cases hx
      have hj : j < tab.length := by rw [← h2]; exact (List.getElem?_eq_some_iff.mp ha0).1
      have hrow : tab[j]? = some tab[j] := List.getElem?_eq_getElem hj
      have q := Evl.ex_l e (h3 j a0 _ ha0 hrow)
      refine ⟨wipe1, _, slot1 hi, a0, _, rfl, .inl q, fun l hl1 => ⟨as.map V.ref, ?_, ?_, ?_⟩⟩
      · rw [upd_ne (ne_of_none hd hl1)]
        exact hd
      · rw [List.length_map, hl]
        exact Nat.lt_of_lt_of_le (Nat.lt_of_lt_of_le hj hz) (by decide)
      · have nD : l ≠ D := fun z => by
          rw [z, hd] at hl1
          cases hl1
        have fl : H l = none := Evl.fresh_back e hl1
        refine ⟨(ex_new2 e hl1).mut hD, as ++ [l], by rw [List.length_append, hl]; rfl, ⟨?_, fun a ha => ?_⟩, by rw [upd_same, List.map_append]; rfl, fun j' a row g1 g2 => ?_⟩
        · refine List.nodup_append.mpr ⟨hn, (by simp), fun a ha b hb => ?_⟩
          rw [List.mem_singleton.mp hb]
          intro z
          obtain ⟨k, hk⟩ := List.mem_iff_getElem?.mp (z ▸ ha)
          have hk2 : k < tab.length := by
            have := (List.getElem?_eq_some_iff.mp hk).1
            omega
          have := hr k l _ hk (List.getElem?_eq_getElem hk2)
          rw [hl1] at this
          cases this
        · rcases List.mem_append.mp ha with h | h
          · exact hf a h
          · rw [List.mem_singleton.mp h]
            exact ⟨fl, nD⟩
        · rcases get_app g1 with g1 | ⟨e1, e2⟩
          · have nd : a ≠ D := (hf a (List.mem_of_getElem? g1)).2
            have nl : a ≠ l := fun z => by
              have := hr j' a row g1 g2
              rw [z, hl1] at this
              cases this
            rw [upd_ne nd, upd_ne nl]
            exact hr j' a row g1 g2
          · subst e2
            rw [e1, hl, hrow] at g2
            cases g2
            rw [upd_ne nD, upd_same]
  · rintro H' ⟨e, as, hl, hf, hd, hr⟩
    rw [List.length_map] at hl
    exact hQ H' D as e hD hf hd ⟨hl.trans h2, hr⟩
theorem sq_fld {K : PySem.W.Frag} {ta tv : TE} {f : Str} {u : TS} {D : Ends} {σ : L2.St} {H : Hp}
    (h : tv σ H fun y H1 => ta σ H1 fun x H2 => ∃ a C dx fs, x = .ref a ∧ H2 a = some (.ins C dx fs) ∧ Cls K C ∧ NoAttr K C f ∧ fs.length < 1000 ∧ u D σ (upd H2 a (.ins C dx (putF f y fs)))) : tSeq (sFld K ta tv f) u D σ H := h
/-! ### Bench.__init__ -/
def bFields (k l r ws sn dn : Addr) : List (Str × V) := [("kind", .ref k), ("looks", .ref l), ("rows", .ref r), ("works", .ref ws), ("seen", .ref sn), ("done", .ref dn)]
def spBInit (K : PySem.W.Frag) : Sp := fun vs H Q _ => ∃ (b dx k l t : Addr) (tab : List (List (Option Int))), vs = [.ref b, .ref k, .ref l, .ref t] ∧ H b = some (.ins (He.ga K "Bench") dx []) ∧ TabR K H t tab ∧ tab.length ≤ 1000 ∧
  ∀ (H' : Hp) (r ws sn dn : Addr) (as : List Addr), ExX b H H' → H' b = some (.ins (He.ga K "Bench") dx (bFields k l r ws sn dn)) → (H r = none ∧ r ≠ b) → (H ws = none ∧ ws ≠ b) → (H sn = none ∧ sn ≠ b) → (H dn = none ∧ dn ≠ b) → as.Nodup → (∀ a ∈ as, H a = none ∧ a ≠ b ∧ a ≠ r ∧ a ≠ ws ∧ a ≠ sn ∧ a ≠ dn) → ws ≠ dn → ws ≠ sn → dn ≠ sn → r ≠ ws → r ≠ sn → r ≠ dn →
    H' r = some (.lst (as.map V.ref)) → RowsIn H' as tab → H' ws = some (.lst []) → H' sn = some (.dT []) → H' dn = some (.lst []) → Q .non H'
theorem TabR.exx {K : PySem.W.Frag} {H H' : Hp} {a b C dx : Addr} {fs : List (Str × V)} {tab : List (List (Option Int))} (x : ExX b H H') (hb : H b = some (.ins C dx fs)) (h : TabR K H a tab) : TabR K H' a tab := by
  obtain ⟨as, h1, h2, h3⟩ := h
  have go : ∀ {a : Addr} {xs : List V}, SqL K H a xs → SqL K H' a xs := fun {a xs} h => by
    rcases h with h | h
    · rcases h with h | ⟨o, h⟩
      · refine .inl (.inl (x a _ (fun z => ?_) h))
        rw [z, hb] at h
        cases h
      · refine .inl (.inr ⟨o, x a _ (fun z => ?_) h⟩)
        rw [z, hb] at h
        cases h
    · exact .inr h
  exact ⟨as, go h1, h2, fun i b row p q => go (h3 i b row p q)⟩
theorem sc_Bench_init : FnScope ["self", "kind", "looks", "table", "row"] ["self", "kind", "looks", "table"] (defScope s_Bench_init) := ⟨rfl, rfl, rfl, by decide +kernel, rfl, by decide +kernel, by decide +kernel⟩
theorem ok_Bench_init {P : Program} {w : World} {K : PySem.W.Frag} {mg : Str → Option Value} {base : Heap} (T : Fx K mg) : FnX P w K mg base CX0 1 (He.ma K (He.ga K "Bench") "__init__") ["self", "kind", "looks", "table"] (spBInit K) := by
  refine fx_of T.d_Bench_init sc_Bench_init (fun _ _ _ _ _ _ us hl => match us, hl with | [_, _, _, _], _ => rfl) (fun vs H Q E h => ?_) (fun cdv A outer s H vs Q E hr h => ⟨_, PSs.nox ((pss_cons (ps_fld (pv 0) (pv 1) rfl)
  (pss_cons (ps_fld (pv 0) (pv 2) rfl)
  (pss_cons (ps_fld (pv 0) (pe_lc (own := [("row", 4)]) (g := gName 4) (tt := tYes) rfl sc_Bench_init.nd (pi_list (pv 3)) (blkOk_by (own := [("row", 4)]) (N := ["self", "kind", "looks", "table", "row"]) (sc := defScope s_Bench_init) (by decide +kernel)) (fun _ _ _ _ _ => (pg_name (i := 4) sc_Bench_init.nd rfl (Or.inl rfl))) (fun _ _ _ _ _ => pts_nil) (fun _ _ _ _ _ => (pe_callTy (T := "list") (r := Evl.rListS K) call_list_of (by rfl) T.b_list (by decide +kernel) (pa_cons (pv 4) pa_nil)))) rfl)
  (pss_cons (ps_fld (pv 0) (pe_lst pa_nil) rfl)
  (pss_cons (ps_fld (pv 0) pe_dnewT rfl)
  (pss_one (ps_fld (pv 0) (pe_lst pa_nil) rfl)))))))), ?_⟩)
  · obtain ⟨b, dx, k, l, t, tab, rfl, _⟩ := h
    rfl
  · obtain ⟨b, dx, k, l, t, tab, rfl, hb, ht, hz, hQ⟩ := h
    refine ⟨_, rfl, _, rfl, st_fld hb T.c_Bench T.n_Bench_kind (by show 0 < 1000; decide) fun H1 x1 _ hb1 _ => ?_⟩
    refine ⟨_, rfl, _, rfl, st_fld hb1 T.c_Bench T.n_Bench_looks (by show 1 < 1000; decide) fun H2 x2 _ hb2 _ => ?_⟩
    have y2 := x1.trans x2
    dsimp only
    refine sq_fld ?_
    refine copy_rows (t := t) 4 (by show 4 < 5; decide) (fun R hR => by exact ⟨_, rfl, hR⟩) (ht.exx y2 hb) hz fun H3 r as e3 hr0 hf0 hr3 hin3 => ?_
    have hb3 := e3 _ _ hb2
    have y3 := y2.trans (ExX.ex e3)
    have nrb : r ≠ b := fun z => by rw [z, hb2] at hr0; cases hr0
    have asb : ∀ a ∈ as, a ≠ b := fun a ha z => by
      have := (hf0.2 a ha).1
      rw [z, hb2] at this
      cases this
    refine ⟨_, rfl, st_fld hb3 T.c_Bench T.n_Bench_rows (by show 2 < 1000; decide) fun H4 x4 _ hb4 _ => ?_⟩
    have y4 := y3.trans x4
    have hr4 := x4 _ _ nrb hr3
    have hin4 : RowsIn H4 as tab := ⟨hin3.1, fun j a row g1 g2 => x4 _ _ (asb a (List.mem_of_getElem? g1)) (hin3.2 j a row g1 g2)⟩
    refine ⟨by show 0 ≤ sizeLine; decide, fun ws hws => ?_⟩
    try dsimp only
    generalize gH5 : upd H4 ws (.lst []) = H5
    have eH5 : Evl.Ex H4 H5 := by rw [← gH5]; exact Evl.Ex.new hws
    have oH5 : H5 ws = some (.lst []) := by rw [← gH5]; exact upd_same
    have hb5 := eH5 _ _ hb4
    have nwb : ws ≠ b := fun z => by rw [z, hb4] at hws; cases hws
    refine ⟨_, rfl, st_fld hb5 T.c_Bench T.n_Bench_works (by show 3 < 1000; decide) fun H6 x6 _ hb6 _ => ?_⟩
    have x46 : ExX b H4 H6 := (ExX.ex eH5).trans x6
    have ws6 := x6 _ _ nwb oH5
    refine fun sn hsn => ?_
    try dsimp only
    generalize gH7 : upd H6 sn (.dT []) = H7
    have eH7 : Evl.Ex H6 H7 := by rw [← gH7]; exact Evl.Ex.new hsn
    have oH7 : H7 sn = some (.dT []) := by rw [← gH7]; exact upd_same
    have hb7 := eH7 _ _ hb6
    have nsb : sn ≠ b := fun z => by rw [z, hb6] at hsn; cases hsn
    refine ⟨_, rfl, st_fld hb7 T.c_Bench T.n_Bench_seen (by show 4 < 1000; decide) fun H8 x8 _ hb8 _ => ?_⟩
    have x48 := (x46.trans (ExX.ex eH7)).trans x8
    have ws8 := x8 _ _ nwb (eH7 _ _ ws6)
    have sn8 := x8 _ _ nsb oH7
    refine ⟨by show 0 ≤ sizeLine; decide, fun dn hdn => ?_⟩
    try dsimp only
    generalize gH9 : upd H8 dn (.lst []) = H9
    have eH9 : Evl.Ex H8 H9 := by rw [← gH9]; exact Evl.Ex.new hdn
    have oH9 : H9 dn = some (.lst []) := by rw [← gH9]; exact upd_same
    have hb9 := eH9 _ _ hb8
    have ndb : dn ≠ b := fun z => by rw [z, hb8] at hdn; cases hdn
    refine ⟨_, rfl, st_fld hb9 T.c_Bench T.n_Bench_done (by show 5 < 1000; decide) fun H10 x10 _ hb10 _ => ?_⟩
    have x410 := (x48.trans (ExX.ex eH9)).trans x10
    have y6 := y4.trans x46
    have y8 := y4.trans x48
    refine hQ H10 r ws sn dn as (y4.trans x410) hb10 ⟨y2.back nrb hr0, nrb⟩ ⟨y4.back nwb hws, nwb⟩ ⟨y6.back nsb hsn, nsb⟩ ⟨y8.back ndb hdn, ndb⟩ hf0.1 (fun a ha => ?_) ?_ ?_ ?_ ?_ ?_ ?_ (x410 _ _ nrb hr4) ⟨hin4.1, fun j a row g1 g2 => x410 _ _ (asb a (List.mem_of_getElem? g1)) (hin4.2 j a row g1 g2)⟩ (x10 _ _ nwb (eH9 _ _ ws8)) (x10 _ _ nsb (eH9 _ _ sn8)) (x10 _ _ ndb oH9)
    · obtain ⟨j, hj⟩ := List.mem_iff_getElem?.mp ha
      have hj2 : j < tab.length := by
        have := (List.getElem?_eq_some_iff.mp hj).1
        rw [← hin4.1]
        exact this
      have h4 := hin4.2 j a _ hj (List.getElem?_eq_getElem hj2)
      have h6 := x46 _ _ (asb a ha) h4
      have h8 := x48 _ _ (asb a ha) h4
      exact ⟨y2.back (asb a ha) (hf0.2 a ha).1, asb a ha, (hf0.2 a ha).2, ne_of_none h4 hws, ne_of_none h6 hsn, ne_of_none h8 hdn⟩
    · exact ne_of_none ws8 hdn
    · exact ne_of_none ws6 hsn
    · exact (ne_of_none sn8 hdn).symm
    · exact ne_of_none hr4 hws
    · exact ne_of_none (x46 _ _ nrb hr4) hsn
    · exact ne_of_none (x48 _ _ nrb hr4) hdn
/-! ### entries -/
def spEntries (K : PySem.W.Frag) : Sp := fun vs H Q _ => ∃ (b r dx : Addr) (fs : List (Str × V)) (tab : List (List (Option Int))), vs = [.ref b] ∧ H b = some (.ins (He.ga K "Bench") dx fs) ∧ fs.lookup ("rows" : Str) = some (.ref r) ∧ TabR K H r tab ∧ tab.length ≤ 1000 ∧
  ∀ (H' : Hp) (D : Addr) (as : List Addr), Evl.Ex H H' → H D = none → Fresh H D as → H' D = some (.lst (as.map V.ref)) → RowsIn H' as tab → Q (.ref D) H'
theorem sc_Bench_entries : FnScope ["self", "row"] ["self"] (defScope s_Bench_entries) := ⟨rfl, rfl, rfl, by decide +kernel, rfl, by decide +kernel, by decide +kernel⟩
theorem ok_Bench_entries {P : Program} {w : World} {K : PySem.W.Frag} {mg : Str → Option Value} {base : Heap} (T : Fx K mg) : FnX P w K mg base CX0 1 (He.ma K (He.ga K "Bench") "entries") ["self"] (spEntries K) := by
  refine fx_of T.d_Bench_entries sc_Bench_entries (fun _ _ _ _ _ _ us hl => match us, hl with | [_], _ => rfl) (fun vs H Q E h => ?_) (fun cdv A outer s H vs Q E hr h => ⟨_, PSs.nox ((pss_one (ps_ret (pe_lc (own := [("row", 1)]) (g := gName 1) (tt := tYes) rfl sc_Bench_entries.nd (pi_list (pe_fld (pv 0) rfl)) (blkOk_by (own := [("row", 1)]) (N := ["self", "row"]) (sc := defScope s_Bench_entries) (by decide +kernel)) (fun _ _ _ _ _ => (pg_name (i := 1) sc_Bench_entries.nd rfl (Or.inl rfl))) (fun _ _ _ _ _ => pts_nil) (fun _ _ _ _ _ => (pe_callTy (T := "list") (r := Evl.rListS K) call_list_of (by rfl) T.b_list (by decide +kernel) (pa_cons (pv 1) pa_nil))))))), ?_⟩)
  · obtain ⟨b, r, dx, fs, tab, rfl, _⟩ := h
    rfl
  · obtain ⟨b, r, dx, fs, tab, rfl, hb, hf, ht, hz, hQ⟩ := h
    exact copy_rows (t := r) 1 (by show 1 < 2; decide) (fun R hR => by exact ⟨_, rfl, b, _, dx, _, _, rfl, hb, T.c_Bench, T.n_Bench_rows, hf, hR⟩) ht hz hQ
end SF
end
section
set_option Elab.async false
set_option linter.all false
set_option maxRecDepth 100000
set_option maxHeartbeats 4000000
namespace SF
open PySem PySem.Spec PyProof.Rows L2
/-! ### Bench.work -/
def inR (n : Int) (k : Nat) : Prop := 0 ≤ n ∧ n < (k : Nat)
def spWork (K : PySem.W.Frag) : Sp := fun vs H Q E => ∃ (b : Addr) (n : Int) (c : Kd) (T1 : TT1) (S : Sta), vs = [.ref b, .int n] ∧ BenchAt K c T1 H b S ∧
  (inR n S.works.length → ∀ a w, S.works[n.toNat]? = some w → WorkB K c T1 H n.toNat a w → (∀ dx fs ws xs, H b = some (.ins (He.ga K "Bench") dx fs) → fs.lookup ("works" : Str) = some (.ref ws) → H ws = some (.lst xs) → xs[n.toNat]? = some (.ref a)) → Q (.ref a) H) ∧ (¬ inR n S.works.length → E (.ref (He.ga K "NoWork")) none H)
theorem sc_Bench_work : FnScope ["self", "number"] ["self", "number"] (defScope s_Bench_work) := ⟨rfl, rfl, rfl, by decide +kernel, rfl, by decide +kernel, by decide +kernel⟩
theorem ok_Bench_work {P : Program} {w : World} {K : PySem.W.Frag} {mg : Str → Option Value} {base : Heap} (T : Fx K mg) : FnX P w K mg base (L2N.CX P w) 1 (He.ma K (He.ga K "Bench") "work") ["self", "number"] (spWork K) := by
  refine fx_of T.d_Bench_work sc_Bench_work (fun _ _ _ _ _ _ us hl => match us, hl with | [_, _], _ => rfl) (fun vs H Q E h => ?_) (fun cdv A outer s H vs Q E hr h => ⟨_, (pss_cons (ps_if (pt_not (pt_chain op_le op_lt pe_int (pv 1) (pe_callB call_len_seq (by rfl) T.b_len (by decide +kernel) (pa_cons (pe_fld (pv 0) rfl) pa_nil)))) (pss_one (L2N.ps_raise rfl (L2N.takes_of rfl rfl rfl rfl) (L2N.pmk_own PySem.F.excBase_ValueError T.x_NoWork.1 T.g_NoWork T.x_NoWork.2.1 (raises_own T.x_NoWork.2.2.1 T.x_NoWork.2.2.2) rfl))) pss_nil)
  (pss_one (ps_ret (pe_ix ix_list (pe_fld (pv 0) rfl) (pv 1) (fun _ _ => rfl))))), ?_⟩)
  · obtain ⟨b, n, c, T1, S, rfl, _⟩ := h
    rfl
  · obtain ⟨b, n, c, T1, S, rfl, ⟨dx, k, l, r, ws, sn, dn, ⟨hb, _⟩, _, _, ⟨as, w1, w2, w3, w4⟩, _⟩, hQ, hE⟩ := h
    refine ⟨_, rfl, _, _, rfl, rfl, _, rfl, ?_⟩
    refine itD (fun h0 => ?_) (fun h0 => ?_)
    · refine ⟨_, rfl, b, _, dx, _, _, rfl, hb, T.c_Bench, T.n_Bench_works, rfl, ?_⟩
      refine ⟨ws, _, rfl, .inl (Evl.sq_of w1), ?_⟩
      refine ⟨_, _, rfl, rfl, _, rfl, ?_⟩
      rw [List.length_map, w3]
      refine itN (fun h1 => ?_) (fun h1 => hE fun z => h1 z.2)
      have hlt : n.toNat < as.length := by omega
      have ha : as[n.toNat]? = some as[n.toNat] := List.getElem?_eq_getElem hlt
      have hw : S.works[n.toNat]? = some S.works[n.toNat] := List.getElem?_eq_getElem (by omega)
      refine ⟨_, rfl, b, _, dx, _, _, rfl, hb, T.c_Bench, T.n_Bench_works, rfl, ?_⟩
      refine ⟨_, rfl, ws, _, _, _, rfl, rfl, Evl.sq_of w1, atI_of h0 (by rw [List.getElem?_map, ha]; rfl), ?_⟩
      refine hQ ⟨h0, h1⟩ _ _ hw (w4 _ _ _ ha hw) fun dx' fs' ws' xs' g1 g2 g3 => ?_
      rw [hb] at g1
      cases g1
      have e : some (V.ref ws) = some (V.ref ws') := g2
      cases e
      rw [w1] at g3
      cases g3
      rw [List.getElem?_map, ha]
      rfl
    · refine ⟨_, rfl, ?_⟩
      exact hE fun z => h0 z.1
/-! ### row, rest, deeds -/
def spRow (K : PySem.W.Frag) : Sp := fun vs H Q _ => ∃ (b : Addr) (n : Nat) (c : Kd) (T1 : TT1) (S : Sta) (w : Wk), vs = [.ref b, .int (n : Nat)] ∧ BenchAt K c T1 H b S ∧ S.works[n]? = some w ∧ NewL H (w.figs.map V.int) Q
theorem inR_of {l : List Wk} {n : Nat} {w : Wk} (h : l[n]? = some w) : inR (n : Int) l.length := ⟨by omega, by
  have := (List.getElem?_eq_some_iff.mp h).1
  omega⟩
theorem sc_Bench_row : FnScope ["self", "number"] ["self", "number"] (defScope s_Bench_row) := ⟨rfl, rfl, rfl, by decide +kernel, rfl, by decide +kernel, by decide +kernel⟩
theorem ok_Bench_row {P : Program} {w : World} {K : PySem.W.Frag} {mg : Str → Option Value} {base : Heap} (T : Fx K mg) : FnX P w K mg base CX0 2 (He.ma K (He.ga K "Bench") "row") ["self", "number"] (spRow K) := by
  refine fx_of T.d_Bench_row sc_Bench_row (fun _ _ _ _ _ _ us hl => match us, hl with | [_, _], _ => rfl) (fun vs H Q E h => ?_) (fun cdv A outer s H vs Q E hr h => ⟨_, PSs.nox ((pss_one (ps_ret (pe_callTy (T := "list") (r := Evl.rListS K) call_list_of (by rfl) T.b_list (by decide +kernel) (pa_cons (pe_fld (pe_m (pv 0) T.c_Bench T.m_Bench_work (ok_Bench_work T) hr passN (pa_cons (pv 1) pa_nil)) rfl) pa_nil))))), ?_⟩)
  · obtain ⟨b, n, c, T1, S, w, rfl, _⟩ := h
    rfl
  · obtain ⟨b, n, c, T1, S, w, rfl, hB, hw, hQ⟩ := h
    obtain ⟨dx, k, l, r, ws, sn, dn, ⟨hb, _⟩, _⟩ := id hB
    refine ⟨_, rfl, b, dx, _, rfl, hb, rfl, _, rfl, ?_⟩
    refine ⟨b, n, c, T1, S, rfl, hB, fun _ a w' g1 g2 _ => ?_, fun z => z (inR_of hw)⟩
    have e : some w' = some w := g1.symm.trans hw
    cases e
    obtain ⟨dx2, k2, l2, n2, f2, sv2, ha, _, _, _, ⟨hf, _⟩, _⟩ := g2
    refine ⟨a, _, dx2, _, _, rfl, ha, T.c_of _, T.n_figures _, rfl, ?_⟩
    exact ⟨f2, _, rfl, .inl (Evl.sq_of hf), fun p hp => hQ _ p (Evl.Ex.new hp) hp upd_same⟩
def spBRest (K : PySem.W.Frag) : Sp := fun vs H Q _ => ∃ (b : Addr) (n : Nat) (c : Kd) (T1 : TT1) (S : Sta) (w : Wk), vs = [.ref b, .int (n : Nat)] ∧ BenchAt K c T1 H b S ∧ S.works[n]? = some w ∧ c.Ok ∧ w.figs.length + w.left ≤ 1010 ∧ (∀ f ∈ w.figs, f.natAbs ≤ 7) ∧ Big w.d ∧ NewT H [.int (w.x - doneOf c w * w.d), .int (w.left : Nat)] Q
theorem sc_Bench_rest : FnScope ["self", "number"] ["self", "number"] (defScope s_Bench_rest) := ⟨rfl, rfl, rfl, by decide +kernel, rfl, by decide +kernel, by decide +kernel⟩
theorem ok_Bench_rest {P : Program} {w : World} {K : PySem.W.Frag} {mg : Str → Option Value} {base : Heap} (T : Fx K mg) : FnX P w K mg base CX0 3 (He.ma K (He.ga K "Bench") "rest") ["self", "number"] (spBRest K) := by
  refine fx_of T.d_Bench_rest sc_Bench_rest (fun _ _ _ _ _ _ us hl => match us, hl with | [_, _], _ => rfl) (fun vs H Q E h => ?_) (fun cdv A outer s H vs Q E hr h => ?_)
  · obtain ⟨b, n, c, T1, S, w, rfl, _⟩ := h
    rfl
  · obtain ⟨b, n, c, T1, S, w, rfl, hB, hw, ok, hl, hf, hd, hQ⟩ := h
    obtain ⟨dx, k, l, r, ws, sn, dn, ⟨hb, _⟩, _⟩ := id hB
    refine ⟨_, PSs.nox ((pss_one (ps_ret (SF.pe_m0 (pe_m (pv 0) T.c_Bench T.m_Bench_work (ok_Bench_work T) (hr.mono (by decide)) passN (pa_cons (pv 1) pa_nil)) (T.c_of w.rows) (T.mr_of w.rows) (ok_Work_rest T) hr pass0)))), ?_⟩
    refine ⟨_, rfl, b, dx, _, rfl, hb, rfl, _, rfl, ?_⟩
    refine ⟨b, n, c, T1, S, rfl, hB, fun _ a w' g1 g2 _ => ?_, fun z => z (inR_of hw)⟩
    have e : some w' = some w := g1.symm.trans hw
    cases e
    obtain ⟨dx2, k2, l2, n2, f2, sv2, ha, _⟩ := id g2
    refine ⟨a, dx2, _, rfl, ha, rfl, ?_⟩
    exact ⟨a, _, c, T1, w, rfl, g2, ok, hl, hf, hd, hQ⟩
/-! ### looked -/
def cntv (kvs : List (List Key × V)) (c : Int × Int) : Int := match valV kvs (ckey c) with
  | some (.int n) => n
  | _ => 0
def bump (kvs : List (List Key × V)) (c : Int × Int) : List (List Key × V) := putK kvs (ckey c) (.int (cntv kvs c + 1))
/-- keys: pairs of ints, each once; values: ints -/
def SeenP (kvs : List (List Key × V)) : Prop := ∃ cs : List (Int × Int), kvs.map (·.1) = cs.map ckey ∧ cs.Nodup ∧ ∀ p ∈ kvs, ∃ n : Int, p.2 = .int n
theorem ckey_inj {a b : Int × Int} (h : ckey a = ckey b) : a = b := by
  unfold ckey at h
  injection h with h1 h2
  injection h2 with h2 _
  injection h1 with h1
  injection h2 with h2
  exact Prod.ext h1 h2
theorem valV_mem {κ : Type} [DecidableEq κ] {kvs : List (κ × V)} {k : κ} {v : V} (h : valV kvs k = some v) : ∃ p ∈ kvs, p.1 = k ∧ p.2 = v := by
  unfold valV at h
  cases e : kvs.find? fun kv => decide (kv.1 = k) with
  | none => rw [e] at h; cases h
  | some p =>
    rw [e] at h
    cases h
    exact ⟨p, List.mem_of_find?_eq_some e, by simpa using List.find?_some e, rfl⟩
theorem valV_none {κ : Type} [DecidableEq κ] {kvs : List (κ × V)} {k : κ} (h : valV kvs k = none) : ∀ p ∈ kvs, p.1 ≠ k := by
  unfold valV at h
  cases e : kvs.find? fun kv => decide (kv.1 = k) with
  | none =>
    intro p hp
    have := List.find?_eq_none.mp e p hp
    simpa using this
  | some p => rw [e] at h; cases h
theorem SeenP.val {kvs : List (List Key × V)} (h : SeenP kvs) (c : Int × Int) : (valV kvs (ckey c)).getD (.int 0) = .int (cntv kvs c) := by
  unfold cntv
  cases e : valV kvs (ckey c) with
  | none => rfl
  | some v =>
    obtain ⟨p, hp, _, e2⟩ := valV_mem e
    obtain ⟨_, _, _, h3⟩ := h
    obtain ⟨n, hn⟩ := h3 p hp
    rw [← e2, hn]
    rfl
theorem SeenP.has {kvs : List (List Key × V)} {cs : List (Int × Int)} (h3 : ∀ p ∈ kvs, ∃ n : Int, p.2 = .int n) (h : kvs.map (·.1) = cs.map ckey) {c : Int × Int} (hc : c ∈ cs) : valV kvs (ckey c) = some (.int (cntv kvs c)) := by
  have hm : ckey c ∈ kvs.map (·.1) := by rw [h]; exact List.mem_map_of_mem hc
  obtain ⟨p, hp, e⟩ := List.mem_map.mp hm
  unfold cntv
  cases ev : valV kvs (ckey c) with
  | none => exact absurd e (valV_none ev p hp)
  | some v =>
    obtain ⟨q, hq, _, e2⟩ := valV_mem ev
    obtain ⟨n, hn⟩ := h3 q hq
    rw [← e2, hn]
theorem SeenP.bump {kvs : List (List Key × V)} (h : SeenP kvs) (c : Int × Int) : SeenP (bump kvs c) ∧ (bump kvs c).length ≤ kvs.length + 1 := by
  obtain ⟨cs, h1, h2, h3⟩ := h
  unfold SF.bump putK
  split
  · rename_i hany
    refine ⟨⟨cs, ?_, h2, ?_⟩, by rw [List.length_map]; omega⟩
    · rw [← h1, List.map_map]
      apply List.map_congr_left
      intro p _
      show (if p.1 = ckey c then (p.1, _) else p).1 = p.1
      split <;> rfl
    · intro p hp
      obtain ⟨q, hq, e⟩ := List.mem_map.mp hp
      by_cases hk : q.1 = ckey c
      · rw [if_pos hk] at e
        exact ⟨_, by rw [← e]⟩
      · rw [if_neg hk] at e
        rw [← e]
        exact h3 q hq
  · rename_i hany
    refine ⟨⟨cs ++ [c], ?_, ?_, ?_⟩, by rw [List.length_append]; exact Nat.le_refl _⟩
    · rw [List.map_append, List.map_append, h1]
      rfl
    · refine List.nodup_append.mpr ⟨h2, by simp, fun a ha b hb => ?_⟩
      rw [List.mem_singleton.mp hb]
      intro z
      have hm : ckey c ∈ kvs.map (·.1) := by rw [h1]; exact List.mem_map_of_mem (z ▸ ha)
      obtain ⟨p, hp, e⟩ := List.mem_map.mp hm
      exact hany (List.any_eq_true.mpr ⟨p, hp, decide_eq_true e⟩)
    · intro p hp
      rcases List.mem_append.mp hp with h | h
      · exact h3 p h
      · rw [List.mem_singleton.mp h]
        exact ⟨_, rfl⟩
/-- the list that looked answers, by its cells -/
def SeenL (H' : Hp) (D : Addr) (kvs : List (List Key × V)) (ds : List (Int × Int)) : Prop := ∃ as : List Addr, H' D = some (.lst (as.map V.ref)) ∧ as.length = ds.length ∧
  ∀ (i : Nat) (a : Addr) (c : Int × Int), as[i]? = some a → ds[i]? = some c → ∃ t, H' a = some (.tup [.ref t, .int (cntv kvs c)]) ∧ H' t = some (.tup [.int c.1, .int c.2])
theorem paired_at {α β : Type} {R : α → β → Prop} {as : List α} {bs : List β} (h : Paired R as bs) : as.length = bs.length ∧ ∀ (i : Nat) (a : α) (b : β), as[i]? = some a → bs[i]? = some b → R a b := by
  induction h with
  | nil => exact ⟨rfl, fun i a b h => by cases h⟩
  | cons h t ih =>
    refine ⟨by rw [List.length_cons, List.length_cons, ih.1], fun i a b h1 h2 => ?_⟩
    cases i with
    | zero =>
      cases h1
      cases h2
      exact h
    | succ i => exact ih.2 i a b h1 h2
/-- [(cell, SEEN[cell]) for cell in sorted(SEEN)] -/
theorem looked_list {K : PySem.W.Frag} {tl tk : TE} {σ : L2.St} {H : Hp} {sn : Addr} {kvs : List (List Key × V)} {Q : VK} (i : Nat) (hi : i < σ.length) (hS : SeenP kvs) (hz : kvs.length ≤ 1000000)
    (hsn : H sn = some (.dT kvs)) (htl : ∀ R : V → Hp → Prop, R (.ref sn) H → tl σ H R) (htk : ∀ (H' : Hp) (x : V) (R : V → Hp → Prop), Evl.Ex H H' → R (.ref sn) H' → tk ((wipe σ [i]).set i (some x)) H' R)
    (hQ : ∀ (H' : Hp) (D : Addr) (ds cs : List (Int × Int)), Evl.Ex H H' → H D = none → kvs.map (·.1) = cs.map ckey → cs.Nodup → ds.Perm cs → SrtO.Srtd SrtO.lexB ds → SeenL H' D kvs ds → Q (.ref D) H') :
    tLc (iList K (tCB rSortedDT (tCons tl tNil))) (gName i) tYes (tTup (tCons (tVar i) (tCons (tDGet tk (tVar i)) tNil))) [i] σ H Q := by
  obtain ⟨cs, h1, h2, h3⟩ := hS
  refine htl _ ⟨sn, kvs, cs, rfl, .inl hsn, h1, fun ts ds p hts hperm hsrt hp => ?_⟩
  obtain ⟨tl1, tat⟩ := paired_at hts
  have eP : Evl.Ex H (upd H p (.lst (ts.map V.ref))) := Evl.Ex.new hp
  have oP : (upd H p (.lst (ts.map V.ref))) p = some (.lst (ts.map V.ref)) := upd_same
  generalize upd H p (.lst (ts.map V.ref)) = H1 at eP oP ⊢
  have hlen : ds.length = kvs.length := by
    have e1 := hperm.length_eq
    have e2 := congrArg List.length h1
    rw [List.length_map, List.length_map] at e2
    omega
  refine ⟨p, rfl, ⟨_, Evl.sq_of oP⟩, fun D hD => lc_list (xs := ts.map V.ref) (fun j H' => Evl.Ex H1 H' ∧ ∃ as : List Addr, as.length = j ∧ H' D = some (.lst (as.map V.ref)) ∧
    ∀ (i : Nat) (a : Addr) (c : Int × Int), as[i]? = some a → ds[i]? = some c → ∃ t, H' a = some (.tup [.ref t, .int (cntv kvs c)]) ∧ H' t = some (.tup [.int c.1, .int c.2])) ?_ ?_ ?_ ?_⟩
  · exact ⟨Evl.Ex.new hD, [], rfl, upd_same, fun i a c z => nomatch z⟩
  · rintro j H' _ ⟨e, _⟩
    exact Evl.ex_l e (Evl.sq_of oP)
  · rintro j x H' hx ⟨e, as, hl, hd, hr⟩
    rw [List.getElem?_map] at hx
    cases ht0 : ts[j]? with
    | none => rw [ht0] at hx; cases hx
    | some t0 =>
      rw [ht0] at hx
      cases hx
      have hj : j < ds.length := by rw [← tl1]; exact (List.getElem?_eq_some_iff.mp ht0).1
      have hc : ds[j]? = some ds[j] := List.getElem?_eq_getElem hj
      have ht1 := tat j t0 _ ht0 hc
      have ex := eP.trans e
      have hmem : ds[j] ∈ cs := hperm.mem_iff.mp (List.getElem_mem hj)
      refine ⟨wipe1, _, slot1 hi, htk H' _ _ ex ⟨_, slot1 hi, sn, .int (cntv kvs ds[j]), rfl, ?_, ?_⟩⟩
      · have g := DGet.t (k := ckey ds[j]) (ex _ _ hsn) (b := t0) (ex _ _ ht1)
        rw [SeenP.has h3 h1 hmem] at g
        exact g
      · refine ⟨by show 2 ≤ sizeLine; decide, fun q hq => ?_⟩
        try dsimp only
        have eq1 : Evl.Ex H' (upd H' q (.tup [.ref t0, .int (cntv kvs ds[j])])) := Evl.Ex.new hq
        have oq : (upd H' q (.tup [.ref t0, .int (cntv kvs ds[j])])) q = some (.tup [.ref t0, .int (cntv kvs ds[j])]) := upd_same
        generalize upd H' q (.tup [.ref t0, .int (cntv kvs ds[j])]) = H2 at eq1 oq ⊢
        refine ⟨as.map V.ref, eq1 _ _ hd, ?_, ?_⟩
        · rw [List.length_map, hl]
          exact Nat.lt_of_lt_of_le (Nat.lt_of_lt_of_le hj (by rw [hlen]; exact hz)) (by decide)
        · have kp : ∀ {z : Addr} {o : HO} {xs : List V}, H2 z = some (.tup xs) → (upd H2 D (.lst (as.map V.ref ++ [V.ref q]))) z = some (.tup xs) := fun {z o xs} hz2 => by
            rw [upd_ne fun w => ?_]
            · exact hz2
            · rw [w, eq1 _ _ hd] at hz2
              cases hz2
          refine ⟨(e.trans eq1).mut hD, as ++ [q], by rw [List.length_append, hl]; rfl, by rw [upd_same, List.map_append]; rfl, fun i' a c g1 g2 => ?_⟩
          rcases get_app g1 with g1 | ⟨e1, e2⟩
          · obtain ⟨t, r1, r2⟩ := hr i' a c g1 g2
            exact ⟨t, kp (o := .lst []) (eq1 _ _ r1), kp (o := .lst []) (eq1 _ _ r2)⟩
          · subst e2
            rw [e1, hl, hc] at g2
            cases g2
            exact ⟨t0, kp (o := .lst []) oq, kp (o := .lst []) (eq1 _ _ (ex _ _ ht1))⟩
  · rintro H' ⟨e, as, hl, hd, hr⟩
    rw [List.length_map] at hl
    exact hQ H' D ds cs (eP.trans e) (Evl.fresh_back eP hD) h1 h2 hperm hsrt ⟨as, hd, hl.trans tl1, hr⟩
end SF
end
section
set_option Elab.async false
set_option linter.all false
set_option maxRecDepth 100000
set_option maxHeartbeats 4000000
namespace SF
open PySem PySem.Spec PyProof.Rows L2
def spLooked (K : PySem.W.Frag) : Sp := fun vs H Q _ => ∃ (b : Addr) (c : Kd) (T1 : TT1) (S : Sta), vs = [.ref b] ∧ BenchAt K c T1 H b S ∧ SeenP S.seen ∧ S.seen.length ≤ 1000000 ∧
  ∀ (H' : Hp) (D : Addr) (ds cs : List (Int × Int)), Evl.Ex H H' → H D = none → S.seen.map (·.1) = cs.map ckey → cs.Nodup → ds.Perm cs → SrtO.Srtd SrtO.lexB ds → SeenL H' D S.seen ds → Q (.ref D) H'
theorem sc_Bench_looked : FnScope ["self", "cell"] ["self"] (defScope s_Bench_looked) := ⟨rfl, rfl, rfl, by decide +kernel, rfl, by decide +kernel, by decide +kernel⟩
theorem ok_Bench_looked {P : Program} {w : World} {K : PySem.W.Frag} {mg : Str → Option Value} {base : Heap} (T : Fx K mg) : FnX P w K mg base CX0 1 (He.ma K (He.ga K "Bench") "looked") ["self"] (spLooked K) := by
  refine fx_of T.d_Bench_looked sc_Bench_looked (fun _ _ _ _ _ _ us hl => match us, hl with | [_], _ => rfl) (fun vs H Q E h => ?_) (fun cdv A outer s H vs Q E hr h => ⟨_, PSs.nox ((pss_one (ps_ret (pe_lc (own := [("cell", 1)]) (g := gName 1) (tt := tYes) rfl sc_Bench_looked.nd (pi_list (pe_callB (SF.cr_sortedDT rfl) (by rfl) T.b_sorted (by decide +kernel) (pa_cons (pe_fld (pv 0) rfl) pa_nil))) (blkOk_by (own := [("cell", 1)]) (N := ["self", "cell"]) (sc := defScope s_Bench_looked) (by decide +kernel)) (fun _ _ _ _ _ => (pg_name (i := 1) sc_Bench_looked.nd rfl (Or.inl rfl))) (fun _ _ _ _ _ => pts_nil) (te := tTup (tCons (tVar 1) (tCons (tDGet (tFld K (tVar 0) "seen") (tVar 1)) tNil))) (fun _ _ _ _ _ => (pe_tup (pa_cons (pv 1) (pa_cons (pe_dget (hu_of hr) (pe_fld (pv 0) rfl) (pv 1) (fun _ _ => rfl)) pa_nil)))))))), ?_⟩)
  · obtain ⟨b, c, T1, S, rfl, _⟩ := h
    rfl
  · obtain ⟨b, c, T1, S, rfl, ⟨dx, k, l, r, ws, sn, dn, ⟨hb, _⟩, _, _, _, ⟨hs, _⟩, _⟩, hS, hz, hQ⟩ := h
    exact looked_list (K := K) 1 (by show 1 < 2; decide) hS hz hs (fun R hR => by exact ⟨_, rfl, b, _, dx, _, _, rfl, hb, T.c_Bench, T.n_Bench_seen, rfl, hR⟩)
      (fun H' x R e hR => by exact ⟨_, rfl, b, _, dx, _, _, rfl, e _ _ hb, T.c_Bench, T.n_Bench_seen, rfl, hR⟩) hQ
def spDeeds (K : PySem.W.Frag) : Sp := fun vs H Q _ => ∃ (b dn dx : Addr) (fs : List (Str × V)) (xs : List V), vs = [.ref b] ∧ H b = some (.ins (He.ga K "Bench") dx fs) ∧ fs.lookup ("done" : Str) = some (.ref dn) ∧ SqL K H dn xs ∧ NewL H xs Q
theorem sc_Bench_deeds : FnScope ["self"] ["self"] (defScope s_Bench_deeds) := ⟨rfl, rfl, rfl, by decide +kernel, rfl, by decide +kernel, by decide +kernel⟩
theorem ok_Bench_deeds {P : Program} {w : World} {K : PySem.W.Frag} {mg : Str → Option Value} {base : Heap} (T : Fx K mg) : FnX P w K mg base CX0 1 (He.ma K (He.ga K "Bench") "deeds") ["self"] (spDeeds K) := by
  refine fx_of T.d_Bench_deeds sc_Bench_deeds (fun _ _ _ _ _ _ us hl => match us, hl with | [_], _ => rfl) (fun vs H Q E h => ?_) (fun cdv A outer s H vs Q E hr h => ⟨_, PSs.nox ((pss_one (ps_ret (pe_callTy (T := "list") (r := Evl.rListS K) call_list_of (by rfl) T.b_list (by decide +kernel) (pa_cons (pe_fld (pv 0) rfl) pa_nil))))), ?_⟩)
  · obtain ⟨b, dn, dx, fs, xs, rfl, _⟩ := h
    rfl
  · obtain ⟨b, dn, dx, fs, xs, rfl, hb, hf, hd, hQ⟩ := h
    refine ⟨_, rfl, b, _, dx, _, _, rfl, hb, T.c_Bench, T.n_Bench_done, hf, ?_⟩
    exact ⟨dn, _, rfl, .inl hd, fun p hp => hQ _ p (Evl.Ex.new hp) hp upd_same⟩
/-! ### go -/
def Sta.saw (S : Sta) (c : Kd) (w : Wk) (n : Int) : Sta := { S with seen := bump S.seen (w.tp c, w.lk c), deeds := S.deeds ++ [.step n] }
def Sta.fwd (S : Sta) (c : Kd) (i : Nat) (w : Wk) (n f : Int) : Sta := { S.saw c w n with works := S.works.set i (w.nxt c f) }
def pB (s : Nat) : Tg → Prop := fun t => t.sd = s
def spGo (K : PySem.W.Frag) : Sp := fun vs H Q E => ∃ (b : Addr) (n : Int) (c : Kd) (T1 : TT1) (S : Sta), vs = [.ref b, .int n] ∧ TgOk T1 H ∧ BenchAt K c T1 H b S ∧ c.Ok ∧ SeenP S.seen ∧ S.seen.length < 100000 ∧ S.deeds.length < 100000 ∧
  (¬ inR n S.works.length → E (.ref (He.ga K "NoWork")) none H) ∧
  ∀ w, inR n S.works.length → S.works[n.toNat]? = some w → (w.left = 0 → NewT H [.str "done"] Q) ∧ (w.left ≠ 0 → w.figs.length < 100000 ∧ ∃ e, Fit c S.tab w e ∧
    (w.stF c e = none → ∀ (H' : Hp) (r : Addr), Go (pB 1) T1 H T1 H' → BenchAt K c T1 H' b (S.saw c w n) → H r = none → H' r = some (.tup [.str "spoilt", .int (w.tp c), .int (w.lk c)]) → Q (.ref r) H') ∧
    (∀ f, w.stF c e = some f → ∀ (H' : Hp) (r : Addr), Go (pB 1) T1 H T1 H' → BenchAt K c T1 H' b (S.fwd c n.toNat w n f) → H r = none → H' r = some (.tup [.str "figure", .int f]) → Q (.ref r) H'))
theorem sc_Bench_go : FnScope ["self", "number", "work", "cell", "figure", "behind"] ["self", "number"] (defScope s_Bench_go) := ⟨rfl, rfl, rfl, by decide +kernel, rfl, by decide +kernel, by decide +kernel⟩
theorem ok_Bench_go {P : Program} {w : World} {K : PySem.W.Frag} {mg : Str → Option Value} {base : Heap} (T : Fx K mg) : FnX P w K mg base (L2N.CX P w) 5 (He.ma K (He.ga K "Bench") "go") ["self", "number"] (spGo K) := by
  refine fx_of T.d_Bench_go sc_Bench_go (fun _ _ _ _ _ _ us hl => match us, hl with | [_, _], _ => rfl) (fun vs H Q E h => ?_) (fun cdv A outer s H vs Q E hr h => ?_)
  · obtain ⟨b, n, c, T1, S, rfl, _⟩ := h
    rfl
  · obtain ⟨b, n, c, T1, S, rfl, tg, hB, ok, hS, hz, hz2, hE, hW⟩ := h
    obtain ⟨r, hr0⟩ : ∃ r : Bool, ∀ w, S.works[n.toNat]? = some w → w.rows = r := by
      cases e : S.works[n.toNat]? with
      | none => exact ⟨false, fun w z => nomatch z⟩
      | some w => exact ⟨w.rows, fun w' z => by cases z; rfl⟩
    refine ⟨_, (pss_cons (ps_set (i := 2) sc_Bench_go.nd rfl (Or.inl rfl) (pe_m (pv 0) T.c_Bench T.m_Bench_work (ok_Bench_work T) (hr.mono (by decide)) (passE rfl rfl rfl rfl) (pa_cons (pv 1) pa_nil)))
  (pss_cons (ps_if (pt_cmpR op_eq (pe_fld (pv 2) rfl) pe_int (nomark _)) (pss_one (ps_ret (pe_tup (pa_cons pe_str pa_nil)))) pss_nil)
  (pss_cons (ps_asg (pe_m (pv 2) (T.c_of r) (T.mt_of r) (ok_tried T r) hr pass0 (pa_cons (pe_fld (pv 0) rfl) pa_nil)) (pg_tup rfl (pgs_cons (pg_name (i := 3) sc_Bench_go.nd rfl (Or.inl rfl)) (pgs_cons (pg_name (i := 4) sc_Bench_go.nd rfl (Or.inl rfl)) (pgs_cons (pg_name (i := 5) sc_Bench_go.nd rfl (Or.inl rfl)) pgs_nil)))))
  (pss_cons (ps_dput (hu_of hr) (pe_fld (pv 0) rfl) (pv 3) (pe_op op_add (pe_dget2 (hu_of hr) (pe_fld (pv 0) rfl) (pv 3) pe_int ⟨rfl, rfl, rfl, rfl⟩) pe_int) rfl)
  (pss_cons (ps_expr (pe_bm PySem.F.plainAttrs_list PySem.F.slot_list_append PySem.F.type_list_append mt_append (pe_fld (pv 0) rfl) (pa_cons (pe_tup (pa_cons pe_str (pa_cons (pv 1) pa_nil))) pa_nil)))
  (pss_cons (ps_if (pt_cmpR op_isN (pv 4) pe_non (nomark _)) (pss_one (ps_ret (pe_tup (pa_cons pe_str (pa_cons (pe_ix ix_tup (pv 3) pe_int (fun _ _ => rfl)) (pa_cons (pe_ix ix_tup (pv 3) pe_int (fun _ _ => rfl)) pa_nil)))))) pss_nil)
  (pss_cons (ps_fld (pv 2) (pv 5) rfl)
  (pss_cons (ps_fldaug (pv 2) pe_int in_sub)
  (pss_cons (ps_expr (pe_bm PySem.F.plainAttrs_list PySem.F.slot_list_append PySem.F.type_list_append mt_append (pe_fld (pv 2) rfl) (pa_cons (pv 4) pa_nil)))
  (pss_one (ps_ret (pe_tup (pa_cons pe_str (pa_cons (pv 4) pa_nil)))))))))))))), ?_⟩
    obtain ⟨dx, k, l, rr, ws, sn, dn, ⟨hb, tb⟩, hkl, hrows, hworks, hseen, hdeeds⟩ := id hB
    refine ⟨_, rfl, b, dx, _, rfl, hb, rfl, _, rfl, ?_⟩
    refine ⟨b, n, c, T1, S, rfl, hB, fun hin a w g1 g2 g3 => ?_, fun z => hE z⟩
    have er := hr0 w g1
    obtain ⟨hW0, hW1⟩ := hW w hin g1
    obtain ⟨dx2, k2, l2, n2, f2, sv2, ha, ta, hkl2, hn2, ⟨hf2, tf2⟩, hst⟩ := id g2
    rw [er] at ha
    refine ⟨_, rfl, a, _, dx2, _, _, rfl, ha, T.c_of r, T.n_left r, rfl, rfl, _, rfl, ?_⟩
    have ndec : ∀ z : Nat, z < 100000 → z < sizeLine := fun z hz => Nat.lt_of_lt_of_le hz (by decide)
    refine itD (fun h0 => ?_) (fun h0 => ?_)
    · have hl : w.left = 0 := by have := v_int h0; omega
      refine ⟨by show 1 ≤ sizeLine; decide, fun q hq => ?_⟩
      try dsimp only
      generalize gH1 : upd H q (.tup [.str "done"]) = H1
      have eH1 : Evl.Ex H H1 := by rw [← gH1]; exact Evl.Ex.new hq
      have oH1 : H1 q = some (.tup [.str "done"]) := by rw [← gH1]; exact upd_same
      exact hW0 hl H1 q eH1 hq oH1
    · have hl : w.left ≠ 0 := fun z => h0 (by rw [z]; rfl)
      obtain ⟨hfl, e, ft, hN, hF⟩ := hW1 hl
      refine ⟨_, rfl, a, dx2, _, rfl, ha, rfl, ?_⟩
      refine ⟨_, rfl, b, _, dx, _, _, rfl, hb, T.c_Bench, T.n_Bench_rows, rfl, ?_⟩
      refine ⟨a, rr, n.toNat, c, T1, w, S.tab, e, rfl, er, g2, ok, hrows.tabR, ft, fun H1 q cl sv' e1 h1 hcl hsv => ?_⟩
      refine ⟨q, _, rfl, Evl.st_of h1, rfl, _, _, rfl, _, _, rfl, _, _, rfl, rfl, ?_⟩
      refine ⟨_, rfl, b, _, dx, _, _, rfl, e1 _ _ hb, T.c_Bench, T.n_Bench_seen, rfl, sn, rfl, .inr ⟨_, .inl (e1 _ _ hseen.1)⟩, _, rfl, _, DGet.t (k := ckey (w.tp c, w.lk c)) (e1 _ _ hseen.1) hcl, ?_⟩
      refine ⟨cntv S.seen (w.tp c, w.lk c), 1, hS.val _, rfl, ?_⟩
      refine ⟨_, rfl, b, _, dx, _, _, rfl, e1 _ _ hb, T.c_Bench, T.n_Bench_seen, rfl, _, rfl, sn, _, rfl, DPut.t (k := ckey (w.tp c, w.lk c)) (e1 _ _ hseen.1) hcl (ndec _ hz), ?_⟩
      try dsimp only
      have tg1 : TgOk T1 H1 := tg.gr (Gr.ex e1)
      have gA1 : Go (fun t => t = .sn true) T1 H T1 (upd H1 sn (.dT (putK S.seen (ckey (w.tp c, w.lk c)) (.int (cntv S.seen (w.tp c, w.lk c) + 1))))) := (Go.ex e1).trans (Go.upd hseen.2)
      have oS2 : (upd H1 sn (.dT (putK S.seen (ckey (w.tp c, w.lk c)) (.int (cntv S.seen (w.tp c, w.lk c) + 1))))) sn = some (.dT (bump S.seen (w.tp c, w.lk c))) := upd_same
      have kp2 : ∀ z o, H1 z = some o → z ≠ sn → (upd H1 sn (.dT (putK S.seen (ckey (w.tp c, w.lk c)) (.int (cntv S.seen (w.tp c, w.lk c) + 1))))) z = some o := fun z o hz1 hz2 => by rw [upd_ne hz2]; exact hz1
      generalize upd H1 sn (.dT (putK S.seen (ckey (w.tp c, w.lk c)) (.int (cntv S.seen (w.tp c, w.lk c) + 1)))) = H2 at gA1 oS2 kp2 ⊢
      have hb2 := (gA1.at hb (by rw [tb]; exact fun z => nomatch z)).1
      have hd2 : DeedsAt true T1 H2 dn S.deeds := hdeeds.go gA1 (fun z => nomatch z) (fun z => nomatch z)
      obtain ⟨das, hd21, hd22, _⟩ := id hd2
      refine ⟨_, rfl, b, _, dx, _, _, rfl, hb2, T.c_Bench, T.n_Bench_done, rfl, .inl ⟨rfl, _, Evl.sq_of hd21⟩, _, rfl, ?_⟩
      refine ⟨by show 2 ≤ sizeLine; decide, fun q2 hq2 => ?_⟩
      try dsimp only
      generalize gH3 : upd H2 q2 (.tup [.str "step", .int n]) = H3
      have eH3 : Evl.Ex H2 H3 := by rw [← gH3]; exact Evl.Ex.new hq2
      have oH3 : H3 q2 = some (.tup [.str "step", .int n]) := by rw [← gH3]; exact upd_same
      have gA3 := gA1.trans (Go.ex (p := fun t => t = .sn true) (T := T1) eH3)
      have tq2 : T1 q2 = .no := (tg.gr gA1.gr) q2 hq2
      obtain ⟨xs, hx3, hxl, hd4⟩ := (hdeeds.go gA3 (fun z => nomatch z) (fun z => nomatch z)).app (d := .step n) oH3 tq2
      refine ⟨dn, _, _, rfl, rfl, hx3, by rw [hxl]; exact ndec _ hz2, ?_⟩
      have gB4 : Go (fun t => t = .sn true ∨ t = .dn true) T1 H T1 (upd H3 dn (.lst (xs ++ [.ref q2]))) := (gA3.mono fun t z => .inl z).trans (Go.upd (.inr hd22))
      have kp4 : ∀ z ys, H3 z = some (.tup ys) → (upd H3 dn (.lst (xs ++ [.ref q2]))) z = some (.tup ys) := fun z ys hz1 => by
        rw [upd_ne fun w => ?_]
        · exact hz1
        · rw [w, hx3] at hz1
          cases hz1
      have oS4 : (upd H3 dn (.lst (xs ++ [.ref q2]))) sn = some (.dT (bump S.seen (w.tp c, w.lk c))) := by
        rw [upd_ne fun w => ?_]
        · exact eH3 _ _ oS2
        · rw [w] at oS2
          rw [hd21] at oS2
          cases oS2
      try dsimp only
      generalize upd H3 dn (.lst (xs ++ [.ref q2])) = H4 at hd4 gB4 kp4 oS4 ⊢
      have kt : ∀ z ys, H1 z = some (.tup ys) → H4 z = some (.tup ys) := fun z ys hz1 => kp4 z ys (eH3 _ _ (kp2 z _ hz1 fun w => by
        rw [w, e1 _ _ hseen.1] at hz1
        cases hz1))
      have n0 : ¬ ((fun t => t = Tg.sn true ∨ t = .dn true) Tg.no) := fun z => by rcases z with z | z <;> cases z
      have hS4 : SeenAt true T1 H4 sn (bump S.seen (w.tp c, w.lk c)) := ⟨oS4, hseen.2⟩
      refine ⟨_, rfl, rfl, _, rfl, ?_⟩
      cases e2 : w.stF c e with
      | none =>
        refine itT (c := cv none = V.non) rfl ?_
        refine ⟨_, rfl, _, _, _, _, rfl, rfl, Evl.st_of (kt cl _ hcl), rfl, ?_⟩
        refine ⟨_, rfl, _, _, _, _, rfl, rfl, Evl.st_of (kt cl _ hcl), rfl, ?_⟩
        refine ⟨by show 3 ≤ sizeLine; decide, fun q5 hq5 => ?_⟩
        try dsimp only
        generalize gH5 : upd H4 q5 (.tup [.str "spoilt", .int (w.tp c), .int (w.lk c)]) = H5
        have eH5 : Evl.Ex H4 H5 := by rw [← gH5]; exact Evl.Ex.new hq5
        have oH5 : H5 q5 = some (.tup [.str "spoilt", .int (w.tp c), .int (w.lk c)]) := by rw [← gH5]; exact upd_same
        have g5 := gB4.trans (Go.ex (p := fun t => t = Tg.sn true ∨ t = .dn true) (T := T1) eH5)
        have g45 : Go (fun _ => False) T1 H4 T1 H5 := Go.ex eH5
        have no : ∀ t : Tg, t ≠ .sn true → t ≠ .dn true → ¬ (t = Tg.sn true ∨ t = .dn true) := fun t h1 h2 z => z.elim h1 h2
        refine hN e2 H5 q5 (g5.mono fun t z => by rcases z with z | z <;> rw [z] <;> rfl) ⟨dx, k, l, rr, ws, sn, dn, noAt g5 n0 ⟨hb, tb⟩, hkl.go g5 n0, hrows.go g5 n0 fun i => no _ (fun z => nomatch z) (fun z => nomatch z),
          hworks.go g5 (no _ (fun z => nomatch z) (fun z => nomatch z)) fun i a w h => h.go g5 n0 (no _ (fun z => nomatch z) (fun z => nomatch z)) (no _ (fun z => nomatch z) (fun z => nomatch z)), hS4.go g45 (fun z => z), hd4.go g45 (fun z => z) (fun z => z)⟩ (gB4.gr q5 hq5) oH5
      | some f =>
        refine itF (c := cv (some f) = V.non) (fun z => nomatch z) ?_
        have ha4 := (gB4.at ha (by rw [ta]; exact fun z => by rcases z with z | z <;> cases z)).1
        have hf4 := (gB4.at hf2 (by rw [tf2]; exact fun z => by rcases z with z | z <;> cases z)).1
        have hst4 : StandAt T1 H4 sv' (w.nxt c f) := by
          have z := hsv f e2
          unfold StandN at z
          unfold StandAt
          split at z
          · rename_i hz0
            rw [if_pos hz0]
            obtain ⟨p0, z1, z2, z3⟩ := z
            exact ⟨p0, z1, kt _ _ z3, tg p0 z2⟩
          · rename_i hz0
            rw [if_neg hz0]
            exact z
        refine ⟨_, rfl, _, rfl, st_fld ha4 (T.c_of r) (T.n_stand r) (by show 8 < 1000; decide) fun H5 x5 gr5 ha5 eq5 => ?_⟩
        have g5 : Go (fun t => t = .wk true n.toNat ∨ t = .fig n.toNat) T1 H4 T1 H5 := by rw [eq5]; exact Go.upd (.inl ta)
        refine ⟨_, rfl, a, clsOf K r, dx2, _, _, rfl, ha5, T.c_of r, T.n_left r, rfl, _, _, rfl, rfl, dx2, _, ha5, by show 8 < 1000; decide, ?_⟩
        have hfin : putF "left" (V.int (((w.left : Nat) : Int) - 1)) (putF "stand" sv' (wFields k2 l2 n2 f2 sv2 w)) = wFields k2 l2 n2 f2 sv' (w.nxt c f) := by
          rw [vsub1 (by omega)]
          rfl
        have ha6 : (upd H5 a (.ins (clsOf K r) dx2 (putF "left" (V.int (((w.left : Nat) : Int) - 1)) (putF "stand" sv' (wFields k2 l2 n2 f2 sv2 w))))) a = some (.ins (clsOf K r) dx2 (wFields k2 l2 n2 f2 sv' (w.nxt c f))) := by rw [upd_same, hfin]
        have g6 : Go (fun t => t = .wk true n.toNat ∨ t = .fig n.toNat) T1 H4 T1 (upd H5 a (.ins (clsOf K r) dx2 (putF "left" (V.int (((w.left : Nat) : Int) - 1)) (putF "stand" sv' (wFields k2 l2 n2 f2 sv2 w))))) := g5.trans (Go.upd (.inl ta))
        have hf6 : (upd H5 a (.ins (clsOf K r) dx2 (putF "left" (V.int (((w.left : Nat) : Int) - 1)) (putF "stand" sv' (wFields k2 l2 n2 f2 sv2 w))))) f2 = some (.lst (w.figs.map V.int)) := by
          have nf : f2 ≠ a := fun z => by rw [z, ha] at hf2; cases hf2
          rw [upd_ne nf]
          exact x5 _ _ nf hf4
        try dsimp only
        generalize upd H5 a _ = H6 at ha6 g6 hf6 ⊢
        refine ⟨_, rfl, a, _, dx2, _, _, rfl, ha6, T.c_of r, T.n_figures r, rfl, .inl ⟨rfl, _, Evl.sq_of hf6⟩, _, rfl, f2, _, _, rfl, rfl, hf6, by rw [List.length_map]; exact ndec _ hfl, ?_⟩
        have hf7 : (upd H6 f2 (.lst (w.figs.map V.int ++ [cv (some f)]))) f2 = some (.lst ((w.nxt c f).figs.map V.int)) := by
          rw [upd_same]
          show some (HO.lst _) = some (HO.lst ((w.figs ++ [f]).map V.int))
          rw [List.map_append]
          rfl
        have g7 : Go (fun t => t = .wk true n.toNat ∨ t = .fig n.toNat) T1 H4 T1 (upd H6 f2 (.lst (w.figs.map V.int ++ [cv (some f)]))) := g6.trans (Go.upd (.inr tf2))
        have ha7 : (upd H6 f2 (.lst (w.figs.map V.int ++ [cv (some f)]))) a = some (.ins (clsOf K r) dx2 (wFields k2 l2 n2 f2 sv' (w.nxt c f))) := by
          have nf : a ≠ f2 := fun z => by rw [← z, ha6] at hf6; cases hf6
          rw [upd_ne nf]
          exact ha6
        try dsimp only
        generalize upd H6 f2 (.lst (w.figs.map V.int ++ [cv (some f)])) = H7 at hf7 g7 ha7 ⊢
        refine ⟨_, rfl, ?_⟩
        refine ⟨by show 2 ≤ sizeLine; decide, fun q8 hq8 => ?_⟩
        try dsimp only
        generalize gH8 : upd H7 q8 (.tup [.str "figure", cv (some f)]) = H8
        have eH8 : Evl.Ex H7 H8 := by rw [← gH8]; exact Evl.Ex.new hq8
        have oH8 : H8 q8 = some (.tup [.str "figure", cv (some f)]) := by rw [← gH8]; exact upd_same
        have g8 := g7.trans (Go.ex (p := fun t => t = Tg.wk true n.toNat ∨ t = .fig n.toNat) (T := T1) eH8)
        have gAll : Go (fun t => (t = Tg.sn true ∨ t = .dn true) ∨ (t = .wk true n.toNat ∨ t = .fig n.toNat)) T1 H T1 H8 := (gB4.mono fun t z => .inl z).trans (g8.mono fun t z => .inr z)
        have no : ∀ t : Tg, t ≠ .sn true → t ≠ .dn true → t ≠ .wk true n.toNat → t ≠ .fig n.toNat → ¬ ((t = Tg.sn true ∨ t = .dn true) ∨ (t = .wk true n.toNat ∨ t = .fig n.toNat)) := fun t h1 h2 h3 h4 z => z.elim (fun z => z.elim h1 h2) (fun z => z.elim h3 h4)
        have no2 : ∀ t : Tg, t ≠ .wk true n.toNat → t ≠ .fig n.toNat → ¬ (t = Tg.wk true n.toNat ∨ t = .fig n.toNat) := fun t h3 h4 z => z.elim h3 h4
        have n0' := no .no (fun z => nomatch z) (fun z => nomatch z) (fun z => nomatch z) (fun z => nomatch z)
        have n0'' := no2 .no (fun z => nomatch z) (fun z => nomatch z)
        refine hF f e2 H8 q8 (gAll.mono fun t z => by rcases z with (z | z) | (z | z) <;> rw [z] <;> rfl) ⟨dx, k, l, rr, ws, sn, dn, noAt gAll n0' ⟨hb, tb⟩, hkl.go gAll n0', hrows.go gAll n0' fun i => no _ (fun z => nomatch z) (fun z => nomatch z) (fun z => nomatch z) (fun z => nomatch z), ?_,
          hS4.go g8 (no2 _ (fun z => nomatch z) (fun z => nomatch z)), hd4.go g8 n0'' (no2 _ (fun z => nomatch z) (fun z => nomatch z))⟩ (gB4.gr _ (g7.gr _ hq8)) oH8
        obtain ⟨as, a1, a2, a3, a4⟩ := hworks
        obtain ⟨b1, b2⟩ := gAll.at a1 (by rw [a2]; exact no _ (fun z => nomatch z) (fun z => nomatch z) (fun z => nomatch z) (fun z => nomatch z))
        refine ⟨as, b1, a2, by rw [a3]; exact (List.length_set ..).symm, fun i b' w' h2 h3 => ?_⟩
        have hi0 := (List.getElem?_eq_some_iff.mp g1).1
        by_cases ei : n.toNat = i
        · have e3 : (S.works.set n.toNat (w.nxt c f))[i]? = some w' := h3
          rw [← ei, List.getElem?_set_self hi0] at e3
          cases e3
          have g4 := g3 dx _ ws _ hb rfl a1
          rw [List.getElem?_map, ei, h2] at g4
          have eab : b' = a := V.ref.inj (Option.some.inj g4)
          rw [eab, ← ei]
          refine ⟨dx2, k2, l2, n2, f2, sv', ?_, ta, hkl2.go gAll n0', noAt gAll n0' hn2, ⟨eH8 _ _ hf7, tf2⟩, hst4.go g8 n0''⟩
          have e9 : clsOf K (w.nxt c f).rows = clsOf K r := by rw [← er]; rfl
          rw [e9]
          exact eH8 _ _ ha7
        · have e3 : (S.works.set n.toNat (w.nxt c f))[i]? = some w' := h3
          rw [List.getElem?_set_ne ei] at e3
          exact (a4 i b' w' h2 e3).go gAll n0' (no _ (fun z => nomatch z) (fun z => nomatch z) (fun z => ei (by injection z with _ z; exact z.symm)) (fun z => nomatch z)) (no _ (fun z => nomatch z) (fun z => nomatch z) (fun z => nomatch z) (fun z => ei (by injection z with z; exact z.symm)))
end SF
end
section
set_option Elab.async false
set_option linter.all false
set_option maxRecDepth 100000
set_option maxHeartbeats 4000000
namespace SF
open PySem PySem.Spec PyProof.Rows L2
theorem ixN_at {n : Nat} {i : Int} (h0 : 0 ≤ i) (h : i.toNat < n) : ixN n i = some i.toNat := by
  unfold ixN
  rw [if_pos h0, if_pos (by omega)]
/-! ### put -/
/-- the figure handed to put: an entry (None, an int), or another thing -/
def FgOk (K : PySem.W.Frag) (H : Hp) (fv : V) : Option (Option Int) → Prop
  | some e => fv = cv e
  | none => fv ≠ .non ∧ ∃ (t : Value) (a b : Bool), (∀ H', Evl.Ex H H' → TyX K H' fv t) ∧ PySem.W.kitOne K t (.type "int") = some a ∧ PySem.W.kitOne K t (.type "bool") = some b ∧ (a && !b) = false
def eOk (c : Kd) (e : Option Int) : Prop := ∀ i, e = some i → ab i ≤ c.m
theorem eok_none {c : Kd} : eOk c none := fun i z => nomatch z
def putIn (c : Kd) (k : Nat) (t l : Int) : Prop := (0 ≤ t - 2 ^ (c.t - 1) ∧ t - 2 ^ (c.t - 1) < (k : Nat)) ∧ -c.half ≤ l ∧ l < c.half
def putOk (c : Kd) (k : Nat) (t l : Int) (fg : Option (Option Int)) : Prop := putIn c k t l ∧ ∃ e, fg = some e ∧ eOk c e
def setE (tab : List (List (Option Int))) (i j : Nat) (e : Option Int) : List (List (Option Int)) := match tab[i]? with
  | some row => tab.set i (row.set j e)
  | none => tab
def Sta.putS (S : Sta) (c : Kd) (t l : Int) (e : Option Int) : Sta := { S with tab := setE S.tab (topI c t) (colI c l) e, deeds := S.deeds ++ [.put t l e] }
theorem entAt_some {tab : List (List (Option Int))} {i j : Nat} {e : Option Int} (h : entAt tab i j = some e) : ∃ row, tab[i]? = some row ∧ row[j]? = some e := by
  unfold entAt at h
  cases hr : tab[i]? with
  | none => rw [hr] at h; cases h
  | some row => rw [hr] at h; exact ⟨row, rfl, h⟩
def spPut (K : PySem.W.Frag) : Sp := fun vs H Q E => ∃ (b : Addr) (t l : Int) (fv : V) (fg : Option (Option Int)) (c : Kd) (T1 : TT1) (S : Sta), vs = [.ref b, .int t, .int l, fv] ∧ TgOk T1 H ∧ BenchAt K c T1 H b S ∧ c.Ok ∧ FgOk K H fv fg ∧ S.deeds.length < 100000 ∧
  (¬ putOk c S.tab.length t l fg → E (.ref (He.ga K "NoCell")) none H) ∧
  ∀ e, putOk c S.tab.length t l fg → fg = some e → ∃ old, entAt S.tab (topI c t) (colI c l) = some old ∧ ∀ H', Go (pB 1) T1 H T1 H' → BenchAt K c T1 H' b (S.putS c t l e) → Q (cv old) H'
theorem sc_Bench_put : FnScope ["self", "top", "look", "figure", "half", "at", "old"] ["self", "top", "look", "figure"] (defScope s_Bench_put) := ⟨rfl, rfl, rfl, by decide +kernel, rfl, by decide +kernel, by decide +kernel⟩
theorem ok_Bench_put {P : Program} {w : World} {K : PySem.W.Frag} {mg : Str → Option Value} {base : Heap} (T : Fx K mg) : FnX P w K mg base (L2N.CX P w) 2 (He.ma K (He.ga K "Bench") "put") ["self", "top", "look", "figure"] (spPut K) := by
  refine fx_of T.d_Bench_put sc_Bench_put (fun _ _ _ _ _ _ us hl => match us, hl with | [_, _, _, _], _ => rfl) (fun vs H Q E h => ?_) (fun cdv A outer s H vs Q E hr h => ⟨_, (pss_cons (ps_set (i := 4) sc_Bench_put.nd rfl (Or.inl rfl) (pe_f (ok_half_of T) hr (by rfl) T.g_half_of pass0 (pa_cons (pe_fld (pv 0) rfl) (pa_cons (pe_fld (pv 0) rfl) pa_nil))))
  (pss_cons (ps_set (i := 5) sc_Bench_put.nd rfl (Or.inl rfl) (pe_op op_sub (pv 1) (pe_op op_oneShl pe_int (pe_op op_sub (pe_ix ix_tup (pe_fld (pv 0) rfl) pe_int (fun _ _ => rfl)) pe_int))))
  (pss_cons (ps_if (PW.pt (pw_or (pt_not (pt_chain op_le op_lt pe_int (pv 5) (pe_callB call_len_seq (by rfl) T.b_len (by decide +kernel) (pa_cons (pe_fld (pv 0) rfl) pa_nil)))) (pw_or1 (pt_not (pt_chain op_le op_lt (pe_un un_neg (pv 4)) (pv 2) (pv 4)))))) (pss_one (L2N.ps_raise rfl (L2N.takes_of rfl rfl rfl rfl) (L2N.pmk_own PySem.F.excBase_ValueError T.x_NoCell.1 T.g_NoCell T.x_NoCell.2.1 (raises_own T.x_NoCell.2.2.1 T.x_NoCell.2.2.2) rfl))) pss_nil)
  (pss_cons (ps_if (PW.pt (pw_and (pt_cmpR op_notN (pv 3) pe_non (nomark _)) (pw_and1 (PW.pt (pw_or (pt_not (pt_val (pe_f (ok_is_whole T) hr (by rfl) T.g_is_whole pass0 (pa_cons (pv 3) pa_nil)))) (pw_or1 (pt_cmpR op_gt (pe_callB call_abs (by rfl) T.b_abs (by decide +kernel) (pa_cons (pv 3) pa_nil)) (pe_ix ix_tup (pe_fld (pv 0) rfl) pe_int (fun _ _ => rfl)) (nomark _)))))))) (pss_one (L2N.ps_raise rfl (L2N.takes_of rfl rfl rfl rfl) (L2N.pmk_own PySem.F.excBase_ValueError T.x_NoCell.1 T.g_NoCell T.x_NoCell.2.1 (raises_own T.x_NoCell.2.2.1 T.x_NoCell.2.2.2) rfl))) pss_nil)
  (pss_cons (ps_set (i := 6) sc_Bench_put.nd rfl (Or.inl rfl) (pe_ix ix_list (pe_ix ix_list (pe_fld (pv 0) rfl) (pv 5) (fun _ _ => rfl)) (pe_op op_add (pv 2) (pv 4)) (fun _ _ => rfl)))
  (pss_cons (ps_asg (pv 3) (pg_sub (pe_ix ix_list (pe_fld (pv 0) rfl) (pv 5) (fun _ _ => rfl)) (pe_op op_add (pv 2) (pv 4)) set_list))
  (pss_cons (ps_expr (pe_bm PySem.F.plainAttrs_list PySem.F.slot_list_append PySem.F.type_list_append mt_append (pe_fld (pv 0) rfl) (pa_cons (pe_tup (pa_cons pe_str (pa_cons (pv 1) (pa_cons (pv 2) (pa_cons (pv 3) pa_nil))))) pa_nil)))
  (pss_one (ps_ret (pv 6)))))))))), ?_⟩)
  · obtain ⟨b, t, l, fv, fg, c, T1, S, rfl, _⟩ := h
    rfl
  · obtain ⟨b, t, l, fv, fg, c, T1, S, rfl, tg, hB, ok, hfg, hz, hE, hW⟩ := h
    obtain ⟨dx, k, lk, rr, ws, sn, dn, ⟨hb, tb⟩, hkl, hrows, hworks, hseen, hdeeds⟩ := id hB
    obtain ⟨⟨hk, tk⟩, hl, tl⟩ := id hkl
    have t1 := ok.t1
    have t5 := ok.t5
    have raise : ∀ X : Prop, ¬ putOk c S.tab.length t l fg → (E (.ref (He.ga K "NoCell")) none H → X) → X := fun X h f => f (hE h)
    refine ⟨_, rfl, b, _, dx, _, _, rfl, hb, T.c_Bench, T.n_Bench_kind, rfl, ?_⟩
    refine ⟨_, rfl, b, _, dx, _, _, rfl, hb, T.c_Bench, T.n_Bench_looks, rfl, ?_⟩
    refine ⟨k, lk, c, rfl, Evl.st_of hk, Evl.st_of hl, ok, ?_⟩
    refine ⟨_, rfl, ?_⟩
    refine ⟨_, rfl, b, _, dx, _, _, rfl, hb, T.c_Bench, T.n_Bench_looks, rfl, ?_⟩
    refine ⟨_, _, _, _, rfl, rfl, Evl.st_of hl, rfl, ?_⟩
    refine ⟨_, _, rfl, rfl, c.t - 1, rfl, vsub1 t1, by omega, ?_⟩
    refine ⟨_, _, rfl, rfl, ?_⟩
    refine ⟨_, rfl, _, _, rfl, rfl, _, rfl, ?_⟩
    refine itD (fun h0 => ?_) (fun h0 => ?_)
    · obtain ⟨as, hrw, trw, hlen, hrr⟩ := id hrows
      refine ⟨_, rfl, b, _, dx, _, _, rfl, hb, T.c_Bench, T.n_Bench_rows, rfl, rr, _, rfl, .inl (Evl.sq_of hrw), ?_⟩
      refine ⟨_, _, rfl, rfl, _, rfl, ?_⟩
      rw [List.length_map, hlen]
      refine itN (fun h1 => ?_) (fun h1 => iteT (hE fun z => h1 z.1.1.2))
      refine ⟨_, rfl, _, rfl, _, rfl, _, _, rfl, rfl, _, rfl, ?_⟩
      refine itD (fun h2 => ?_) (fun h2 => ⟨_, rfl, iteT (hE fun z => h2 z.1.2.1)⟩)
      refine ⟨_, rfl, _, _, rfl, rfl, _, rfl, ?_⟩
      refine itN (fun h3 => ?_) (fun h3 => hE fun z => h3 z.1.2.2)
      have hin : putIn c S.tab.length t l := ⟨⟨h0, h1⟩, h2, h3⟩
      have tail : ∀ e, fv = cv e → fg = some e → eOk c e → ∀ P : Prop, P → P := fun _ _ _ _ _ p => p
      cases fg with
      | none =>
        obtain ⟨hn, ty, a, bb, hty, k1, k2, k3⟩ := hfg
        refine ⟨_, rfl, rfl, _, rfl, ?_⟩
        refine itN (fun z => absurd z hn) (fun _ => ?_)
        refine ⟨_, rfl, fv, a, bb, ty, rfl, hty H (Evl.Ex.refl H), k1, k2, ?_⟩
        rw [k3]
        refine ⟨_, rfl, ?_⟩
        exact hE fun z => by
          obtain ⟨_, e, h5, _⟩ := z
          cases h5
      | some e =>
        have ev : fv = cv e := hfg
        subst ev
        refine ⟨_, rfl, rfl, _, rfl, ?_⟩
        cases e with
        | none =>
          refine itN (fun _ => ?_) (fun z => absurd rfl z)
          obtain ⟨old, ho, hK⟩ := hW (none) ⟨hin, _, rfl, (eok_none)⟩ rfl
          obtain ⟨row0, hi, hj⟩ := entAt_some ho
          have hlt : topI c t < as.length := by rw [hlen]; exact (List.getElem?_eq_some_iff.mp hi).1
          have hra0 : as[topI c t]? = some as[topI c t] := List.getElem?_eq_getElem hlt
          have hra1 : (as.map V.ref)[topI c t]? = some (.ref as[topI c t]) := by rw [List.getElem?_map, hra0]; rfl
          obtain ⟨tra, hra⟩ := hrr _ _ row0 hra0 hi
          have hj1 : (row0.map cv)[colI c l]? = some (cv old) := by rw [List.getElem?_map, hj]; rfl
          have hjl : colI c l < (row0.map cv).length := (List.getElem?_eq_some_iff.mp hj1).1
          generalize hrae : as[topI c t] = ra at hra0 hra1 tra hra
          refine ⟨_, rfl, b, _, dx, _, _, rfl, hb, T.c_Bench, T.n_Bench_rows, rfl, _, rfl, rr, _, _, _, rfl, rfl, Evl.sq_of hrw, atI_of h0 hra1, ?_⟩
          refine ⟨_, rfl, _, rfl, _, _, rfl, rfl, ra, _, _, _, rfl, rfl, Evl.sq_of hra, atI_of (by omega) hj1, ?_⟩
          refine ⟨_, rfl, _, rfl, b, _, dx, _, _, rfl, hb, T.c_Bench, T.n_Bench_rows, rfl, _, rfl, rr, _, _, _, rfl, rfl, Evl.sq_of hrw, atI_of h0 hra1, ?_⟩
          refine ⟨_, rfl, _, rfl, _, _, rfl, rfl, ra, _, _, colI c l, rfl, rfl, hra, ixN_at (by omega) hjl, ?_⟩
          obtain ⟨row1, s1, s2, s3, s4⟩ := hrows.set (i := topI c t) (j := colI c l) (e := none) (b := ra) ⟨row0, _, hi, hrw, hra1⟩
          have er1 : row1 = row0 := by rw [hi] at s1; exact (Option.some.inj s1).symm
          subst er1
          have g1 : Go (fun z => z = .row true (topI c t)) T1 H T1 (upd H ra (.lst ((row1.map cv).set (colI c l) (cv (none))))) := Go.upd tra
          try dsimp only
          generalize upd H ra (.lst ((row1.map cv).set (colI c l) (cv (none)))) = H1 at g1 s4 ⊢
          have no1 : ∀ z : Tg, z ≠ .row true (topI c t) → ¬ (fun z => z = Tg.row true (topI c t)) z := fun z h q => h q
          obtain ⟨hb1, _⟩ := noAt g1 (no1 _ fun z => nomatch z) ⟨hb, tb⟩
          obtain ⟨das, hd1, hd2, _⟩ := id hdeeds
          have hd1' := (g1.at hd1 (by rw [hd2]; exact no1 _ fun z => nomatch z)).1
          refine ⟨_, rfl, b, _, dx, _, _, rfl, hb1, T.c_Bench, T.n_Bench_done, rfl, .inl ⟨rfl, _, Evl.sq_of hd1'⟩, _, rfl, _, rfl, _, rfl, ?_⟩
          refine ⟨by show 4 ≤ sizeLine; decide, fun q hq => ?_⟩
          try dsimp only
          generalize gH2 : upd H1 q (.tup [.str "put", .int t, .int l, cv (none)]) = H2
          have eH2 : Evl.Ex H1 H2 := by rw [← gH2]; exact Evl.Ex.new hq
          have oH2 : H2 q = some (.tup [.str "put", .int t, .int l, cv (none)]) := by rw [← gH2]; exact upd_same
          have g2 := g1.trans (Go.ex (p := fun z => z = Tg.row true (topI c t)) (T := T1) eH2)
          have tq : T1 q = .no := (tg.gr g1.gr) q hq
          obtain ⟨xs, hx2, hxl, hd3⟩ := (hdeeds.go g2 (no1 _ fun z => nomatch z) (no1 _ fun z => nomatch z)).app (d := .put t l (none)) oH2 tq
          refine ⟨dn, _, _, rfl, rfl, hx2, by rw [hxl]; exact Nat.lt_of_lt_of_le hz (by decide), ?_⟩
          have g3 : Go (fun z => z = .row true (topI c t) ∨ z = .dn true) T1 H T1 (upd H2 dn (.lst (xs ++ [.ref q]))) := (g2.mono fun z h => .inl h).trans (Go.upd (.inr hd2))
          have g23 : Go (fun z => z = .dn true) T1 H1 T1 (upd H2 dn (.lst (xs ++ [.ref q]))) := (Go.ex eH2).trans (Go.upd hd2)
          try dsimp only
          generalize upd H2 dn (.lst (xs ++ [.ref q])) = H3 at g3 g23 hd3 ⊢
          have no3 : ∀ z : Tg, z ≠ .row true (topI c t) → z ≠ .dn true → ¬ (z = Tg.row true (topI c t) ∨ z = .dn true) := fun z h1 h2 q => q.elim h1 h2
          have n03 := no3 .no (fun z => nomatch z) (fun z => nomatch z)
          refine ⟨_, rfl, ?_⟩
          refine hK H3 (g3.mono fun z h => by rcases h with h | h <;> rw [h] <;> rfl) ⟨dx, k, lk, rr, ws, sn, dn, noAt g3 n03 ⟨hb, tb⟩, hkl.go g3 n03, ?_, hworks.go g3 (no3 _ (fun z => nomatch z) (fun z => nomatch z)) fun i a w h => h.go g3 n03 (no3 _ (fun z => nomatch z) (fun z => nomatch z)) (no3 _ (fun z => nomatch z) (fun z => nomatch z)), hseen.go g3 (no3 _ (fun z => nomatch z) (fun z => nomatch z)), hd3⟩
          have es : (S.putS c t l (none)).tab = S.tab.set (topI c t) (row1.set (colI c l) (none)) := by
            show setE S.tab (topI c t) (colI c l) (none) = _
            unfold setE
            rw [hi]
          rw [es]
          exact s4.go g23 (fun z => nomatch z) fun i z => nomatch z
        | some i =>
          refine itN (fun z => nomatch z) (fun _ => ?_)
          refine ⟨_, rfl, .int i, true, false, .type "int", rfl, .base (.int i), kit_ty (by decide +kernel), kit_ty (by decide +kernel), ?_⟩
          refine ⟨_, rfl, ?_⟩
          refine ⟨_, rfl, i, rfl, ?_⟩
          refine ⟨_, rfl, b, _, dx, _, _, rfl, hb, T.c_Bench, T.n_Bench_kind, rfl, ?_⟩
          refine ⟨_, _, _, _, rfl, rfl, Evl.st_of hk, rfl, ?_⟩
          refine ⟨_, _, rfl, rfl, _, rfl, ?_⟩
          refine itD (fun h5 => ?_) (fun h5 => ?_)
          · exact hE fun z => by
              obtain ⟨_, e, h6, h7⟩ := z
              cases h6
              have := h7 i rfl
              have : ab i = if i < 0 then -i else i := rfl
              omega
          · have e5 : eOk c (some i) := fun i' z => by
              cases z
              have : ab i = if i < 0 then -i else i := rfl
              omega
            obtain ⟨old, ho, hK⟩ := hW (some i) ⟨hin, _, rfl, e5⟩ rfl
            obtain ⟨row0, hi, hj⟩ := entAt_some ho
            have hlt : topI c t < as.length := by rw [hlen]; exact (List.getElem?_eq_some_iff.mp hi).1
            have hra0 : as[topI c t]? = some as[topI c t] := List.getElem?_eq_getElem hlt
            have hra1 : (as.map V.ref)[topI c t]? = some (.ref as[topI c t]) := by rw [List.getElem?_map, hra0]; rfl
            obtain ⟨tra, hra⟩ := hrr _ _ row0 hra0 hi
            have hj1 : (row0.map cv)[colI c l]? = some (cv old) := by rw [List.getElem?_map, hj]; rfl
            have hjl : colI c l < (row0.map cv).length := (List.getElem?_eq_some_iff.mp hj1).1
            generalize hrae : as[topI c t] = ra at hra0 hra1 tra hra
            refine ⟨_, rfl, b, _, dx, _, _, rfl, hb, T.c_Bench, T.n_Bench_rows, rfl, _, rfl, rr, _, _, _, rfl, rfl, Evl.sq_of hrw, atI_of h0 hra1, ?_⟩
            refine ⟨_, rfl, _, rfl, _, _, rfl, rfl, ra, _, _, _, rfl, rfl, Evl.sq_of hra, atI_of (by omega) hj1, ?_⟩
            refine ⟨_, rfl, _, rfl, b, _, dx, _, _, rfl, hb, T.c_Bench, T.n_Bench_rows, rfl, _, rfl, rr, _, _, _, rfl, rfl, Evl.sq_of hrw, atI_of h0 hra1, ?_⟩
            refine ⟨_, rfl, _, rfl, _, _, rfl, rfl, ra, _, _, colI c l, rfl, rfl, hra, ixN_at (by omega) hjl, ?_⟩
            obtain ⟨row1, s1, s2, s3, s4⟩ := hrows.set (i := topI c t) (j := colI c l) (e := some i) (b := ra) ⟨row0, _, hi, hrw, hra1⟩
            have er1 : row1 = row0 := by rw [hi] at s1; exact (Option.some.inj s1).symm
            subst er1
            have g1 : Go (fun z => z = .row true (topI c t)) T1 H T1 (upd H ra (.lst ((row1.map cv).set (colI c l) (cv (some i))))) := Go.upd tra
            try dsimp only
            generalize upd H ra (.lst ((row1.map cv).set (colI c l) (cv (some i)))) = H1 at g1 s4 ⊢
            have no1 : ∀ z : Tg, z ≠ .row true (topI c t) → ¬ (fun z => z = Tg.row true (topI c t)) z := fun z h q => h q
            obtain ⟨hb1, _⟩ := noAt g1 (no1 _ fun z => nomatch z) ⟨hb, tb⟩
            obtain ⟨das, hd1, hd2, _⟩ := id hdeeds
            have hd1' := (g1.at hd1 (by rw [hd2]; exact no1 _ fun z => nomatch z)).1
            refine ⟨_, rfl, b, _, dx, _, _, rfl, hb1, T.c_Bench, T.n_Bench_done, rfl, .inl ⟨rfl, _, Evl.sq_of hd1'⟩, _, rfl, _, rfl, _, rfl, ?_⟩
            refine ⟨by show 4 ≤ sizeLine; decide, fun q hq => ?_⟩
            try dsimp only
            generalize gH2 : upd H1 q (.tup [.str "put", .int t, .int l, cv (some i)]) = H2
            have eH2 : Evl.Ex H1 H2 := by rw [← gH2]; exact Evl.Ex.new hq
            have oH2 : H2 q = some (.tup [.str "put", .int t, .int l, cv (some i)]) := by rw [← gH2]; exact upd_same
            have g2 := g1.trans (Go.ex (p := fun z => z = Tg.row true (topI c t)) (T := T1) eH2)
            have tq : T1 q = .no := (tg.gr g1.gr) q hq
            obtain ⟨xs, hx2, hxl, hd3⟩ := (hdeeds.go g2 (no1 _ fun z => nomatch z) (no1 _ fun z => nomatch z)).app (d := .put t l (some i)) oH2 tq
            refine ⟨dn, _, _, rfl, rfl, hx2, by rw [hxl]; exact Nat.lt_of_lt_of_le hz (by decide), ?_⟩
            have g3 : Go (fun z => z = .row true (topI c t) ∨ z = .dn true) T1 H T1 (upd H2 dn (.lst (xs ++ [.ref q]))) := (g2.mono fun z h => .inl h).trans (Go.upd (.inr hd2))
            have g23 : Go (fun z => z = .dn true) T1 H1 T1 (upd H2 dn (.lst (xs ++ [.ref q]))) := (Go.ex eH2).trans (Go.upd hd2)
            try dsimp only
            generalize upd H2 dn (.lst (xs ++ [.ref q])) = H3 at g3 g23 hd3 ⊢
            have no3 : ∀ z : Tg, z ≠ .row true (topI c t) → z ≠ .dn true → ¬ (z = Tg.row true (topI c t) ∨ z = .dn true) := fun z h1 h2 q => q.elim h1 h2
            have n03 := no3 .no (fun z => nomatch z) (fun z => nomatch z)
            refine ⟨_, rfl, ?_⟩
            refine hK H3 (g3.mono fun z h => by rcases h with h | h <;> rw [h] <;> rfl) ⟨dx, k, lk, rr, ws, sn, dn, noAt g3 n03 ⟨hb, tb⟩, hkl.go g3 n03, ?_, hworks.go g3 (no3 _ (fun z => nomatch z) (fun z => nomatch z)) fun i a w h => h.go g3 n03 (no3 _ (fun z => nomatch z) (fun z => nomatch z)) (no3 _ (fun z => nomatch z) (fun z => nomatch z)), hseen.go g3 (no3 _ (fun z => nomatch z) (fun z => nomatch z)), hd3⟩
            have es : (S.putS c t l (some i)).tab = S.tab.set (topI c t) (row1.set (colI c l) (some i)) := by
              show setE S.tab (topI c t) (colI c l) (some i) = _
              unfold setE
              rw [hi]
            rw [es]
            exact s4.go g23 (fun z => nomatch z) fun i z => nomatch z
    · refine ⟨_, rfl, ?_⟩
      refine iteT ?_
      refine iteT ?_
      exact hE fun z => h0 z.1.1.1
end SF
end
section
set_option Elab.async false
set_option linter.all false
set_option maxRecDepth 100000
set_option maxHeartbeats 4000000
namespace SF
open PySem PySem.Spec PyProof.Rows L2
def Sta.begS (S : Sta) (c : Kd) (r : Bool) (x d : Int) (n : Nat) : Sta := { S with works := S.works ++ [w0 c r x d n], deeds := S.deeds ++ [.beg r x d n] }
def spBeg (K : PySem.W.Frag) (r : Bool) : Sp := fun vs H Q E => ∃ (b : Addr) (x d : Int) (n : Nat) (c : Kd) (T1 : TT1) (S : Sta), vs = [.ref b, .int x, .int d, .int (n : Nat)] ∧ TgOk T1 H ∧ BenchAt K c T1 H b S ∧ c.Ok ∧ Big x ∧ Big d ∧ n ≤ 1010 ∧ S.works.length < 100000 ∧ S.deeds.length < 100000 ∧
  (room c x d n → ∀ (T2 : TT1) (H' : Hp), Go (pB 1) T1 H T2 H' → TgOk T2 H' → BenchAt K c T2 H' b (S.begS c r x d n) → Q (.int ((S.works.length : Nat) : Int)) H') ∧
  (¬ room c x d n → ∀ H', Evl.Ex H H' → E (.ref (He.ga K "NoRoom")) none H')
theorem sc_Bench_begin : FnScope ["self", "x", "divisor", "many"] ["self", "x", "divisor", "many"] (defScope s_Bench_begin) := ⟨rfl, rfl, rfl, by decide +kernel, rfl, by decide +kernel, by decide +kernel⟩
theorem ok_Bench_begin {P : Program} {w : World} {K : PySem.W.Frag} {mg : Str → Option Value} {base : Heap} (T : Fx K mg) : FnX P w K mg base (L2N.CX P w) 7 (He.ma K (He.ga K "Bench") "begin") ["self", "x", "divisor", "many"] (spBeg K false) := by
  refine fx_of T.d_Bench_begin sc_Bench_begin (fun _ _ _ _ _ _ us hl => match us, hl with | [_, _, _, _], _ => rfl) (fun vs H Q E h => ?_) (fun cdv A outer s H vs Q E hr h => ⟨_, (pss_cons (ps_expr (pe_bm PySem.F.plainAttrs_list PySem.F.slot_list_append PySem.F.type_list_append mt_append (pe_fld (pv 0) rfl) (pa_cons (pe_mk (T.k_of false) (ok_Work_init T false) hr (by rfl) T.g_Work (passE rfl rfl rfl rfl) (pa_cons (pe_fld (pv 0) rfl) (pa_cons (pe_fld (pv 0) rfl) (pa_cons (pv 1) (pa_cons (pv 2) (pa_cons (pv 3) pa_nil)))))) pa_nil)))
  (pss_cons (ps_expr (pe_bm PySem.F.plainAttrs_list PySem.F.slot_list_append PySem.F.type_list_append mt_append (pe_fld (pv 0) rfl) (pa_cons (pe_tup (pa_cons pe_str (pa_cons (pv 1) (pa_cons (pv 2) (pa_cons (pv 3) pa_nil))))) pa_nil)))
  (pss_one (ps_ret (pe_op op_sub (pe_callB call_len_seq (by rfl) T.b_len (by decide +kernel) (pa_cons (pe_fld (pv 0) rfl) pa_nil)) pe_int))))), ?_⟩)
  · obtain ⟨b, x, d, n, c, T1, S, rfl, _⟩ := h
    rfl
  · obtain ⟨b, x, d, n, c, T1, S, rfl, tg, hB, ok, hx, hd, hn, hz1, hz2, hQ, hE⟩ := h
    obtain ⟨dx, k, l, rr, ws, sn, dn, ⟨hb, tb⟩, hkl, hrows, hworks, hseen, hdeeds⟩ := id hB
    obtain ⟨⟨hk, tk⟩, hl, tl⟩ := id hkl
    obtain ⟨as, w1, w2, w3, w4⟩ := id hworks
    refine ⟨_, rfl, b, _, dx, _, _, rfl, hb, T.c_Bench, T.n_Bench_works, rfl, .inl ⟨rfl, _, Evl.sq_of w1⟩, ?_⟩
    refine ⟨_, rfl, b, _, dx, _, _, rfl, hb, T.c_Bench, T.n_Bench_kind, rfl, ?_⟩
    refine ⟨_, rfl, b, _, dx, _, _, rfl, hb, T.c_Bench, T.n_Bench_looks, rfl, ?_⟩
    refine ⟨_, rfl, _, rfl, _, rfl, ?_⟩
    intro a dxa hna hnd hne
    have e0 : Evl.Ex H (upd (upd H dxa (.own a)) a (.ins (clsOf K false) dxa [])) := (Evl.Ex.new hnd).mut hna
    have o0 : (upd (upd H dxa (.own a)) a (.ins (clsOf K false) dxa [])) a = some (.ins (clsOf K false) dxa []) := upd_same
    have b0 : ∀ z, (upd (upd H dxa (.own a)) a (.ins (clsOf K false) dxa [])) z = none → H z = none := fun z hz => Evl.fresh_back e0 hz
    show spInit K false _ (upd (upd H dxa (.own a)) a (.ins (clsOf K false) dxa [])) _ _
    generalize upd (upd H dxa (.own a)) a (.ins (clsOf K false) dxa []) = H0 at e0 o0 b0 ⊢
    have exx : ∀ H', ExX a H0 H' → Evl.Ex H H' := fun H' e z o hz => e z o (ne_of_none hz hna) (e0 z o hz)
    refine ⟨a, dxa, k, l, c, x, d, n, rfl, o0, Evl.ex_t e0 (Evl.st_of hk), Evl.ex_t e0 (Evl.st_of hl), ok, hx, hd, hn, fun hroom H1 nn f sv e1 fn ff nna nfa ha1 hn1 hf1 hsv => ⟨rfl, ?_⟩, fun hroom H1 e1 => hE hroom H1 (exx H1 e1)⟩
    have e01 := exx H1 e1
    have fn0 := b0 nn fn
    have ff0 := b0 f ff
    have nnf : nn ≠ f := fun z => by rw [z, hf1] at hn1; cases hn1
    obtain ⟨T2, hT2⟩ : ∃ T2, T2 = tagAt (tagAt T1 a (.wk true S.works.length)) f (.fig S.works.length) := ⟨_, rfl⟩
    have ta : T2 a = .wk true S.works.length := by rw [hT2, tagAt_ne nfa.symm, tagAt_same]
    have tf : T2 f = .fig S.works.length := by rw [hT2, tagAt_same]
    have tz : ∀ z, z ≠ a → z ≠ f → T2 z = T1 z := fun z h1 h2 => by rw [hT2, tagAt_ne h2, tagAt_ne h1]
    have gT : Go (fun _ => False) T1 H T2 H := by
      rw [hT2]
      exact (Go.tag hna).trans (Go.tag ff0)
    have g1 : Go (fun _ => False) T1 H T2 H1 := gT.trans (Go.ex e01)
    have tg1 : TgOk T2 H1 := fun z hz => by
      rw [tz z (fun w => by rw [w, ha1] at hz; cases hz) (fun w => by rw [w, hf1] at hz; cases hz)]
      exact tg z (Evl.fresh_back e01 hz)
    have no : ∀ t : Tg, ¬ (fun _ => False) t := fun t z => z
    have hw1 := (g1.at w1 (fun z => z)).1
    have tw1 := (g1.at w1 (fun z => z)).2
    have sz : ∀ z : Nat, z < 100000 → z < sizeLine := fun z hz => Nat.lt_of_lt_of_le hz (by decide)
    refine ⟨ws, _, _, rfl, rfl, hw1, by rw [List.length_map, w3]; exact sz _ hz1, ?_⟩
    have twT : T2 ws = .ws true := tw1.trans w2
    have g2 : Go (fun t => t = .ws true) T1 H T2 (upd H1 ws (.lst (as.map V.ref ++ [.ref a]))) := (g1.mono fun _ z => z.elim).trans (Go.upd twT)
    have g12 : Go (fun t => t = .ws true) T2 H1 T2 (upd H1 ws (.lst (as.map V.ref ++ [.ref a]))) := Go.upd twT
    have hw2 : (upd H1 ws (.lst (as.map V.ref ++ [.ref a]))) ws = some (.lst ((as ++ [a]).map V.ref)) := by rw [upd_same, List.map_append]; rfl
    try dsimp only
    generalize upd H1 ws (.lst (as.map V.ref ++ [.ref a])) = H2 at g2 g12 hw2 ⊢
    have no1 : ∀ t : Tg, t ≠ .ws true → ¬ (fun t => t = Tg.ws true) t := fun t h z => h z
    obtain ⟨hb2, tb2⟩ := noAt g2 (no1 _ fun z => nomatch z) ⟨hb, tb⟩
    have hd2 : DeedsAt true T2 H2 dn S.deeds := hdeeds.go g2 (no1 _ fun z => nomatch z) (no1 _ fun z => nomatch z)
    obtain ⟨das, hd21, hd22, _⟩ := id hd2
    refine ⟨_, rfl, b, _, dx, _, _, rfl, hb2, T.c_Bench, T.n_Bench_done, rfl, .inl ⟨rfl, _, Evl.sq_of hd21⟩, _, rfl, _, rfl, _, rfl, ?_⟩
    refine ⟨by show 4 ≤ sizeLine; decide, fun q hq => ?_⟩
    try dsimp only
    generalize gH3 : upd H2 q (.tup [.str "begin", .int x, .int d, .int (n : Nat)]) = H3
    have eH3 : Evl.Ex H2 H3 := by rw [← gH3]; exact Evl.Ex.new hq
    have oH3 : H3 q = some (.tup [.str "begin", .int x, .int d, .int (n : Nat)]) := by rw [← gH3]; exact upd_same
    have tg2 : TgOk T2 H2 := tg1.gr g12.gr
    have tq : T2 q = .no := tg2 q hq
    obtain ⟨xs, hx3, hxl, hd4⟩ := (hd2.go (Go.ex (p := fun _ => False) eH3) (fun z => z) (fun z => z)).app (d := .beg false x d n) oH3 tq
    refine ⟨dn, _, _, rfl, rfl, hx3, by rw [hxl]; exact sz _ hz2, ?_⟩
    have g4 : Go (fun t => t = .ws true ∨ t = .dn true) T1 H T2 (upd H3 dn (.lst (xs ++ [.ref q]))) := (g2.mono fun t z => .inl z).trans ((Go.ex eH3).trans (Go.upd (.inr hd22)))
    have g14 : Go (fun t => t = .ws true ∨ t = .dn true) T2 H1 T2 (upd H3 dn (.lst (xs ++ [.ref q]))) := (g12.mono fun t z => .inl z).trans ((Go.ex eH3).trans (Go.upd (.inr hd22)))
    have hw4 : (upd H3 dn (.lst (xs ++ [.ref q]))) ws = some (.lst ((as ++ [a]).map V.ref)) := by
      have nw : ws ≠ dn := fun z => by rw [z, hd22] at twT; cases twT
      rw [upd_ne nw]
      exact eH3 _ _ hw2
    try dsimp only
    generalize upd H3 dn (.lst (xs ++ [.ref q])) = H4 at g4 g14 hw4 hd4 ⊢
    have no4 : ∀ t : Tg, t ≠ .ws true → t ≠ .dn true → ¬ (t = Tg.ws true ∨ t = .dn true) := fun t h1 h2 z => z.elim h1 h2
    have n04 := no4 .no (fun z => nomatch z) (fun z => nomatch z)
    obtain ⟨hb4, tb4⟩ := noAt g4 n04 ⟨hb, tb⟩
    refine ⟨_, rfl, b, _, dx, _, _, rfl, hb4, T.c_Bench, T.n_Bench_works, rfl, ws, _, rfl, .inl (Evl.sq_of hw4), ?_⟩
    refine ⟨_, _, rfl, rfl, ?_⟩
    have fin : BenchAt K c T2 H4 b (S.begS c false x d n) := by
      refine ⟨dx, k, l, rr, ws, sn, dn, ⟨hb4, tb4⟩, hkl.go g4 n04, hrows.go g4 n04 fun i => no4 _ (fun z => nomatch z) (fun z => nomatch z), ⟨as ++ [a], hw4, twT, ?_, fun i b' w' h2 h3 => ?_⟩, hseen.go g4 (no4 _ (fun z => nomatch z) (fun z => nomatch z)), hd4⟩
      · rw [List.length_append, w3]
        show S.works.length + 1 = (S.works ++ [w0 c false x d n]).length
        rw [List.length_append]
        rfl
      · rcases get_app h2 with h2 | ⟨e2, e3⟩
        · have hi := (List.getElem?_eq_some_iff.mp h2).1
          have h3' : (S.works ++ [w0 c false x d n])[i]? = some w' := h3
          rw [List.getElem?_append_left (by omega)] at h3'
          exact (w4 i b' w' h2 h3').go g4 n04 (no4 _ (fun z => nomatch z) (fun z => nomatch z)) (no4 _ (fun z => nomatch z) (fun z => nomatch z))
        · subst e3
          have h3' : (S.works ++ [w0 c false x d n])[i]? = some w' := h3
          rw [List.getElem?_append_right (by omega), show i - S.works.length = 0 by omega] at h3'
          cases h3'
          have ei : i = S.works.length := by omega
          rw [ei]
          obtain ⟨ha4, ta4⟩ := g14.at ha1 (by rw [ta]; exact no4 _ (fun z => nomatch z) (fun z => nomatch z))
          obtain ⟨hf4, tf4⟩ := g14.at hf1 (by rw [tf]; exact no4 _ (fun z => nomatch z) (fun z => nomatch z))
          have tn : T2 nn = .no := by rw [tz nn nna nnf]; exact tg nn fn0
          refine ⟨dxa, k, l, nn, f, sv, ha4, ta, hkl.go g4 n04, noAt g14 n04 ⟨hn1, tn⟩, ⟨hf4, tf⟩, ?_⟩
          have hst : StandAt T2 H1 sv (w0 c false x d n) := by
            unfold StandN at hsv
            unfold StandAt
            split at hsv
            · rename_i hz0
              rw [if_pos hz0]
              obtain ⟨p0, z1, z2, z3⟩ := hsv
              refine ⟨p0, z1, z3, ?_⟩
              rw [tz p0 (fun w => by rw [w, ha1] at z3; cases z3) (fun w => by rw [w, hf1] at z3; cases z3)]
              exact tg p0 (b0 p0 z2)
            · rename_i hz0
              rw [if_neg hz0]
              exact hsv
          exact hst.go g14 n04
    have hfin := hQ hroom T2 H4 (g4.mono fun t z => by rcases z with z | z <;> rw [z] <;> rfl) (tg1.gr g14.gr) fin
    have ev : V.int ((((as ++ [a]).map V.ref).length : Int) - 1) = V.int ((S.works.length : Nat) : Int) := congrArg V.int (by
      rw [List.length_map, List.length_append, w3]
      show ((S.works.length + 1 : Nat) : Int) - 1 = _
      omega)
    show Q (V.int ((((as ++ [a]).map V.ref).length : Int) - 1)) H4
    rw [ev]
    exact hfin
theorem sc_Bench_begin_rows : FnScope ["self", "x", "divisor", "many"] ["self", "x", "divisor", "many"] (defScope s_Bench_begin_rows) := ⟨rfl, rfl, rfl, by decide +kernel, rfl, by decide +kernel, by decide +kernel⟩
theorem ok_Bench_begin_rows {P : Program} {w : World} {K : PySem.W.Frag} {mg : Str → Option Value} {base : Heap} (T : Fx K mg) : FnX P w K mg base (L2N.CX P w) 7 (He.ma K (He.ga K "Bench") "begin_rows") ["self", "x", "divisor", "many"] (spBeg K true) := by
  refine fx_of T.d_Bench_begin_rows sc_Bench_begin_rows (fun _ _ _ _ _ _ us hl => match us, hl with | [_, _, _, _], _ => rfl) (fun vs H Q E h => ?_) (fun cdv A outer s H vs Q E hr h => ⟨_, (pss_cons (ps_expr (pe_bm PySem.F.plainAttrs_list PySem.F.slot_list_append PySem.F.type_list_append mt_append (pe_fld (pv 0) rfl) (pa_cons (pe_mk (T.k_of true) (ok_Work_init T true) hr (by rfl) T.g_RowsWork (passE rfl rfl rfl rfl) (pa_cons (pe_fld (pv 0) rfl) (pa_cons (pe_fld (pv 0) rfl) (pa_cons (pv 1) (pa_cons (pv 2) (pa_cons (pv 3) pa_nil)))))) pa_nil)))
  (pss_cons (ps_expr (pe_bm PySem.F.plainAttrs_list PySem.F.slot_list_append PySem.F.type_list_append mt_append (pe_fld (pv 0) rfl) (pa_cons (pe_tup (pa_cons pe_str (pa_cons (pv 1) (pa_cons (pv 2) (pa_cons (pv 3) pa_nil))))) pa_nil)))
  (pss_one (ps_ret (pe_op op_sub (pe_callB call_len_seq (by rfl) T.b_len (by decide +kernel) (pa_cons (pe_fld (pv 0) rfl) pa_nil)) pe_int))))), ?_⟩)
  · obtain ⟨b, x, d, n, c, T1, S, rfl, _⟩ := h
    rfl
  · obtain ⟨b, x, d, n, c, T1, S, rfl, tg, hB, ok, hx, hd, hn, hz1, hz2, hQ, hE⟩ := h
    obtain ⟨dx, k, l, rr, ws, sn, dn, ⟨hb, tb⟩, hkl, hrows, hworks, hseen, hdeeds⟩ := id hB
    obtain ⟨⟨hk, tk⟩, hl, tl⟩ := id hkl
    obtain ⟨as, w1, w2, w3, w4⟩ := id hworks
    refine ⟨_, rfl, b, _, dx, _, _, rfl, hb, T.c_Bench, T.n_Bench_works, rfl, .inl ⟨rfl, _, Evl.sq_of w1⟩, ?_⟩
    refine ⟨_, rfl, b, _, dx, _, _, rfl, hb, T.c_Bench, T.n_Bench_kind, rfl, ?_⟩
    refine ⟨_, rfl, b, _, dx, _, _, rfl, hb, T.c_Bench, T.n_Bench_looks, rfl, ?_⟩
    refine ⟨_, rfl, _, rfl, _, rfl, ?_⟩
    intro a dxa hna hnd hne
    have e0 : Evl.Ex H (upd (upd H dxa (.own a)) a (.ins (clsOf K true) dxa [])) := (Evl.Ex.new hnd).mut hna
    have o0 : (upd (upd H dxa (.own a)) a (.ins (clsOf K true) dxa [])) a = some (.ins (clsOf K true) dxa []) := upd_same
    have b0 : ∀ z, (upd (upd H dxa (.own a)) a (.ins (clsOf K true) dxa [])) z = none → H z = none := fun z hz => Evl.fresh_back e0 hz
    show spInit K true _ (upd (upd H dxa (.own a)) a (.ins (clsOf K true) dxa [])) _ _
    generalize upd (upd H dxa (.own a)) a (.ins (clsOf K true) dxa []) = H0 at e0 o0 b0 ⊢
    have exx : ∀ H', ExX a H0 H' → Evl.Ex H H' := fun H' e z o hz => e z o (ne_of_none hz hna) (e0 z o hz)
    refine ⟨a, dxa, k, l, c, x, d, n, rfl, o0, Evl.ex_t e0 (Evl.st_of hk), Evl.ex_t e0 (Evl.st_of hl), ok, hx, hd, hn, fun hroom H1 nn f sv e1 fn ff nna nfa ha1 hn1 hf1 hsv => ⟨rfl, ?_⟩, fun hroom H1 e1 => hE hroom H1 (exx H1 e1)⟩
    have e01 := exx H1 e1
    have fn0 := b0 nn fn
    have ff0 := b0 f ff
    have nnf : nn ≠ f := fun z => by rw [z, hf1] at hn1; cases hn1
    obtain ⟨T2, hT2⟩ : ∃ T2, T2 = tagAt (tagAt T1 a (.wk true S.works.length)) f (.fig S.works.length) := ⟨_, rfl⟩
    have ta : T2 a = .wk true S.works.length := by rw [hT2, tagAt_ne nfa.symm, tagAt_same]
    have tf : T2 f = .fig S.works.length := by rw [hT2, tagAt_same]
    have tz : ∀ z, z ≠ a → z ≠ f → T2 z = T1 z := fun z h1 h2 => by rw [hT2, tagAt_ne h2, tagAt_ne h1]
    have gT : Go (fun _ => False) T1 H T2 H := by
      rw [hT2]
      exact (Go.tag hna).trans (Go.tag ff0)
    have g1 : Go (fun _ => False) T1 H T2 H1 := gT.trans (Go.ex e01)
    have tg1 : TgOk T2 H1 := fun z hz => by
      rw [tz z (fun w => by rw [w, ha1] at hz; cases hz) (fun w => by rw [w, hf1] at hz; cases hz)]
      exact tg z (Evl.fresh_back e01 hz)
    have no : ∀ t : Tg, ¬ (fun _ => False) t := fun t z => z
    have hw1 := (g1.at w1 (fun z => z)).1
    have tw1 := (g1.at w1 (fun z => z)).2
    have sz : ∀ z : Nat, z < 100000 → z < sizeLine := fun z hz => Nat.lt_of_lt_of_le hz (by decide)
    refine ⟨ws, _, _, rfl, rfl, hw1, by rw [List.length_map, w3]; exact sz _ hz1, ?_⟩
    have twT : T2 ws = .ws true := tw1.trans w2
    have g2 : Go (fun t => t = .ws true) T1 H T2 (upd H1 ws (.lst (as.map V.ref ++ [.ref a]))) := (g1.mono fun _ z => z.elim).trans (Go.upd twT)
    have g12 : Go (fun t => t = .ws true) T2 H1 T2 (upd H1 ws (.lst (as.map V.ref ++ [.ref a]))) := Go.upd twT
    have hw2 : (upd H1 ws (.lst (as.map V.ref ++ [.ref a]))) ws = some (.lst ((as ++ [a]).map V.ref)) := by rw [upd_same, List.map_append]; rfl
    try dsimp only
    generalize upd H1 ws (.lst (as.map V.ref ++ [.ref a])) = H2 at g2 g12 hw2 ⊢
    have no1 : ∀ t : Tg, t ≠ .ws true → ¬ (fun t => t = Tg.ws true) t := fun t h z => h z
    obtain ⟨hb2, tb2⟩ := noAt g2 (no1 _ fun z => nomatch z) ⟨hb, tb⟩
    have hd2 : DeedsAt true T2 H2 dn S.deeds := hdeeds.go g2 (no1 _ fun z => nomatch z) (no1 _ fun z => nomatch z)
    obtain ⟨das, hd21, hd22, _⟩ := id hd2
    refine ⟨_, rfl, b, _, dx, _, _, rfl, hb2, T.c_Bench, T.n_Bench_done, rfl, .inl ⟨rfl, _, Evl.sq_of hd21⟩, _, rfl, _, rfl, _, rfl, ?_⟩
    refine ⟨by show 4 ≤ sizeLine; decide, fun q hq => ?_⟩
    try dsimp only
    generalize gH3 : upd H2 q (.tup [.str "rows", .int x, .int d, .int (n : Nat)]) = H3
    have eH3 : Evl.Ex H2 H3 := by rw [← gH3]; exact Evl.Ex.new hq
    have oH3 : H3 q = some (.tup [.str "rows", .int x, .int d, .int (n : Nat)]) := by rw [← gH3]; exact upd_same
    have tg2 : TgOk T2 H2 := tg1.gr g12.gr
    have tq : T2 q = .no := tg2 q hq
    obtain ⟨xs, hx3, hxl, hd4⟩ := (hd2.go (Go.ex (p := fun _ => False) eH3) (fun z => z) (fun z => z)).app (d := .beg true x d n) oH3 tq
    refine ⟨dn, _, _, rfl, rfl, hx3, by rw [hxl]; exact sz _ hz2, ?_⟩
    have g4 : Go (fun t => t = .ws true ∨ t = .dn true) T1 H T2 (upd H3 dn (.lst (xs ++ [.ref q]))) := (g2.mono fun t z => .inl z).trans ((Go.ex eH3).trans (Go.upd (.inr hd22)))
    have g14 : Go (fun t => t = .ws true ∨ t = .dn true) T2 H1 T2 (upd H3 dn (.lst (xs ++ [.ref q]))) := (g12.mono fun t z => .inl z).trans ((Go.ex eH3).trans (Go.upd (.inr hd22)))
    have hw4 : (upd H3 dn (.lst (xs ++ [.ref q]))) ws = some (.lst ((as ++ [a]).map V.ref)) := by
      have nw : ws ≠ dn := fun z => by rw [z, hd22] at twT; cases twT
      rw [upd_ne nw]
      exact eH3 _ _ hw2
    try dsimp only
    generalize upd H3 dn (.lst (xs ++ [.ref q])) = H4 at g4 g14 hw4 hd4 ⊢
    have no4 : ∀ t : Tg, t ≠ .ws true → t ≠ .dn true → ¬ (t = Tg.ws true ∨ t = .dn true) := fun t h1 h2 z => z.elim h1 h2
    have n04 := no4 .no (fun z => nomatch z) (fun z => nomatch z)
    obtain ⟨hb4, tb4⟩ := noAt g4 n04 ⟨hb, tb⟩
    refine ⟨_, rfl, b, _, dx, _, _, rfl, hb4, T.c_Bench, T.n_Bench_works, rfl, ws, _, rfl, .inl (Evl.sq_of hw4), ?_⟩
    refine ⟨_, _, rfl, rfl, ?_⟩
    have fin : BenchAt K c T2 H4 b (S.begS c true x d n) := by
      refine ⟨dx, k, l, rr, ws, sn, dn, ⟨hb4, tb4⟩, hkl.go g4 n04, hrows.go g4 n04 fun i => no4 _ (fun z => nomatch z) (fun z => nomatch z), ⟨as ++ [a], hw4, twT, ?_, fun i b' w' h2 h3 => ?_⟩, hseen.go g4 (no4 _ (fun z => nomatch z) (fun z => nomatch z)), hd4⟩
      · rw [List.length_append, w3]
        show S.works.length + 1 = (S.works ++ [w0 c true x d n]).length
        rw [List.length_append]
        rfl
      · rcases get_app h2 with h2 | ⟨e2, e3⟩
        · have hi := (List.getElem?_eq_some_iff.mp h2).1
          have h3' : (S.works ++ [w0 c true x d n])[i]? = some w' := h3
          rw [List.getElem?_append_left (by omega)] at h3'
          exact (w4 i b' w' h2 h3').go g4 n04 (no4 _ (fun z => nomatch z) (fun z => nomatch z)) (no4 _ (fun z => nomatch z) (fun z => nomatch z))
        · subst e3
          have h3' : (S.works ++ [w0 c true x d n])[i]? = some w' := h3
          rw [List.getElem?_append_right (by omega), show i - S.works.length = 0 by omega] at h3'
          cases h3'
          have ei : i = S.works.length := by omega
          rw [ei]
          obtain ⟨ha4, ta4⟩ := g14.at ha1 (by rw [ta]; exact no4 _ (fun z => nomatch z) (fun z => nomatch z))
          obtain ⟨hf4, tf4⟩ := g14.at hf1 (by rw [tf]; exact no4 _ (fun z => nomatch z) (fun z => nomatch z))
          have tn : T2 nn = .no := by rw [tz nn nna nnf]; exact tg nn fn0
          refine ⟨dxa, k, l, nn, f, sv, ha4, ta, hkl.go g4 n04, noAt g14 n04 ⟨hn1, tn⟩, ⟨hf4, tf⟩, ?_⟩
          have hst : StandAt T2 H1 sv (w0 c true x d n) := by
            unfold StandN at hsv
            unfold StandAt
            split at hsv
            · rename_i hz0
              rw [if_pos hz0]
              obtain ⟨p0, z1, z2, z3⟩ := hsv
              refine ⟨p0, z1, z3, ?_⟩
              rw [tz p0 (fun w => by rw [w, ha1] at z3; cases z3) (fun w => by rw [w, hf1] at z3; cases z3)]
              exact tg p0 (b0 p0 z2)
            · rename_i hz0
              rw [if_neg hz0]
              exact hsv
          exact hst.go g14 n04
    have hfin := hQ hroom T2 H4 (g4.mono fun t z => by rcases z with z | z <;> rw [z] <;> rfl) (tg1.gr g14.gr) fin
    have ev : V.int ((((as ++ [a]).map V.ref).length : Int) - 1) = V.int ((S.works.length : Nat) : Int) := congrArg V.int (by
      rw [List.length_map, List.length_append, w3]
      show ((S.works.length + 1 : Nat) : Int) - 1 = _
      omega)
    show Q (V.int ((((as ++ [a]).map V.ref).length : Int) - 1)) H4
    rw [ev]
    exact hfin
end SF
end
section
set_option Elab.async false
set_option linter.all false
set_option maxRecDepth 100000
set_option maxHeartbeats 4000000
namespace SF
open PySem PySem.Spec PyProof.Rows L2
/-! ### _law_half, _law_entry -/
def spLHalf (K : PySem.W.Frag) : Sp := fun vs H Q _ => ∃ a b c, vs = [.ref a, .ref b] ∧ KndAt K H a c ∧ LksAt K H b c ∧ c.Ok ∧ ∀ H', Evl.Ex H H' → Q (.int c.half) H'
def pows : List Int := [1, 2, 4, 8, 16, 32, 64, 128, 256, 512, 1024]
theorem pows_at {p : Nat} (h : p ≤ 5) : (pows.map V.int)[p]? = some (V.int (2 ^ p)) := by
  have : p = 0 ∨ p = 1 ∨ p = 2 ∨ p = 3 ∨ p = 4 ∨ p = 5 := by omega
  rcases this with e | e | e | e | e | e <;> subst e <;> rfl
theorem sc_law_half : FnScope ["kind", "looks"] ["kind", "looks"] (defScope s_law_half) := ⟨rfl, rfl, rfl, by decide +kernel, rfl, by decide +kernel, by decide +kernel⟩
theorem ok_law_half {P : Program} {w : World} {K : PySem.W.Frag} {mg : Str → Option Value} {base : Heap} (T : Fx K mg) : FnX P w K mg base CX0 1 (He.ga K "_law_half") ["kind", "looks"] (spLHalf K) := by
  refine fx_of T.d_law_half sc_law_half (fun _ _ _ _ _ _ us hl => match us, hl with | [_, _], _ => rfl) (fun vs H Q E h => ?_) (fun cdv A outer s H vs Q E hr h => ⟨_, PSs.nox ((pss_one (ps_ret (pe_op op_add (pe_op op_mul (pe_ix ix_tup (pv 0) pe_int (fun _ _ => rfl)) (pe_ix ix_list (pe_lst (pa_cons pe_int (pa_cons pe_int (pa_cons pe_int (pa_cons pe_int (pa_cons pe_int (pa_cons pe_int (pa_cons pe_int (pa_cons pe_int (pa_cons pe_int (pa_cons pe_int (pa_cons pe_int pa_nil)))))))))))) (pe_ix ix_tup (pv 1) pe_int (fun _ _ => rfl)) (fun _ _ => rfl))) pe_int)))), ?_⟩)
  · obtain ⟨a, b, c, rfl, _⟩ := h
    rfl
  · obtain ⟨a, b, c, rfl, hk, hl, ok, hQ⟩ := h
    have b8 := ok.b8
    have b2 := ok.b2
    refine ⟨_, rfl, ?_⟩
    refine ⟨_, _, _, _, rfl, rfl, hk, rfl, ?_⟩
    refine ⟨by show 11 ≤ sizeLine; decide, fun q hq => ?_⟩
    try dsimp only
    generalize gH1 : upd H q (.lst [.int 1, .int 2, .int 4, .int 8, .int 16, .int 32, .int 64, .int 128, .int 256, .int 512, .int 1024]) = H1
    have eH1 : Evl.Ex H H1 := by rw [← gH1]; exact Evl.Ex.new hq
    have oH1 : H1 q = some (.lst [.int 1, .int 2, .int 4, .int 8, .int 16, .int 32, .int 64, .int 128, .int 256, .int 512, .int 1024]) := by rw [← gH1]; exact upd_same
    refine ⟨_, rfl, _, _, _, _, rfl, rfl, Evl.ex_t eH1 hl, rfl, ?_⟩
    refine ⟨q, _, _, _, rfl, rfl, Evl.sq_of oH1, atI_nat (pows_at ok.p5), ?_⟩
    refine ⟨_, _, rfl, rfl, .inl ⟨by omega, by omega⟩, ?_⟩
    exact ⟨_, _, rfl, rfl, hQ H1 eH1⟩
def spLEntry (K : PySem.W.Frag) : Sp := fun vs H Q _ => ∃ (a b tb cl : Addr) (c : Kd) (tab : List (List (Option Int))) (x y : Int) (e : Option Int), vs = [.ref a, .ref b, .ref tb, .ref cl] ∧ KndAt K H a c ∧ LksAt K H b c ∧ c.Ok ∧ TabR K H tb tab ∧ SqT K H cl [.int x, .int y] ∧
  0 ≤ x - 2 ^ (c.t - 1) ∧ 0 ≤ y + c.half ∧ entAt tab (x - 2 ^ (c.t - 1)).toNat (y + c.half).toNat = some e ∧ ∀ H', Evl.Ex H H' → Q (cv e) H'
theorem sc_law_entry : FnScope ["kind", "looks", "table", "cell"] ["kind", "looks", "table", "cell"] (defScope s_law_entry) := ⟨rfl, rfl, rfl, by decide +kernel, rfl, by decide +kernel, by decide +kernel⟩
theorem ok_law_entry {P : Program} {w : World} {K : PySem.W.Frag} {mg : Str → Option Value} {base : Heap} (T : Fx K mg) : FnX P w K mg base CX0 2 (He.ga K "_law_entry") ["kind", "looks", "table", "cell"] (spLEntry K) := by
  refine fx_of T.d_law_entry sc_law_entry (fun _ _ _ _ _ _ us hl => match us, hl with | [_, _, _, _], _ => rfl) (fun vs H Q E h => ?_) (fun cdv A outer s H vs Q E hr h => ⟨_, PSs.nox ((pss_one (ps_ret (pe_ix ix_list (pe_ix ix_list (pv 2) (pe_op op_sub (pe_ix ix_tup (pv 3) pe_int (fun _ _ => rfl)) (pe_op op_oneShl pe_int (pe_op op_sub (pe_ix ix_tup (pv 1) pe_int (fun _ _ => rfl)) pe_int))) (fun _ _ => rfl)) (pe_op op_add (pe_ix ix_tup (pv 3) pe_int (fun _ _ => rfl)) (pe_f (ok_law_half T) hr (by rfl) T.g_law_half pass0 (pa_cons (pv 0) (pa_cons (pv 1) pa_nil)))) (fun _ _ => rfl))))), ?_⟩)
  · obtain ⟨a, b, tb, cl, c, tab, x, y, e, rfl, _⟩ := h
    rfl
  · obtain ⟨a, b, tb, cl, c, tab, x, y, e, rfl, hk, hl, ok, ht, hc, hx, hy, he, hQ⟩ := h
    obtain ⟨as, rb, row, q1, q2, q3, q4⟩ := tabR_at ht he
    have t1 := ok.t1
    have t5 := ok.t5
    repeat (first | refine ⟨_, rfl, ?_⟩ | refine ⟨_, _, rfl, rfl, ?_⟩ | refine ⟨_, _, _, _, rfl, rfl, by assumption, rfl, ?_⟩ | refine ⟨rfl, _, rfl, ?_⟩)
    refine ⟨c.t - 1, rfl, vsub1 t1, by omega, ?_⟩
    refine ⟨_, _, rfl, rfl, ?_⟩
    refine ⟨_, _, _, _, rfl, rfl, q1, atI_of hx q2, ?_⟩
    repeat (first | refine ⟨_, rfl, ?_⟩ | refine ⟨_, _, rfl, rfl, ?_⟩ | refine ⟨_, _, _, _, rfl, rfl, by assumption, rfl, ?_⟩ | refine ⟨rfl, _, rfl, ?_⟩)
    refine ⟨_, _, _, rfl, hk, hl, ok, fun H1 e1 => ?_⟩
    refine ⟨_, _, rfl, rfl, ?_⟩
    exact ⟨_, _, _, _, rfl, rfl, Evl.ex_l e1 q3, atI_of hy q4, hQ H1 e1⟩
/-! ### _law_worth, _law_pair_worth, _law_size -/
theorem sc_law_worth : FnScope ["kind", "row", "total", "figure"] ["kind", "row"] (defScope s_law_worth) := ⟨rfl, rfl, rfl, by decide +kernel, rfl, by decide +kernel, by decide +kernel⟩
theorem ok_law_worth {P : Program} {w : World} {K : PySem.W.Frag} {mg : Str → Option Value} {base : Heap} (T : Fx K mg) : FnX P w K mg base CX0 1 (He.ga K "_law_worth") ["kind", "row"] (spWorth K) := by
  refine fx_of T.d_law_worth sc_law_worth (fun _ _ _ _ _ _ us hl => match us, hl with | [_, _], _ => rfl) (fun vs H Q E h => ?_) (fun cdv A outer s H vs Q E hr h => ⟨_, PSs.nox ((pss_cons (ps_set (i := 2) sc_law_worth.nd rfl (Or.inl rfl) pe_int)
  (pss_cons (ps_for PassesOwn.never rfl (pi_list (pv 1)) (pg_name (i := 3) sc_law_worth.nd rfl (Or.inl rfl)) (pss_one (ps_set (i := 2) sc_law_worth.nd rfl (Or.inl rfl) (pe_op op_add (pe_op op_mul (pv 2) (pe_ix ix_tup (pv 0) pe_int (fun _ _ => rfl))) (pv 3)))))
  (pss_one (ps_ret (pv 2)))))), ?_⟩)
  · obtain ⟨a, r, c, ns, rfl, _⟩ := h
    rfl
  · obtain ⟨a, r, c, ns, rfl, hk, ok, hr2, hQ⟩ := h
    have b8 := ok.b8
    have b2 := ok.b2
    refine ⟨_, rfl, _, rfl, ⟨_, hr2⟩, for_list (xs := ns.map V.int) (fun i σ H' => H' = H ∧ ∃ z, σ = [some (.ref a), some (.ref r), some (.int (wo c.base (ns.take i))), z]) ⟨rfl, _, rfl⟩ ?_ ?_ ?_⟩
    · rintro i σ H' hi ⟨rfl, z, rfl⟩
      exact hr2
    · rintro i x σ H' hx ⟨rfl, z, rfl⟩
      rw [List.getElem?_map] at hx
      cases hf : ns[i]? with
      | none => rw [hf] at hx; cases hx
      | some f =>
        rw [hf] at hx
        cases hx
        repeat (first | refine ⟨_, rfl, ?_⟩ | refine ⟨_, _, rfl, rfl, ?_⟩ | refine ⟨_, _, _, _, rfl, rfl, by assumption, rfl, ?_⟩ | refine ⟨rfl, _, rfl, ?_⟩)
        refine ⟨.inr ⟨by omega, by omega⟩, ?_⟩
        repeat (first | refine ⟨_, rfl, ?_⟩ | refine ⟨_, _, rfl, rfl, ?_⟩ | refine ⟨_, _, _, _, rfl, rfl, by assumption, rfl, ?_⟩ | refine ⟨rfl, _, rfl, ?_⟩)
        refine ⟨rfl, some (V.int f), ?_⟩
        rw [wo_take hf]
        rfl
    · rintro σ H' ⟨rfl, z, rfl⟩
      rw [List.length_map, List.take_length]
      exact ⟨_, rfl, hQ⟩
def spLPw : Sp := fun vs H Q _ => ∃ (w : Nat) (a b : Int), vs = [.int (w : Nat), .int a, .int b] ∧ w ≤ 100000 ∧ Q (.int (pw w a b)) H
theorem sc_law_pair_worth : FnScope ["width", "one", "other", "size", "rest"] ["width", "one", "other"] (defScope s_law_pair_worth) := ⟨rfl, rfl, rfl, by decide +kernel, rfl, by decide +kernel, by decide +kernel⟩
theorem ok_law_pair_worth {P : Program} {w : World} {K : PySem.W.Frag} {mg : Str → Option Value} {base : Heap} (T : Fx K mg) : FnX P w K mg base CX0 1 (He.ga K "_law_pair_worth") ["width", "one", "other"] (spLPw) := by
  refine fx_of T.d_law_pair_worth sc_law_pair_worth (fun _ _ _ _ _ _ us hl => match us, hl with | [_, _, _], _ => rfl) (fun vs H Q E h => ?_) (fun cdv A outer s H vs Q E hr h => ⟨_, PSs.nox ((pss_cons (ps_set (i := 3) sc_law_pair_worth.nd rfl (Or.inl rfl) (pe_op op_oneShl pe_int (pv 0)))
  (pss_cons (ps_set (i := 4) sc_law_pair_worth.nd rfl (Or.inl rfl) (pe_op op_mod (pe_op op_add (pv 1) (pv 2)) (pv 3)))
  (pss_one (ps_ret (pe_ifExp (pt_cmpR op_ge (pe_op op_mul pe_int (pv 4)) (pv 3) (nomark _)) (pe_op op_sub (pv 4) (pv 3)) (pv 4))))))), ?_⟩)
  · obtain ⟨w, a, b, rfl, _⟩ := h
    rfl
  · obtain ⟨w, a, b, rfl, hw, hQ⟩ := h
    refine ⟨_, rfl, w, rfl, rfl, by omega, ?_⟩
    repeat (first | refine ⟨_, rfl, ?_⟩ | refine ⟨_, _, rfl, rfl, ?_⟩ | refine ⟨_, _, _, _, rfl, rfl, by assumption, rfl, ?_⟩ | refine ⟨rfl, _, rfl, ?_⟩)
    refine ⟨two_pos w, ?_⟩
    repeat (first | refine ⟨_, rfl, ?_⟩ | refine ⟨_, _, rfl, rfl, ?_⟩ | refine ⟨_, _, _, _, rfl, rfl, by assumption, rfl, ?_⟩ | refine ⟨rfl, _, rfl, ?_⟩)
    refine ⟨.inl ⟨by decide, by decide⟩, ?_⟩
    repeat (first | refine ⟨_, rfl, ?_⟩ | refine ⟨_, _, rfl, rfl, ?_⟩ | refine ⟨_, _, _, _, rfl, rfl, by assumption, rfl, ?_⟩ | refine ⟨rfl, _, rfl, ?_⟩)
    refine itD (fun hc => ?_) (fun hc => ?_)
    · refine ⟨_, rfl, _, rfl, _, _, rfl, rfl, ?_⟩
      have e : pw w a b = (a + b) % 2 ^ w - 2 ^ w := by
        unfold pw
        rw [if_pos (by omega)]
      rw [e] at hQ
      exact hQ
    · refine ⟨_, rfl, ?_⟩
      have e : pw w a b = (a + b) % 2 ^ w := by
        unfold pw
        rw [if_neg (by omega)]
      rw [e] at hQ
      exact hQ
theorem ab_max (i : Int) : (if (0 - i) > i then 0 - i else i) = ab i := by unfold ab; split <;> split <;> omega
def spLSize : Sp := fun vs H Q _ => ∃ i : Int, vs = [.int i] ∧ Q (.int (ab i)) H
theorem sc_law_size : FnScope ["number"] ["number"] (defScope s_law_size) := ⟨rfl, rfl, rfl, by decide +kernel, rfl, by decide +kernel, by decide +kernel⟩
theorem ok_law_size {P : Program} {w : World} {K : PySem.W.Frag} {mg : Str → Option Value} {base : Heap} (T : Fx K mg) : FnX P w K mg base CX0 1 (He.ga K "_law_size") ["number"] (spLSize) := by
  refine fx_of T.d_law_size sc_law_size (fun _ _ _ _ _ _ us hl => match us, hl with | [_], _ => rfl) (fun vs H Q E h => ?_) (fun cdv A outer s H vs Q E hr h => ⟨_, PSs.nox ((pss_one (ps_ret (pe_callB (call_max2 rfl) (by rfl) T.b_max (by decide +kernel) (pa_cons (pv 0) (pa_cons (pe_op op_sub pe_int (pv 0)) pa_nil)))))), ?_⟩)
  · obtain ⟨i, rfl, _⟩ := h
    rfl
  · obtain ⟨i, rfl, hQ⟩ := h
    rw [← ab_max] at hQ
    exact ⟨_, rfl, _, rfl, _, _, rfl, rfl, _, _, rfl, hQ⟩
/-! ### _law_room -/
theorem base_pow (c : Kd) (n : Nat) : c.base ^ n = 2 ^ (c.k * n) := by
  unfold Kd.base
  rw [← Int.pow_mul]
theorem room_big {c : Kd} (ok : c.Ok) {x d : Int} (hx : Big x) (hd : 0 < d) : room c x d 1003 := by
  unfold room
  have b8 := ok.b8
  have b2 := ok.b2
  have m1 := ok.m1
  rw [ab_nat]
  have h1 : (c.base - 1) * (x.natAbs : Int) ≤ 8 * 2 ^ 1000 := by
    have hx' : (x.natAbs : Int) ≤ 2 ^ 1000 := by
      have : x.natAbs ≤ 2 ^ 1000 := Nat.le_of_lt hx
      exact_mod_cast this
    exact Int.mul_le_mul (by omega) hx' (by omega) (by omega)
  have h2 : (8 : Int) * 2 ^ 1000 = 2 ^ 1003 := by rw [show (1003 : Nat) = 3 + 1000 by rfl, Int.pow_add]; rfl
  have h3 : (2 : Int) ^ 1003 ≤ 2 ^ (c.k * 1003) := by
    have : 2 ^ 1003 ≤ 2 ^ (c.k * 1003) := Nat.pow_le_pow_right (by decide : 0 < 2) (Nat.le_mul_of_pos_left 1003 ok.k1)
    exact_mod_cast this
  have h4 : (1 : Int) ≤ c.m * d := Int.mul_pos (by omega) hd
  have h5 : (1 : Int) * 2 ^ (c.k * 1003) ≤ c.m * d * 2 ^ (c.k * 1003) := Int.mul_le_mul_of_nonneg_right h4 (by have := two_pos (c.k * 1003); omega)
  omega
theorem room_mono {c : Kd} (ok : c.Ok) {x d : Int} (hd : 0 < d) {n m : Nat} (h : n ≤ m) (hr : room c x d n) : room c x d m := by
  unfold room at *
  have m1 := ok.m1
  have h1 : (2 : Int) ^ (c.k * n) ≤ 2 ^ (c.k * m) := by
    have : 2 ^ (c.k * n) ≤ 2 ^ (c.k * m) := Nat.pow_le_pow_right (by decide : 0 < 2) (Nat.mul_le_mul_left _ h)
    exact_mod_cast this
  have h4 : (0 : Int) ≤ c.m * d := Int.mul_nonneg (by omega) (by omega)
  exact Int.le_trans hr (Int.mul_le_mul_of_nonneg_left h1 h4)
def spLRoom (K : PySem.W.Frag) : Sp := fun vs H Q _ => ∃ (a : Addr) (c : Kd) (x d : Int), vs = [.ref a, .int x, .int d] ∧ KndAt K H a c ∧ c.Ok ∧ Big x ∧ 0 < d ∧ ∀ n : Nat, n ≤ 1003 → (∀ j, room c x d j ↔ n ≤ j) → Q (.int (n : Nat)) H
theorem sc_law_room : FnScope ["kind", "x", "divisor", "many", "reach"] ["kind", "x", "divisor"] (defScope s_law_room) := ⟨rfl, rfl, rfl, by decide +kernel, rfl, by decide +kernel, by decide +kernel⟩
theorem ok_law_room {P : Program} {w : World} {K : PySem.W.Frag} {mg : Str → Option Value} {base : Heap} (T : Fx K mg) : FnX P w K mg base CX0 2 (He.ga K "_law_room") ["kind", "x", "divisor"] (spLRoom K) := by
  refine fx_of T.d_law_room sc_law_room (fun _ _ _ _ _ _ us hl => match us, hl with | [_, _, _], _ => rfl) (fun vs H Q E h => ?_) (fun cdv A outer s H vs Q E hr h => ⟨_, PSs.nox ((pss_cons (ps_set (i := 3) sc_law_room.nd rfl (Or.inl rfl) pe_int)
  (pss_cons (ps_set (i := 4) sc_law_room.nd rfl (Or.inl rfl) (pe_op op_mul (pe_ix ix_tup (pv 0) pe_int (fun _ _ => rfl)) (pv 2)))
  (pss_cons (ps_while PassesOwn.never (pt_cmpR op_gt (pe_op op_mul (pe_op op_sub (pe_ix ix_tup (pv 0) pe_int (fun _ _ => rfl)) pe_int) (pe_f (ok_law_size T) hr (by rfl) T.g_law_size pass0 (pa_cons (pv 1) pa_nil))) (pv 4) (nomark _)) (pss_cons (ps_set (i := 3) sc_law_room.nd rfl (Or.inl rfl) (pe_op op_add (pv 3) pe_int))
  (pss_one (ps_set (i := 4) sc_law_room.nd rfl (Or.inl rfl) (pe_op op_mul (pv 4) (pe_ix ix_tup (pv 0) pe_int (fun _ _ => rfl)))))))
  (pss_one (ps_ret (pv 3))))))), ?_⟩)
  · obtain ⟨a, c, x, d, rfl, _⟩ := h
    rfl
  · obtain ⟨a, c, x, d, rfl, hk, ok, hx, hd, hQ⟩ := h
    have b8 := ok.b8
    have b2 := ok.b2
    have m1 := ok.m1
    have m7 := ok.m7
    refine ⟨_, rfl, _, _, _, _, rfl, rfl, hk, rfl, ?_⟩
    refine ⟨_, rfl, _, _, rfl, rfl, .inl ⟨by omega, by omega⟩, ?_⟩
    refine ⟨fun m σ H' => H' = H ∧ ∃ j : Nat, m + j = 1003 ∧ (∀ i, i < j → ¬ room c x d i) ∧ σ = [some (.ref a), some (.int x), some (.int d), some (.int (j : Nat)), some (.int (c.m * d * c.base ^ j))], ⟨1003, rfl, 0, rfl, fun i z => absurd z (by omega), by rw [Int.pow_zero, Int.mul_one]; rfl⟩, ?_⟩
    rintro m σ H' ⟨rfl, j, hm, hj, rfl⟩
    refine ⟨_, rfl, _, _, _, _, rfl, rfl, hk, rfl, _, _, rfl, rfl, _, rfl, x, rfl, ?_⟩
    refine ⟨_, _, rfl, rfl, .inl ⟨by omega, by omega⟩, _, rfl, _, _, rfl, rfl, _, rfl, ?_⟩
    refine itD (fun h1 => ?_) (fun h1 => ?_)
    · have nr : ¬ room c x d j := fun z => by
        unfold room at z
        rw [← base_pow] at z
        omega
      have hlt : j < 1003 := by
        apply Decidable.byContradiction
        intro z
        exact nr (room_mono ok hd (by omega) (room_big ok hx hd))
      refine ⟨fun σ' H2 => H2 = H' ∧ σ' = [some (.ref a), some (.int x), some (.int d), some (.int ((j + 1 : Nat) : Int)), some (.int (c.m * d * c.base ^ (j + 1)))], ?_, ?_⟩
      · rintro σ' H2 ⟨rfl, rfl⟩
        exact ⟨m - 1, by omega, rfl, j + 1, by omega, fun i hi => by
          by_cases e : i = j
          · rw [e]; exact nr
          · exact hj i (by omega), rfl⟩
      · refine ⟨_, rfl, _, _, rfl, rfl, _, rfl, _, rfl, _, _, _, _, rfl, rfl, hk, rfl, _, _, rfl, rfl, .inr ⟨by omega, by omega⟩, rfl, ?_⟩
        rw [Int.pow_succ, ← Int.mul_assoc]
        rfl
    · refine ⟨_, rfl, hQ j (by omega) fun i => ⟨fun hr => ?_, fun hi => ?_⟩⟩
      · apply Decidable.byContradiction
        intro z
        exact hj i (by omega) hr
      · refine room_mono ok hd hi ?_
        unfold room
        rw [← base_pow]
        omega
end SF
end
section
set_option Elab.async false
set_option linter.all false
set_option maxRecDepth 100000
set_option maxHeartbeats 4000000
namespace SF
open PySem PySem.Spec PyProof.Rows L2
/-! ### _law_scaled -/
theorem bits_shl {x : Int} (hx : 0 < x) (j : Nat) : bits (x * 2 ^ j) = bits x + j := by
  have ex : (x * 2 ^ j).natAbs = x.natAbs * 2 ^ j := by rw [Int.natAbs_mul, Int.natAbs_pow]; rfl
  have h1 : bits (x * 2 ^ j) ≤ bits x + j := by
    refine intBits_le_iff.mpr ?_
    rw [ex, Nat.pow_add]
    exact Nat.mul_lt_mul_of_pos_right (intBits_le_iff.mp (Nat.le_refl _)) (Nat.two_pow_pos j)
  have hp : 1 ≤ bits x := by
    apply Decidable.byContradiction
    intro z
    have : x.natAbs < 2 ^ 0 := intBits_le_iff.mp (by show bits x ≤ 0; omega)
    omega
  have h2 : bits x + j ≤ bits (x * 2 ^ j) := by
    apply Decidable.byContradiction
    intro z
    have h3 : (x * 2 ^ j).natAbs < 2 ^ (bits x - 1 + j) := intBits_le_iff.mp (by show bits (x * 2 ^ j) ≤ _; omega)
    rw [ex, Nat.pow_add] at h3
    have h4 : x.natAbs < 2 ^ (bits x - 1) := Nat.lt_of_mul_lt_mul_right h3
    have h5 : bits x ≤ bits x - 1 := intBits_le_iff.mpr h4
    omega
  omega
theorem g0_pos {c : Kd} {d : Int} (hd : 0 < d) (n : Nat) : 0 < g0 c d n := Int.mul_pos hd (two_pos _)
theorem gm_iff (c : Kd) {d : Int} (hd : 0 < d) (n j : Nat) : ((bits (g0 c d n * 2 ^ j) : Nat) : Int) < mx c ↔ j < (gm c d n).toNat := by
  rw [bits_shl (g0_pos hd n)]
  unfold gm
  split <;> omega
def spLScaled (K : PySem.W.Frag) : Sp := fun vs H Q _ => ∃ (a b : Addr) (c : Kd) (x d : Int) (n : Nat), vs = [.ref a, .ref b, .int x, .int d, .int (n : Nat)] ∧ KndAt K H a c ∧ LksAt K H b c ∧ c.Ok ∧ 0 < d ∧ n ≤ 1010 ∧ NewT H [.int (gG c d n), .int (gX c x d n)] Q
theorem sc_law_scaled : FnScope ["kind", "looks", "x", "divisor", "many", "great", "turn", "rest"] ["kind", "looks", "x", "divisor", "many"] (defScope s_law_scaled) := ⟨rfl, rfl, rfl, by decide +kernel, rfl, by decide +kernel, by decide +kernel⟩
theorem ok_law_scaled {P : Program} {w : World} {K : PySem.W.Frag} {mg : Str → Option Value} {base : Heap} (T : Fx K mg) : FnX P w K mg base CX0 1 (He.ga K "_law_scaled") ["kind", "looks", "x", "divisor", "many"] (spLScaled K) := by
  refine fx_of T.d_law_scaled sc_law_scaled (fun _ _ _ _ _ _ us hl => match us, hl with | [_, _, _, _, _], _ => rfl) (fun vs H Q E h => ?_) (fun cdv A outer s H vs Q E hr h => ⟨_, PSs.nox ((pss_cons (ps_set (i := 5) sc_law_scaled.nd rfl (Or.inl rfl) (pv 3))
  (pss_cons (ps_for PassesOwn.never rfl (pi_range1 (by rfl) T.b_range (pa_cons (pv 4) pa_nil)) (pg_name (i := 6) sc_law_scaled.nd rfl (Or.inl rfl)) (pss_one (ps_set (i := 5) sc_law_scaled.nd rfl (Or.inl rfl) (pe_op op_mul (pv 5) (pe_ix ix_tup (pv 0) pe_int (fun _ _ => rfl))))))
  (pss_cons (ps_set (i := 7) sc_law_scaled.nd rfl (Or.inl rfl) (pv 2))
  (pss_cons (ps_while PassesOwn.never (pt_cmpR op_lt (pe_bits (pv 5)) (pe_callB (SF.cr_maxT2 rfl (hu_of hr)) (by rfl) T.b_max (by decide +kernel) (pa_cons (pv 1) pa_nil)) (nomark _)) (pss_cons (ps_set (i := 5) sc_law_scaled.nd rfl (Or.inl rfl) (pe_op op_mul (pv 5) pe_int))
  (pss_one (ps_set (i := 7) sc_law_scaled.nd rfl (Or.inl rfl) (pe_op op_mul (pv 7) pe_int)))))
  (pss_one (ps_ret (pe_tup (pa_cons (pv 5) (pa_cons (pv 7) pa_nil)))))))))), ?_⟩)
  · obtain ⟨a, b, c, x, d, n, rfl, _⟩ := h
    rfl
  · obtain ⟨a, b, c, x, d, n, rfl, hk, hl, ok, hd, hn, hQ⟩ := h
    have b8 := ok.b8
    have b2 := ok.b2
    refine ⟨_, rfl, _, rfl, _, rfl, by omega, by omega, for_range (fun i σ H' => H' = H ∧ ∃ z u, σ = [some (.ref a), some (.ref b), some (.int x), some (.int d), some (.int (n : Nat)), some (.int (d * c.base ^ i)), z, u]) ⟨rfl, _, _, by rw [Int.pow_zero, Int.mul_one]; rfl⟩ ?_ ?_⟩
    · rintro i σ H' hi ⟨rfl, z, u, rfl⟩
      refine ⟨_, rfl, _, rfl, _, _, _, _, rfl, rfl, hk, rfl, _, _, rfl, rfl, .inr ⟨by omega, by omega⟩, rfl, some (.int (0 + ((i : Nat) : Int))), u, ?_⟩
      rw [Int.pow_succ, ← Int.mul_assoc]
      rfl
    · rintro σ H' ⟨rfl, z, u, rfl⟩
      rw [show (((n : Nat) : Int)).toNat = n from rfl, base_pow]
      refine ⟨_, rfl, fun m σ H2 => H2 = H' ∧ ∃ j : Nat, m + j = (gm c d n).toNat ∧ σ = [some (.ref a), some (.ref b), some (.int x), some (.int d), some (.int (n : Nat)), some (.int (g0 c d n * 2 ^ j)), z, some (.int (x * 2 ^ j))], ⟨(gm c d n).toNat, rfl, 0, rfl, by rw [Int.pow_zero, Int.mul_one, Int.mul_one]; rfl⟩, ?_⟩
      rintro m σ H2 ⟨rfl, j, hm, rfl⟩
      refine ⟨_, rfl, _, rfl, _, rfl, b, _, _, rfl, hl, ?_⟩
      refine ⟨_, _, rfl, rfl, _, rfl, ?_⟩
      have key := gm_iff c hd n j
      refine itD (fun h1 => ?_) (fun h1 => ?_)
      · have hj : j < (gm c d n).toNat := key.mp h1
        refine ⟨fun σ' H3 => H3 = H2 ∧ σ' = [some (.ref a), some (.ref b), some (.int x), some (.int d), some (.int (n : Nat)), some (.int (g0 c d n * 2 ^ (j + 1))), z, some (.int (x * 2 ^ (j + 1)))], ?_, ?_⟩
        · rintro σ' H3 ⟨rfl, rfl⟩
          exact ⟨m - 1, by omega, rfl, j + 1, by omega, rfl⟩
        · refine ⟨_, rfl, _, _, rfl, rfl, .inr ⟨by omega, by omega⟩, _, rfl, _, _, rfl, rfl, .inr ⟨by omega, by omega⟩, rfl, ?_⟩
          rw [Int.pow_succ, ← Int.mul_assoc, ← Int.mul_assoc]
          rfl
      · have hj : ¬ j < (gm c d n).toNat := fun z => h1 (key.mpr z)
        have ej : j = (gm c d n).toNat := by omega
        subst ej
        refine ⟨_, rfl, _, rfl, ?_⟩
        exact ⟨by show 2 ≤ sizeLine; decide, fun p hp => hQ _ p (Evl.Ex.new hp) hp upd_same⟩
/-! ### _law_step -/
theorem bits_base {c : Kd} (ok : c.Ok) : bits c.base = c.k + 1 := by
  have h : c.base = 1 * 2 ^ c.k := (Int.one_mul _).symm
  rw [h, bits_shl (by decide)]
  show bits 1 + c.k = _
  have : bits 1 = 1 := by decide +kernel
  omega
theorem div_pow (i : Int) {n : Nat} (h : n ≤ 8000) : CDivW i (2 ^ n) := wide_div (b := n + 1) (two_pos n) (by
  rw [Int.natAbs_pow]
  exact Nat.pow_lt_pow_right (by decide) (Nat.lt_succ_self n)) (by omega) (by omega)
def spLStep (K : PySem.W.Frag) : Sp := fun vs H Q E => (∃ (a b tb p : Addr) (w : Nat) (g : Int), vs = [.ref a, .ref b, .ref tb, .int (w : Nat), .int g, .ref p] ∧ w ≤ 8000) ∧ spStep2 K vs H Q E
theorem sc_law_step : FnScope ["kind", "looks", "table", "wide", "great", "pair", "width", "size", "one", "other", "unit", "look", "figure", "rest", "third", "odd", "both"] ["kind", "looks", "table", "wide", "great", "pair"] (defScope s_law_step) := ⟨rfl, rfl, rfl, by decide +kernel, rfl, by decide +kernel, by decide +kernel⟩
theorem ok_law_step {P : Program} {w : World} {K : PySem.W.Frag} {mg : Str → Option Value} {base : Heap} (T : Fx K mg) : FnX P w K mg base CX0 3 (He.ga K "_law_step") ["kind", "looks", "table", "wide", "great", "pair"] (spLStep K) := by
  refine fx_of T.d_law_step sc_law_step (fun _ _ _ _ _ _ us hl => match us, hl with | [_, _, _, _, _, _], _ => rfl) (fun vs H Q E h => ?_) (fun cdv A outer s H vs Q E hr h => ⟨_, PSs.nox ((pss_cons (ps_set (i := 6) sc_law_step.nd rfl (Or.inl rfl) (pe_op op_add (pe_op op_add (pv 3) (pe_bits (pe_ix ix_tup (pv 0) pe_int (fun _ _ => rfl)))) pe_int))
  (pss_cons (ps_set (i := 7) sc_law_step.nd rfl (Or.inl rfl) (pe_op op_oneShl pe_int (pv 6)))
  (pss_cons (ps_set (i := 8) sc_law_step.nd rfl (Or.inl rfl) (pe_op op_mod (pe_op op_mul (pe_ix ix_tup (pv 5) pe_int (fun _ _ => rfl)) (pe_ix ix_tup (pv 0) pe_int (fun _ _ => rfl))) (pv 7)))
  (pss_cons (ps_set (i := 9) sc_law_step.nd rfl (Or.inl rfl) (pe_op op_mod (pe_op op_mul (pe_ix ix_tup (pv 5) pe_int (fun _ _ => rfl)) (pe_ix ix_tup (pv 0) pe_int (fun _ _ => rfl))) (pv 7)))
  (pss_cons (ps_set (i := 10) sc_law_step.nd rfl (Or.inl rfl) (pe_op op_oneShl pe_int (pe_op op_sub (pv 3) (pe_ix ix_tup (pv 1) pe_int (fun _ _ => rfl)))))
  (pss_cons (ps_set (i := 11) sc_law_step.nd rfl (Or.inl rfl) (pe_f (ok_law_pair_worth T) (hr.mono (by decide)) (by rfl) T.g_law_pair_worth pass0 (pa_cons (pe_op op_add (pe_op op_sub (pv 6) (pv 3)) (pe_ix ix_tup (pv 1) pe_int (fun _ _ => rfl))) (pa_cons (pe_op op_fdivW (pv 8) (pv 10)) (pa_cons (pe_op op_fdivW (pv 9) (pv 10)) pa_nil)))))
  (pss_cons (ps_set (i := 12) sc_law_step.nd rfl (Or.inl rfl) (pe_f (ok_law_entry T) hr (by rfl) T.g_law_entry pass0 (pa_cons (pv 0) (pa_cons (pv 1) (pa_cons (pv 2) (pa_cons (pe_tup (pa_cons (pe_op op_fdivW (pv 4) (pe_op op_oneShl pe_int (pe_op op_sub (pv 3) (pe_ix ix_tup (pv 1) pe_int (fun _ _ => rfl))))) (pa_cons (pv 11) pa_nil))) pa_nil))))))
  (pss_cons (ps_if (pt_cmpR op_isN (pv 12) pe_non (nomark _)) (pss_one (ps_ret (pe_tup (pa_cons (pv 11) (pa_cons pe_non (pa_cons pe_non pa_nil)))))) pss_nil)
  (pss_cons (ps_set (i := 13) sc_law_step.nd rfl (Or.inl rfl) (pe_op op_sub (pe_f (ok_law_pair_worth T) (hr.mono (by decide)) (by rfl) T.g_law_pair_worth pass0 (pa_cons (pv 6) (pa_cons (pv 8) (pa_cons (pv 9) pa_nil)))) (pe_op op_mul (pv 12) (pv 4))))
  (pss_cons (ps_if (pt_cmpR op_gt (pe_op op_mul (pe_op op_sub (pe_ix ix_tup (pv 0) pe_int (fun _ _ => rfl)) pe_int) (pe_callB (call_max2 rfl) (by rfl) T.b_max (by decide +kernel) (pa_cons (pv 13) (pa_cons (pe_op op_sub pe_int (pv 13)) pa_nil)))) (pe_op op_mul (pe_ix ix_tup (pv 0) pe_int (fun _ _ => rfl)) (pv 4)) (nomark _)) (pss_one (ps_ret (pe_tup (pa_cons (pv 11) (pa_cons pe_non (pa_cons pe_non pa_nil)))))) pss_nil)
  (pss_cons (ps_set (i := 14) sc_law_step.nd rfl (Or.inl rfl) (pe_op op_mod (pe_op op_sub pe_int (pe_op op_mul (pv 12) (pv 4))) (pv 7)))
  (pss_cons (ps_set (i := 15) sc_law_step.nd rfl (Or.inl rfl) (pe_op op_xor (pe_op op_xor (pv 8) (pv 9)) (pv 14)))
  (pss_cons (ps_set (i := 16) sc_law_step.nd rfl (Or.inl rfl) (pe_op op_or (pe_op op_or (pe_op op_and (pv 8) (pv 9)) (pe_op op_and (pv 8) (pv 14))) (pe_op op_and (pv 9) (pv 14))))
  (pss_one (ps_ret (pe_tup (pa_cons (pv 11) (pa_cons (pv 12) (pa_cons (pe_tup (pa_cons (pv 15) (pa_cons (pe_op op_mod (pe_op op_mul pe_int (pv 16)) (pv 7)) pa_nil))) pa_nil)))))))))))))))))))), ?_⟩)
  · obtain ⟨⟨a, b, tb, p, w, g, rfl, _⟩, _⟩ := h
    rfl
  · obtain ⟨⟨a', b', tb', p', w', g', e0, hw8⟩, a, b, tb, p, c, tab, w, g, x, y, e, rfl, hk, hl, ok, ht, hp, hw, hwt, hwp, i1, i2, he, hfb, hQ⟩ := h
    have ew : w = w' := by
      injection e0 with _ e0
      injection e0 with _ e0
      injection e0 with _ e0
      injection e0 with e0 _
      have := v_int e0
      omega
    rw [← ew] at hw8
    have k3 := ok.k3
    have b8 := ok.b8
    have b2 := ok.b2
    have m1 := ok.m1
    have m7 := ok.m7
    refine ⟨_, rfl, _, rfl, _, _, _, _, rfl, rfl, hk, rfl, _, rfl, _, _, rfl, rfl, ?_⟩
    refine ⟨_, _, rfl, rfl, ?_⟩
    try dsimp only
    rw [show ((w : Int) + ((Builtin.Int.intBits c.base : Nat) : Int) + 1) = ((w + c.k + 2 : Nat) : Int) from by have h : Builtin.Int.intBits c.base = c.k + 1 := bits_base ok; rw [h]; omega]
    refine ⟨_, rfl, w + c.k + 2, rfl, rfl, by omega, ?_⟩
    refine ⟨_, rfl, _, _, _, _, rfl, rfl, hp, rfl, _, rfl, _, _, _, _, rfl, rfl, hk, rfl, _, _, rfl, rfl, .inr ⟨by omega, by omega⟩, _, rfl, _, _, rfl, rfl, two_pos _, ?_⟩
    refine ⟨_, rfl, _, _, _, _, rfl, rfl, hp, rfl, _, rfl, _, _, _, _, rfl, rfl, hk, rfl, _, _, rfl, rfl, .inr ⟨by omega, by omega⟩, _, rfl, _, _, rfl, rfl, two_pos _, ?_⟩
    try dsimp only
    generalize h1a : x * c.base % 2 ^ (w + c.k + 2) = A1
    generalize h2a : y * c.base % 2 ^ (w + c.k + 2) = A2
    obtain rfl : A1 = stA c w x := h1a.symm
    obtain rfl : A2 = stA c w y := h2a.symm
    try dsimp only [L2.start, List.map, List.length_cons, List.length_nil, List.replicate, List.set, List.append, List.cons_append, List.nil_append]
    refine ⟨_, rfl, _, rfl, _, _, _, _, rfl, rfl, hl, rfl, _, _, rfl, rfl, w - c.p, rfl, vsub hwp, by omega, ?_⟩
    refine ⟨_, rfl, _, rfl, _, _, rfl, rfl, _, rfl, _, _, _, _, rfl, rfl, hl, rfl, _, _, rfl, rfl, ?_⟩
    refine ⟨_, rfl, _, rfl, _, _, rfl, rfl, div_pow _ (by omega), _, rfl, _, rfl, _, _, rfl, rfl, div_pow _ (by omega), ?_⟩
    refine ⟨w + c.k + 2 - (w - c.p), stA c w x / 2 ^ (w - c.p), stA c w y / 2 ^ (w - c.p), ?_, by omega, ?_⟩
    · have e9 : ((w + c.k + 2 : Nat) : Int) - (w : Int) + (c.p : Int) = ((w + c.k + 2 - (w - c.p) : Nat) : Int) := by omega
      show [V.int (((w + c.k + 2 : Nat) : Int) - (w : Int) + (c.p : Int)), _, _] = _
      rw [e9]
    try dsimp only
    generalize hlk : pw (w + c.k + 2 - (w - c.p)) (stA c w x / 2 ^ (w - c.p)) (stA c w y / 2 ^ (w - c.p)) = lkv
    obtain rfl : lkv = lkR c w x y := hlk.symm
    refine ⟨_, rfl, _, rfl, _, rfl, _, rfl, _, rfl, _, rfl, _, _, _, _, rfl, rfl, hl, rfl, _, _, rfl, rfl, w - c.t, rfl, vsub hwt, by omega, ?_⟩
    refine ⟨_, _, rfl, rfl, div_pow _ (by omega), _, rfl, ?_⟩
    refine ⟨by show 2 ≤ sizeLine; decide, fun q2 hq2 => ?_⟩
    try dsimp only
    generalize gH1 : upd H q2 (.tup [.int (g / 2 ^ (w - c.t)), .int (lkR c w x y)]) = H1
    have eH1 : Evl.Ex H H1 := by rw [← gH1]; exact Evl.Ex.new hq2
    have oH1 : H1 q2 = some (.tup [.int (g / 2 ^ (w - c.t)), .int (lkR c w x y)]) := by rw [← gH1]; exact upd_same
    refine ⟨a, b, tb, q2, c, tab, _, _, e, rfl, Evl.ex_t eH1 hk, Evl.ex_t eH1 hl, ok, ht.ex eH1, Evl.st_of oH1, i1, i2, he, fun H2 e2 => ?_⟩
    have e12 := eH1.trans e2
    refine ⟨_, rfl, rfl, _, rfl, ?_⟩
    cases e with
    | none =>
      refine itT (c := cv none = V.non) rfl ?_
      refine ⟨_, rfl, ?_⟩
      refine ⟨by show 3 ≤ sizeLine; decide, fun r hr => ?_⟩
      try dsimp only
      generalize gH3 : upd H2 r (.tup [.int (lkR c w x y), .non, .non]) = H3
      have eH3 : Evl.Ex H2 H3 := by rw [← gH3]; exact Evl.Ex.new hr
      have oH3 : H3 r = some (.tup [.int (lkR c w x y), .non, .non]) := by rw [← gH3]; exact upd_same
      exact hQ H3 r .non (e12.trans eH3) oH3 fun f z => (nomatch z)
    | some f =>
      obtain ⟨f1, f2⟩ := hfb f rfl
      refine itF (c := cv (some f) = V.non) (fun z => nomatch z) ?_
      refine ⟨_, rfl, _, rfl, _, rfl, w + c.k + 2, _, _, rfl, by omega, ?_⟩
      refine ⟨_, rfl, _, rfl, _, _, rfl, rfl, .inl ⟨by omega, by omega⟩, _, _, rfl, rfl, ?_⟩
      refine ⟨_, rfl, _, _, _, _, rfl, rfl, Evl.ex_t e12 hk, rfl, _, _, rfl, rfl, _, rfl, _, rfl, _, _, rfl, rfl, _, _, rfl, ?_⟩
      refine ⟨_, _, rfl, rfl, .inl ⟨by omega, by omega⟩, _, rfl, _, _, _, _, rfl, rfl, Evl.ex_t e12 hk, rfl, _, rfl, _, _, rfl, rfl, .inl ⟨by omega, by omega⟩, _, _, rfl, rfl, _, rfl, ?_⟩
      try dsimp only [L2.start, List.map, List.length_cons, List.length_nil, List.replicate, List.set, List.append, List.cons_append, List.nil_append]
      have em := ab_max (reR c w x y - f * g)
      refine itD (fun h1 => ?_) (fun h1 => ?_)
      · have hs : ¬ sv c f g (reR c w x y) := fun z => by
          unfold sv at z
          have h2 : c.m * g < (c.base - 1) * (if 0 - (reR c w x y - f * g) > reR c w x y - f * g then 0 - (reR c w x y - f * g) else reR c w x y - f * g) := h1
          rw [em] at h2
          omega
        have es : svF c g (reR c w x y) (some f) = none := if_neg hs
        refine ⟨_, rfl, ?_⟩
        refine ⟨by show 3 ≤ sizeLine; decide, fun r hr => ?_⟩
        try dsimp only
        generalize gH3 : upd H2 r (.tup [.int (lkR c w x y), .non, .non]) = H3
        have eH3 : Evl.Ex H2 H3 := by rw [← gH3]; exact Evl.Ex.new hr
        have oH3 : H3 r = some (.tup [.int (lkR c w x y), .non, .non]) := by rw [← gH3]; exact upd_same
        exact hQ H3 r .non (e12.trans eH3) (by rw [es]; exact oH3) fun f z => by rw [es] at z; cases z
      · have hs : sv c f g (reR c w x y) := by
          unfold sv
          have h2 : ¬ c.m * g < (c.base - 1) * (if 0 - (reR c w x y - f * g) > reR c w x y - f * g then 0 - (reR c w x y - f * g) else reR c w x y - f * g) := h1
          rw [em] at h2
          omega
        have es : svF c g (reR c w x y) (some f) = some f := if_pos hs
        have et : (0 - f * g) % 2 ^ (w + c.k + 2) = thR c w f g := by
          unfold thR
          rw [Int.neg_mul, Int.zero_sub]
        refine ⟨_, rfl, _, rfl, _, _, rfl, rfl, .inl ⟨by omega, by omega⟩, _, _, rfl, rfl, _, rfl, _, _, rfl, rfl, two_pos _, ?_⟩
        try dsimp only [L2.start, List.map, List.length_cons, List.length_nil, List.replicate, List.set, List.append, List.cons_append, List.nil_append]
        refine ⟨_, rfl, _, rfl, _, _, rfl, rfl, _, rfl, _, _, rfl, rfl, ?_⟩
        try dsimp only [L2.start, List.map, List.length_cons, List.length_nil, List.replicate, List.set, List.append, List.cons_append, List.nil_append]
        refine ⟨_, rfl, _, rfl, _, _, rfl, rfl, _, rfl, _, rfl, _, _, rfl, rfl, _, _, rfl, rfl, _, rfl, _, rfl, _, _, rfl, rfl, _, _, rfl, rfl, ?_⟩
        try dsimp only [L2.start, List.map, List.length_cons, List.length_nil, List.replicate, List.set, List.append, List.cons_append, List.nil_append]
        refine ⟨_, rfl, _, rfl, _, rfl, _, rfl, _, _, rfl, rfl, .inl ⟨by decide, by decide⟩, _, rfl, _, _, rfl, rfl, two_pos _, ?_⟩
        refine ⟨by show 2 ≤ sizeLine; decide, fun q5 hq5 => ?_⟩
        try dsimp only
        generalize gH3 : upd H2 q5 (.tup [.int (Builtin.bitXor (Builtin.bitXor (stA c w x) (stA c w y)) ((0 - f * g) % 2 ^ (w + c.k + 2))), .int (2 * Builtin.bitOr (Builtin.bitOr (Builtin.bitAnd (stA c w x) (stA c w y)) (Builtin.bitAnd (stA c w x) ((0 - f * g) % 2 ^ (w + c.k + 2)))) (Builtin.bitAnd (stA c w y) ((0 - f * g) % 2 ^ (w + c.k + 2))) % 2 ^ (w + c.k + 2))]) = H3
        have eH3 : Evl.Ex H2 H3 := by rw [← gH3]; exact Evl.Ex.new hq5
        have oH3 : H3 q5 = some (.tup [.int (Builtin.bitXor (Builtin.bitXor (stA c w x) (stA c w y)) ((0 - f * g) % 2 ^ (w + c.k + 2))), .int (2 * Builtin.bitOr (Builtin.bitOr (Builtin.bitAnd (stA c w x) (stA c w y)) (Builtin.bitAnd (stA c w x) ((0 - f * g) % 2 ^ (w + c.k + 2)))) (Builtin.bitAnd (stA c w y) ((0 - f * g) % 2 ^ (w + c.k + 2))) % 2 ^ (w + c.k + 2))]) := by rw [← gH3]; exact upd_same
        refine ⟨by show 3 ≤ sizeLine; decide, fun r hr => ?_⟩
        try dsimp only
        generalize gH4 : upd H3 r (.tup [.int (lkR c w x y), cv (some f), .ref q5]) = H4
        have eH4 : Evl.Ex H3 H4 := by rw [← gH4]; exact Evl.Ex.new hr
        have oH4 : H4 r = some (.tup [.int (lkR c w x y), cv (some f), .ref q5]) := by rw [← gH4]; exact upd_same
        refine hQ H4 r (.ref q5) ((e12.trans eH3).trans eH4) (by rw [es]; exact oH4) fun f' z => ?_
        rw [es] at z
        cases z
        refine ⟨q5, rfl, Evl.fresh_back e12 hq5, ?_⟩
        rw [← et]
        exact eH4 _ _ oH3
end SF
end
section
set_option Elab.async false
set_option linter.all false
set_option maxRecDepth 100000
set_option maxHeartbeats 4000000
namespace SF
open PySem PySem.Spec PyProof.Rows L2
/-! ### _law_rest -/
/-- own's fields that no deed changes -/
def oDict (k l r ws sn dn : Addr) : List (Key × V) := [(.inr "kind", .ref k), (.inr "looks", .ref l), (.inr "table", .ref r), (.inr "works", .ref ws), (.inr "seen", .ref sn), (.inr "deeds", .ref dn)]
def spLRest (K : PySem.W.Frag) : Sp := fun vs H Q _ => ∃ (o a k l r ws sn dn : Addr) (i : Nat) (c : Kd) (T1 : TT1) (w : Wk), vs = [.ref o, .ref a] ∧ H o = some (.dK (oDict k l r ws sn dn)) ∧ H k = some (.tup [.int c.base, .int c.m]) ∧ WorkO T1 H i a w ∧ c.Ok ∧ w.figs.length + w.left ≤ 1010 ∧ (∀ f ∈ w.figs, f.natAbs ≤ 7) ∧ Big w.d ∧ NewT H [.int (w.x - doneOf c w * w.d), .int (w.left : Nat)] Q
theorem sc_law_rest : FnScope ["own", "work", "done"] ["own", "work"] (defScope s_law_rest) := ⟨rfl, rfl, rfl, by decide +kernel, rfl, by decide +kernel, by decide +kernel⟩
theorem ok_law_rest {P : Program} {w : World} {K : PySem.W.Frag} {mg : Str → Option Value} {base : Heap} (T : Fx K mg) : FnX P w K mg base CX0 2 (He.ga K "_law_rest") ["own", "work"] (spLRest K) := by
  refine fx_of T.d_law_rest sc_law_rest (fun _ _ _ _ _ _ us hl => match us, hl with | [_, _], _ => rfl) (fun vs H Q E h => ?_) (fun cdv A outer s H vs Q E hr h => ⟨_, PSs.nox ((pss_cons (ps_set (i := 2) sc_law_rest.nd rfl (Or.inl rfl) (pe_f (ok_law_worth T) hr (by rfl) T.g_law_worth pass0 (pa_cons (pe_dget (hu_of hr) (pv 0) pe_str (fun _ _ => rfl)) (pa_cons (pe_op op_cat (pe_dget (hu_of hr) (pv 1) pe_str (fun _ _ => rfl)) (pe_op op_rep (pe_lst (pa_cons pe_int pa_nil)) (pe_dget (hu_of hr) (pv 1) pe_str (fun _ _ => rfl)))) pa_nil))))
  (pss_one (ps_ret (pe_tup (pa_cons (pe_op op_sub (pe_ix ix_tup (pe_dget (hu_of hr) (pv 1) pe_str (fun _ _ => rfl)) pe_int (fun _ _ => rfl)) (pe_op op_mulW (pv 2) (pe_ix ix_tup (pe_dget (hu_of hr) (pv 1) pe_str (fun _ _ => rfl)) pe_int (fun _ _ => rfl)))) (pa_cons (pe_dget (hu_of hr) (pv 1) pe_str (fun _ _ => rfl)) pa_nil))))))), ?_⟩)
  · obtain ⟨o, a, k, l, r, ws, sn, dn, i, c, T1, w, rfl, _⟩ := h
    rfl
  · obtain ⟨o, a, k, l, r, ws, sn, dn, i, c, T1, w, rfl, ho, hk, hw, ok, hl, hf, hd, hQ⟩ := h
    obtain ⟨n, f, sv1, ha, _, ⟨hn, _⟩, ⟨hfg, _⟩, _⟩ := hw
    have sz : ∀ z, z ≤ 1010 → z ≤ sizeLine := fun z hz => Nat.le_trans hz (by decide)
    refine ⟨_, rfl, o, _, rfl, DGet.k (k := .inr "kind") ho, ?_⟩
    refine ⟨_, rfl, a, _, rfl, DGet.k (k := .inr "row") ha, ?_⟩
    refine ⟨by show 1 ≤ sizeLine; decide, fun z hz => ?_⟩
    try dsimp only
    generalize gH1 : upd H z (.lst [.int 0]) = H1
    have eH1 : Evl.Ex H H1 := by rw [← gH1]; exact Evl.Ex.new hz
    have oH1 : H1 z = some (.lst [.int 0]) := by rw [← gH1]; exact upd_same
    refine ⟨_, rfl, a, _, rfl, DGet.k (k := .inr "left") (eH1 _ _ ha), ?_⟩
    refine ⟨z, _, _, rfl, rfl, oH1, by omega, by omega, by show 1 * _ ≤ _; rw [Nat.one_mul]; exact sz _ (by omega), fun p hp => ?_⟩
    try dsimp only
    rw [show (((w.left : Nat) : Int)).toNat = w.left from rfl, rep_flat]
    generalize gH2 : upd H1 p (.lst (List.replicate w.left (.int 0))) = H2
    have eH2 : Evl.Ex H1 H2 := by rw [← gH2]; exact Evl.Ex.new hp
    have oH2 : H2 p = some (.lst (List.replicate w.left (.int 0))) := by rw [← gH2]; exact upd_same
    have e12 := eH1.trans eH2
    refine ⟨f, p, _, _, rfl, rfl, e12 _ _ hfg, oH2, by rw [List.length_map, List.length_replicate]; exact sz _ hl, fun q hq => ?_⟩
    have ec : w.figs.map V.int ++ List.replicate w.left (V.int 0) = (w.figs ++ List.replicate w.left 0).map V.int := by rw [List.map_append, List.map_replicate]
    rw [ec]
    generalize gH3 : upd H2 q (.lst ((w.figs ++ List.replicate w.left 0).map V.int)) = H3
    have eH3 : Evl.Ex H2 H3 := by rw [← gH3]; exact Evl.Ex.new hq
    have oH3 : H3 q = some (.lst ((w.figs ++ List.replicate w.left 0).map V.int)) := by rw [← gH3]; exact upd_same
    have e13 := e12.trans eH3
    refine ⟨k, q, c, _, rfl, Evl.st_of (e13 _ _ hk), ok, Evl.sq_of oH3, ?_⟩
    refine ⟨_, rfl, a, _, rfl, DGet.k (k := .inr "numbers") (e13 _ _ ha), ?_⟩
    refine ⟨_, _, _, _, rfl, rfl, Evl.st_of (e13 _ _ hn), rfl, ?_⟩
    refine ⟨_, rfl, ?_⟩
    refine ⟨_, rfl, a, _, rfl, DGet.k (k := .inr "numbers") (e13 _ _ ha), ?_⟩
    refine ⟨_, _, _, _, rfl, rfl, Evl.st_of (e13 _ _ hn), rfl, ?_⟩
    refine ⟨_, _, rfl, rfl, wide_mul (a := 3030) (b := 1000) (wo_size ok (fun g hg => ?_) (by rw [List.length_append, List.length_replicate]; exact hl)) hd (by decide) (by decide) (by decide), ?_⟩
    · rcases List.mem_append.mp hg with h1 | h1
      · exact hf g h1
      · rw [(List.mem_replicate.mp h1).2]; decide
    refine ⟨_, _, rfl, rfl, ?_⟩
    refine ⟨_, rfl, a, _, rfl, DGet.k (k := .inr "left") (e13 _ _ ha), ?_⟩
    exact ⟨by show 2 ≤ sizeLine; decide, fun r hr1 => hQ _ r (e13.trans (Evl.Ex.new hr1)) (Evl.fresh_back e13 hr1) upd_same⟩
/-! ### _law_looked -/
def spLLooked (K : PySem.W.Frag) : Sp := fun vs H Q _ => ∃ (o a k l r ws sn dn : Addr) (i : Nat) (c : Kd) (T1 : TT1) (w : Wk) (tab : List (List (Option Int))) (e : Option Int), vs = [.ref o, .ref a] ∧ H o = some (.dK (oDict k l r ws sn dn)) ∧ H k = some (.tup [.int c.base, .int c.m]) ∧ H l = some (.tup [.int (c.t : Nat), .int (c.p : Nat)]) ∧ WorkO T1 H i a w ∧ c.Ok ∧ TabR K H r tab ∧ Fit c tab w e ∧
  ∀ (H' : Hp) (q cl : Addr) (sv' : V), Evl.Ex H H' → H' q = some (.tup [.ref cl, cv (w.stF c e), sv']) → H' cl = some (.tup [.int (w.tp c), .int (w.lk c)]) → (∀ f, w.stF c e = some f → StandN H H' sv' (w.nxt c f)) → Q (.ref q) H'
theorem sc_law_looked : FnScope ["own", "work", "kind", "looks", "wide", "top", "look", "figure", "behind", "rest", "cell"] ["own", "work"] (defScope s_law_looked) := ⟨rfl, rfl, rfl, by decide +kernel, rfl, by decide +kernel, by decide +kernel⟩
theorem ok_law_looked {P : Program} {w : World} {K : PySem.W.Frag} {mg : Str → Option Value} {base : Heap} (T : Fx K mg) : FnX P w K mg base CX0 4 (He.ga K "_law_looked") ["own", "work"] (spLLooked K) := by
  refine fx_of T.d_law_looked sc_law_looked (fun _ _ _ _ _ _ us hl => match us, hl with | [_, _], _ => rfl) (fun vs H Q E h => ?_) (fun cdv A outer s H vs Q E hr h => ⟨_, PSs.nox ((pss_cons (ps_par3 (i := 2) (j := 3) (l := 4) rfl sc_law_looked.nd rfl rfl rfl (by decide) (by decide) (by decide) rfl rfl rfl (pa_cons (pe_dget (hu_of hr) (pv 0) pe_str (fun _ _ => rfl)) (pa_cons (pe_dget (hu_of hr) (pv 0) pe_str (fun _ _ => rfl)) (pa_cons (pe_dget (hu_of hr) (pv 1) pe_str (fun _ _ => rfl)) pa_nil))) rfl)
  (pss_cons (ps_set (i := 5) sc_law_looked.nd rfl (Or.inl rfl) (pe_op op_fdivW (pe_dget (hu_of hr) (pv 1) pe_str (fun _ _ => rfl)) (pe_op op_oneShl pe_int (pe_op op_sub (pv 4) (pe_ix ix_tup (pv 3) pe_int (fun _ _ => rfl))))))
  (pss_cons (ps_if (pt_cmpR op_eq (pe_dget (hu_of hr) (pv 1) pe_str (fun _ _ => rfl)) pe_str (nomark _)) (pss_cons (ps_asg (pe_f (ok_law_step T) hr (by rfl) T.g_law_step pass0 (pa_cons (pv 2) (pa_cons (pv 3) (pa_cons (pe_dget (hu_of hr) (pv 0) pe_str (fun _ _ => rfl)) (pa_cons (pv 4) (pa_cons (pe_dget (hu_of hr) (pv 1) pe_str (fun _ _ => rfl)) (pa_cons (pe_dget (hu_of hr) (pv 1) pe_str (fun _ _ => rfl)) pa_nil))))))) (pg_tup rfl (pgs_cons (pg_name (i := 6) sc_law_looked.nd rfl (Or.inl rfl)) (pgs_cons (pg_name (i := 7) sc_law_looked.nd rfl (Or.inl rfl)) (pgs_cons (pg_name (i := 8) sc_law_looked.nd rfl (Or.inl rfl)) pgs_nil)))))
  (pss_one (ps_ret (pe_tup (pa_cons (pe_tup (pa_cons (pv 5) (pa_cons (pv 6) pa_nil))) (pa_cons (pv 7) (pa_cons (pv 8) pa_nil))))))) pss_nil)
  (pss_cons (ps_set (i := 9) sc_law_looked.nd rfl (Or.inl rfl) (pe_op op_mul (pe_dget (hu_of hr) (pv 1) pe_str (fun _ _ => rfl)) (pe_ix ix_tup (pv 2) pe_int (fun _ _ => rfl))))
  (pss_cons (ps_set (i := 10) sc_law_looked.nd rfl (Or.inl rfl) (pe_tup (pa_cons (pv 5) (pa_cons (pe_op op_fdivW (pv 9) (pe_op op_oneShl pe_int (pe_op op_sub (pv 4) (pe_ix ix_tup (pv 3) pe_int (fun _ _ => rfl))))) pa_nil))))
  (pss_cons (ps_set (i := 7) sc_law_looked.nd rfl (Or.inl rfl) (pe_f (ok_law_entry T) (hr.mono (by decide)) (by rfl) T.g_law_entry pass0 (pa_cons (pv 2) (pa_cons (pv 3) (pa_cons (pe_dget (hu_of hr) (pv 0) pe_str (fun _ _ => rfl)) (pa_cons (pv 10) pa_nil))))))
  (pss_cons (ps_if (pt_cmpR op_isN (pv 7) pe_non (nomark _)) (pss_one (ps_ret (pe_tup (pa_cons (pv 10) (pa_cons pe_non (pa_cons pe_non pa_nil)))))) pss_nil)
  (pss_cons (ps_set (i := 9) sc_law_looked.nd rfl (Or.inl rfl) (pe_op op_sub (pv 9) (pe_op op_mul (pv 7) (pe_dget (hu_of hr) (pv 1) pe_str (fun _ _ => rfl)))))
  (pss_cons (ps_if (pt_cmpR op_gt (pe_op op_mul (pe_op op_sub (pe_ix ix_tup (pv 2) pe_int (fun _ _ => rfl)) pe_int) (pe_callB (call_max2 rfl) (by rfl) T.b_max (by decide +kernel) (pa_cons (pv 9) (pa_cons (pe_op op_sub pe_int (pv 9)) pa_nil)))) (pe_op op_mul (pe_ix ix_tup (pv 2) pe_int (fun _ _ => rfl)) (pe_dget (hu_of hr) (pv 1) pe_str (fun _ _ => rfl))) (nomark _)) (pss_one (ps_ret (pe_tup (pa_cons (pv 10) (pa_cons pe_non (pa_cons pe_non pa_nil)))))) pss_nil)
  (pss_one (ps_ret (pe_tup (pa_cons (pv 10) (pa_cons (pv 7) (pa_cons (pv 9) pa_nil)))))))))))))))), ?_⟩)
  · obtain ⟨o, a, k, l, r, ws, sn, dn, i, c, T1, w, tab, e, rfl, _⟩ := h
    rfl
  · obtain ⟨o, a, k, l, r, ws, sn, dn, i, c, T1, w, tab, e, rfl, ho, hk, hl, hw, ok, ht, ft, hQ⟩ := h
    obtain ⟨n, f, sv1, ha, _, _, _, hs⟩ := hw
    have b8 := ok.b8
    have b2 := ok.b2
    have m1 := ok.m1
    have m7 := ok.m7
    have wd := ft.wd
    refine ⟨_, rfl, o, _, rfl, DGet.k (k := .inr "kind") ho, _, rfl, o, _, rfl, DGet.k (k := .inr "looks") ho, _, rfl, a, _, rfl, DGet.k (k := .inr "wide") ha, _, _, _, rfl, ?_⟩
    refine ⟨_, rfl, a, _, rfl, DGet.k (k := .inr "great") ha, ?_⟩
    refine ⟨_, rfl, _, rfl, _, _, _, _, rfl, rfl, Evl.st_of hl, rfl, _, _, rfl, rfl, w.wide - c.t, rfl, vsub ft.wt, by omega, ?_⟩
    refine ⟨_, _, rfl, rfl, div_pow _ (by omega), ?_⟩
    try dsimp only [L2.start, List.map, List.length_cons, List.length_nil, List.replicate, List.set, List.append, List.cons_append, List.nil_append]
    refine ⟨_, rfl, a, _, rfl, DGet.k (k := .inr "word") ha, rfl, _, rfl, ?_⟩
    have at2 := ft.at_
    have i22 := ft.i2
    cases er : w.rows with
    | true =>
      refine itT (c := V.str (wordOf true) = V.str "rows") rfl ?_
      unfold StandAt at hs
      rw [if_pos er] at hs
      obtain ⟨p0, rfl, hp0, _⟩ := hs
      have elk : w.lk c = lkR c w.wide w.sa w.sb := by unfold Wk.lk; rw [if_pos er]
      have ers : w.rs c = reR c w.wide w.sa w.sb := by unfold Wk.rs; rw [if_pos er]
      have est : w.stF c e = svF c w.great (reR c w.wide w.sa w.sb) e := by
        cases e with
        | none => rfl
        | some f =>
          show (if sv c f w.great (w.rs c) then some f else none) = _
          rw [ers]
          rfl
      rw [elk] at at2 i22
      refine ⟨_, rfl, _, rfl, _, rfl, o, _, rfl, DGet.k (k := .inr "table") ho, _, rfl, _, rfl, a, _, rfl, DGet.k (k := .inr "great") ha, _, rfl, a, _, rfl, DGet.k (k := .inr "stand") ha, ?_⟩
      refine ⟨⟨k, l, r, p0, w.wide, w.great, rfl, wd⟩, k, l, r, p0, c, tab, w.wide, w.great, _, _, e, rfl, Evl.st_of hk, Evl.st_of hl, ok, ht, Evl.st_of hp0, Nat.le_trans wd (by decide), ft.wt, ft.wp, ft.i1, i22, at2, ft.fb, fun H1 r1 sv' e1 h1 hst => ?_⟩
      refine ⟨r1, _, rfl, Evl.st_of h1, rfl, _, _, rfl, _, _, rfl, _, _, rfl, rfl, ?_⟩
      try dsimp only [L2.start, List.map, List.length_cons, List.length_nil, List.replicate, List.set, List.append, List.cons_append, List.nil_append]
      refine ⟨_, rfl, _, rfl, ?_⟩
      refine ⟨by show 2 ≤ sizeLine; decide, fun cl hcl => ?_⟩
      try dsimp only
      generalize gH2 : upd H1 cl (.tup [.int (w.great / 2 ^ (w.wide - c.t)), .int (lkR c w.wide w.sa w.sb)]) = H2
      have eH2 : Evl.Ex H1 H2 := by rw [← gH2]; exact Evl.Ex.new hcl
      have oH2 : H2 cl = some (.tup [.int (w.great / 2 ^ (w.wide - c.t)), .int (lkR c w.wide w.sa w.sb)]) := by rw [← gH2]; exact upd_same
      refine ⟨_, rfl, _, rfl, ?_⟩
      refine ⟨by show 3 ≤ sizeLine; decide, fun q hq => ?_⟩
      try dsimp only
      generalize gH3 : upd H2 q (.tup [.ref cl, cv (svF c w.great (reR c w.wide w.sa w.sb) e), sv']) = H3
      have eH3 : Evl.Ex H2 H3 := by rw [← gH3]; exact Evl.Ex.new hq
      have oH3 : H3 q = some (.tup [.ref cl, cv (svF c w.great (reR c w.wide w.sa w.sb) e), sv']) := by rw [← gH3]; exact upd_same
      refine hQ H3 q cl sv' ((e1.trans eH2).trans eH3) (by rw [est]; exact oH3) (by rw [elk]; exact eH3 _ _ oH2) fun g hg => ?_
      rw [est] at hg
      obtain ⟨q2, z1, z2, z3⟩ := hst g hg
      unfold StandN
      rw [if_pos (show (w.nxt c g).rows = true from er)]
      refine ⟨q2, z1, z2, ?_⟩
      show H3 q2 = some (.tup [.int (if w.rows = true then _ else _), .int (if w.rows = true then _ else _)])
      rw [if_pos er, if_pos er]
      exact eH3 _ _ (eH2 _ _ z3)
    | false =>
      refine itF (c := V.str (wordOf false) = V.str "rows") (by decide) ?_
      have hsv : sv1 = .int w.sa := by
        unfold StandAt at hs
        rw [if_neg (by rw [er]; decide)] at hs
        exact hs
      subst hsv
      have elk : w.lk c = w.sa * c.base / 2 ^ (w.wide - c.p) := by unfold Wk.lk; rw [if_neg (by rw [er]; decide)]
      have ers : w.rs c = w.sa * c.base := by unfold Wk.rs; rw [if_neg (by rw [er]; decide)]
      rw [elk] at at2 i22
      refine ⟨_, rfl, a, _, rfl, DGet.k (k := .inr "stand") ha, _, rfl, _, _, _, _, rfl, rfl, Evl.st_of hk, rfl, _, _, rfl, rfl, .inr ⟨by omega, by omega⟩, ?_⟩
      refine ⟨_, rfl, _, rfl, _, rfl, _, rfl, _, _, _, _, rfl, rfl, Evl.st_of hl, rfl, _, _, rfl, rfl, w.wide - c.p, rfl, vsub ft.wp, by omega, ?_⟩
      refine ⟨_, _, rfl, rfl, div_pow _ (by omega), ?_⟩
      refine ⟨by show 2 ≤ sizeLine; decide, fun cl hcl => ?_⟩
      try dsimp only
      generalize gH1 : upd H cl (.tup [.int (w.great / 2 ^ (w.wide - c.t)), .int (w.sa * c.base / 2 ^ (w.wide - c.p))]) = H1
      have eH1 : Evl.Ex H H1 := by rw [← gH1]; exact Evl.Ex.new hcl
      have oH1 : H1 cl = some (.tup [.int (w.great / 2 ^ (w.wide - c.t)), .int (w.sa * c.base / 2 ^ (w.wide - c.p))]) := by rw [← gH1]; exact upd_same
      try dsimp only [L2.start, List.map, List.length_cons, List.length_nil, List.replicate, List.set, List.append, List.cons_append, List.nil_append]
      refine ⟨_, rfl, _, rfl, _, rfl, o, _, rfl, DGet.k (k := .inr "table") (eH1 _ _ ho), _, rfl, ?_⟩
      refine ⟨k, l, r, cl, c, tab, _, _, e, rfl, Evl.ex_t eH1 (Evl.st_of hk), Evl.ex_t eH1 (Evl.st_of hl), ok, ht.ex eH1, Evl.st_of oH1, ft.i1, i22, at2, fun H2 e2 => ?_⟩
      have e12 := eH1.trans e2
      have hcl : ∀ H', Evl.Ex H2 H' → H' cl = some (.tup [.int (w.tp c), .int (w.lk c)]) := fun H' e' => by
        rw [elk]
        exact e' _ _ (e2 _ _ oH1)
      try dsimp only [L2.start, List.map, List.length_cons, List.length_nil, List.replicate, List.set, List.append, List.cons_append, List.nil_append]
      refine ⟨_, rfl, rfl, _, rfl, ?_⟩
      cases e with
      | none =>
        refine itT (c := cv none = V.non) rfl ?_
        refine ⟨_, rfl, ?_⟩
        refine ⟨by show 3 ≤ sizeLine; decide, fun q hq => ?_⟩
        try dsimp only
        generalize gH3 : upd H2 q (.tup [.ref cl, .non, .non]) = H3
        have eH3 : Evl.Ex H2 H3 := by rw [← gH3]; exact Evl.Ex.new hq
        have oH3 : H3 q = some (.tup [.ref cl, .non, .non]) := by rw [← gH3]; exact upd_same
        exact hQ H3 q cl _ (e12.trans eH3) oH3 (hcl _ eH3) fun f z => (nomatch z)
      | some f =>
        obtain ⟨f1, f2⟩ := ft.fb f rfl
        refine itF (c := cv (some f) = V.non) (fun z => nomatch z) ?_
        refine ⟨_, rfl, _, rfl, _, rfl, a, _, rfl, DGet.k (k := .inr "great") (e12 _ _ ha), _, _, rfl, rfl, .inl ⟨by omega, by omega⟩, _, _, rfl, rfl, ?_⟩
        try dsimp only [L2.start, List.map, List.length_cons, List.length_nil, List.replicate, List.set, List.append, List.cons_append, List.nil_append]
        refine ⟨_, rfl, _, _, _, _, rfl, rfl, Evl.st_of (e12 _ _ hk), rfl, _, _, rfl, rfl, _, rfl, _, rfl, _, _, rfl, rfl, _, _, rfl, ?_⟩
        refine ⟨_, _, rfl, rfl, .inl ⟨by omega, by omega⟩, _, rfl, _, _, _, _, rfl, rfl, Evl.st_of (e12 _ _ hk), rfl, _, rfl, a, _, rfl, DGet.k (k := .inr "great") (e12 _ _ ha), _, _, rfl, rfl, .inl ⟨by omega, by omega⟩, _, _, rfl, rfl, _, rfl, ?_⟩
        have em := ab_max (w.sa * c.base - f * w.great)
        refine itD (fun h1 => ?_) (fun h1 => ?_)
        · have hs2 : ¬ sv c f w.great (w.rs c) := fun z => by
            unfold sv at z
            rw [ers] at z
            have h2 : c.m * w.great < (c.base - 1) * (if 0 - (w.sa * c.base - f * w.great) > w.sa * c.base - f * w.great then 0 - (w.sa * c.base - f * w.great) else w.sa * c.base - f * w.great) := h1
            rw [em] at h2
            omega
          have est : w.stF c (some f) = none := by unfold Wk.stF; exact if_neg hs2
          refine ⟨_, rfl, ?_⟩
          refine ⟨by show 3 ≤ sizeLine; decide, fun q hq => ?_⟩
          try dsimp only
          generalize gH3 : upd H2 q (.tup [.ref cl, .non, .non]) = H3
          have eH3 : Evl.Ex H2 H3 := by rw [← gH3]; exact Evl.Ex.new hq
          have oH3 : H3 q = some (.tup [.ref cl, .non, .non]) := by rw [← gH3]; exact upd_same
          exact hQ H3 q cl _ (e12.trans eH3) (by rw [est]; exact oH3) (hcl _ eH3) fun f z => by rw [est] at z; cases z
        · have hs2 : sv c f w.great (w.rs c) := by
            unfold sv
            rw [ers]
            have h2 : ¬ c.m * w.great < (c.base - 1) * (if 0 - (w.sa * c.base - f * w.great) > w.sa * c.base - f * w.great then 0 - (w.sa * c.base - f * w.great) else w.sa * c.base - f * w.great) := h1
            rw [em] at h2
            omega
          have est : w.stF c (some f) = some f := by unfold Wk.stF; exact if_pos hs2
          refine ⟨_, rfl, _, rfl, _, rfl, ?_⟩
          refine ⟨by show 3 ≤ sizeLine; decide, fun q hq => ?_⟩
          try dsimp only
          generalize gH3 : upd H2 q (.tup [.ref cl, cv (some f), .int (w.sa * c.base - f * w.great)]) = H3
          have eH3 : Evl.Ex H2 H3 := by rw [← gH3]; exact Evl.Ex.new hq
          have oH3 : H3 q = some (.tup [.ref cl, cv (some f), .int (w.sa * c.base - f * w.great)]) := by rw [← gH3]; exact upd_same
          refine hQ H3 q cl (.int (w.sa * c.base - f * w.great)) (e12.trans eH3) (by rw [est]; exact oH3) (hcl _ eH3) fun g z => ?_
          rw [est] at z
          cases z
          unfold StandN
          rw [if_neg (by show ¬ w.rows = true; rw [er]; decide)]
          show V.int _ = V.int (if w.rows = true then _ else _)
          rw [if_neg (by rw [er]; decide)]
end SF
end
section
set_option Elab.async false
set_option linter.all false
set_option maxRecDepth 100000
set_option maxHeartbeats 4000000
namespace SF
open PySem PySem.Spec PyProof.Rows L2
/-! ### _law_gone -/
def spGone (K : PySem.W.Frag) : Sp := fun vs H Q E => ∃ (b : Addr) (n : Int) (c : Kd) (T1 : TT1) (S : Sta), vs = [.ref b, .int n] ∧ TgOk T1 H ∧ OwnAt c T1 H b S ∧ c.Ok ∧ SeenP S.seen ∧ S.seen.length < 100000 ∧ S.deeds.length < 100000 ∧
  (¬ inR n S.works.length → Q (.str "NoWork+") H) ∧
  ∀ w, inR n S.works.length → S.works[n.toNat]? = some w → (w.left = 0 → NewT H [.str "done"] Q) ∧ (w.left ≠ 0 → w.figs.length < 100000 ∧ ∃ e, Fit c S.tab w e ∧
    (w.stF c e = none → ∀ (H' : Hp) (r : Addr), Go (pB 2) T1 H T1 H' → OwnAt c T1 H' b (S.saw c w n) → H r = none → H' r = some (.tup [.str "spoilt", .int (w.tp c), .int (w.lk c)]) → Q (.ref r) H') ∧
    (∀ f, w.stF c e = some f → ∀ (H' : Hp) (r : Addr), Go (pB 2) T1 H T1 H' → OwnAt c T1 H' b (S.fwd c n.toNat w n f) → H r = none → H' r = some (.tup [.str "figure", .int f]) → Q (.ref r) H'))
theorem merge_w {n f g : Addr} {sv sv' : V} {w : Wk} {l : V} : mergeK (wDict n f sv w) [(.inr "stand", sv'), (.inr "left", l), (.inr "row", .ref g)] =
    [(.inr "word", .str (wordOf w.rows)), (.inr "numbers", .ref n), (.inr "left", l), (.inr "row", .ref g), (.inr "wide", .int (w.wide : Nat)), (.inr "great", .int w.great), (.inr "stand", sv')] := rfl
theorem sc_law_gone : FnScope ["own", "number", "work", "cell", "figure", "behind"] ["own", "number"] (defScope s_law_gone) := ⟨rfl, rfl, rfl, by decide +kernel, rfl, by decide +kernel, by decide +kernel⟩
theorem ok_law_gone {P : Program} {w : World} {K : PySem.W.Frag} {mg : Str → Option Value} {base : Heap} (T : Fx K mg) : FnX P w K mg base CX0 5 (He.ga K "_law_gone") ["own", "number"] (spGone K) := by
  refine fx_of T.d_law_gone sc_law_gone (fun _ _ _ _ _ _ us hl => match us, hl with | [_, _], _ => rfl) (fun vs H Q E h => ?_) (fun cdv A outer s H vs Q E hr h => ⟨_, PSs.nox ((pss_cons (ps_if (pt_not (pt_chain op_le op_lt pe_int (pv 1) (pe_callB call_len_seq (by rfl) T.b_len (by decide +kernel) (pa_cons (pe_dget (hu_of hr) (pv 0) pe_str (fun _ _ => rfl)) pa_nil)))) (pss_one (ps_ret pe_str)) pss_nil)
  (pss_cons (ps_set (i := 2) sc_law_gone.nd rfl (Or.inl rfl) (pe_ix ix_list (pe_dget (hu_of hr) (pv 0) pe_str (fun _ _ => rfl)) (pv 1) (fun _ _ => rfl)))
  (pss_cons (ps_if (pt_cmpR op_eq (pe_dget (hu_of hr) (pv 2) pe_str (fun _ _ => rfl)) pe_int (nomark _)) (pss_one (ps_ret (pe_tup (pa_cons pe_str pa_nil)))) pss_nil)
  (pss_cons (ps_asg (pe_f (ok_law_looked T) hr (by rfl) T.g_law_looked pass0 (pa_cons (pv 0) (pa_cons (pv 2) pa_nil))) (pg_tup rfl (pgs_cons (pg_name (i := 3) sc_law_gone.nd rfl (Or.inl rfl)) (pgs_cons (pg_name (i := 4) sc_law_gone.nd rfl (Or.inl rfl)) (pgs_cons (pg_name (i := 5) sc_law_gone.nd rfl (Or.inl rfl)) pgs_nil)))))
  (pss_cons (ps_dput (hu_of hr) (pe_dget (hu_of hr) (pv 0) pe_str (fun _ _ => rfl)) (pv 3) (pe_op op_add (pe_dget2 (hu_of hr) (pe_dget (hu_of hr) (pv 0) pe_str (fun _ _ => rfl)) (pv 3) pe_int ⟨rfl, rfl, rfl, rfl⟩) pe_int) rfl)
  (pss_cons (ps_expr (pe_bm PySem.F.plainAttrs_list PySem.F.slot_list_append PySem.F.type_list_append mt_append (pe_dget (hu_of hr) (pv 0) pe_str (fun _ _ => rfl)) (pa_cons (pe_tup (pa_cons pe_str (pa_cons (pv 1) pa_nil))) pa_nil)))
  (pss_cons (ps_if (pt_cmpR op_isN (pv 4) pe_non (nomark _)) (pss_one (ps_ret (pe_tup (pa_cons pe_str (pa_cons (pe_ix ix_tup (pv 3) pe_int (fun _ _ => rfl)) (pa_cons (pe_ix ix_tup (pv 3) pe_int (fun _ _ => rfl)) pa_nil)))))) pss_nil)
  (pss_cons (ps_expr (SF.pe_dupd (pv 2) (pe_disp (pps_cons pe_str (pv 5) (pps_cons pe_str (pe_op op_sub (pe_dget (hu_of hr) (pv 2) pe_str (fun _ _ => rfl)) pe_int) (pps_cons pe_str (pe_op op_cat (pe_dget (hu_of hr) (pv 2) pe_str (fun _ _ => rfl)) (pe_lst (pa_cons (pv 4) pa_nil))) pps_nil))) (by rfl) (by rfl) (fun z => by cases z) (by decide)) ⟨rfl, rfl, rfl, rfl⟩))
  (pss_one (ps_ret (pe_tup (pa_cons pe_str (pa_cons (pv 4) pa_nil)))))))))))))), ?_⟩)
  · obtain ⟨b, n, c, T1, S, rfl, _⟩ := h
    rfl
  · obtain ⟨b, n, c, T1, S, rfl, tg, hB, ok, hS, hz, hz2, hE, hW⟩ := h
    obtain ⟨k, l, rr, ws, sn, dn, ⟨ho, tb⟩, hkl, hrows, hworks, hseen, hdeeds⟩ := id hB
    obtain ⟨as, w1, w2, w3, w4⟩ := id hworks
    have ndec : ∀ z : Nat, z < 100000 → z < sizeLine := fun z hz => Nat.lt_of_lt_of_le hz (by decide)
    refine ⟨_, rfl, _, _, rfl, rfl, _, rfl, ?_⟩
    refine itD (fun h0 => ?_) (fun h0 => ⟨_, rfl, hE fun z => h0 z.1⟩)
    refine ⟨_, rfl, b, _, rfl, DGet.k (k := .inr "works") ho, ws, _, rfl, .inl (Evl.sq_of w1), ?_⟩
    refine ⟨_, _, rfl, rfl, _, rfl, ?_⟩
    rw [List.length_map, w3]
    refine itN (fun h1 => ?_) (fun h1 => hE fun z => h1 z.2)
    have hlt : n.toNat < as.length := by omega
    have ha0 : as[n.toNat]? = some as[n.toNat] := List.getElem?_eq_getElem hlt
    have g1 : S.works[n.toNat]? = some S.works[n.toNat] := List.getElem?_eq_getElem (by omega)
    generalize as[n.toNat] = a at ha0
    generalize S.works[n.toNat] = w at g1
    have g2 := w4 _ _ _ ha0 g1
    obtain ⟨hW0, hW1⟩ := hW w ⟨h0, h1⟩ g1
    obtain ⟨n2, f2, sv2, ha, ta, hn2, ⟨hf2, tf2⟩, hst⟩ := id g2
    obtain ⟨⟨hk, tk⟩, hl2, tl2⟩ := id hkl
    refine ⟨_, rfl, b, _, rfl, DGet.k (k := .inr "works") ho, _, rfl, ws, _, _, _, rfl, rfl, Evl.sq_of w1, atI_of h0 (by rw [List.getElem?_map, ha0]; rfl), ?_⟩
    refine ⟨_, rfl, a, _, rfl, DGet.k (k := .inr "left") ha, rfl, _, rfl, ?_⟩
    refine itD (fun h0 => ?_) (fun h0 => ?_)
    · have hl : w.left = 0 := by have := v_int h0; omega
      refine ⟨by show 1 ≤ sizeLine; decide, fun q hq => ?_⟩
      try dsimp only
      generalize gH1 : upd H q (.tup [.str "done"]) = H1
      have eH1 : Evl.Ex H H1 := by rw [← gH1]; exact Evl.Ex.new hq
      have oH1 : H1 q = some (.tup [.str "done"]) := by rw [← gH1]; exact upd_same
      exact hW0 hl H1 q eH1 hq oH1
    · have hl : w.left ≠ 0 := fun z => h0 (by rw [z]; rfl)
      obtain ⟨hfl, e, ft, hN, hF⟩ := hW1 hl
      refine ⟨_, rfl, _, rfl, ?_⟩
      refine ⟨b, a, k, l, rr, ws, sn, dn, n.toNat, c, T1, w, S.tab, e, rfl, ho, hk, hl2, g2, ok, hrows.tabR, ft, fun H1 q cl sv' e1 h1 hcl hsv => ?_⟩
      refine ⟨q, _, rfl, Evl.st_of h1, rfl, _, _, rfl, _, _, rfl, _, _, rfl, rfl, ?_⟩
      try dsimp only [L2.start, List.map, List.length_cons, List.length_nil, List.replicate, List.set, List.append, List.cons_append, List.nil_append]
      refine ⟨_, rfl, b, _, rfl, DGet.k (k := .inr "seen") (e1 _ _ ho), sn, rfl, .inr ⟨_, .inl (e1 _ _ hseen.1)⟩, _, rfl, _, DGet.t (k := ckey (w.tp c, w.lk c)) (e1 _ _ hseen.1) hcl, ?_⟩
      refine ⟨cntv S.seen (w.tp c, w.lk c), 1, hS.val _, rfl, ?_⟩
      refine ⟨_, rfl, b, _, rfl, DGet.k (k := .inr "seen") (e1 _ _ ho), _, rfl, sn, _, rfl, DPut.t (k := ckey (w.tp c, w.lk c)) (e1 _ _ hseen.1) hcl (ndec _ hz), ?_⟩
      try dsimp only
      have tg1 : TgOk T1 H1 := tg.gr (Gr.ex e1)
      have gA1 : Go (fun t => t = .sn false) T1 H T1 (upd H1 sn (.dT (putK S.seen (ckey (w.tp c, w.lk c)) (.int (cntv S.seen (w.tp c, w.lk c) + 1))))) := (Go.ex e1).trans (Go.upd hseen.2)
      have oS2 : (upd H1 sn (.dT (putK S.seen (ckey (w.tp c, w.lk c)) (.int (cntv S.seen (w.tp c, w.lk c) + 1))))) sn = some (.dT (bump S.seen (w.tp c, w.lk c))) := upd_same
      have kp2 : ∀ z o, H1 z = some o → z ≠ sn → (upd H1 sn (.dT (putK S.seen (ckey (w.tp c, w.lk c)) (.int (cntv S.seen (w.tp c, w.lk c) + 1))))) z = some o := fun z o hz1 hz2 => by rw [upd_ne hz2]; exact hz1
      generalize upd H1 sn (.dT (putK S.seen (ckey (w.tp c, w.lk c)) (.int (cntv S.seen (w.tp c, w.lk c) + 1)))) = H2 at gA1 oS2 kp2 ⊢
      have hb2 := (gA1.at ho (by rw [tb]; exact fun z => nomatch z)).1
      have hd2 : DeedsAt false T1 H2 dn S.deeds := hdeeds.go gA1 (fun z => nomatch z) (fun z => nomatch z)
      obtain ⟨das, hd21, hd22, _⟩ := id hd2
      refine ⟨_, rfl, b, _, rfl, DGet.k (k := .inr "deeds") hb2, .inl ⟨rfl, _, Evl.sq_of hd21⟩, _, rfl, ?_⟩
      refine ⟨by show 2 ≤ sizeLine; decide, fun q2 hq2 => ?_⟩
      try dsimp only
      generalize gH3 : upd H2 q2 (.tup [.str "step", .int n]) = H3
      have eH3 : Evl.Ex H2 H3 := by rw [← gH3]; exact Evl.Ex.new hq2
      have oH3 : H3 q2 = some (.tup [.str "step", .int n]) := by rw [← gH3]; exact upd_same
      have gA3 := gA1.trans (Go.ex (p := fun t => t = .sn false) (T := T1) eH3)
      have tq2 : T1 q2 = .no := (tg.gr gA1.gr) q2 hq2
      obtain ⟨xs, hx3, hxl, hd4⟩ := (hdeeds.go gA3 (fun z => nomatch z) (fun z => nomatch z)).app (d := .step n) oH3 tq2
      refine ⟨dn, _, _, rfl, rfl, hx3, by rw [hxl]; exact ndec _ hz2, ?_⟩
      have gB4 : Go (fun t => t = .sn false ∨ t = .dn false) T1 H T1 (upd H3 dn (.lst (xs ++ [.ref q2]))) := (gA3.mono fun t z => .inl z).trans (Go.upd (.inr hd22))
      have kp4 : ∀ z ys, H3 z = some (.tup ys) → (upd H3 dn (.lst (xs ++ [.ref q2]))) z = some (.tup ys) := fun z ys hz1 => by
        rw [upd_ne fun w => ?_]
        · exact hz1
        · rw [w, hx3] at hz1
          cases hz1
      have oS4 : (upd H3 dn (.lst (xs ++ [.ref q2]))) sn = some (.dT (bump S.seen (w.tp c, w.lk c))) := by
        rw [upd_ne fun w => ?_]
        · exact eH3 _ _ oS2
        · rw [w] at oS2
          rw [hd21] at oS2
          cases oS2
      try dsimp only
      generalize upd H3 dn (.lst (xs ++ [.ref q2])) = H4 at hd4 gB4 kp4 oS4 ⊢
      have kt : ∀ z ys, H1 z = some (.tup ys) → H4 z = some (.tup ys) := fun z ys hz1 => kp4 z ys (eH3 _ _ (kp2 z _ hz1 fun w => by
        rw [w, e1 _ _ hseen.1] at hz1
        cases hz1))
      have n0 : ¬ ((fun t => t = Tg.sn false ∨ t = .dn false) Tg.no) := fun z => by rcases z with z | z <;> cases z
      have hS4 : SeenAt false T1 H4 sn (bump S.seen (w.tp c, w.lk c)) := ⟨oS4, hseen.2⟩
      refine ⟨_, rfl, rfl, _, rfl, ?_⟩
      cases e2 : w.stF c e with
      | none =>
        refine itT (c := cv none = V.non) rfl ?_
        refine ⟨_, rfl, _, _, _, _, rfl, rfl, Evl.st_of (kt cl _ hcl), rfl, ?_⟩
        refine ⟨_, rfl, _, _, _, _, rfl, rfl, Evl.st_of (kt cl _ hcl), rfl, ?_⟩
        refine ⟨by show 3 ≤ sizeLine; decide, fun q5 hq5 => ?_⟩
        try dsimp only
        generalize gH5 : upd H4 q5 (.tup [.str "spoilt", .int (w.tp c), .int (w.lk c)]) = H5
        have eH5 : Evl.Ex H4 H5 := by rw [← gH5]; exact Evl.Ex.new hq5
        have oH5 : H5 q5 = some (.tup [.str "spoilt", .int (w.tp c), .int (w.lk c)]) := by rw [← gH5]; exact upd_same
        have g5 := gB4.trans (Go.ex (p := fun t => t = Tg.sn false ∨ t = .dn false) (T := T1) eH5)
        have g45 : Go (fun _ => False) T1 H4 T1 H5 := Go.ex eH5
        have no : ∀ t : Tg, t ≠ .sn false → t ≠ .dn false → ¬ (t = Tg.sn false ∨ t = .dn false) := fun t h1 h2 z => z.elim h1 h2
        refine hN e2 H5 q5 (g5.mono fun t z => by rcases z with z | z <;> rw [z] <;> rfl) ⟨k, l, rr, ws, sn, dn, noAt g5 n0 ⟨ho, tb⟩, hkl.go g5 n0, hrows.go g5 n0 fun i => no _ (fun z => nomatch z) (fun z => nomatch z),
          hworks.go g5 (no _ (fun z => nomatch z) (fun z => nomatch z)) fun i a w h => h.go g5 n0 (no _ (fun z => nomatch z) (fun z => nomatch z)), hS4.go g45 (fun z => z), hd4.go g45 (fun z => z) (fun z => z)⟩ (gB4.gr q5 hq5) oH5
      | some f =>
        refine itF (c := cv (some f) = V.non) (fun z => nomatch z) ?_
        try dsimp only [L2.start, List.map, List.length_cons, List.length_nil, List.replicate, List.set, List.append, List.cons_append, List.nil_append]
        have ha4 := (gB4.at ha (by rw [ta]; exact fun z => by rcases z with z | z <;> cases z)).1
        have hf4 := (gB4.at hf2 (by rw [tf2]; exact fun z => by rcases z with z | z <;> cases z)).1
        have hst4 : StandAt T1 H4 sv' (w.nxt c f) := by
          have z := hsv f e2
          unfold StandN at z
          unfold StandAt
          split at z
          · rename_i hz0
            rw [if_pos hz0]
            obtain ⟨p0, z1, z2, z3⟩ := z
            exact ⟨p0, z1, kt _ _ z3, tg p0 z2⟩
          · rename_i hz0
            rw [if_neg hz0]
            exact z
        refine ⟨_, rfl, a, rfl, .inl ⟨_, .inl ha4⟩, fun p hp => ?_⟩
        have e5 : Evl.Ex H4 (upd H4 p (.dK [])) := Evl.Ex.new hp
        have op5 : (upd H4 p (.dK [])) p = some (.dK []) := upd_same
        try dsimp only
        generalize upd H4 p (.dK []) = H5 at e5 op5 ⊢
        refine ⟨_, rfl, ?_⟩
        refine ⟨_, rfl, a, _, rfl, DGet.k (k := .inr "left") (e5 _ _ ha4), _, _, rfl, rfl, ?_⟩
        refine ⟨_, rfl, a, _, rfl, DGet.k (k := .inr "row") (e5 _ _ ha4), _, rfl, ?_⟩
        refine ⟨by show 1 ≤ sizeLine; decide, fun q6 hq6 => ?_⟩
        try dsimp only
        generalize gH6 : upd H5 q6 (.lst [cv (some f)]) = H6
        have eH6 : Evl.Ex H5 H6 := by rw [← gH6]; exact Evl.Ex.new hq6
        have oH6 : H6 q6 = some (.lst [cv (some f)]) := by rw [← gH6]; exact upd_same
        refine ⟨f2, q6, _, _, rfl, rfl, eH6 _ _ (e5 _ _ hf4), oH6, by rw [List.length_map]; exact Nat.le_of_lt (Nat.lt_of_lt_of_le (Nat.lt_of_lt_of_le (by show w.figs.length + 1 < 100001; omega) (by decide : 100001 ≤ 100001)) (by decide)), fun q7 hq7 => ?_⟩
        have e7 : Evl.Ex H6 (upd H6 q7 (.lst (w.figs.map V.int ++ [cv (some f)]))) := Evl.Ex.new hq7
        have oq7 : (upd H6 q7 (.lst (w.figs.map V.int ++ [cv (some f)]))) q7 = some (.lst ((w.nxt c f).figs.map V.int)) := by
          rw [upd_same]
          show some (HO.lst _) = some (HO.lst ((w.figs ++ [f]).map V.int))
          rw [List.map_append]
          rfl
        try dsimp only
        generalize upd H6 q7 (.lst (w.figs.map V.int ++ [cv (some f)])) = H7 at e7 oq7 ⊢
        have e47 := (e5.trans eH6).trans e7
        refine ⟨e7 _ _ (eH6 _ _ op5), [(.inr "stand", sv'), (.inr "left", .int (((w.left : Nat) : Int) - 1)), (.inr "row", .ref q7)], rfl, by show 3 ≤ 15; decide, ?_⟩
        have nap : a ≠ p := fun z => by rw [← z, ha4] at hp; cases hp
        have e8 : ExX p H7 (upd H7 p (.dK (mergeK [] [(.inr "stand", sv'), (.inr "left", .int (((w.left : Nat) : Int) - 1)), (.inr "row", .ref q7)]))) := ExX.at
        have e48 : Evl.Ex H4 (upd H7 p (.dK (mergeK [] [(.inr "stand", sv'), (.inr "left", .int (((w.left : Nat) : Int) - 1)), (.inr "row", .ref q7)]))) := e47.mut hp
        have op8 : (upd H7 p (.dK (mergeK [] [(.inr "stand", sv'), (.inr "left", .int (((w.left : Nat) : Int) - 1)), (.inr "row", .ref q7)]))) p = some (.dK [(.inr "stand", sv'), (.inr "left", .int (((w.left : Nat) : Int) - 1)), (.inr "row", .ref q7)]) := upd_same
        try dsimp only
        generalize upd H7 p (.dK (mergeK [] [(.inr "stand", sv'), (.inr "left", .int (((w.left : Nat) : Int) - 1)), (.inr "row", .ref q7)])) = H8 at e8 e48 op8 ⊢
        refine ⟨p, _, _, rfl, nap, e48 _ _ ha4, op8, by show 7 + 3 ≤ sizeLine; decide, ?_⟩
        have nqp : q7 ≠ p := fun z => by rw [z, eH6 _ _ op5] at hq7; cases hq7
        have oq8 := e8 _ _ nqp oq7
        rw [merge_w]
        have ha9 : (upd H8 a (.dK [(.inr "word", .str (wordOf w.rows)), (.inr "numbers", .ref n2), (.inr "left", .int (((w.left : Nat) : Int) - 1)), (.inr "row", .ref q7), (.inr "wide", .int (w.wide : Nat)), (.inr "great", .int w.great), (.inr "stand", sv')])) a = some (.dK (wDict n2 q7 sv' (w.nxt c f))) := by
          rw [upd_same, vsub1 (by omega)]
          rfl
        have g9 : Go (fun t => t = .wk false n.toNat) T1 H4 T1 (upd H8 a (.dK [(.inr "word", .str (wordOf w.rows)), (.inr "numbers", .ref n2), (.inr "left", .int (((w.left : Nat) : Int) - 1)), (.inr "row", .ref q7), (.inr "wide", .int (w.wide : Nat)), (.inr "great", .int w.great), (.inr "stand", sv')])) := (Go.ex e48).trans (Go.upd ta)
        have oq9 : (upd H8 a (.dK [(.inr "word", .str (wordOf w.rows)), (.inr "numbers", .ref n2), (.inr "left", .int (((w.left : Nat) : Int) - 1)), (.inr "row", .ref q7), (.inr "wide", .int (w.wide : Nat)), (.inr "great", .int w.great), (.inr "stand", sv')])) q7 = some (.lst ((w.nxt c f).figs.map V.int)) := by
          have nf : q7 ≠ a := fun z => by rw [z, e48 _ _ ha4] at oq8; cases oq8
          rw [upd_ne nf]
          exact oq8
        try dsimp only
        generalize upd H8 a (.dK [(.inr "word", .str (wordOf w.rows)), (.inr "numbers", .ref n2), (.inr "left", .int (((w.left : Nat) : Int) - 1)), (.inr "row", .ref q7), (.inr "wide", .int (w.wide : Nat)), (.inr "great", .int w.great), (.inr "stand", sv')]) = H9 at ha9 g9 oq9 ⊢
        refine ⟨_, rfl, ?_⟩
        refine ⟨by show 2 ≤ sizeLine; decide, fun q8 hq8 => ?_⟩
        try dsimp only
        generalize gH10 : upd H9 q8 (.tup [.str "figure", cv (some f)]) = H10
        have eH10 : Evl.Ex H9 H10 := by rw [← gH10]; exact Evl.Ex.new hq8
        have oH10 : H10 q8 = some (.tup [.str "figure", cv (some f)]) := by rw [← gH10]; exact upd_same
        have tq7 : T1 q7 = .no := tg q7 (gB4.gr _ (Evl.fresh_back (e5.trans eH6) hq7))
        have g8 := g9.trans (Go.ex (p := fun t => t = Tg.wk false n.toNat) (T := T1) eH10)
        have gAll : Go (fun t => (t = Tg.sn false ∨ t = .dn false) ∨ t = .wk false n.toNat) T1 H T1 H10 := (gB4.mono fun t z => .inl z).trans (g8.mono fun t z => .inr z)
        have no : ∀ t : Tg, t ≠ .sn false → t ≠ .dn false → t ≠ .wk false n.toNat → ¬ ((t = Tg.sn false ∨ t = .dn false) ∨ t = .wk false n.toNat) := fun t h1 h2 h3 z => z.elim (fun z => z.elim h1 h2) h3
        have n0' := no .no (fun z => nomatch z) (fun z => nomatch z) (fun z => nomatch z)
        have n0'' : ¬ (Tg.no = .wk false n.toNat) := fun z => nomatch z
        refine hF f e2 H10 q8 (gAll.mono fun t z => by rcases z with (z | z) | z <;> rw [z] <;> rfl) ⟨k, l, rr, ws, sn, dn, noAt gAll n0' ⟨ho, tb⟩, hkl.go gAll n0', hrows.go gAll n0' fun i => no _ (fun z => nomatch z) (fun z => nomatch z) (fun z => nomatch z), ?_,
          hS4.go g8 (fun z => nomatch z), hd4.go g8 n0'' (fun z => nomatch z)⟩ (gB4.gr _ (g9.gr _ hq8)) oH10
        have b1 := (gAll.at w1 (by rw [w2]; exact no _ (fun z => nomatch z) (fun z => nomatch z) (fun z => nomatch z))).1
        refine ⟨as, b1, w2, by rw [w3]; exact (List.length_set ..).symm, fun i b' w' h2 h3 => ?_⟩
        have hi0 := (List.getElem?_eq_some_iff.mp g1).1
        by_cases ei : n.toNat = i
        · have e3 : (S.works.set n.toNat (w.nxt c f))[i]? = some w' := h3
          rw [← ei, List.getElem?_set_self hi0] at e3
          cases e3
          rw [← ei, ha0] at h2
          cases h2
          rw [← ei]
          exact ⟨n2, q7, sv', eH10 _ _ ha9, ta, noAt gAll n0' hn2, ⟨eH10 _ _ oq9, tq7⟩, hst4.go g8 n0''⟩
        · have e3 : (S.works.set n.toNat (w.nxt c f))[i]? = some w' := h3
          rw [List.getElem?_set_ne ei] at e3
          exact (w4 i b' w' h2 e3).go gAll n0' (no _ (fun z => nomatch z) (fun z => nomatch z) (fun z => ei (by injection z with _ z; exact z.symm)))
end SF
end
section
set_option Elab.async false
set_option linter.all false
set_option maxRecDepth 100000
set_option maxHeartbeats 4000000
namespace SF
open PySem PySem.Spec PyProof.Rows L2
theorem sc_law_whole : FnScope ["thing"] ["thing"] (defScope s_law_whole) := ⟨rfl, rfl, rfl, by decide +kernel, rfl, by decide +kernel, by decide +kernel⟩
theorem ok_law_whole {P : Program} {w : World} {K : PySem.W.Frag} {mg : Str → Option Value} {base : Heap} (T : Fx K mg) : FnX P w K mg base CX0 1 (He.ga K "_law_whole") ["thing"] (spWhole K) := by
  refine fx_of T.d_law_whole sc_law_whole (fun _ _ _ _ _ _ us hl => match us, hl with | [_], _ => rfl) (fun vs H Q E h => ?_) (fun cdv A outer s H vs Q E hr h => ⟨_, PSs.nox ((pss_one (ps_ret (pe_and (pe_callB call_isi (by rfl) T.b_isinstance (by decide +kernel) (pa_cons (pv 0) (pa_cons (pe_bltn (by rfl) T.b_int (by decide +kernel) (v := .ty "int") rfl) pa_nil))) (pe_one (pe_not (pe_callB call_isi (by rfl) T.b_isinstance (by decide +kernel) (pa_cons (pv 0) (pa_cons (pe_bltn (by rfl) T.b_bool (by decide +kernel) (v := .ty "bool") rfl) pa_nil))))))))), ?_⟩)
  · obtain ⟨x, a, b, t, rfl, _⟩ := h
    rfl
  · obtain ⟨x, a, b, t, rfl, ty, h1, h2, hQ⟩ := h
    refine ⟨_, rfl, _, _, _, _, _, rfl, .ty _, ty, h1, _, rfl, ?_⟩
    cases a with
    | false => exact hQ
    | true => exact ⟨_, rfl, _, _, _, _, _, rfl, .ty _, ty, h2, _, rfl, hQ⟩
/-! ### _law_put -/
def spLPut (K : PySem.W.Frag) : Sp := fun vs H Q E => ∃ (b : Addr) (t l : Int) (fv : V) (fg : Option (Option Int)) (c : Kd) (T1 : TT1) (S : Sta), vs = [.ref b, .int t, .int l, fv] ∧ TgOk T1 H ∧ OwnAt c T1 H b S ∧ c.Ok ∧ FgOk K H fv fg ∧ S.deeds.length < 100000 ∧
  (¬ putOk c S.tab.length t l fg → ∀ H', Evl.Ex H H' → Q (.str "NoCell+") H') ∧
  ∀ e, putOk c S.tab.length t l fg → fg = some e → ∃ old, entAt S.tab (topI c t) (colI c l) = some old ∧ ∀ H' r, Go (pB 2) T1 H T1 H' → OwnAt c T1 H' b (S.putS c t l e) → H r = none → H' r = some (.tup [cv old]) → Q (.ref r) H'
theorem sc_law_put : FnScope ["own", "top", "look", "figure", "half", "at", "old"] ["own", "top", "look", "figure"] (defScope s_law_put) := ⟨rfl, rfl, rfl, by decide +kernel, rfl, by decide +kernel, by decide +kernel⟩
theorem ok_law_put {P : Program} {w : World} {K : PySem.W.Frag} {mg : Str → Option Value} {base : Heap} (T : Fx K mg) : FnX P w K mg base CX0 2 (He.ga K "_law_put") ["own", "top", "look", "figure"] (spLPut K) := by
  refine fx_of T.d_law_put sc_law_put (fun _ _ _ _ _ _ us hl => match us, hl with | [_, _, _, _], _ => rfl) (fun vs H Q E h => ?_) (fun cdv A outer s H vs Q E hr h => ⟨_, PSs.nox ((pss_cons (ps_set (i := 4) sc_law_put.nd rfl (Or.inl rfl) (pe_f (ok_law_half T) hr (by rfl) T.g_law_half pass0 (pa_cons (pe_dget (hu_of hr) (pv 0) pe_str (fun _ _ => rfl)) (pa_cons (pe_dget (hu_of hr) (pv 0) pe_str (fun _ _ => rfl)) pa_nil))))
  (pss_cons (ps_set (i := 5) sc_law_put.nd rfl (Or.inl rfl) (pe_op op_sub (pv 1) (pe_op op_oneShl pe_int (pe_op op_sub (pe_ix ix_tup (pe_dget (hu_of hr) (pv 0) pe_str (fun _ _ => rfl)) pe_int (fun _ _ => rfl)) pe_int))))
  (pss_cons (ps_if (PW.pt (pw_or (pt_not (pt_chain op_le op_lt pe_int (pv 5) (pe_callB call_len_seq (by rfl) T.b_len (by decide +kernel) (pa_cons (pe_dget (hu_of hr) (pv 0) pe_str (fun _ _ => rfl)) pa_nil)))) (pw_or1 (pt_not (pt_chain op_le op_lt (pe_op op_sub pe_int (pv 4)) (pv 2) (pv 4)))))) (pss_one (ps_ret pe_str)) pss_nil)
  (pss_cons (ps_if (PW.pt (pw_and (pt_cmpR op_notN (pv 3) pe_non (nomark _)) (pw_and1 (PW.pt (pw_or (pt_not (pt_val (pe_f (ok_law_whole T) hr (by rfl) T.g_law_whole pass0 (pa_cons (pv 3) pa_nil)))) (pw_or1 (pt_not (pt_chain op_le op_le (pe_op op_sub pe_int (pe_ix ix_tup (pe_dget (hu_of hr) (pv 0) pe_str (fun _ _ => rfl)) pe_int (fun _ _ => rfl))) (pv 3) (pe_ix ix_tup (pe_dget (hu_of hr) (pv 0) pe_str (fun _ _ => rfl)) pe_int (fun _ _ => rfl)))))))))) (pss_one (ps_ret pe_str)) pss_nil)
  (pss_cons (ps_set (i := 6) sc_law_put.nd rfl (Or.inl rfl) (pe_ix ix_list (pe_ix ix_list (pe_dget (hu_of hr) (pv 0) pe_str (fun _ _ => rfl)) (pv 5) (fun _ _ => rfl)) (pe_op op_add (pv 2) (pv 4)) (fun _ _ => rfl)))
  (pss_cons (ps_asg (pv 3) (pg_sub (pe_ix ix_list (pe_dget (hu_of hr) (pv 0) pe_str (fun _ _ => rfl)) (pv 5) (fun _ _ => rfl)) (pe_op op_add (pv 2) (pv 4)) set_list))
  (pss_cons (ps_expr (pe_bm PySem.F.plainAttrs_list PySem.F.slot_list_append PySem.F.type_list_append mt_append (pe_dget (hu_of hr) (pv 0) pe_str (fun _ _ => rfl)) (pa_cons (pe_tup (pa_cons pe_str (pa_cons (pv 1) (pa_cons (pv 2) (pa_cons (pv 3) pa_nil))))) pa_nil)))
  (pss_one (ps_ret (pe_tup (pa_cons (pv 6) pa_nil)))))))))))), ?_⟩)
  · obtain ⟨b, t, l, fv, fg, c, T1, S, rfl, _⟩ := h
    rfl
  · obtain ⟨b, t, l, fv, fg, c, T1, S, rfl, tg, hB, ok, hfg, hz, hE, hW⟩ := h
    obtain ⟨k0, l0, _, _, _, _, ⟨ho0, _⟩, ⟨⟨hk0, _⟩, hl0, _⟩, _⟩ := id hB
    have t1 := ok.t1
    have t5 := ok.t5
    have hm1 := ok.m1
    refine ⟨_, rfl, b, _, rfl, DGet.k (k := .inr "kind") ho0, _, rfl, b, _, rfl, DGet.k (k := .inr "looks") ho0, k0, l0, c, rfl, Evl.st_of hk0, Evl.st_of hl0, ok, fun HZ eZ => ?_⟩
    have hBZ := hB.go (Go.ex (p := fun _ => False) eZ) (fun _ z => z.elim)
    obtain ⟨k, lk, rr, ws, sn, dn, ⟨hb, tb⟩, hkl, hrows, hworks, hseen, hdeeds⟩ := id hBZ
    obtain ⟨⟨hk, tk⟩, hl, tl⟩ := id hkl
    have tgZ : TgOk T1 HZ := tg.gr (Gr.ex eZ)
    have raise := fun (z : ¬ putOk c S.tab.length t l fg) => hE z HZ eZ
    refine ⟨_, rfl, ?_⟩
    refine ⟨_, rfl, b, _, rfl, DGet.k (k := .inr "looks") hb, ?_⟩
    refine ⟨_, _, _, _, rfl, rfl, Evl.st_of hl, rfl, ?_⟩
    refine ⟨_, _, rfl, rfl, c.t - 1, rfl, vsub1 t1, by omega, ?_⟩
    refine ⟨_, _, rfl, rfl, ?_⟩
    refine ⟨_, rfl, _, _, rfl, rfl, _, rfl, ?_⟩
    refine itD (fun h0 => ?_) (fun h0 => ?_)
    · obtain ⟨as, hrw, trw, hlen, hrr⟩ := id hrows
      refine ⟨_, rfl, b, _, rfl, DGet.k (k := .inr "table") hb, rr, _, rfl, .inl (Evl.sq_of hrw), ?_⟩
      refine ⟨_, _, rfl, rfl, _, rfl, ?_⟩
      rw [List.length_map, hlen]
      refine itN (fun h1 => ?_) (fun h1 => iteT (raise fun z => h1 z.1.1.2))
      refine ⟨_, rfl, _, _, rfl, rfl, _, rfl, _, _, rfl, rfl, _, rfl, ?_⟩
      refine itD (fun h2 => ?_) (fun h2 => ⟨_, rfl, iteT (raise fun z => h2 (by have := z.1.2.1; omega))⟩)
      refine ⟨_, rfl, _, _, rfl, rfl, _, rfl, ?_⟩
      refine itN (fun h3 => ?_) (fun h3 => raise fun z => h3 z.1.2.2)
      have hin : putIn c S.tab.length t l := ⟨⟨h0, h1⟩, by omega, h3⟩
      cases fg with
      | none =>
        obtain ⟨hn, ty, a, bb, hty, k1, k2, k3⟩ := hfg
        refine ⟨_, rfl, rfl, _, rfl, ?_⟩
        refine itN (fun z => absurd z hn) (fun _ => ?_)
        refine ⟨_, rfl, fv, a, bb, ty, rfl, hty HZ eZ, k1, k2, ?_⟩
        rw [k3]
        refine ⟨_, rfl, ?_⟩
        exact raise fun z => by
          obtain ⟨_, e, h5, _⟩ := z
          cases h5
      | some e =>
        have ev : fv = cv e := hfg
        subst ev
        refine ⟨_, rfl, rfl, _, rfl, ?_⟩
        cases e with
        | none =>
          refine itN (fun _ => ?_) (fun z => absurd rfl z)
          obtain ⟨old, ho, hK⟩ := hW (none) ⟨hin, _, rfl, eok_none⟩ rfl
          obtain ⟨row0, hi, hj⟩ := entAt_some ho
          have hlt : topI c t < as.length := by rw [hlen]; exact (List.getElem?_eq_some_iff.mp hi).1
          have hra0 : as[topI c t]? = some as[topI c t] := List.getElem?_eq_getElem hlt
          have hra1 : (as.map V.ref)[topI c t]? = some (.ref as[topI c t]) := by rw [List.getElem?_map, hra0]; rfl
          obtain ⟨tra, hra⟩ := hrr _ _ row0 hra0 hi
          have hj1 : (row0.map cv)[colI c l]? = some (cv old) := by rw [List.getElem?_map, hj]; rfl
          have hjl : colI c l < (row0.map cv).length := (List.getElem?_eq_some_iff.mp hj1).1
          generalize hrae : as[topI c t] = ra at hra0 hra1 tra hra
          refine ⟨_, rfl, b, _, rfl, DGet.k (k := .inr "table") hb, _, rfl, rr, _, _, _, rfl, rfl, Evl.sq_of hrw, atI_of h0 hra1, ?_⟩
          refine ⟨_, rfl, _, rfl, _, _, rfl, rfl, ra, _, _, _, rfl, rfl, Evl.sq_of hra, atI_of (by omega) hj1, ?_⟩
          refine ⟨_, rfl, _, rfl, b, _, rfl, DGet.k (k := .inr "table") hb, _, rfl, rr, _, _, _, rfl, rfl, Evl.sq_of hrw, atI_of h0 hra1, ?_⟩
          refine ⟨_, rfl, _, rfl, _, _, rfl, rfl, ra, _, _, colI c l, rfl, rfl, hra, ixN_at (by omega) hjl, ?_⟩
          obtain ⟨row1, s1, s2, s3, s4⟩ := hrows.set (i := topI c t) (j := colI c l) (e := none) (b := ra) ⟨row0, _, hi, hrw, hra1⟩
          have er1 : row1 = row0 := by rw [hi] at s1; exact (Option.some.inj s1).symm
          subst er1
          have g1 : Go (fun z => z = .row false (topI c t)) T1 HZ T1 (upd HZ ra (.lst ((row1.map cv).set (colI c l) (cv (none))))) := Go.upd tra
          try dsimp only
          generalize upd HZ ra (.lst ((row1.map cv).set (colI c l) (cv (none)))) = H1 at g1 s4 ⊢
          have no1 : ∀ z : Tg, z ≠ .row false (topI c t) → ¬ (fun z => z = Tg.row false (topI c t)) z := fun z h q => h q
          obtain ⟨hb1, _⟩ := noAt g1 (no1 _ fun z => nomatch z) ⟨hb, tb⟩
          obtain ⟨das, hd1, hd2, _⟩ := id hdeeds
          have hd1' := (g1.at hd1 (by rw [hd2]; exact no1 _ fun z => nomatch z)).1
          refine ⟨_, rfl, b, _, rfl, DGet.k (k := .inr "deeds") hb1, .inl ⟨rfl, _, Evl.sq_of hd1'⟩, _, rfl, _, rfl, _, rfl, ?_⟩
          refine ⟨by show 4 ≤ sizeLine; decide, fun q hq => ?_⟩
          try dsimp only
          generalize gH2 : upd H1 q (.tup [.str "put", .int t, .int l, cv (none)]) = H2
          have eH2 : Evl.Ex H1 H2 := by rw [← gH2]; exact Evl.Ex.new hq
          have oH2 : H2 q = some (.tup [.str "put", .int t, .int l, cv (none)]) := by rw [← gH2]; exact upd_same
          have g2 := g1.trans (Go.ex (p := fun z => z = Tg.row false (topI c t)) (T := T1) eH2)
          have tq : T1 q = .no := (tgZ.gr g1.gr) q hq
          obtain ⟨xs, hx2, hxl, hd3⟩ := (hdeeds.go g2 (no1 _ fun z => nomatch z) (no1 _ fun z => nomatch z)).app (d := .put t l (none)) oH2 tq
          refine ⟨dn, _, _, rfl, rfl, hx2, by rw [hxl]; exact Nat.lt_of_lt_of_le hz (by decide), ?_⟩
          have g3 : Go (fun z => z = .row false (topI c t) ∨ z = .dn false) T1 HZ T1 (upd H2 dn (.lst (xs ++ [.ref q]))) := (g2.mono fun z h => .inl h).trans (Go.upd (.inr hd2))
          have g23 : Go (fun z => z = .dn false) T1 H1 T1 (upd H2 dn (.lst (xs ++ [.ref q]))) := (Go.ex eH2).trans (Go.upd hd2)
          try dsimp only
          generalize upd H2 dn (.lst (xs ++ [.ref q])) = H3 at g3 g23 hd3 ⊢
          have no3 : ∀ z : Tg, z ≠ .row false (topI c t) → z ≠ .dn false → ¬ (z = Tg.row false (topI c t) ∨ z = .dn false) := fun z h1 h2 q => q.elim h1 h2
          have n03 := no3 .no (fun z => nomatch z) (fun z => nomatch z)
          refine ⟨_, rfl, ?_⟩
          refine ⟨by show 1 ≤ sizeLine; decide, fun res hres => ?_⟩
          try dsimp only
          generalize gH4 : upd H3 res (.tup [cv old]) = H4
          have eH4 : Evl.Ex H3 H4 := by rw [← gH4]; exact Evl.Ex.new hres
          have oH4 : H4 res = some (.tup [cv old]) := by rw [← gH4]; exact upd_same
          have g4 : Go (fun z => z = .row false (topI c t) ∨ z = .dn false) T1 HZ T1 H4 := g3.trans (Go.ex eH4)
          refine hK H4 res (((Go.ex eZ).trans g4).mono fun z h => by rcases h with h | h <;> rw [h] <;> rfl) ⟨k, lk, rr, ws, sn, dn, noAt g4 n03 ⟨hb, tb⟩, hkl.go g4 n03, ?_, hworks.go g4 (no3 _ (fun z => nomatch z) (fun z => nomatch z)) fun i a w h => h.go g4 n03 (no3 _ (fun z => nomatch z) (fun z => nomatch z)), hseen.go g4 (no3 _ (fun z => nomatch z) (fun z => nomatch z)), hd3.go (Go.ex (p := fun _ => False) eH4) (fun z => z) (fun z => z)⟩ (Evl.fresh_back eZ (g3.gr res hres)) oH4
          have es : (S.putS c t l (none)).tab = S.tab.set (topI c t) (row1.set (colI c l) (none)) := by
            show setE S.tab (topI c t) (colI c l) (none) = _
            unfold setE
            rw [hi]
          rw [es]
          exact s4.go (g23.trans (Go.ex eH4)) (fun z => nomatch z) fun i z => nomatch z
        | some i =>
          refine itN (fun z => nomatch z) (fun _ => ?_)
          refine ⟨_, rfl, .int i, true, false, .type "int", rfl, .base (.int i), kit_ty (by decide +kernel), kit_ty (by decide +kernel), ?_⟩
          refine ⟨_, rfl, ?_⟩
          refine ⟨_, rfl, b, _, rfl, DGet.k (k := .inr "kind") hb, _, _, _, _, rfl, rfl, Evl.st_of hk, rfl, _, _, rfl, rfl, _, rfl, _, _, rfl, rfl, _, rfl, ?_⟩
          refine itD (fun h5 => ?_) (fun h5 => ?_)
          · refine ⟨_, rfl, b, _, rfl, DGet.k (k := .inr "kind") hb, _, _, _, _, rfl, rfl, Evl.st_of hk, rfl, _, _, rfl, rfl, _, rfl, ?_⟩
            refine itN (fun h6 => ?_) (fun h6 => ?_)
            · have e5 : eOk c (some i) := fun i' z => by
                cases z
                have : ab i = if i < 0 then -i else i := rfl
                omega
              obtain ⟨old, ho, hK⟩ := hW (some i) ⟨hin, _, rfl, e5⟩ rfl
              obtain ⟨row0, hi, hj⟩ := entAt_some ho
              have hlt : topI c t < as.length := by rw [hlen]; exact (List.getElem?_eq_some_iff.mp hi).1
              have hra0 : as[topI c t]? = some as[topI c t] := List.getElem?_eq_getElem hlt
              have hra1 : (as.map V.ref)[topI c t]? = some (.ref as[topI c t]) := by rw [List.getElem?_map, hra0]; rfl
              obtain ⟨tra, hra⟩ := hrr _ _ row0 hra0 hi
              have hj1 : (row0.map cv)[colI c l]? = some (cv old) := by rw [List.getElem?_map, hj]; rfl
              have hjl : colI c l < (row0.map cv).length := (List.getElem?_eq_some_iff.mp hj1).1
              generalize hrae : as[topI c t] = ra at hra0 hra1 tra hra
              refine ⟨_, rfl, b, _, rfl, DGet.k (k := .inr "table") hb, _, rfl, rr, _, _, _, rfl, rfl, Evl.sq_of hrw, atI_of h0 hra1, ?_⟩
              refine ⟨_, rfl, _, rfl, _, _, rfl, rfl, ra, _, _, _, rfl, rfl, Evl.sq_of hra, atI_of (by omega) hj1, ?_⟩
              refine ⟨_, rfl, _, rfl, b, _, rfl, DGet.k (k := .inr "table") hb, _, rfl, rr, _, _, _, rfl, rfl, Evl.sq_of hrw, atI_of h0 hra1, ?_⟩
              refine ⟨_, rfl, _, rfl, _, _, rfl, rfl, ra, _, _, colI c l, rfl, rfl, hra, ixN_at (by omega) hjl, ?_⟩
              obtain ⟨row1, s1, s2, s3, s4⟩ := hrows.set (i := topI c t) (j := colI c l) (e := some i) (b := ra) ⟨row0, _, hi, hrw, hra1⟩
              have er1 : row1 = row0 := by rw [hi] at s1; exact (Option.some.inj s1).symm
              subst er1
              have g1 : Go (fun z => z = .row false (topI c t)) T1 HZ T1 (upd HZ ra (.lst ((row1.map cv).set (colI c l) (cv (some i))))) := Go.upd tra
              try dsimp only
              generalize upd HZ ra (.lst ((row1.map cv).set (colI c l) (cv (some i)))) = H1 at g1 s4 ⊢
              have no1 : ∀ z : Tg, z ≠ .row false (topI c t) → ¬ (fun z => z = Tg.row false (topI c t)) z := fun z h q => h q
              obtain ⟨hb1, _⟩ := noAt g1 (no1 _ fun z => nomatch z) ⟨hb, tb⟩
              obtain ⟨das, hd1, hd2, _⟩ := id hdeeds
              have hd1' := (g1.at hd1 (by rw [hd2]; exact no1 _ fun z => nomatch z)).1
              refine ⟨_, rfl, b, _, rfl, DGet.k (k := .inr "deeds") hb1, .inl ⟨rfl, _, Evl.sq_of hd1'⟩, _, rfl, _, rfl, _, rfl, ?_⟩
              refine ⟨by show 4 ≤ sizeLine; decide, fun q hq => ?_⟩
              try dsimp only
              generalize gH2 : upd H1 q (.tup [.str "put", .int t, .int l, cv (some i)]) = H2
              have eH2 : Evl.Ex H1 H2 := by rw [← gH2]; exact Evl.Ex.new hq
              have oH2 : H2 q = some (.tup [.str "put", .int t, .int l, cv (some i)]) := by rw [← gH2]; exact upd_same
              have g2 := g1.trans (Go.ex (p := fun z => z = Tg.row false (topI c t)) (T := T1) eH2)
              have tq : T1 q = .no := (tgZ.gr g1.gr) q hq
              obtain ⟨xs, hx2, hxl, hd3⟩ := (hdeeds.go g2 (no1 _ fun z => nomatch z) (no1 _ fun z => nomatch z)).app (d := .put t l (some i)) oH2 tq
              refine ⟨dn, _, _, rfl, rfl, hx2, by rw [hxl]; exact Nat.lt_of_lt_of_le hz (by decide), ?_⟩
              have g3 : Go (fun z => z = .row false (topI c t) ∨ z = .dn false) T1 HZ T1 (upd H2 dn (.lst (xs ++ [.ref q]))) := (g2.mono fun z h => .inl h).trans (Go.upd (.inr hd2))
              have g23 : Go (fun z => z = .dn false) T1 H1 T1 (upd H2 dn (.lst (xs ++ [.ref q]))) := (Go.ex eH2).trans (Go.upd hd2)
              try dsimp only
              generalize upd H2 dn (.lst (xs ++ [.ref q])) = H3 at g3 g23 hd3 ⊢
              have no3 : ∀ z : Tg, z ≠ .row false (topI c t) → z ≠ .dn false → ¬ (z = Tg.row false (topI c t) ∨ z = .dn false) := fun z h1 h2 q => q.elim h1 h2
              have n03 := no3 .no (fun z => nomatch z) (fun z => nomatch z)
              refine ⟨_, rfl, ?_⟩
              refine ⟨by show 1 ≤ sizeLine; decide, fun res hres => ?_⟩
              try dsimp only
              generalize gH4 : upd H3 res (.tup [cv old]) = H4
              have eH4 : Evl.Ex H3 H4 := by rw [← gH4]; exact Evl.Ex.new hres
              have oH4 : H4 res = some (.tup [cv old]) := by rw [← gH4]; exact upd_same
              have g4 : Go (fun z => z = .row false (topI c t) ∨ z = .dn false) T1 HZ T1 H4 := g3.trans (Go.ex eH4)
              refine hK H4 res (((Go.ex eZ).trans g4).mono fun z h => by rcases h with h | h <;> rw [h] <;> rfl) ⟨k, lk, rr, ws, sn, dn, noAt g4 n03 ⟨hb, tb⟩, hkl.go g4 n03, ?_, hworks.go g4 (no3 _ (fun z => nomatch z) (fun z => nomatch z)) fun i a w h => h.go g4 n03 (no3 _ (fun z => nomatch z) (fun z => nomatch z)), hseen.go g4 (no3 _ (fun z => nomatch z) (fun z => nomatch z)), hd3.go (Go.ex (p := fun _ => False) eH4) (fun z => z) (fun z => z)⟩ (Evl.fresh_back eZ (g3.gr res hres)) oH4
              have es : (S.putS c t l (some i)).tab = S.tab.set (topI c t) (row1.set (colI c l) (some i)) := by
                show setE S.tab (topI c t) (colI c l) (some i) = _
                unfold setE
                rw [hi]
              rw [es]
              exact s4.go (g23.trans (Go.ex eH4)) (fun z => nomatch z) fun i z => nomatch z
            · exact raise fun z => by
                obtain ⟨_, e, h8, h7⟩ := z
                cases h8
                have := h7 i rfl
                have : ab i = if i < 0 then -i else i := rfl
                omega
          · refine ⟨_, rfl, ?_⟩
            exact raise fun z => by
              obtain ⟨_, e, h8, h7⟩ := z
              cases h8
              have := h7 i rfl
              have : ab i = if i < 0 then -i else i := rfl
              omega
    · refine ⟨_, rfl, ?_⟩
      refine iteT ?_
      refine iteT ?_
      exact raise fun z => h0 z.1.1.1
end SF
end
section
set_option Elab.async false
set_option linter.all false
set_option maxRecDepth 100000
set_option maxHeartbeats 4000000
namespace SF
open PySem PySem.Spec PyProof.Rows L2
/-! ### _law_begun -/
def spLBegun (K : PySem.W.Frag) : Sp := fun vs H Q E => ∃ (r : Bool) (b : Addr) (x d : Int) (n : Nat) (c : Kd) (T1 : TT1) (S : Sta), vs = [.ref b, .str (wordOf r), .int x, .int d, .int (n : Nat)] ∧ TgOk T1 H ∧ OwnAt c T1 H b S ∧ c.Ok ∧ Big x ∧ 0 < d ∧ Big d ∧ n ≤ 1010 ∧ S.works.length < 100000 ∧ S.deeds.length < 100000 ∧
  (room c x d n → ∀ (T2 : TT1) (H' : Hp), Go (pB 2) T1 H T2 H' → TgOk T2 H' → OwnAt c T2 H' b (S.begS c r x d n) → Q (.int ((S.works.length : Nat) : Int)) H') ∧
  (¬ room c x d n → Q (.str "NoRoom+") H)
theorem bits_gG {c : Kd} {d : Int} (hd : 0 < d) (n : Nat) : bits (gG c d n) = gW c d n := by
  unfold gG gW
  exact bits_shl (g0_pos hd n) _
theorem merge_b {n f : Addr} {wd w g s : V} {l : V} : mergeK [(.inr "word", wd), (.inr "numbers", .ref n), (.inr "left", l), (.inr "row", .ref f)] [(.inr "wide", w), (.inr "great", g), (.inr "stand", s)] =
    [(.inr "word", wd), (.inr "numbers", .ref n), (.inr "left", l), (.inr "row", .ref f), (.inr "wide", w), (.inr "great", g), (.inr "stand", s)] := rfl
theorem sc_law_begun : FnScope ["own", "word", "x", "divisor", "many", "great", "rest", "wide", "stand", "work"] ["own", "word", "x", "divisor", "many"] (defScope s_law_begun) := ⟨rfl, rfl, rfl, by decide +kernel, rfl, by decide +kernel, by decide +kernel⟩
theorem ok_law_begun {P : Program} {w : World} {K : PySem.W.Frag} {mg : Str → Option Value} {base : Heap} (T : Fx K mg) : FnX P w K mg base CX0 3 (He.ga K "_law_begun") ["own", "word", "x", "divisor", "many"] (spLBegun K) := by
  refine fx_of T.d_law_begun sc_law_begun (fun _ _ _ _ _ _ us hl => match us, hl with | [_, _, _, _, _], _ => rfl) (fun vs H Q E h => ?_) (fun cdv A outer s H vs Q E hr h => ⟨_, PSs.nox ((pss_cons (ps_if (pt_cmpR op_lt (pv 4) (pe_f (ok_law_room T) hr (by rfl) T.g_law_room pass0 (pa_cons (pe_dget (hu_of hr) (pv 0) pe_str (fun _ _ => rfl)) (pa_cons (pv 2) (pa_cons (pv 3) pa_nil)))) (nomark _)) (pss_one (ps_ret pe_str)) pss_nil)
  (pss_cons (ps_asg (pe_f (ok_law_scaled T) (hr.mono (by decide)) (by rfl) T.g_law_scaled pass0 (pa_cons (pe_dget (hu_of hr) (pv 0) pe_str (fun _ _ => rfl)) (pa_cons (pe_dget (hu_of hr) (pv 0) pe_str (fun _ _ => rfl)) (pa_cons (pv 2) (pa_cons (pv 3) (pa_cons (pv 4) pa_nil)))))) (pg_tup rfl (pgs_cons (pg_name (i := 5) sc_law_begun.nd rfl (Or.inl rfl)) (pgs_cons (pg_name (i := 6) sc_law_begun.nd rfl (Or.inl rfl)) pgs_nil))))
  (pss_cons (ps_set (i := 7) sc_law_begun.nd rfl (Or.inl rfl) (pe_bits (pv 5)))
  (pss_cons (ps_set (i := 8) sc_law_begun.nd rfl (Or.inl rfl) (pv 6))
  (pss_cons (ps_if (pt_cmpR op_eq (pv 1) pe_str (nomark _)) (pss_one (ps_set (i := 8) sc_law_begun.nd rfl (Or.inl rfl) (pe_tup (pa_cons (pe_op op_mod (pv 6) (pe_op op_oneShl pe_int (pe_op op_add (pe_op op_add (pv 7) (pe_bits (pe_ix ix_tup (pe_dget (hu_of hr) (pv 0) pe_str (fun _ _ => rfl)) pe_int (fun _ _ => rfl)))) pe_int))) (pa_cons pe_int pa_nil))))) pss_nil)
  (pss_cons (ps_set (i := 9) sc_law_begun.nd rfl (Or.inl rfl) (pe_disp (pps_cons pe_str (pv 1) (pps_cons pe_str (pe_tup (pa_cons (pv 2) (pa_cons (pv 3) pa_nil))) (pps_cons pe_str (pv 4) (pps_cons pe_str (pe_lst pa_nil) pps_nil)))) (by rfl) (by rfl) (fun z => by cases z) (by decide)))
  (pss_cons (ps_expr (SF.pe_dupd (pv 9) (pe_disp (pps_cons pe_str (pv 7) (pps_cons pe_str (pv 5) (pps_cons pe_str (pv 8) pps_nil))) (by rfl) (by rfl) (fun z => by cases z) (by decide)) ⟨rfl, rfl, rfl, rfl⟩))
  (pss_cons (ps_expr (pe_bm PySem.F.plainAttrs_list PySem.F.slot_list_append PySem.F.type_list_append mt_append (pe_dget (hu_of hr) (pv 0) pe_str (fun _ _ => rfl)) (pa_cons (pv 9) pa_nil)))
  (pss_cons (ps_expr (pe_bm PySem.F.plainAttrs_list PySem.F.slot_list_append PySem.F.type_list_append mt_append (pe_dget (hu_of hr) (pv 0) pe_str (fun _ _ => rfl)) (pa_cons (pe_tup (pa_cons (pv 1) (pa_cons (pv 2) (pa_cons (pv 3) (pa_cons (pv 4) pa_nil))))) pa_nil)))
  (pss_one (ps_ret (pe_op op_sub (pe_callB call_len_seq (by rfl) T.b_len (by decide +kernel) (pa_cons (pe_dget (hu_of hr) (pv 0) pe_str (fun _ _ => rfl)) pa_nil)) pe_int))))))))))))), ?_⟩)
  · obtain ⟨r, b, x, d, n, c, T1, S, rfl, _⟩ := h
    rfl
  · obtain ⟨r, b, x, d, n, c, T1, S, rfl, tg, hB, ok, hx, hd, hd2b, hn, hz1, hz2, hQ, hE⟩ := h
    obtain ⟨k, l, rr, ws, sn, dn, ⟨hb, tb⟩, hkl, hrows, hworks, hseen, hdeeds⟩ := id hB
    obtain ⟨⟨hk, tk⟩, hl, tl⟩ := id hkl
    obtain ⟨as, w1, w2, w3, w4⟩ := id hworks
    have k3 := ok.k3
    refine ⟨_, rfl, _, rfl, b, _, rfl, DGet.k (k := .inr "kind") hb, _, rfl, _, rfl, k, c, x, d, rfl, Evl.st_of hk, ok, hx, hd, fun n0 hn0 hiff => ?_⟩
    refine ⟨_, _, rfl, rfl, _, rfl, ?_⟩
    refine itD (fun h0 => hE fun z => by have := (hiff n).mp z; omega) (fun h0 => ?_)
    have hroom : room c x d n := (hiff n).mpr (by omega)
    refine ⟨_, rfl, b, _, rfl, DGet.k (k := .inr "kind") hb, _, rfl, b, _, rfl, DGet.k (k := .inr "looks") hb, _, rfl, _, rfl, _, rfl, ?_⟩
    refine ⟨k, l, c, x, d, n, rfl, Evl.st_of hk, Evl.st_of hl, ok, hd, hn, fun H1 q e1 hq h1 => ?_⟩
    refine ⟨q, _, rfl, Evl.st_of h1, rfl, _, _, rfl, _, _, rfl, rfl, ?_⟩
    refine ⟨_, rfl, _, rfl, ?_⟩
    try dsimp only
    rw [show ((Builtin.Int.intBits (gG c d n) : Nat) : Int) = ((gW c d n : Nat) : Int) from congrArg Nat.cast (bits_gG hd n)]
    try dsimp only [L2.start, List.map, List.length_cons, List.length_nil, List.replicate, List.set, List.append, List.cons_append, List.nil_append]
    refine ⟨_, rfl, ?_⟩
    refine ⟨_, rfl, rfl, _, rfl, ?_⟩
    cases r with
    | true =>
      refine itT (c := V.str (wordOf true) = V.str "rows") rfl ?_
      refine ⟨_, rfl, _, rfl, _, rfl, b, _, rfl, DGet.k (k := .inr "kind") (e1 _ _ hb), _, _, _, _, rfl, rfl, Evl.ex_t e1 (Evl.st_of hk), rfl, _, rfl, _, _, rfl, rfl, _, _, rfl, rfl, gW c d n + c.k + 2, rfl, congrArg V.int (by have h : Builtin.Int.intBits c.base = c.k + 1 := bits_base ok; rw [h]; omega), by have := gW_le ok hd2b hn; omega, ?_⟩
      refine ⟨_, _, rfl, rfl, two_pos _, ?_⟩
      refine ⟨by show 2 ≤ sizeLine; decide, fun q0 hq0 => ?_⟩
      try dsimp only
      generalize gHS : upd H1 q0 (.tup [.int (gX c x d n % 2 ^ (gW c d n + c.k + 2)), .int 0]) = HS
      have eHS : Evl.Ex H1 HS := by rw [← gHS]; exact Evl.Ex.new hq0
      have oHS : HS q0 = some (.tup [.int (gX c x d n % 2 ^ (gW c d n + c.k + 2)), .int 0]) := by rw [← gHS]; exact upd_same
      have eS := e1.trans eHS
      try dsimp only [L2.start, List.map, List.length_cons, List.length_nil, List.replicate, List.set, List.append, List.cons_append, List.nil_append]
      refine fun p hp => ?_
      have fp0 : H p = none := Evl.fresh_back eS hp
      have eA : Evl.Ex HS (upd HS p (.dK [])) := Evl.Ex.new hp
      have opA : (upd HS p (.dK [])) p = some (.dK []) := upd_same
      try dsimp only
      generalize upd HS p (.dK []) = HA at eA opA ⊢
      refine ⟨_, rfl, _, rfl, _, rfl, ?_⟩
      refine ⟨by show 2 ≤ sizeLine; decide, fun nn hnn => ?_⟩
      try dsimp only
      generalize gHB : upd HA nn (.tup [.int x, .int d]) = HB
      have eHB : Evl.Ex HA HB := by rw [← gHB]; exact Evl.Ex.new hnn
      have oHB : HB nn = some (.tup [.int x, .int d]) := by rw [← gHB]; exact upd_same
      refine ⟨_, rfl, ?_⟩
      refine ⟨by show 0 ≤ sizeLine; decide, fun f hf => ?_⟩
      try dsimp only
      generalize gHC : upd HB f (.lst []) = HC
      have eHC : Evl.Ex HB HC := by rw [← gHC]; exact Evl.Ex.new hf
      have oHC : HC f = some (.lst []) := by rw [← gHC]; exact upd_same
      have nnp : nn ≠ p := fun z => by rw [z, opA] at hnn; cases hnn
      have nfp : f ≠ p := fun z => by rw [z, eHB _ _ opA] at hf; cases hf
      refine ⟨eHC _ _ (eHB _ _ opA), [(.inr "word", .str (wordOf true)), (.inr "numbers", .ref nn), (.inr "left", .int (n : Nat)), (.inr "row", .ref f)], rfl, by show 4 ≤ 15; decide, ?_⟩
      have xD : ExX p HC (upd HC p (.dK (mergeK [] [(.inr "word", .str (wordOf true)), (.inr "numbers", .ref nn), (.inr "left", .int (n : Nat)), (.inr "row", .ref f)]))) := ExX.at
      have opD : (upd HC p (.dK (mergeK [] [(.inr "word", .str (wordOf true)), (.inr "numbers", .ref nn), (.inr "left", .int (n : Nat)), (.inr "row", .ref f)]))) p = some (.dK [(.inr "word", .str (wordOf true)), (.inr "numbers", .ref nn), (.inr "left", .int (n : Nat)), (.inr "row", .ref f)]) := upd_same
      have eD : Evl.Ex HS (upd HC p (.dK (mergeK [] [(.inr "word", .str (wordOf true)), (.inr "numbers", .ref nn), (.inr "left", .int (n : Nat)), (.inr "row", .ref f)]))) := ((eA.trans eHB).trans eHC).mut hp
      try dsimp only
      generalize upd HC p (.dK (mergeK [] [(.inr "word", .str (wordOf true)), (.inr "numbers", .ref nn), (.inr "left", .int (n : Nat)), (.inr "row", .ref f)])) = HD at xD opD eD ⊢
      try dsimp only [L2.start, List.map, List.length_cons, List.length_nil, List.replicate, List.set, List.append, List.cons_append, List.nil_append]
      refine ⟨_, rfl, p, rfl, .inl ⟨_, .inl opD⟩, fun p2 hp2 => ?_⟩
      have eE : Evl.Ex HD (upd HD p2 (.dK [])) := Evl.Ex.new hp2
      have opE : (upd HD p2 (.dK [])) p2 = some (.dK []) := upd_same
      try dsimp only
      generalize upd HD p2 (.dK []) = HE at eE opE ⊢
      refine ⟨_, rfl, _, rfl, _, rfl, ?_⟩
      refine ⟨opE, [(.inr "wide", .int ((gW c d n : Nat) : Int)), (.inr "great", .int (gG c d n)), (.inr "stand", .ref q0)], rfl, by show 3 ≤ 15; decide, ?_⟩
      have eF : Evl.Ex HD (upd HE p2 (.dK (mergeK [] [(.inr "wide", .int ((gW c d n : Nat) : Int)), (.inr "great", .int (gG c d n)), (.inr "stand", .ref q0)]))) := eE.mut hp2
      have opF : (upd HE p2 (.dK (mergeK [] [(.inr "wide", .int ((gW c d n : Nat) : Int)), (.inr "great", .int (gG c d n)), (.inr "stand", .ref q0)]))) p2 = some (.dK [(.inr "wide", .int ((gW c d n : Nat) : Int)), (.inr "great", .int (gG c d n)), (.inr "stand", .ref q0)]) := upd_same
      try dsimp only
      generalize upd HE p2 (.dK (mergeK [] [(.inr "wide", .int ((gW c d n : Nat) : Int)), (.inr "great", .int (gG c d n)), (.inr "stand", .ref q0)])) = HF at eF opF ⊢
      have np2 : p ≠ p2 := fun z => by rw [← z, opD] at hp2; cases hp2
      refine ⟨p2, _, _, rfl, np2, eF _ _ opD, opF, by show 4 + 3 ≤ sizeLine; decide, ?_⟩
      rw [merge_b]
      have eG : Evl.Ex HS (upd HF p (.dK [(.inr "word", .str (wordOf true)), (.inr "numbers", .ref nn), (.inr "left", .int (n : Nat)), (.inr "row", .ref f), (.inr "wide", .int ((gW c d n : Nat) : Int)), (.inr "great", .int (gG c d n)), (.inr "stand", .ref q0)])) := (eD.trans eF).mut hp
      have opG : (upd HF p (.dK [(.inr "word", .str (wordOf true)), (.inr "numbers", .ref nn), (.inr "left", .int (n : Nat)), (.inr "row", .ref f), (.inr "wide", .int ((gW c d n : Nat) : Int)), (.inr "great", .int (gG c d n)), (.inr "stand", .ref q0)])) p = some (.dK (wDict nn f (.ref q0) (w0 c true x d n))) := upd_same
      have onG : (upd HF p (.dK [(.inr "word", .str (wordOf true)), (.inr "numbers", .ref nn), (.inr "left", .int (n : Nat)), (.inr "row", .ref f), (.inr "wide", .int ((gW c d n : Nat) : Int)), (.inr "great", .int (gG c d n)), (.inr "stand", .ref q0)])) nn = some (.tup [.int x, .int d]) := by rw [upd_ne nnp]; exact eF _ _ (xD _ _ nnp (eHC _ _ oHB))
      have ofG : (upd HF p (.dK [(.inr "word", .str (wordOf true)), (.inr "numbers", .ref nn), (.inr "left", .int (n : Nat)), (.inr "row", .ref f), (.inr "wide", .int ((gW c d n : Nat) : Int)), (.inr "great", .int (gG c d n)), (.inr "stand", .ref q0)])) f = some (.lst []) := by rw [upd_ne nfp]; exact eF _ _ (xD _ _ nfp oHC)
      have fnn : H nn = none := Evl.fresh_back (eS.trans eA) hnn
      have ff0 : H f = none := Evl.fresh_back ((eS.trans eA).trans eHB) hf
      try dsimp only
      generalize upd HF p (.dK [(.inr "word", .str (wordOf true)), (.inr "numbers", .ref nn), (.inr "left", .int (n : Nat)), (.inr "row", .ref f), (.inr "wide", .int ((gW c d n : Nat) : Int)), (.inr "great", .int (gG c d n)), (.inr "stand", .ref q0)]) = HG at eG opG onG ofG ⊢
      have e01 := eS.trans eG
      obtain ⟨T2, hT2⟩ : ∃ T2, T2 = tagAt T1 p (.wk false S.works.length) := ⟨_, rfl⟩
      have ta : T2 p = .wk false S.works.length := by rw [hT2, tagAt_same]
      have tz : ∀ z, z ≠ p → T2 z = T1 z := fun z h1 => by rw [hT2, tagAt_ne h1]
      have gT : Go (fun _ => False) T1 H T2 H := by
        rw [hT2]
        exact Go.tag fp0
      have g1 : Go (fun _ => False) T1 H T2 HG := gT.trans (Go.ex e01)
      have tg1 : TgOk T2 HG := fun z hz => by
        rw [tz z (fun w => by rw [w, opG] at hz; cases hz)]
        exact tg z (Evl.fresh_back e01 hz)
      have hw1 := (g1.at w1 (fun z => z)).1
      have tw1 := (g1.at w1 (fun z => z)).2
      have hbG := (noAt g1 (fun z => z) ⟨hb, tb⟩).1
      have sz : ∀ z : Nat, z < 100000 → z < sizeLine := fun z hz => Nat.lt_of_lt_of_le hz (by decide)
      try dsimp only [L2.start, List.map, List.length_cons, List.length_nil, List.replicate, List.set, List.append, List.cons_append, List.nil_append]
      refine ⟨_, rfl, b, _, rfl, DGet.k (k := .inr "works") hbG, .inl ⟨rfl, _, Evl.sq_of hw1⟩, _, rfl, ws, _, _, rfl, rfl, hw1, by rw [List.length_map, w3]; exact sz _ hz1, ?_⟩
      have twT : T2 ws = .ws false := tw1.trans w2
      have g2 : Go (fun t => t = .ws false) T1 H T2 (upd HG ws (.lst (as.map V.ref ++ [.ref p]))) := (g1.mono fun _ z => z.elim).trans (Go.upd twT)
      have g12 : Go (fun t => t = .ws false) T2 HG T2 (upd HG ws (.lst (as.map V.ref ++ [.ref p]))) := Go.upd twT
      have hw2 : (upd HG ws (.lst (as.map V.ref ++ [.ref p]))) ws = some (.lst ((as ++ [p]).map V.ref)) := by rw [upd_same, List.map_append]; rfl
      try dsimp only
      generalize upd HG ws (.lst (as.map V.ref ++ [.ref p])) = H2 at g2 g12 hw2 ⊢
      have no1 : ∀ t : Tg, t ≠ .ws false → ¬ (fun t => t = Tg.ws false) t := fun t h z => h z
      obtain ⟨hb2, tb2⟩ := noAt g2 (no1 _ fun z => nomatch z) ⟨hb, tb⟩
      have hd2 : DeedsAt false T2 H2 dn S.deeds := hdeeds.go g2 (no1 _ fun z => nomatch z) (no1 _ fun z => nomatch z)
      obtain ⟨das, hd21, hd22, _⟩ := id hd2
      refine ⟨_, rfl, b, _, rfl, DGet.k (k := .inr "deeds") hb2, .inl ⟨rfl, _, Evl.sq_of hd21⟩, _, rfl, _, rfl, _, rfl, _, rfl, ?_⟩
      refine ⟨by show 4 ≤ sizeLine; decide, fun q hq => ?_⟩
      try dsimp only
      generalize gH3 : upd H2 q (.tup [.str (wordOf true), .int x, .int d, .int (n : Nat)]) = H3
      have eH3 : Evl.Ex H2 H3 := by rw [← gH3]; exact Evl.Ex.new hq
      have oH3 : H3 q = some (.tup [.str (wordOf true), .int x, .int d, .int (n : Nat)]) := by rw [← gH3]; exact upd_same
      have tg2 : TgOk T2 H2 := tg1.gr g12.gr
      have tq : T2 q = .no := tg2 q hq
      obtain ⟨xs, hx3, hxl, hd4⟩ := (hd2.go (Go.ex (p := fun _ => False) eH3) (fun z => z) (fun z => z)).app (d := .beg true x d n) oH3 tq
      refine ⟨dn, _, _, rfl, rfl, hx3, by rw [hxl]; exact sz _ hz2, ?_⟩
      have g4 : Go (fun t => t = .ws false ∨ t = .dn false) T1 H T2 (upd H3 dn (.lst (xs ++ [.ref q]))) := (g2.mono fun t z => .inl z).trans ((Go.ex eH3).trans (Go.upd (.inr hd22)))
      have g14 : Go (fun t => t = .ws false ∨ t = .dn false) T2 HG T2 (upd H3 dn (.lst (xs ++ [.ref q]))) := (g12.mono fun t z => .inl z).trans ((Go.ex eH3).trans (Go.upd (.inr hd22)))
      have hw4 : (upd H3 dn (.lst (xs ++ [.ref q]))) ws = some (.lst ((as ++ [p]).map V.ref)) := by
        have nw : ws ≠ dn := fun z => by rw [z, hd22] at twT; cases twT
        rw [upd_ne nw]
        exact eH3 _ _ hw2
      try dsimp only
      generalize upd H3 dn (.lst (xs ++ [.ref q])) = H4 at g4 g14 hw4 hd4 ⊢
      have no4 : ∀ t : Tg, t ≠ .ws false → t ≠ .dn false → ¬ (t = Tg.ws false ∨ t = .dn false) := fun t h1 h2 z => z.elim h1 h2
      have n04 := no4 .no (fun z => nomatch z) (fun z => nomatch z)
      obtain ⟨hb4, tb4⟩ := noAt g4 n04 ⟨hb, tb⟩
      refine ⟨_, rfl, b, _, rfl, DGet.k (k := .inr "works") hb4, ws, _, rfl, .inl (Evl.sq_of hw4), ?_⟩
      refine ⟨_, _, rfl, rfl, ?_⟩
      have fin : OwnAt c T2 H4 b (S.begS c true x d n) := by
        refine ⟨k, l, rr, ws, sn, dn, ⟨hb4, tb4⟩, hkl.go g4 n04, hrows.go g4 n04 fun i => no4 _ (fun z => nomatch z) (fun z => nomatch z), ⟨as ++ [p], hw4, twT, ?_, fun i b' w' h2 h3 => ?_⟩, hseen.go g4 (no4 _ (fun z => nomatch z) (fun z => nomatch z)), hd4⟩
        · rw [List.length_append, w3]
          show S.works.length + 1 = (S.works ++ [w0 c true x d n]).length
          rw [List.length_append]
          rfl
        · rcases get_app h2 with h2 | ⟨e2, e3⟩
          · have hi := (List.getElem?_eq_some_iff.mp h2).1
            have h3' : (S.works ++ [w0 c true x d n])[i]? = some w' := h3
            rw [List.getElem?_append_left (by omega)] at h3'
            exact (w4 i b' w' h2 h3').go g4 n04 (no4 _ (fun z => nomatch z) (fun z => nomatch z))
          · subst e3
            have h3' : (S.works ++ [w0 c true x d n])[i]? = some w' := h3
            rw [List.getElem?_append_right (by omega), show i - S.works.length = 0 by omega] at h3'
            cases h3'
            have ei : i = S.works.length := by omega
            rw [ei]
            obtain ⟨ha4, ta4⟩ := g14.at opG (by rw [ta]; exact no4 _ (fun z => nomatch z) (fun z => nomatch z))
            have tn : T2 nn = .no := by rw [tz nn nnp]; exact tg nn fnn
            have tf : T2 f = .no := by rw [tz f nfp]; exact tg f ff0
            have hst : StandAt T2 HG (.ref q0) (w0 c true x d n) := by
              exact ⟨q0, rfl, eG _ _ oHS, by rw [tz q0 (fun w => by rw [w, hp] at oHS; cases oHS)]; exact tg q0 (Evl.fresh_back e1 hq0)⟩
            exact ⟨nn, f, .ref q0, ha4, ta, noAt g14 n04 ⟨onG, tn⟩, noAt g14 n04 ⟨ofG, tf⟩, hst.go g14 n04⟩
      have hfin := hQ hroom T2 H4 (g4.mono fun t z => by rcases z with z | z <;> rw [z] <;> rfl) (tg1.gr g14.gr) fin
      have ev : V.int ((((as ++ [p]).map V.ref).length : Int) - 1) = V.int ((S.works.length : Nat) : Int) := congrArg V.int (by
        rw [List.length_map, List.length_append, w3]
        show ((S.works.length + 1 : Nat) : Int) - 1 = _
        omega)
      show Q (V.int ((((as ++ [p]).map V.ref).length : Int) - 1)) H4
      rw [ev]
      exact hfin
    | false =>
      refine itF (c := V.str (wordOf false) = V.str "rows") (by decide) ?_
      have eS := e1
      try dsimp only [L2.start, List.map, List.length_cons, List.length_nil, List.replicate, List.set, List.append, List.cons_append, List.nil_append]
      refine fun p hp => ?_
      have fp0 : H p = none := Evl.fresh_back eS hp
      have eA : Evl.Ex H1 (upd H1 p (.dK [])) := Evl.Ex.new hp
      have opA : (upd H1 p (.dK [])) p = some (.dK []) := upd_same
      try dsimp only
      generalize upd H1 p (.dK []) = HA at eA opA ⊢
      refine ⟨_, rfl, _, rfl, _, rfl, ?_⟩
      refine ⟨by show 2 ≤ sizeLine; decide, fun nn hnn => ?_⟩
      try dsimp only
      generalize gHB : upd HA nn (.tup [.int x, .int d]) = HB
      have eHB : Evl.Ex HA HB := by rw [← gHB]; exact Evl.Ex.new hnn
      have oHB : HB nn = some (.tup [.int x, .int d]) := by rw [← gHB]; exact upd_same
      refine ⟨_, rfl, ?_⟩
      refine ⟨by show 0 ≤ sizeLine; decide, fun f hf => ?_⟩
      try dsimp only
      generalize gHC : upd HB f (.lst []) = HC
      have eHC : Evl.Ex HB HC := by rw [← gHC]; exact Evl.Ex.new hf
      have oHC : HC f = some (.lst []) := by rw [← gHC]; exact upd_same
      have nnp : nn ≠ p := fun z => by rw [z, opA] at hnn; cases hnn
      have nfp : f ≠ p := fun z => by rw [z, eHB _ _ opA] at hf; cases hf
      refine ⟨eHC _ _ (eHB _ _ opA), [(.inr "word", .str (wordOf false)), (.inr "numbers", .ref nn), (.inr "left", .int (n : Nat)), (.inr "row", .ref f)], rfl, by show 4 ≤ 15; decide, ?_⟩
      have xD : ExX p HC (upd HC p (.dK (mergeK [] [(.inr "word", .str (wordOf false)), (.inr "numbers", .ref nn), (.inr "left", .int (n : Nat)), (.inr "row", .ref f)]))) := ExX.at
      have opD : (upd HC p (.dK (mergeK [] [(.inr "word", .str (wordOf false)), (.inr "numbers", .ref nn), (.inr "left", .int (n : Nat)), (.inr "row", .ref f)]))) p = some (.dK [(.inr "word", .str (wordOf false)), (.inr "numbers", .ref nn), (.inr "left", .int (n : Nat)), (.inr "row", .ref f)]) := upd_same
      have eD : Evl.Ex H1 (upd HC p (.dK (mergeK [] [(.inr "word", .str (wordOf false)), (.inr "numbers", .ref nn), (.inr "left", .int (n : Nat)), (.inr "row", .ref f)]))) := ((eA.trans eHB).trans eHC).mut hp
      try dsimp only
      generalize upd HC p (.dK (mergeK [] [(.inr "word", .str (wordOf false)), (.inr "numbers", .ref nn), (.inr "left", .int (n : Nat)), (.inr "row", .ref f)])) = HD at xD opD eD ⊢
      try dsimp only [L2.start, List.map, List.length_cons, List.length_nil, List.replicate, List.set, List.append, List.cons_append, List.nil_append]
      refine ⟨_, rfl, p, rfl, .inl ⟨_, .inl opD⟩, fun p2 hp2 => ?_⟩
      have eE : Evl.Ex HD (upd HD p2 (.dK [])) := Evl.Ex.new hp2
      have opE : (upd HD p2 (.dK [])) p2 = some (.dK []) := upd_same
      try dsimp only
      generalize upd HD p2 (.dK []) = HE at eE opE ⊢
      refine ⟨_, rfl, _, rfl, _, rfl, ?_⟩
      refine ⟨opE, [(.inr "wide", .int ((gW c d n : Nat) : Int)), (.inr "great", .int (gG c d n)), (.inr "stand", .int (gX c x d n))], rfl, by show 3 ≤ 15; decide, ?_⟩
      have eF : Evl.Ex HD (upd HE p2 (.dK (mergeK [] [(.inr "wide", .int ((gW c d n : Nat) : Int)), (.inr "great", .int (gG c d n)), (.inr "stand", .int (gX c x d n))]))) := eE.mut hp2
      have opF : (upd HE p2 (.dK (mergeK [] [(.inr "wide", .int ((gW c d n : Nat) : Int)), (.inr "great", .int (gG c d n)), (.inr "stand", .int (gX c x d n))]))) p2 = some (.dK [(.inr "wide", .int ((gW c d n : Nat) : Int)), (.inr "great", .int (gG c d n)), (.inr "stand", .int (gX c x d n))]) := upd_same
      try dsimp only
      generalize upd HE p2 (.dK (mergeK [] [(.inr "wide", .int ((gW c d n : Nat) : Int)), (.inr "great", .int (gG c d n)), (.inr "stand", .int (gX c x d n))])) = HF at eF opF ⊢
      have np2 : p ≠ p2 := fun z => by rw [← z, opD] at hp2; cases hp2
      refine ⟨p2, _, _, rfl, np2, eF _ _ opD, opF, by show 4 + 3 ≤ sizeLine; decide, ?_⟩
      rw [merge_b]
      have eG : Evl.Ex H1 (upd HF p (.dK [(.inr "word", .str (wordOf false)), (.inr "numbers", .ref nn), (.inr "left", .int (n : Nat)), (.inr "row", .ref f), (.inr "wide", .int ((gW c d n : Nat) : Int)), (.inr "great", .int (gG c d n)), (.inr "stand", .int (gX c x d n))])) := (eD.trans eF).mut hp
      have opG : (upd HF p (.dK [(.inr "word", .str (wordOf false)), (.inr "numbers", .ref nn), (.inr "left", .int (n : Nat)), (.inr "row", .ref f), (.inr "wide", .int ((gW c d n : Nat) : Int)), (.inr "great", .int (gG c d n)), (.inr "stand", .int (gX c x d n))])) p = some (.dK (wDict nn f (.int (gX c x d n)) (w0 c false x d n))) := upd_same
      have onG : (upd HF p (.dK [(.inr "word", .str (wordOf false)), (.inr "numbers", .ref nn), (.inr "left", .int (n : Nat)), (.inr "row", .ref f), (.inr "wide", .int ((gW c d n : Nat) : Int)), (.inr "great", .int (gG c d n)), (.inr "stand", .int (gX c x d n))])) nn = some (.tup [.int x, .int d]) := by rw [upd_ne nnp]; exact eF _ _ (xD _ _ nnp (eHC _ _ oHB))
      have ofG : (upd HF p (.dK [(.inr "word", .str (wordOf false)), (.inr "numbers", .ref nn), (.inr "left", .int (n : Nat)), (.inr "row", .ref f), (.inr "wide", .int ((gW c d n : Nat) : Int)), (.inr "great", .int (gG c d n)), (.inr "stand", .int (gX c x d n))])) f = some (.lst []) := by rw [upd_ne nfp]; exact eF _ _ (xD _ _ nfp oHC)
      have fnn : H nn = none := Evl.fresh_back (eS.trans eA) hnn
      have ff0 : H f = none := Evl.fresh_back ((eS.trans eA).trans eHB) hf
      try dsimp only
      generalize upd HF p (.dK [(.inr "word", .str (wordOf false)), (.inr "numbers", .ref nn), (.inr "left", .int (n : Nat)), (.inr "row", .ref f), (.inr "wide", .int ((gW c d n : Nat) : Int)), (.inr "great", .int (gG c d n)), (.inr "stand", .int (gX c x d n))]) = HG at eG opG onG ofG ⊢
      have e01 := eS.trans eG
      obtain ⟨T2, hT2⟩ : ∃ T2, T2 = tagAt T1 p (.wk false S.works.length) := ⟨_, rfl⟩
      have ta : T2 p = .wk false S.works.length := by rw [hT2, tagAt_same]
      have tz : ∀ z, z ≠ p → T2 z = T1 z := fun z h1 => by rw [hT2, tagAt_ne h1]
      have gT : Go (fun _ => False) T1 H T2 H := by
        rw [hT2]
        exact Go.tag fp0
      have g1 : Go (fun _ => False) T1 H T2 HG := gT.trans (Go.ex e01)
      have tg1 : TgOk T2 HG := fun z hz => by
        rw [tz z (fun w => by rw [w, opG] at hz; cases hz)]
        exact tg z (Evl.fresh_back e01 hz)
      have hw1 := (g1.at w1 (fun z => z)).1
      have tw1 := (g1.at w1 (fun z => z)).2
      have hbG := (noAt g1 (fun z => z) ⟨hb, tb⟩).1
      have sz : ∀ z : Nat, z < 100000 → z < sizeLine := fun z hz => Nat.lt_of_lt_of_le hz (by decide)
      try dsimp only [L2.start, List.map, List.length_cons, List.length_nil, List.replicate, List.set, List.append, List.cons_append, List.nil_append]
      refine ⟨_, rfl, b, _, rfl, DGet.k (k := .inr "works") hbG, .inl ⟨rfl, _, Evl.sq_of hw1⟩, _, rfl, ws, _, _, rfl, rfl, hw1, by rw [List.length_map, w3]; exact sz _ hz1, ?_⟩
      have twT : T2 ws = .ws false := tw1.trans w2
      have g2 : Go (fun t => t = .ws false) T1 H T2 (upd HG ws (.lst (as.map V.ref ++ [.ref p]))) := (g1.mono fun _ z => z.elim).trans (Go.upd twT)
      have g12 : Go (fun t => t = .ws false) T2 HG T2 (upd HG ws (.lst (as.map V.ref ++ [.ref p]))) := Go.upd twT
      have hw2 : (upd HG ws (.lst (as.map V.ref ++ [.ref p]))) ws = some (.lst ((as ++ [p]).map V.ref)) := by rw [upd_same, List.map_append]; rfl
      try dsimp only
      generalize upd HG ws (.lst (as.map V.ref ++ [.ref p])) = H2 at g2 g12 hw2 ⊢
      have no1 : ∀ t : Tg, t ≠ .ws false → ¬ (fun t => t = Tg.ws false) t := fun t h z => h z
      obtain ⟨hb2, tb2⟩ := noAt g2 (no1 _ fun z => nomatch z) ⟨hb, tb⟩
      have hd2 : DeedsAt false T2 H2 dn S.deeds := hdeeds.go g2 (no1 _ fun z => nomatch z) (no1 _ fun z => nomatch z)
      obtain ⟨das, hd21, hd22, _⟩ := id hd2
      refine ⟨_, rfl, b, _, rfl, DGet.k (k := .inr "deeds") hb2, .inl ⟨rfl, _, Evl.sq_of hd21⟩, _, rfl, _, rfl, _, rfl, _, rfl, ?_⟩
      refine ⟨by show 4 ≤ sizeLine; decide, fun q hq => ?_⟩
      try dsimp only
      generalize gH3 : upd H2 q (.tup [.str (wordOf false), .int x, .int d, .int (n : Nat)]) = H3
      have eH3 : Evl.Ex H2 H3 := by rw [← gH3]; exact Evl.Ex.new hq
      have oH3 : H3 q = some (.tup [.str (wordOf false), .int x, .int d, .int (n : Nat)]) := by rw [← gH3]; exact upd_same
      have tg2 : TgOk T2 H2 := tg1.gr g12.gr
      have tq : T2 q = .no := tg2 q hq
      obtain ⟨xs, hx3, hxl, hd4⟩ := (hd2.go (Go.ex (p := fun _ => False) eH3) (fun z => z) (fun z => z)).app (d := .beg false x d n) oH3 tq
      refine ⟨dn, _, _, rfl, rfl, hx3, by rw [hxl]; exact sz _ hz2, ?_⟩
      have g4 : Go (fun t => t = .ws false ∨ t = .dn false) T1 H T2 (upd H3 dn (.lst (xs ++ [.ref q]))) := (g2.mono fun t z => .inl z).trans ((Go.ex eH3).trans (Go.upd (.inr hd22)))
      have g14 : Go (fun t => t = .ws false ∨ t = .dn false) T2 HG T2 (upd H3 dn (.lst (xs ++ [.ref q]))) := (g12.mono fun t z => .inl z).trans ((Go.ex eH3).trans (Go.upd (.inr hd22)))
      have hw4 : (upd H3 dn (.lst (xs ++ [.ref q]))) ws = some (.lst ((as ++ [p]).map V.ref)) := by
        have nw : ws ≠ dn := fun z => by rw [z, hd22] at twT; cases twT
        rw [upd_ne nw]
        exact eH3 _ _ hw2
      try dsimp only
      generalize upd H3 dn (.lst (xs ++ [.ref q])) = H4 at g4 g14 hw4 hd4 ⊢
      have no4 : ∀ t : Tg, t ≠ .ws false → t ≠ .dn false → ¬ (t = Tg.ws false ∨ t = .dn false) := fun t h1 h2 z => z.elim h1 h2
      have n04 := no4 .no (fun z => nomatch z) (fun z => nomatch z)
      obtain ⟨hb4, tb4⟩ := noAt g4 n04 ⟨hb, tb⟩
      refine ⟨_, rfl, b, _, rfl, DGet.k (k := .inr "works") hb4, ws, _, rfl, .inl (Evl.sq_of hw4), ?_⟩
      refine ⟨_, _, rfl, rfl, ?_⟩
      have fin : OwnAt c T2 H4 b (S.begS c false x d n) := by
        refine ⟨k, l, rr, ws, sn, dn, ⟨hb4, tb4⟩, hkl.go g4 n04, hrows.go g4 n04 fun i => no4 _ (fun z => nomatch z) (fun z => nomatch z), ⟨as ++ [p], hw4, twT, ?_, fun i b' w' h2 h3 => ?_⟩, hseen.go g4 (no4 _ (fun z => nomatch z) (fun z => nomatch z)), hd4⟩
        · rw [List.length_append, w3]
          show S.works.length + 1 = (S.works ++ [w0 c false x d n]).length
          rw [List.length_append]
          rfl
        · rcases get_app h2 with h2 | ⟨e2, e3⟩
          · have hi := (List.getElem?_eq_some_iff.mp h2).1
            have h3' : (S.works ++ [w0 c false x d n])[i]? = some w' := h3
            rw [List.getElem?_append_left (by omega)] at h3'
            exact (w4 i b' w' h2 h3').go g4 n04 (no4 _ (fun z => nomatch z) (fun z => nomatch z))
          · subst e3
            have h3' : (S.works ++ [w0 c false x d n])[i]? = some w' := h3
            rw [List.getElem?_append_right (by omega), show i - S.works.length = 0 by omega] at h3'
            cases h3'
            have ei : i = S.works.length := by omega
            rw [ei]
            obtain ⟨ha4, ta4⟩ := g14.at opG (by rw [ta]; exact no4 _ (fun z => nomatch z) (fun z => nomatch z))
            have tn : T2 nn = .no := by rw [tz nn nnp]; exact tg nn fnn
            have tf : T2 f = .no := by rw [tz f nfp]; exact tg f ff0
            have hst : StandAt T2 HG (.int (gX c x d n)) (w0 c false x d n) := by
              exact rfl
            exact ⟨nn, f, .int (gX c x d n), ha4, ta, noAt g14 n04 ⟨onG, tn⟩, noAt g14 n04 ⟨ofG, tf⟩, hst.go g14 n04⟩
      have hfin := hQ hroom T2 H4 (g4.mono fun t z => by rcases z with z | z <;> rw [z] <;> rfl) (tg1.gr g14.gr) fin
      have ev : V.int ((((as ++ [p]).map V.ref).length : Int) - 1) = V.int ((S.works.length : Nat) : Int) := congrArg V.int (by
        rw [List.length_map, List.length_append, w3]
        show ((S.works.length + 1 : Nat) : Int) - 1 = _
        omega)
      show Q (V.int ((((as ++ [p]).map V.ref).length : Int) - 1)) H4
      rw [ev]
      exact hfin
end SF
end
section
set_option Elab.async false
set_option linter.all false
set_option maxRecDepth 100000
set_option maxHeartbeats 4000000
namespace SF
open PySem PySem.Spec PyProof.Rows L2
/-! ### _law_due: what a deed is -/
inductive What where
  | beg (r : Bool) (x d : Int) (n : Nat)
  | step (n : Int)
  | put (t l : Int) (fv : V)
def What.vs : What → List V
  | .beg r x d n => [.str (wordOf r), .int x, .int d, .int (n : Nat)]
  | .step n => [.str "step", .int n]
  | .put t l fv => [.str "put", .int t, .int l, fv]
def dueSp (K : PySem.W.Frag) (o : Addr) : What → Hp → VK → XK → Prop
  | .beg r x d n, H, Q, E => spLBegun K [.ref o, .str (wordOf r), .int x, .int d, .int (n : Nat)] H Q E
  | .step n, H, Q, E => spGone K [.ref o, .int n] H Q E
  | .put t l fv, H, Q, E => spLPut K [.ref o, .int t, .int l, fv] H Q E
def spDue (K : PySem.W.Frag) : Sp := fun vs H Q E => ∃ (o wt : Addr) (wh : What), vs = [.ref o, .ref wt] ∧ SqT K H wt wh.vs ∧ ∀ H1, Evl.Ex H H1 → dueSp K o wh H1 Q L2.E0
theorem sc_law_due : FnScope ["own", "what"] ["own", "what"] (defScope s_law_due) := ⟨rfl, rfl, rfl, by decide +kernel, rfl, by decide +kernel, by decide +kernel⟩
theorem ok_law_due {P : Program} {w : World} {K : PySem.W.Frag} {mg : Str → Option Value} {base : Heap} (T : Fx K mg) : FnX P w K mg base CX0 6 (He.ga K "_law_due") ["own", "what"] (spDue K) := by
  refine fx_of T.d_law_due sc_law_due (fun _ _ _ _ _ _ us hl => match us, hl with | [_, _], _ => rfl) (fun vs H Q E h => ?_) (fun cdv A outer s H vs Q E hr h => ⟨_, PSs.nox ((pss_cons (ps_if (pt_cmpR op_in_seq (pe_ix ix_tup (pv 1) pe_int (fun _ _ => rfl)) (pe_tup (pa_cons pe_str (pa_cons pe_str pa_nil))) (by rfl)) (pss_one (ps_ret (pe_f (ok_law_begun T) (hr.mono (by decide)) (by rfl) T.g_law_begun pass0 (pa_cons (pv 0) (pa_cons (pe_ix ix_tup (pv 1) pe_int (fun _ _ => rfl)) (pa_cons (pe_ix ix_tup (pv 1) pe_int (fun _ _ => rfl)) (pa_cons (pe_ix ix_tup (pv 1) pe_int (fun _ _ => rfl)) (pa_cons (pe_ix ix_tup (pv 1) pe_int (fun _ _ => rfl)) pa_nil)))))))) pss_nil)
  (pss_cons (ps_if (pt_cmpR op_eq (pe_ix ix_tup (pv 1) pe_int (fun _ _ => rfl)) pe_str (nomark _)) (pss_one (ps_ret (pe_f (ok_law_gone T) hr (by rfl) T.g_law_gone pass0 (pa_cons (pv 0) (pa_cons (pe_ix ix_tup (pv 1) pe_int (fun _ _ => rfl)) pa_nil))))) pss_nil)
  (pss_one (ps_ret (pe_f (ok_law_put T) (hr.mono (by decide)) (by rfl) T.g_law_put pass0 (pa_cons (pv 0) (pa_cons (pe_ix ix_tup (pv 1) pe_int (fun _ _ => rfl)) (pa_cons (pe_ix ix_tup (pv 1) pe_int (fun _ _ => rfl)) (pa_cons (pe_ix ix_tup (pv 1) pe_int (fun _ _ => rfl)) pa_nil)))))))))), ?_⟩)
  · obtain ⟨o, wt, wh, rfl, _⟩ := h
    rfl
  · obtain ⟨o, wt, wh, rfl, hw, hQ⟩ := h
    cases wh with
    | beg r x d n =>
      have hw' : SqT K H wt [.str (wordOf r), .int x, .int d, .int (n : Nat)] := hw
      refine ⟨_, rfl, wt, _, _, _, rfl, rfl, hw', rfl, ?_⟩
      refine ⟨by show 2 ≤ sizeLine; decide, fun q hq => ?_⟩
      try dsimp only
      generalize gH1 : upd H q (.tup [.str "begin", .str "rows"]) = H1
      have eH1 : Evl.Ex H H1 := by rw [← gH1]; exact Evl.Ex.new hq
      have oH1 : H1 q = some (.tup [.str "begin", .str "rows"]) := by rw [← gH1]; exact upd_same
      have hw1 := Evl.ex_t eH1 hw'
      refine ⟨q, _, rfl, .inr (Evl.st_of oH1), rfl, rfl, _, rfl, ?_⟩
      have e : inV (V.str (wordOf r)) [V.str "begin", V.str "rows"] = true := by cases r <;> decide
      refine itB (fun _ => ?_) (fun z => by rw [e] at z; cases z)
      refine ⟨_, rfl, _, rfl, wt, _, _, _, rfl, rfl, hw1, rfl, _, rfl, wt, _, _, _, rfl, rfl, hw1, rfl, _, rfl, wt, _, _, _, rfl, rfl, hw1, rfl, _, rfl, wt, _, _, _, rfl, rfl, hw1, rfl, ?_⟩
      exact hQ H1 eH1
    | step n =>
      have hw' : SqT K H wt [.str "step", .int n] := hw
      refine ⟨_, rfl, wt, _, _, _, rfl, rfl, hw', rfl, ?_⟩
      refine ⟨by show 2 ≤ sizeLine; decide, fun q hq => ?_⟩
      try dsimp only
      generalize gH1 : upd H q (.tup [.str "begin", .str "rows"]) = H1
      have eH1 : Evl.Ex H H1 := by rw [← gH1]; exact Evl.Ex.new hq
      have oH1 : H1 q = some (.tup [.str "begin", .str "rows"]) := by rw [← gH1]; exact upd_same
      have hw1 := Evl.ex_t eH1 hw'
      refine ⟨q, _, rfl, .inr (Evl.st_of oH1), rfl, rfl, _, rfl, ?_⟩
      have e : inV (V.str "step") [V.str "begin", V.str "rows"] = false := by decide
      refine itB (fun z => by rw [show (if false = true then _ else inV (V.str "step") [V.str "begin", V.str "rows"]) = false from e] at z; cases z) (fun _ => ?_)
      refine ⟨_, rfl, wt, _, _, _, rfl, rfl, hw1, rfl, rfl, _, rfl, ?_⟩
      refine itT (c := V.str "step" = V.str "step") rfl ?_
      refine ⟨_, rfl, _, rfl, wt, _, _, _, rfl, rfl, hw1, rfl, ?_⟩
      exact hQ H1 eH1
    | put t l fv =>
      have hw' : SqT K H wt [.str "put", .int t, .int l, fv] := hw
      refine ⟨_, rfl, wt, _, _, _, rfl, rfl, hw', rfl, ?_⟩
      refine ⟨by show 2 ≤ sizeLine; decide, fun q hq => ?_⟩
      try dsimp only
      generalize gH1 : upd H q (.tup [.str "begin", .str "rows"]) = H1
      have eH1 : Evl.Ex H H1 := by rw [← gH1]; exact Evl.Ex.new hq
      have oH1 : H1 q = some (.tup [.str "begin", .str "rows"]) := by rw [← gH1]; exact upd_same
      have hw1 := Evl.ex_t eH1 hw'
      refine ⟨q, _, rfl, .inr (Evl.st_of oH1), rfl, rfl, _, rfl, ?_⟩
      have e : inV (V.str "put") [V.str "begin", V.str "rows"] = false := by decide
      refine itB (fun z => by rw [show (if false = true then _ else inV (V.str "put") [V.str "begin", V.str "rows"]) = false from e] at z; cases z) (fun _ => ?_)
      refine ⟨_, rfl, wt, _, _, _, rfl, rfl, hw1, rfl, rfl, _, rfl, ?_⟩
      refine itF (c := V.str "put" = V.str "step") (by decide) ?_
      refine ⟨_, rfl, _, rfl, wt, _, _, _, rfl, rfl, hw1, rfl, _, rfl, wt, _, _, _, rfl, rfl, hw1, rfl, _, rfl, wt, _, _, _, rfl, rfl, hw1, rfl, ?_⟩
      exact hQ H1 eH1
end SF
end
section
set_option Elab.async false
set_option linter.all false
set_option maxRecDepth 100000
set_option maxHeartbeats 4000000
namespace SF
open PySem PySem.Spec PyProof.Rows L2
/-! ### the deck -/
def Deck (H : Hp) (d : Addr) (n : Nat) : Prop := ∃ a b c : Int, H d = some (.lst [.int a, .int b, .int c]) ∧ 0 ≤ b ∧ b < 2147483579 ∧ 0 ≤ c ∧ c ≤ (n : Nat)
def spDeck : Sp := fun vs H Q _ => ∃ (x : Int) (n : Nat), vs = [.int x, .int (n : Nat)] ∧ ∀ H' d, Evl.Ex H H' → H d = none → Deck H' d n → Q (.ref d) H'
theorem sc_law_deck : FnScope ["cell", "turn"] ["cell", "turn"] (defScope s_law_deck) := ⟨rfl, rfl, rfl, by decide +kernel, rfl, by decide +kernel, by decide +kernel⟩
theorem ok_law_deck {P : Program} {w : World} {K : PySem.W.Frag} {mg : Str → Option Value} {base : Heap} (T : Fx K mg) : FnX P w K mg base CX0 1 (He.ga K "_law_deck") ["cell", "turn"] (spDeck) := by
  refine fx_of T.d_law_deck sc_law_deck (fun _ _ _ _ _ _ us hl => match us, hl with | [_, _], _ => rfl) (fun vs H Q E h => ?_) (fun cdv A outer s H vs Q E hr h => ⟨_, PSs.nox ((pss_cons (ps_if (pt_cmpR op_ge (pv 0) (pe_op op_pow pe_int pe_int) (nomark _)) (pss_one (ps_ret (pe_lst (pa_cons (pe_op op_sub (pv 0) (pe_op op_pow pe_int pe_int)) (pa_cons (pe_op op_mod (pv 0) pe_int) (pa_cons (pv 1) pa_nil)))))) pss_nil)
  (pss_one (ps_ret (pe_lst (pa_cons pe_int (pa_cons (pe_op op_mod (pv 0) pe_int) (pa_cons (pv 1) pa_nil)))))))), ?_⟩)
  · obtain ⟨x, n, rfl, _⟩ := h
    rfl
  · obtain ⟨x, n, rfl, hQ⟩ := h
    refine ⟨_, rfl, _, _, rfl, rfl, ⟨by decide, by decide⟩, ?_⟩
    refine ⟨_, _, rfl, rfl, _, rfl, ?_⟩
    refine itD (fun h0 => ?_) (fun h0 => ?_)
    · refine ⟨_, rfl, _, _, rfl, rfl, ⟨by decide, by decide⟩, _, _, rfl, rfl, _, rfl, _, _, rfl, rfl, by show (0 : Int) < 2147483579; decide, _, rfl, ?_⟩
      refine ⟨by show 3 ≤ sizeLine; decide, fun p hp => hQ _ p (Evl.Ex.new hp) hp ⟨_, _, _, upd_same, Int.emod_nonneg _ (by decide), Int.emod_lt_of_pos _ (by decide), by omega, Int.le_refl _⟩⟩
    · refine ⟨_, rfl, _, _, rfl, rfl, by show (0 : Int) < 2147483579; decide, _, rfl, ?_⟩
      refine ⟨by show 3 ≤ sizeLine; decide, fun p hp => hQ _ p (Evl.Ex.new hp) hp ⟨_, _, _, upd_same, Int.emod_nonneg _ (by decide), Int.emod_lt_of_pos _ (by decide), by omega, Int.le_refl _⟩⟩
/-! ### _law_pick -/
def Mid (m : Int) : Prop := m.natAbs < 2 ^ 5000
theorem mid_of {m : Int} (h0 : -(2 ^ 64) ≤ m) (h1 : m ≤ 2 ^ 64) : Mid m := Nat.lt_of_lt_of_le (m := 2 ^ 65) (by omega) (Nat.pow_le_pow_right (by decide) (by decide))
def spPick : Sp := fun vs H Q _ => ∃ (d : Addr) (m : Int) (n : Nat), vs = [.ref d, .int m] ∧ Deck H d n ∧ n ≤ 1000000 ∧ 0 < m ∧ Mid m ∧ ∀ H' r, 0 ≤ r → r < m → ExX d H H' → Deck H' d (n + 1) → Q (.int r) H'
theorem sc_law_pick : FnScope ["deck", "many", "found", "number"] ["deck", "many"] (defScope s_law_pick) := ⟨rfl, rfl, rfl, by decide +kernel, rfl, by decide +kernel, by decide +kernel⟩
theorem ok_law_pick {P : Program} {w : World} {K : PySem.W.Frag} {mg : Str → Option Value} {base : Heap} (T : Fx K mg) : FnX P w K mg base CX0 1 (He.ga K "_law_pick") ["deck", "many"] (spPick) := by
  refine fx_of T.d_law_pick sc_law_pick (fun _ _ _ _ _ _ us hl => match us, hl with | [_, _], _ => rfl) (fun vs H Q E h => ?_) (fun cdv A outer s H vs Q E hr h => ⟨_, PSs.nox ((pss_cons (ps_if (pt_cmpR op_gt (pe_ix ix_list (pv 0) pe_int (fun _ _ => rfl)) pe_int (nomark _)) (pss_cons (ps_set (i := 2) sc_law_pick.nd rfl (Or.inl rfl) (pe_op op_mod (pe_ix ix_list (pv 0) pe_int (fun _ _ => rfl)) (pv 1)))
  (pss_cons (ps_asg (pe_op op_fdivW (pe_ix ix_list (pv 0) pe_int (fun _ _ => rfl)) (pv 1)) (pg_sub (pv 0) pe_int set_list))
  (pss_one (ps_ret (pv 2))))) pss_nil)
  (pss_cons (ps_asg (pe_op op_add (pe_ix ix_list (pv 0) pe_int (fun _ _ => rfl)) pe_int) (pg_sub (pv 0) pe_int set_list))
  (pss_cons (ps_set (i := 3) sc_law_pick.nd rfl (Or.inl rfl) (pe_op op_mod (pe_op op_pow (pe_op op_add (pe_ix ix_list (pv 0) pe_int (fun _ _ => rfl)) (pe_op op_mul pe_int (pe_ix ix_list (pv 0) pe_int (fun _ _ => rfl)))) pe_int) pe_int))
  (pss_cons (ps_set (i := 2) sc_law_pick.nd rfl (Or.inl rfl) (pe_op op_fdivW (pe_op op_mod (pe_op op_pow (pe_op op_add (pv 3) (pe_op op_mul pe_int (pe_ix ix_list (pv 0) pe_int (fun _ _ => rfl)))) pe_int) pe_int) pe_int))
  (pss_cons (ps_if (pt_cmpR op_gt (pv 1) pe_int (nomark _)) (pss_one (ps_ret (pe_op op_mod (pe_op op_add (pe_op op_mul (pv 2) pe_int) (pv 3)) (pv 1)))) pss_nil)
  (pss_one (ps_ret (pe_op op_mod (pv 2) (pv 1)))))))))), ?_⟩)
  · obtain ⟨d, m, n, rfl, _⟩ := h
    rfl
  · obtain ⟨d, m, n, rfl, ⟨a, b, c, hd, hb0, hb1, hc0, hc1⟩, hn, hm, hm2, hQ⟩ := h
    have hs := Evl.sq_of (K := K) hd
    refine ⟨_, rfl, _, _, _, _, rfl, rfl, hs, rfl, _, _, rfl, rfl, _, rfl, ?_⟩
    refine itD (fun h0 => ?_) (fun h0 => ?_)
    · refine ⟨_, rfl, _, _, _, _, rfl, rfl, hs, rfl, _, rfl, _, _, rfl, rfl, hm, ?_⟩
      refine ⟨_, rfl, _, _, _, _, rfl, rfl, hs, rfl, _, rfl, _, _, rfl, rfl, wide_div hm hm2 (by decide) (by decide), ?_⟩
      refine ⟨_, rfl, _, _, _, _, rfl, rfl, hd, rfl, ?_⟩
      refine ⟨_, rfl, ?_⟩
      exact hQ _ _ (Int.emod_nonneg _ (by omega)) (Int.emod_lt_of_pos _ hm) ExX.at ⟨a / m, b, c, upd_same, hb0, hb1, hc0, by omega⟩
    · refine ⟨_, rfl, _, _, _, _, rfl, rfl, hs, rfl, _, _, rfl, rfl, _, rfl, _, _, _, _, rfl, rfl, hd, rfl, ?_⟩
      have h1 : (upd H d (.lst ([V.int a, V.int b, V.int c].set (Int.toNat 2) (V.int (c + 1))))) d = some (.lst [.int a, .int b, .int (c + 1)]) := upd_same
      have x1 : ExX d H (upd H d (.lst ([V.int a, V.int b, V.int c].set (Int.toNat 2) (V.int (c + 1))))) := ExX.at
      try dsimp only
      generalize upd H d (.lst ([V.int a, V.int b, V.int c].set (Int.toNat 2) (V.int (c + 1)))) = H1 at h1 x1 ⊢
      have hs1 := Evl.sq_of (K := K) h1
      have pz : ∀ k : Int, 0 < k → (fun (_ j : Int) => 0 < j) 0 k := fun _ h => h
      refine ⟨_, rfl, _, _, _, _, rfl, rfl, hs1, rfl, _, rfl, _, _, _, _, rfl, rfl, hs1, rfl, _, _, rfl, rfl, .inl ⟨by decide, by decide⟩, _, _, rfl, rfl, _, _, rfl, rfl, ⟨by decide, by decide, by omega⟩, _, _, rfl, rfl, by show (0 : Int) < 2147483647; decide, ?_⟩
      try dsimp only
      have n0 := Int.emod_nonneg ((b + 15485867 * (c + 1)) ^ (5 : Int).toNat) (show (2147483647 : Int) ≠ 0 by decide)
      have n1 := Int.emod_lt_of_pos ((b + 15485867 * (c + 1)) ^ (5 : Int).toNat) (show (0 : Int) < 2147483647 by decide)
      generalize (b + 15485867 * (c + 1)) ^ (5 : Int).toNat % 2147483647 = num at n0 n1 ⊢
      refine ⟨_, rfl, _, rfl, _, _, _, _, rfl, rfl, hs1, rfl, _, _, rfl, rfl, .inl ⟨by decide, by decide⟩, _, _, rfl, rfl, _, _, rfl, rfl, ⟨by decide, by decide, by omega⟩, _, _, rfl, rfl, by show (0 : Int) < 2147483629; decide, _, _, rfl, rfl, wide_div (b := 6) (by decide) (by decide) (by decide) (by decide), ?_⟩
      try dsimp only
      generalize (num + 7919 * (c + 1)) ^ (3 : Int).toNat % 2147483629 / 32 = fnd
      have fin : ∀ z : Int, Q (.int (z % m)) H1 := fun z => hQ _ _ (Int.emod_nonneg _ (by omega)) (Int.emod_lt_of_pos _ hm) x1 ⟨a, b, c + 1, h1, hb0, hb1, by omega, by omega⟩
      refine ⟨_, rfl, _, _, rfl, rfl, _, rfl, ?_⟩
      refine itD (fun h2 => ?_) (fun h2 => ?_)
      · exact ⟨_, rfl, _, _, rfl, rfl, .inr ⟨by decide, by decide⟩, _, rfl, _, _, rfl, rfl, _, rfl, _, _, rfl, rfl, hm, fin _⟩
      · exact ⟨_, rfl, _, rfl, _, _, rfl, rfl, hm, fin _⟩
/-! ### _law_great -/
theorem Deck.mono {H : Hp} {d : Addr} {n m : Nat} (h : Deck H d n) (le : n ≤ m) : Deck H d m := by
  obtain ⟨a, b, c, h1, h2, h3, h4, h5⟩ := h
  exact ⟨a, b, c, h1, h2, h3, h4, by omega⟩
def spGreat : Sp := fun vs H Q _ => ∃ (d : Addr) (k n : Nat), vs = [.ref d, .int (k : Nat)] ∧ Deck H d n ∧ n ≤ 900000 ∧ k ≤ 100 ∧ ∀ H' r, 0 ≤ r → r < 10 ^ 100 → ExX d H H' → Deck H' d (n + 6) → Q (.int r) H'
theorem ten_pos (k : Nat) : (0 : Int) < 10 ^ k := Int.pow_pos (by decide)
theorem ten_le {k : Nat} (h : k ≤ 100) : (10 : Int) ^ k ≤ 10 ^ 100 := by
  have : (10 : Nat) ^ k ≤ 10 ^ 100 := Nat.pow_le_pow_right (by decide) h
  exact_mod_cast this
theorem sc_law_great : FnScope ["deck", "figures", "size", "turn", "found"] ["deck", "figures"] (defScope s_law_great) := ⟨rfl, rfl, rfl, by decide +kernel, rfl, by decide +kernel, by decide +kernel⟩
theorem ok_law_great {P : Program} {w : World} {K : PySem.W.Frag} {mg : Str → Option Value} {base : Heap} (T : Fx K mg) : FnX P w K mg base CX0 2 (He.ga K "_law_great") ["deck", "figures"] (spGreat) := by
  refine fx_of T.d_law_great sc_law_great (fun _ _ _ _ _ _ us hl => match us, hl with | [_, _], _ => rfl) (fun vs H Q E h => ?_) (fun cdv A outer s H vs Q E hr h => ⟨_, PSs.nox ((pss_cons (ps_set (i := 2) sc_law_great.nd rfl (Or.inl rfl) pe_int)
  (pss_cons (ps_for PassesOwn.never rfl (pi_range1 (by rfl) T.b_range (pa_cons (pe_f (ok_law_pick T) hr (by rfl) T.g_law_pick pass0 (pa_cons (pv 0) (pa_cons (pe_op op_add (pv 1) pe_int) pa_nil))) pa_nil)) (pg_name (i := 3) sc_law_great.nd rfl (Or.inl rfl)) (pss_one (ps_set (i := 2) sc_law_great.nd rfl (Or.inl rfl) (pe_op op_mul (pv 2) pe_int))))
  (pss_cons (ps_set (i := 4) sc_law_great.nd rfl (Or.inl rfl) pe_int)
  (pss_cons (ps_for PassesOwn.never rfl (pi_range1 (by rfl) T.b_range (pa_cons pe_int pa_nil)) (pg_name (i := 3) sc_law_great.nd rfl (Or.inl rfl)) (pss_one (ps_set (i := 4) sc_law_great.nd rfl (Or.inl rfl) (pe_op op_add (pe_op op_mul (pv 4) (pe_op op_pow pe_int pe_int)) (pe_f (ok_law_pick T) hr (by rfl) T.g_law_pick pass0 (pa_cons (pv 0) (pa_cons (pe_op op_pow pe_int pe_int) pa_nil)))))))
  (pss_one (ps_ret (pe_op op_mod (pv 4) (pv 2))))))))), ?_⟩)
  · obtain ⟨d, k, n, rfl, _⟩ := h
    rfl
  · obtain ⟨d, k, n, rfl, hd, hn, hk, hQ⟩ := h
    refine ⟨_, rfl, _, rfl, _, _, rfl, rfl, d, _, n, rfl, hd, by omega, by omega, mid_of (by omega) (by omega), fun H1 r hr0 hr1 x1 d1 => ?_⟩
    refine ⟨r, rfl, by omega, by omega, for_range (fun i σ H' => H' = H1 ∧ ∃ z u, σ = [some (.ref d), some (.int (k : Nat)), some (.int (10 ^ i)), z, u]) ⟨rfl, _, _, rfl⟩ ?_ ?_⟩
    · rintro i σ H' hi ⟨rfl, z, u, rfl⟩
      refine ⟨_, rfl, _, _, rfl, rfl, .inr ⟨by decide, by decide⟩, rfl, some (.int (0 + ((i : Nat) : Int))), u, ?_⟩
      rw [Int.pow_succ]
      rfl
    · rintro σ H' ⟨rfl, z, u, rfl⟩
      have hk2 : r.toNat ≤ 100 := by omega
      have p1 := ten_pos r.toNat
      have p2 := ten_le hk2
      generalize (10 : Int) ^ r.toNat = sz at p1 p2
      refine ⟨5, rfl, by decide, by decide, for_range (n := 5) (fun i σ H2 => ExX d H' H2 ∧ Deck H2 d (n + 1 + i) ∧ ∃ z f, σ = [some (.ref d), some (.int (k : Nat)), some (.int sz), z, some (.int f)]) ⟨ExX.refl, d1, _, _, rfl⟩ ?_ ?_⟩
      · rintro i σ H2 hi ⟨x2, d2, z, f, rfl⟩
        refine ⟨_, rfl, _, _, rfl, rfl, ⟨by decide, by decide⟩, _, _, rfl, rfl, .inr ⟨by decide, by decide⟩, _, rfl, _, _, rfl, rfl, ⟨by decide, by decide⟩, ?_⟩
        refine ⟨d, _, n + 1 + i, rfl, d2, by omega, by decide, mid_of (by decide) (by decide), fun H3 q hq0 hq1 x3 d3 => ?_⟩
        exact ⟨_, _, rfl, rfl, x2.trans x3, d3, _, _, rfl⟩
      · rintro σ H2 ⟨x2, d2, z, f, rfl⟩
        refine ⟨_, rfl, _, rfl, _, _, rfl, rfl, p1, ?_⟩
        exact hQ H2 _ (Int.emod_nonneg _ (by omega)) (Int.lt_of_lt_of_le (Int.emod_lt_of_pos _ p1) p2) (x1.trans x2) (d2.mono (by show n + 1 + 5 ≤ n + 6; omega))
end SF
end
section
set_option Elab.async false
set_option linter.all false
set_option maxRecDepth 100000
set_option maxHeartbeats 4000000
namespace SF
open PySem PySem.Spec PyProof.Rows L2
/-! ### _law_edges, _law_met -/
def eRt (c : Kd) (x : Int) : Int := (x + 1) * 2 ^ c.p
def eLf (c : Kd) (x : Int) : Int := x * 2 ^ c.p
def eLo (c : Kd) (y : Int) : Int := y * 2 ^ c.t
def eHi (c : Kd) (s y : Int) : Int := (y + s) * 2 ^ c.t
def spEdges (K : PySem.W.Frag) : Sp := fun vs H Q _ => ∃ (l cl : Addr) (c : Kd) (s x y : Int), vs = [.ref l, .int s, .ref cl] ∧ LksAt K H l c ∧ c.Ok ∧ SqT K H cl [.int x, .int y] ∧ (-1000000 ≤ x ∧ x ≤ 1000000) ∧ (-1000000 ≤ y ∧ y ≤ 1000000) ∧ (-1000000 ≤ s ∧ s ≤ 1000000) ∧ NewT H [.int (eLf c x), .int (eRt c x), .int (eLo c y), .int (eHi c s y)] Q
theorem sc_law_edges : FnScope ["looks", "sight", "cell", "tops", "parts", "top", "look"] ["looks", "sight", "cell"] (defScope s_law_edges) := ⟨rfl, rfl, rfl, by decide +kernel, rfl, by decide +kernel, by decide +kernel⟩
theorem ok_law_edges {P : Program} {w : World} {K : PySem.W.Frag} {mg : Str → Option Value} {base : Heap} (T : Fx K mg) : FnX P w K mg base CX0 1 (He.ga K "_law_edges") ["looks", "sight", "cell"] (spEdges K) := by
  refine fx_of T.d_law_edges sc_law_edges (fun _ _ _ _ _ _ us hl => match us, hl with | [_, _, _], _ => rfl) (fun vs H Q E h => ?_) (fun cdv A outer s H vs Q E hr h => ⟨_, PSs.nox ((pss_cons (ps_asg (pv 0) (pg_tup rfl (pgs_cons (pg_name (i := 3) sc_law_edges.nd rfl (Or.inl rfl)) (pgs_cons (pg_name (i := 4) sc_law_edges.nd rfl (Or.inl rfl)) pgs_nil))))
  (pss_cons (ps_asg (pv 2) (pg_tup rfl (pgs_cons (pg_name (i := 5) sc_law_edges.nd rfl (Or.inl rfl)) (pgs_cons (pg_name (i := 6) sc_law_edges.nd rfl (Or.inl rfl)) pgs_nil))))
  (pss_one (ps_ret (pe_tup (pa_cons (pe_op op_shlN (pv 5) (pv 4)) (pa_cons (pe_op op_shlN (pe_op op_add (pv 5) pe_int) (pv 4)) (pa_cons (pe_op op_shlN (pv 6) (pv 3)) (pa_cons (pe_op op_shlN (pe_op op_add (pv 6) (pv 1)) (pv 3)) pa_nil)))))))))), ?_⟩)
  · obtain ⟨l, cl, c, s, x, y, rfl, _⟩ := h
    rfl
  · obtain ⟨l, cl, c, s, x, y, rfl, hl, ok, hc, hx, hy, hs, hQ⟩ := h
    have p5 := ok.p5
    have t5 := ok.t5
    refine ⟨_, rfl, _, _, rfl, hl, rfl, _, _, rfl, _, _, rfl, rfl, ?_⟩
    refine ⟨_, rfl, _, _, rfl, hc, rfl, _, _, rfl, _, _, rfl, rfl, ?_⟩
    refine ⟨_, rfl, _, rfl, _, _, rfl, rfl, shl_ok (n := 65) (sm_abs (by decide) (by omega) (by omega)) (by omega), ?_⟩
    refine ⟨_, rfl, _, _, rfl, rfl, _, rfl, _, _, rfl, rfl, shl_ok (n := 65) (sm_abs (by decide) (by omega) (by omega)) (by omega), ?_⟩
    refine ⟨_, rfl, _, rfl, _, _, rfl, rfl, shl_ok (n := 65) (sm_abs (by decide) (by omega) (by omega)) (by omega), ?_⟩
    refine ⟨_, rfl, _, rfl, _, _, rfl, rfl, _, rfl, _, _, rfl, rfl, shl_ok (n := 65) (sm_abs (by decide) (by omega) (by omega)) (by omega), ?_⟩
    exact ⟨by show 4 ≤ sizeLine; decide, fun p hp => hQ _ p (Evl.Ex.new hp) hp upd_same⟩
def metF (c : Kd) (s x y : Int) : Bool := if eLo c y > 0 then decide (eLo c y * (c.base - 1) < eRt c x * c.base * c.m) else decide (0 ≤ eHi c s y) || decide (0 - eHi c s y * (c.base - 1) < eRt c x * c.base * c.m)
def Sm (x : Int) : Prop := -1000000 ≤ x ∧ x ≤ 1000000
def spMet (K : PySem.W.Frag) : Sp := fun vs H Q _ => ∃ (k l cl : Addr) (c : Kd) (s x y : Int), vs = [.ref k, .ref l, .int s, .ref cl] ∧ KndAt K H k c ∧ LksAt K H l c ∧ c.Ok ∧ SqT K H cl [.int x, .int y] ∧ Sm x ∧ Sm y ∧ Sm s ∧ ∀ H', Evl.Ex H H' → Q (.bl (metF c s x y)) H'
theorem sc_law_met : FnScope ["kind", "looks", "sight", "cell", "base", "most", "left", "right", "low", "high"] ["kind", "looks", "sight", "cell"] (defScope s_law_met) := ⟨rfl, rfl, rfl, by decide +kernel, rfl, by decide +kernel, by decide +kernel⟩
theorem ok_law_met {P : Program} {w : World} {K : PySem.W.Frag} {mg : Str → Option Value} {base : Heap} (T : Fx K mg) : FnX P w K mg base CX0 2 (He.ga K "_law_met") ["kind", "looks", "sight", "cell"] (spMet K) := by
  refine fx_of T.d_law_met sc_law_met (fun _ _ _ _ _ _ us hl => match us, hl with | [_, _, _, _], _ => rfl) (fun vs H Q E h => ?_) (fun cdv A outer s H vs Q E hr h => ⟨_, PSs.nox ((pss_cons (ps_asg (pv 0) (pg_tup rfl (pgs_cons (pg_name (i := 4) sc_law_met.nd rfl (Or.inl rfl)) (pgs_cons (pg_name (i := 5) sc_law_met.nd rfl (Or.inl rfl)) pgs_nil))))
  (pss_cons (ps_asg (pe_f (ok_law_edges T) hr (by rfl) T.g_law_edges pass0 (pa_cons (pv 1) (pa_cons (pv 2) (pa_cons (pv 3) pa_nil)))) (pg_tup rfl (pgs_cons (pg_name (i := 6) sc_law_met.nd rfl (Or.inl rfl)) (pgs_cons (pg_name (i := 7) sc_law_met.nd rfl (Or.inl rfl)) (pgs_cons (pg_name (i := 8) sc_law_met.nd rfl (Or.inl rfl)) (pgs_cons (pg_name (i := 9) sc_law_met.nd rfl (Or.inl rfl)) pgs_nil))))))
  (pss_cons (ps_if (pt_cmpR op_gt (pv 8) pe_int (nomark _)) (pss_one (ps_ret (pe_cmpR op_lt (pe_op op_mul (pv 8) (pe_op op_sub (pv 4) pe_int)) (pe_op op_mul (pe_op op_mul (pv 7) (pv 4)) (pv 5)) (nomark _)))) pss_nil)
  (pss_one (ps_ret (pe_or (pe_cmpR op_ge (pv 9) pe_int (nomark _)) (pe_one (pe_cmpR op_lt (pe_op op_sub pe_int (pe_op op_mul (pv 9) (pe_op op_sub (pv 4) pe_int))) (pe_op op_mul (pe_op op_mul (pv 7) (pv 4)) (pv 5)) (nomark _)))))))))), ?_⟩)
  · obtain ⟨k, l, cl, c, s, x, y, rfl, _⟩ := h
    rfl
  · obtain ⟨k, l, cl, c, s, x, y, rfl, hk, hl, ok, hc, hx, hy, hs, hQ⟩ := h
    have b8 := ok.b8
    have b2 := ok.b2
    have m1 := ok.m1
    have m7 := ok.m7
    refine ⟨_, rfl, _, _, rfl, hk, rfl, _, _, rfl, _, _, rfl, rfl, ?_⟩
    refine ⟨_, rfl, _, rfl, _, rfl, l, cl, c, s, x, y, rfl, hl, ok, hc, hx, hy, hs, fun H1 q e1 hq h1 => ?_⟩
    refine ⟨q, _, rfl, Evl.st_of h1, rfl, _, _, rfl, _, _, rfl, _, _, rfl, _, _, rfl, rfl, ?_⟩
    have hQ1 := hQ H1 e1
    unfold metF at hQ1
    refine ⟨_, rfl, _, _, rfl, rfl, _, rfl, ?_⟩
    refine itD (fun h0 => ?_) (fun h0 => ?_)
    · rw [if_pos h0] at hQ1
      exact ⟨_, rfl, _, rfl, _, _, rfl, rfl, _, _, rfl, rfl, .inr ⟨by omega, by omega⟩, _, rfl, _, rfl, _, _, rfl, rfl, .inr ⟨by omega, by omega⟩, _, rfl, _, _, rfl, rfl, .inr ⟨by omega, by omega⟩, _, _, rfl, rfl, hQ1⟩
    · rw [if_neg h0] at hQ1
      refine ⟨_, rfl, _, _, rfl, rfl, _, rfl, ?_⟩
      refine itD (fun h2 => ?_) (fun h2 => ?_)
      · rw [decide_eq_true h2, Bool.true_or] at hQ1
        exact hQ1
      · rw [decide_eq_false h2, Bool.false_or] at hQ1
        exact ⟨_, rfl, _, rfl, _, _, rfl, rfl, _, _, rfl, rfl, .inr ⟨by omega, by omega⟩, _, _, rfl, rfl, _, rfl, _, rfl, _, _, rfl, rfl, .inr ⟨by omega, by omega⟩, _, rfl, _, _, rfl, rfl, .inr ⟨by omega, by omega⟩, _, _, rfl, rfl, hQ1⟩
theorem sq_asg {te : TE} {g : TG} {u : TS} {D : Ends} {σ : L2.St} {H : Hp} (h : te σ H fun x H1 => g x σ H1 (u D)) : tSeq (tAsg te g) u D σ H := h
theorem or_any {ta tb : TE} {σ : L2.St} {H : Hp} {Q : VK} (h1 : ∀ R : V → Hp → Prop, (∀ c, R (.bl c) H) → ta σ H R) (h2 : ∀ R : V → Hp → Prop, (∀ c, R (.bl c) H) → tb σ H R) (hQ : ∀ b, Q (.bl b) H) : tOrV ta tb σ H Q :=
  h1 _ fun c => ⟨c, rfl, by
    cases c with
    | true => exact hQ true
    | false => exact h2 _ hQ⟩
/-! ### _law_good -/
def spGood (K : PySem.W.Frag) : Sp := fun vs H Q _ => ∃ (k l cl : Addr) (c : Kd) (s x y : Int), vs = [.ref k, .ref l, .int s, .ref cl] ∧ KndAt K H k c ∧ LksAt K H l c ∧ c.Ok ∧ SqT K H cl [.int x, .int y] ∧ Sm x ∧ Sm y ∧ Sm s ∧
  ∀ H' g (ns : List Int), Evl.Ex H H' → H g = none → H' g = some (.lst (ns.map V.int)) → (∀ f ∈ ns, -c.m ≤ f ∧ f ≤ c.m) → ns.length ≤ 1000 → Q (.ref g) H'
theorem sc_law_good : FnScope ["kind", "looks", "sight", "cell", "base", "most", "left", "right", "low", "high", "found", "figure", "upper", "lower", "side", "fits"] ["kind", "looks", "sight", "cell"] (defScope s_law_good) := ⟨rfl, rfl, rfl, by decide +kernel, rfl, by decide +kernel, by decide +kernel⟩
theorem ok_law_good {P : Program} {w : World} {K : PySem.W.Frag} {mg : Str → Option Value} {base : Heap} (T : Fx K mg) : FnX P w K mg base CX0 3 (He.ga K "_law_good") ["kind", "looks", "sight", "cell"] (spGood K) := by
  refine fx_of T.d_law_good sc_law_good (fun _ _ _ _ _ _ us hl => match us, hl with | [_, _, _, _], _ => rfl) (fun vs H Q E h => ?_) (fun cdv A outer s H vs Q E hr h => ⟨_, PSs.nox ((pss_cons (ps_asg (pv 0) (pg_tup rfl (pgs_cons (pg_name (i := 4) sc_law_good.nd rfl (Or.inl rfl)) (pgs_cons (pg_name (i := 5) sc_law_good.nd rfl (Or.inl rfl)) pgs_nil))))
  (pss_cons (ps_asg (pe_f (ok_law_edges T) (hr.mono (by decide)) (by rfl) T.g_law_edges pass0 (pa_cons (pv 1) (pa_cons (pv 2) (pa_cons (pv 3) pa_nil)))) (pg_tup rfl (pgs_cons (pg_name (i := 6) sc_law_good.nd rfl (Or.inl rfl)) (pgs_cons (pg_name (i := 7) sc_law_good.nd rfl (Or.inl rfl)) (pgs_cons (pg_name (i := 8) sc_law_good.nd rfl (Or.inl rfl)) (pgs_cons (pg_name (i := 9) sc_law_good.nd rfl (Or.inl rfl)) pgs_nil))))))
  (pss_cons (ps_set (i := 10) sc_law_good.nd rfl (Or.inl rfl) (pe_lst pa_nil))
  (pss_cons (ps_for PassesOwn.never rfl (pi_range2 (by rfl) T.b_range (pa_cons (pe_op op_sub pe_int (pv 5)) (pa_cons (pe_op op_add (pv 5) pe_int) pa_nil))) (pg_name (i := 11) sc_law_good.nd rfl (Or.inl rfl)) (pss_cons (ps_set (i := 12) sc_law_good.nd rfl (Or.inl rfl) (pe_op op_add (pe_op op_mul (pv 11) (pe_op op_sub (pv 4) pe_int)) (pv 5)))
  (pss_cons (ps_set (i := 13) sc_law_good.nd rfl (Or.inl rfl) (pe_op op_sub (pe_op op_mul (pv 11) (pe_op op_sub (pv 4) pe_int)) (pv 5)))
  (pss_cons (ps_set (i := 14) sc_law_good.nd rfl (Or.inl rfl) (pe_ix ix_list (pe_lst (pa_cons (pv 7) (pa_cons (pv 6) pa_nil))) (pe_callTy (T := "int") call_int1 (by rfl) T.b_int (by decide +kernel) (pa_cons (pe_cmpR op_ge (pv 12) pe_int (nomark _)) pa_nil)) (fun _ _ => rfl)))
  (pss_cons (ps_set (i := 15) sc_law_good.nd rfl (Or.inl rfl) (pe_or (pe_cmpR op_eq (pv 11) (pv 5) (nomark _)) (pe_one (pe_cmpR op_le (pe_op op_mul (pv 9) (pe_op op_sub (pv 4) pe_int)) (pe_op op_mul (pv 12) (pv 14)) (nomark _)))))
  (pss_cons (ps_set (i := 14) sc_law_good.nd rfl (Or.inl rfl) (pe_ix ix_list (pe_lst (pa_cons (pv 6) (pa_cons (pv 7) pa_nil))) (pe_callTy (T := "int") call_int1 (by rfl) T.b_int (by decide +kernel) (pa_cons (pe_cmpR op_ge (pv 13) pe_int (nomark _)) pa_nil)) (fun _ _ => rfl)))
  (pss_one (ps_if (PW.pt (pw_and (pt_val (pv 15)) (pw_and1 (PW.pt (pw_or (pt_cmpR op_eq (pv 11) (pe_op op_sub pe_int (pv 5)) (nomark _)) (pw_or1 (pt_cmpR op_ge (pe_op op_mul (pv 8) (pe_op op_sub (pv 4) pe_int)) (pe_op op_mul (pv 13) (pv 14)) (nomark _)))))))) (pss_one (ps_expr (pe_bm PySem.F.plainAttrs_list PySem.F.slot_list_append PySem.F.type_list_append mt_append (pv 10) (pa_cons (pv 11) pa_nil)))) pss_nil))))))))
  (pss_cons (ps_if (pt_val (pe_f (ok_law_met T) hr (by rfl) T.g_law_met pass0 (pa_cons (pv 0) (pa_cons (pv 1) (pa_cons (pv 2) (pa_cons (pv 3) pa_nil)))))) (pss_one (ps_ret (pv 10))) pss_nil)
  (pss_one (ps_ret (pe_listRg rfl (by rfl) T.b_list (prg_2 (by rfl) T.b_range (pe_op op_sub pe_int (pv 5)) (pe_op op_add (pv 5) pe_int))))))))))), ?_⟩)
  · obtain ⟨k, l, cl, c, s, x, y, rfl, _⟩ := h
    rfl
  · obtain ⟨k, l, cl, c, s, x, y, rfl, hk, hl, ok, hc, hx, hy, hs, hQ⟩ := h
    have b8 := ok.b8
    have b2 := ok.b2
    have m1 := ok.m1
    have m7 := ok.m7
    refine ⟨_, rfl, _, _, rfl, hk, rfl, _, _, rfl, _, _, rfl, rfl, ?_⟩
    refine ⟨_, rfl, _, rfl, _, rfl, l, cl, c, s, x, y, rfl, hl, ok, hc, hx, hy, hs, fun H1 q e1 hq h1 => ?_⟩
    refine ⟨q, _, rfl, Evl.st_of h1, rfl, _, _, rfl, _, _, rfl, _, _, rfl, _, _, rfl, rfl, ?_⟩
    refine ⟨by show 0 ≤ sizeLine; decide, fun fd hfd => ?_⟩
    try dsimp only
    generalize gH2 : upd H1 fd (.lst []) = H2
    have eH2 : Evl.Ex H1 H2 := by rw [← gH2]; exact Evl.Ex.new hfd
    have oH2 : H2 fd = some (.lst []) := by rw [← gH2]; exact upd_same
    generalize eLf c x = lf
    generalize eRt c x = rt
    generalize eLo c y = lo
    generalize eHi c s y = hi
    try dsimp only [L2.start, List.map, List.length_cons, List.length_nil, List.replicate, List.set, List.append, List.cons_append, List.nil_append]
    refine ⟨_, rfl, _, _, rfl, rfl, _, rfl, _, _, rfl, rfl, _, _, rfl, by omega, ?_⟩
    refine for_range (fun i σ H' => Evl.Ex H1 H' ∧ ∃ (ns : List Int) (z1 z2 z3 z4 z5 : Option V), H' fd = some (.lst (ns.map V.int)) ∧ (∀ f ∈ ns, -c.m ≤ f ∧ f ≤ c.m) ∧ ns.length ≤ i ∧
      σ = [some (.ref k), some (.ref l), some (.int s), some (.ref cl), some (.int c.base), some (.int c.m), some (.int lf), some (.int rt), some (.int lo), some (.int hi), some (.ref fd), z1, z2, z3, z4, z5]) ⟨eH2, [], _, _, _, _, _, oH2, fun f z => (nomatch z), Nat.le_refl _, rfl⟩ ?_ ?_
    · rintro i σ H' hlti ⟨e2, ns, z1, z2, z3, z4, z5, h2, h3, h4, rfl⟩
      obtain ⟨F, hF⟩ : ∃ F, F = 0 - c.m + ((i : Nat) : Int) := ⟨_, rfl⟩
      have hF0 : -c.m ≤ F := by omega
      have hF1 : F ≤ c.m := by omega
      try dsimp only [gName]
      rw [← hF]
      have bm : (F * (c.base - 1)).natAbs ≤ 49 := by
        rw [Int.natAbs_mul]
        exact Nat.mul_le_mul (by omega : F.natAbs ≤ 7) (by omega : (c.base - 1).natAbs ≤ 7)
      refine ⟨_, rfl, _, rfl, _, _, rfl, rfl, _, _, rfl, rfl, .inl ⟨by omega, by omega⟩, _, rfl, _, _, rfl, rfl, ?_⟩
      refine ⟨_, rfl, _, rfl, _, _, rfl, rfl, _, _, rfl, rfl, .inl ⟨by omega, by omega⟩, _, rfl, _, _, rfl, rfl, ?_⟩
      try dsimp only [L2.start, List.map, List.length_cons, List.length_nil, List.replicate, List.set, List.append, List.cons_append, List.nil_append]
      generalize hU : F * (c.base - 1) + c.m = U
      generalize hL : F * (c.base - 1) - c.m = Lw
      refine ⟨_, rfl, _, rfl, ?_⟩
      refine ⟨by show 2 ≤ sizeLine; decide, fun s1 hs1 => ?_⟩
      try dsimp only
      generalize gH3 : upd H' s1 (.lst [.int rt, .int lf]) = H3
      have eH3 : Evl.Ex H' H3 := by rw [← gH3]; exact Evl.Ex.new hs1
      have oH3 : H3 s1 = some (.lst [.int rt, .int lf]) := by rw [← gH3]; exact upd_same
      refine ⟨_, rfl, _, _, rfl, rfl, .inr ⟨_, rfl, s1, _, _, .int (if decide (0 ≤ U) = true then lf else rt), rfl, rfl, Evl.sq_of oH3, by generalize decide (0 ≤ U) = kb; cases kb <;> rfl, ?_⟩⟩
      generalize (if decide (0 ≤ U) = true then lf else rt) = sd
      try dsimp only
      refine sq_asg ?_
      refine or_any (fun R hR => ⟨_, rfl, _, rfl, rfl, hR _⟩) (fun R hR => ⟨_, rfl, _, rfl, _, _, rfl, rfl, _, _, rfl, rfl, .inr ⟨by omega, by omega⟩, _, rfl, _, rfl, _, _, rfl, rfl, .inl ⟨by omega, by omega⟩, _, _, rfl, rfl, hR _⟩) fun fits => ?_
      try dsimp only [L2.start, List.map, List.length_cons, List.length_nil, List.replicate, List.set, List.append, List.cons_append, List.nil_append]
      refine ⟨_, rfl, _, rfl, ?_⟩
      refine ⟨by show 2 ≤ sizeLine; decide, fun s2 hs2 => ?_⟩
      try dsimp only
      generalize gH4 : upd H3 s2 (.lst [.int lf, .int rt]) = H4
      have eH4 : Evl.Ex H3 H4 := by rw [← gH4]; exact Evl.Ex.new hs2
      have oH4 : H4 s2 = some (.lst [.int lf, .int rt]) := by rw [← gH4]; exact upd_same
      refine ⟨_, rfl, _, _, rfl, rfl, .inr ⟨_, rfl, s2, _, _, .int (if decide (0 ≤ Lw) = true then rt else lf), rfl, rfl, Evl.sq_of oH4, by generalize decide (0 ≤ Lw) = kb; cases kb <;> rfl, ?_⟩⟩
      generalize (if decide (0 ≤ Lw) = true then rt else lf) = sd2
      try dsimp only [L2.start, List.map, List.length_cons, List.length_nil, List.replicate, List.set, List.append, List.cons_append, List.nil_append]
      have hfd4 := eH4 _ _ (eH3 _ _ h2)
      have ex4 := (e2.trans eH3).trans eH4
      have stay : ∀ w1 w2 w3 w4 w5 : Option V, Evl.Ex H1 H4 ∧ ∃ (ns : List Int) (z1 z2 z3 z4 z5 : Option V), H4 fd = some (.lst (ns.map V.int)) ∧ (∀ f ∈ ns, -c.m ≤ f ∧ f ≤ c.m) ∧ ns.length ≤ i + 1 ∧
        [some (V.ref k), some (.ref l), some (.int s), some (.ref cl), some (.int c.base), some (.int c.m), some (.int lf), some (.int rt), some (.int lo), some (.int hi), some (.ref fd), w1, w2, w3, w4, w5] = [some (V.ref k), some (.ref l), some (.int s), some (.ref cl), some (.int c.base), some (.int c.m), some (.int lf), some (.int rt), some (.int lo), some (.int hi), some (.ref fd), z1, z2, z3, z4, z5] :=
        fun w1 w2 w3 w4 w5 => ⟨ex4, ns, w1, w2, w3, w4, w5, hfd4, h3, by omega, rfl⟩
      refine ⟨_, rfl, _, rfl, ?_⟩
      refine itB (fun _ => ?_) (fun _ => stay _ _ _ _ _)
      refine ⟨_, rfl, _, rfl, _, _, rfl, rfl, rfl, _, rfl, ?_⟩
      refine itD (fun _ => ?_) (fun _ => ?_)
      · refine ⟨_, rfl, .inl ⟨rfl, _, Evl.sq_of hfd4⟩, _, rfl, fd, _, _, rfl, rfl, hfd4, by rw [List.length_map]; exact Nat.lt_of_lt_of_le (show ns.length < 100 by omega) (by decide), ?_⟩
        refine ⟨ex4.mut hfd, ns ++ [F], _, _, _, _, _, by rw [upd_same, List.map_append]; rfl, fun f hf => ?_, by rw [List.length_append]; show ns.length + 1 ≤ i + 1; omega, rfl⟩
        rcases List.mem_append.mp hf with h | h
        · exact h3 f h
        · rw [List.mem_singleton.mp h]
          exact ⟨hF0, hF1⟩
      · refine ⟨_, rfl, _, rfl, _, _, rfl, rfl, _, _, rfl, rfl, .inr ⟨by omega, by omega⟩, _, rfl, _, rfl, _, _, rfl, rfl, .inl ⟨by omega, by omega⟩, _, _, rfl, rfl, _, rfl, ?_⟩
        refine itD (fun _ => ?_) (fun _ => stay _ _ _ _ _)
        refine ⟨_, rfl, .inl ⟨rfl, _, Evl.sq_of hfd4⟩, _, rfl, fd, _, _, rfl, rfl, hfd4, by rw [List.length_map]; exact Nat.lt_of_lt_of_le (show ns.length < 100 by omega) (by decide), ?_⟩
        refine ⟨ex4.mut hfd, ns ++ [F], _, _, _, _, _, by rw [upd_same, List.map_append]; rfl, fun f hf => ?_, by rw [List.length_append]; show ns.length + 1 ≤ i + 1; omega, rfl⟩
        rcases List.mem_append.mp hf with h | h
        · exact h3 f h
        · rw [List.mem_singleton.mp h]
          exact ⟨hF0, hF1⟩
    · rintro σ H' ⟨e2, ns, z1, z2, z3, z4, z5, h2, h3, h4, rfl⟩
      have ex := e1.trans e2
      refine ⟨_, rfl, _, rfl, _, rfl, _, rfl, k, l, cl, c, s, x, y, rfl, Evl.ex_t ex hk, Evl.ex_t ex hl, ok, Evl.ex_t ex hc, hx, hy, hs, fun H3 e3 => ?_⟩
      refine ⟨_, rfl, ?_⟩
      refine itB (fun _ => ?_) (fun _ => ?_)
      · exact ⟨_, rfl, hQ H3 fd ns (ex.trans e3) (Evl.fresh_back e1 hfd) (e3 _ _ h2) h3 (by omega)⟩
      · refine ⟨_, rfl, _, _, rfl, rfl, _, rfl, _, _, rfl, rfl, _, _, rfl, rfl, ⟨by omega, by omega, by omega, by omega, by omega⟩, fun g hg => ?_⟩
        have e4 : rgV (0 - c.m) (c.m + 1) = ((List.range (c.m + 1 - (0 - c.m)).toNat).map fun i => 0 - c.m + ((i : Nat) : Int)).map V.int := by
          unfold rgV
          rw [List.map_map]
          rfl
        rw [e4]
        refine hQ _ g _ ((ex.trans e3).trans (Evl.Ex.new hg)) (Evl.fresh_back (ex.trans e3) hg) upd_same (fun f hf => ?_) (by rw [List.length_map, List.length_range]; omega)
        obtain ⟨i, hi1, rfl⟩ := List.mem_map.mp hf
        have := List.mem_range.mp hi1
        omega
end SF
end
section
set_option Elab.async false
set_option linter.all false
set_option maxRecDepth 100000
set_option maxHeartbeats 8000000
namespace SF
open PySem PySem.Spec PyProof.Rows L2
/-! ### _law_set -/
def kds : List Kd := [⟨1, 1, 1, 1⟩, ⟨1, 1, 2, 2⟩, ⟨1, 1, 3, 1⟩, ⟨1, 1, 1, 3⟩, ⟨2, 3, 3, 2⟩, ⟨2, 3, 3, 3⟩, ⟨2, 3, 4, 2⟩, ⟨2, 3, 3, 4⟩, ⟨2, 2, 4, 4⟩, ⟨2, 2, 5, 4⟩, ⟨2, 2, 4, 5⟩, ⟨3, 7, 4, 3⟩]
theorem kds_ok : ∀ c ∈ kds, c.Ok := by
  intro c hc
  simp only [kds, List.mem_cons, List.not_mem_nil, or_false] at hc
  rcases hc with rfl | rfl | rfl | rfl | rfl | rfl | rfl | rfl | rfl | rfl | rfl | rfl <;> exact ⟨by decide, by decide, by decide, by decide, by decide, by decide, by decide, by decide⟩
def spSet : Sp := fun vs H Q _ => ∃ (d : Addr) (n : Nat), vs = [.ref d] ∧ Deck H d n ∧ n ≤ 900000 ∧ ∀ (H' : Hp) (q a b : Addr) (c : Kd), c ∈ kds → ExX d H H' → Deck H' d (n + 1) → H' q = some (.tup [.ref a, .ref b]) → H a = none → H b = none →
  H' a = some (.tup [.int c.base, .int c.m]) → H' b = some (.tup [.int (c.t : Nat), .int (c.p : Nat)]) → Q (.ref q) H'
theorem sc_law_set : FnScope ["deck", "sets"] ["deck"] (defScope s_law_set) := ⟨rfl, rfl, rfl, by decide +kernel, rfl, by decide +kernel, by decide +kernel⟩
theorem ok_law_set {P : Program} {w : World} {K : PySem.W.Frag} {mg : Str → Option Value} {base : Heap} (T : Fx K mg) : FnX P w K mg base CX0 2 (He.ga K "_law_set") ["deck"] (spSet) := by
  refine fx_of T.d_law_set sc_law_set (fun _ _ _ _ _ _ us hl => match us, hl with | [_], _ => rfl) (fun vs H Q E h => ?_) (fun cdv A outer s H vs Q E hr h => ⟨_, PSs.nox ((pss_cons (ps_set (i := 1) sc_law_set.nd rfl (Or.inl rfl) (pe_lst (pa_cons (pe_tup (pa_cons (pe_tup (pa_cons pe_int (pa_cons pe_int pa_nil))) (pa_cons (pe_tup (pa_cons pe_int (pa_cons pe_int pa_nil))) pa_nil))) (pa_cons (pe_tup (pa_cons (pe_tup (pa_cons pe_int (pa_cons pe_int pa_nil))) (pa_cons (pe_tup (pa_cons pe_int (pa_cons pe_int pa_nil))) pa_nil))) (pa_cons (pe_tup (pa_cons (pe_tup (pa_cons pe_int (pa_cons pe_int pa_nil))) (pa_cons (pe_tup (pa_cons pe_int (pa_cons pe_int pa_nil))) pa_nil))) (pa_cons (pe_tup (pa_cons (pe_tup (pa_cons pe_int (pa_cons pe_int pa_nil))) (pa_cons (pe_tup (pa_cons pe_int (pa_cons pe_int pa_nil))) pa_nil))) (pa_cons (pe_tup (pa_cons (pe_tup (pa_cons pe_int (pa_cons pe_int pa_nil))) (pa_cons (pe_tup (pa_cons pe_int (pa_cons pe_int pa_nil))) pa_nil))) (pa_cons (pe_tup (pa_cons (pe_tup (pa_cons pe_int (pa_cons pe_int pa_nil))) (pa_cons (pe_tup (pa_cons pe_int (pa_cons pe_int pa_nil))) pa_nil))) pa_nil))))))))
  (pss_cons (ps_set (i := 1) sc_law_set.nd rfl (Or.inl rfl) (pe_op op_cat (pv 1) (pe_lst (pa_cons (pe_tup (pa_cons (pe_tup (pa_cons pe_int (pa_cons pe_int pa_nil))) (pa_cons (pe_tup (pa_cons pe_int (pa_cons pe_int pa_nil))) pa_nil))) (pa_cons (pe_tup (pa_cons (pe_tup (pa_cons pe_int (pa_cons pe_int pa_nil))) (pa_cons (pe_tup (pa_cons pe_int (pa_cons pe_int pa_nil))) pa_nil))) (pa_cons (pe_tup (pa_cons (pe_tup (pa_cons pe_int (pa_cons pe_int pa_nil))) (pa_cons (pe_tup (pa_cons pe_int (pa_cons pe_int pa_nil))) pa_nil))) (pa_cons (pe_tup (pa_cons (pe_tup (pa_cons pe_int (pa_cons pe_int pa_nil))) (pa_cons (pe_tup (pa_cons pe_int (pa_cons pe_int pa_nil))) pa_nil))) (pa_cons (pe_tup (pa_cons (pe_tup (pa_cons pe_int (pa_cons pe_int pa_nil))) (pa_cons (pe_tup (pa_cons pe_int (pa_cons pe_int pa_nil))) pa_nil))) pa_nil))))))))
  (pss_one (ps_ret (pe_ix ix_list (pe_op op_cat (pv 1) (pe_lst (pa_cons (pe_tup (pa_cons (pe_tup (pa_cons pe_int (pa_cons pe_int pa_nil))) (pa_cons (pe_tup (pa_cons pe_int (pa_cons pe_int pa_nil))) pa_nil))) pa_nil))) (pe_f (ok_law_pick T) hr (by rfl) T.g_law_pick pass0 (pa_cons (pv 0) (pa_cons pe_int pa_nil))) (fun _ _ => rfl))))))), ?_⟩)
  · obtain ⟨d, n, rfl, _⟩ := h
    rfl
  · obtain ⟨d, n, rfl, hd, hn, hQ⟩ := h
    refine ⟨by show 2 ≤ sizeLine; decide, fun a0 ha0 => ?_⟩
    try dsimp only
    generalize gG1 : upd H a0 (.tup [.int 2, .int 1]) = G1
    have eG1 : Evl.Ex H G1 := by rw [← gG1]; exact Evl.Ex.new ha0
    have oG1 : G1 a0 = some (.tup [.int 2, .int 1]) := by rw [← gG1]; exact upd_same
    have xG1 := eG1
    refine ⟨by show 2 ≤ sizeLine; decide, fun b0 hb0 => ?_⟩
    try dsimp only
    generalize gG2 : upd G1 b0 (.tup [.int 1, .int 1]) = G2
    have eG2 : Evl.Ex G1 G2 := by rw [← gG2]; exact Evl.Ex.new hb0
    have oG2 : G2 b0 = some (.tup [.int 1, .int 1]) := by rw [← gG2]; exact upd_same
    have xG2 := xG1.trans eG2
    refine ⟨by show 2 ≤ sizeLine; decide, fun q0 hq0 => ?_⟩
    try dsimp only
    generalize gG3 : upd G2 q0 (.tup [.ref a0, .ref b0]) = G3
    have eG3 : Evl.Ex G2 G3 := by rw [← gG3]; exact Evl.Ex.new hq0
    have oG3 : G3 q0 = some (.tup [.ref a0, .ref b0]) := by rw [← gG3]; exact upd_same
    have xG3 := xG2.trans eG3
    refine ⟨by show 2 ≤ sizeLine; decide, fun a1 ha1 => ?_⟩
    try dsimp only
    generalize gG4 : upd G3 a1 (.tup [.int 2, .int 1]) = G4
    have eG4 : Evl.Ex G3 G4 := by rw [← gG4]; exact Evl.Ex.new ha1
    have oG4 : G4 a1 = some (.tup [.int 2, .int 1]) := by rw [← gG4]; exact upd_same
    have xG4 := xG3.trans eG4
    refine ⟨by show 2 ≤ sizeLine; decide, fun b1 hb1 => ?_⟩
    try dsimp only
    generalize gG5 : upd G4 b1 (.tup [.int 2, .int 2]) = G5
    have eG5 : Evl.Ex G4 G5 := by rw [← gG5]; exact Evl.Ex.new hb1
    have oG5 : G5 b1 = some (.tup [.int 2, .int 2]) := by rw [← gG5]; exact upd_same
    have xG5 := xG4.trans eG5
    refine ⟨by show 2 ≤ sizeLine; decide, fun q1 hq1 => ?_⟩
    try dsimp only
    generalize gG6 : upd G5 q1 (.tup [.ref a1, .ref b1]) = G6
    have eG6 : Evl.Ex G5 G6 := by rw [← gG6]; exact Evl.Ex.new hq1
    have oG6 : G6 q1 = some (.tup [.ref a1, .ref b1]) := by rw [← gG6]; exact upd_same
    have xG6 := xG5.trans eG6
    refine ⟨by show 2 ≤ sizeLine; decide, fun a2 ha2 => ?_⟩
    try dsimp only
    generalize gG7 : upd G6 a2 (.tup [.int 2, .int 1]) = G7
    have eG7 : Evl.Ex G6 G7 := by rw [← gG7]; exact Evl.Ex.new ha2
    have oG7 : G7 a2 = some (.tup [.int 2, .int 1]) := by rw [← gG7]; exact upd_same
    have xG7 := xG6.trans eG7
    refine ⟨by show 2 ≤ sizeLine; decide, fun b2 hb2 => ?_⟩
    try dsimp only
    generalize gG8 : upd G7 b2 (.tup [.int 3, .int 1]) = G8
    have eG8 : Evl.Ex G7 G8 := by rw [← gG8]; exact Evl.Ex.new hb2
    have oG8 : G8 b2 = some (.tup [.int 3, .int 1]) := by rw [← gG8]; exact upd_same
    have xG8 := xG7.trans eG8
    refine ⟨by show 2 ≤ sizeLine; decide, fun q2 hq2 => ?_⟩
    try dsimp only
    generalize gG9 : upd G8 q2 (.tup [.ref a2, .ref b2]) = G9
    have eG9 : Evl.Ex G8 G9 := by rw [← gG9]; exact Evl.Ex.new hq2
    have oG9 : G9 q2 = some (.tup [.ref a2, .ref b2]) := by rw [← gG9]; exact upd_same
    have xG9 := xG8.trans eG9
    refine ⟨by show 2 ≤ sizeLine; decide, fun a3 ha3 => ?_⟩
    try dsimp only
    generalize gG10 : upd G9 a3 (.tup [.int 2, .int 1]) = G10
    have eG10 : Evl.Ex G9 G10 := by rw [← gG10]; exact Evl.Ex.new ha3
    have oG10 : G10 a3 = some (.tup [.int 2, .int 1]) := by rw [← gG10]; exact upd_same
    have xG10 := xG9.trans eG10
    refine ⟨by show 2 ≤ sizeLine; decide, fun b3 hb3 => ?_⟩
    try dsimp only
    generalize gG11 : upd G10 b3 (.tup [.int 1, .int 3]) = G11
    have eG11 : Evl.Ex G10 G11 := by rw [← gG11]; exact Evl.Ex.new hb3
    have oG11 : G11 b3 = some (.tup [.int 1, .int 3]) := by rw [← gG11]; exact upd_same
    have xG11 := xG10.trans eG11
    refine ⟨by show 2 ≤ sizeLine; decide, fun q3 hq3 => ?_⟩
    try dsimp only
    generalize gG12 : upd G11 q3 (.tup [.ref a3, .ref b3]) = G12
    have eG12 : Evl.Ex G11 G12 := by rw [← gG12]; exact Evl.Ex.new hq3
    have oG12 : G12 q3 = some (.tup [.ref a3, .ref b3]) := by rw [← gG12]; exact upd_same
    have xG12 := xG11.trans eG12
    refine ⟨by show 2 ≤ sizeLine; decide, fun a4 ha4 => ?_⟩
    try dsimp only
    generalize gG13 : upd G12 a4 (.tup [.int 4, .int 3]) = G13
    have eG13 : Evl.Ex G12 G13 := by rw [← gG13]; exact Evl.Ex.new ha4
    have oG13 : G13 a4 = some (.tup [.int 4, .int 3]) := by rw [← gG13]; exact upd_same
    have xG13 := xG12.trans eG13
    refine ⟨by show 2 ≤ sizeLine; decide, fun b4 hb4 => ?_⟩
    try dsimp only
    generalize gG14 : upd G13 b4 (.tup [.int 3, .int 2]) = G14
    have eG14 : Evl.Ex G13 G14 := by rw [← gG14]; exact Evl.Ex.new hb4
    have oG14 : G14 b4 = some (.tup [.int 3, .int 2]) := by rw [← gG14]; exact upd_same
    have xG14 := xG13.trans eG14
    refine ⟨by show 2 ≤ sizeLine; decide, fun q4 hq4 => ?_⟩
    try dsimp only
    generalize gG15 : upd G14 q4 (.tup [.ref a4, .ref b4]) = G15
    have eG15 : Evl.Ex G14 G15 := by rw [← gG15]; exact Evl.Ex.new hq4
    have oG15 : G15 q4 = some (.tup [.ref a4, .ref b4]) := by rw [← gG15]; exact upd_same
    have xG15 := xG14.trans eG15
    refine ⟨by show 2 ≤ sizeLine; decide, fun a5 ha5 => ?_⟩
    try dsimp only
    generalize gG16 : upd G15 a5 (.tup [.int 4, .int 3]) = G16
    have eG16 : Evl.Ex G15 G16 := by rw [← gG16]; exact Evl.Ex.new ha5
    have oG16 : G16 a5 = some (.tup [.int 4, .int 3]) := by rw [← gG16]; exact upd_same
    have xG16 := xG15.trans eG16
    refine ⟨by show 2 ≤ sizeLine; decide, fun b5 hb5 => ?_⟩
    try dsimp only
    generalize gG17 : upd G16 b5 (.tup [.int 3, .int 3]) = G17
    have eG17 : Evl.Ex G16 G17 := by rw [← gG17]; exact Evl.Ex.new hb5
    have oG17 : G17 b5 = some (.tup [.int 3, .int 3]) := by rw [← gG17]; exact upd_same
    have xG17 := xG16.trans eG17
    refine ⟨by show 2 ≤ sizeLine; decide, fun q5 hq5 => ?_⟩
    try dsimp only
    generalize gG18 : upd G17 q5 (.tup [.ref a5, .ref b5]) = G18
    have eG18 : Evl.Ex G17 G18 := by rw [← gG18]; exact Evl.Ex.new hq5
    have oG18 : G18 q5 = some (.tup [.ref a5, .ref b5]) := by rw [← gG18]; exact upd_same
    have xG18 := xG17.trans eG18
    refine ⟨by show 6 ≤ sizeLine; decide, fun s1 hs1 => ?_⟩
    try dsimp only
    generalize gG19 : upd G18 s1 (.lst [.ref q0, .ref q1, .ref q2, .ref q3, .ref q4, .ref q5]) = G19
    have eG19 : Evl.Ex G18 G19 := by rw [← gG19]; exact Evl.Ex.new hs1
    have oG19 : G19 s1 = some (.lst [.ref q0, .ref q1, .ref q2, .ref q3, .ref q4, .ref q5]) := by rw [← gG19]; exact upd_same
    have xG19 := xG18.trans eG19
    refine ⟨_, rfl, ?_⟩
    refine ⟨by show 2 ≤ sizeLine; decide, fun a6 ha6 => ?_⟩
    try dsimp only
    generalize gG20 : upd G19 a6 (.tup [.int 4, .int 3]) = G20
    have eG20 : Evl.Ex G19 G20 := by rw [← gG20]; exact Evl.Ex.new ha6
    have oG20 : G20 a6 = some (.tup [.int 4, .int 3]) := by rw [← gG20]; exact upd_same
    have xG20 := xG19.trans eG20
    refine ⟨by show 2 ≤ sizeLine; decide, fun b6 hb6 => ?_⟩
    try dsimp only
    generalize gG21 : upd G20 b6 (.tup [.int 4, .int 2]) = G21
    have eG21 : Evl.Ex G20 G21 := by rw [← gG21]; exact Evl.Ex.new hb6
    have oG21 : G21 b6 = some (.tup [.int 4, .int 2]) := by rw [← gG21]; exact upd_same
    have xG21 := xG20.trans eG21
    refine ⟨by show 2 ≤ sizeLine; decide, fun q6 hq6 => ?_⟩
    try dsimp only
    generalize gG22 : upd G21 q6 (.tup [.ref a6, .ref b6]) = G22
    have eG22 : Evl.Ex G21 G22 := by rw [← gG22]; exact Evl.Ex.new hq6
    have oG22 : G22 q6 = some (.tup [.ref a6, .ref b6]) := by rw [← gG22]; exact upd_same
    have xG22 := xG21.trans eG22
    refine ⟨by show 2 ≤ sizeLine; decide, fun a7 ha7 => ?_⟩
    try dsimp only
    generalize gG23 : upd G22 a7 (.tup [.int 4, .int 3]) = G23
    have eG23 : Evl.Ex G22 G23 := by rw [← gG23]; exact Evl.Ex.new ha7
    have oG23 : G23 a7 = some (.tup [.int 4, .int 3]) := by rw [← gG23]; exact upd_same
    have xG23 := xG22.trans eG23
    refine ⟨by show 2 ≤ sizeLine; decide, fun b7 hb7 => ?_⟩
    try dsimp only
    generalize gG24 : upd G23 b7 (.tup [.int 3, .int 4]) = G24
    have eG24 : Evl.Ex G23 G24 := by rw [← gG24]; exact Evl.Ex.new hb7
    have oG24 : G24 b7 = some (.tup [.int 3, .int 4]) := by rw [← gG24]; exact upd_same
    have xG24 := xG23.trans eG24
    refine ⟨by show 2 ≤ sizeLine; decide, fun q7 hq7 => ?_⟩
    try dsimp only
    generalize gG25 : upd G24 q7 (.tup [.ref a7, .ref b7]) = G25
    have eG25 : Evl.Ex G24 G25 := by rw [← gG25]; exact Evl.Ex.new hq7
    have oG25 : G25 q7 = some (.tup [.ref a7, .ref b7]) := by rw [← gG25]; exact upd_same
    have xG25 := xG24.trans eG25
    refine ⟨by show 2 ≤ sizeLine; decide, fun a8 ha8 => ?_⟩
    try dsimp only
    generalize gG26 : upd G25 a8 (.tup [.int 4, .int 2]) = G26
    have eG26 : Evl.Ex G25 G26 := by rw [← gG26]; exact Evl.Ex.new ha8
    have oG26 : G26 a8 = some (.tup [.int 4, .int 2]) := by rw [← gG26]; exact upd_same
    have xG26 := xG25.trans eG26
    refine ⟨by show 2 ≤ sizeLine; decide, fun b8 hb8 => ?_⟩
    try dsimp only
    generalize gG27 : upd G26 b8 (.tup [.int 4, .int 4]) = G27
    have eG27 : Evl.Ex G26 G27 := by rw [← gG27]; exact Evl.Ex.new hb8
    have oG27 : G27 b8 = some (.tup [.int 4, .int 4]) := by rw [← gG27]; exact upd_same
    have xG27 := xG26.trans eG27
    refine ⟨by show 2 ≤ sizeLine; decide, fun q8 hq8 => ?_⟩
    try dsimp only
    generalize gG28 : upd G27 q8 (.tup [.ref a8, .ref b8]) = G28
    have eG28 : Evl.Ex G27 G28 := by rw [← gG28]; exact Evl.Ex.new hq8
    have oG28 : G28 q8 = some (.tup [.ref a8, .ref b8]) := by rw [← gG28]; exact upd_same
    have xG28 := xG27.trans eG28
    refine ⟨by show 2 ≤ sizeLine; decide, fun a9 ha9 => ?_⟩
    try dsimp only
    generalize gG29 : upd G28 a9 (.tup [.int 4, .int 2]) = G29
    have eG29 : Evl.Ex G28 G29 := by rw [← gG29]; exact Evl.Ex.new ha9
    have oG29 : G29 a9 = some (.tup [.int 4, .int 2]) := by rw [← gG29]; exact upd_same
    have xG29 := xG28.trans eG29
    refine ⟨by show 2 ≤ sizeLine; decide, fun b9 hb9 => ?_⟩
    try dsimp only
    generalize gG30 : upd G29 b9 (.tup [.int 5, .int 4]) = G30
    have eG30 : Evl.Ex G29 G30 := by rw [← gG30]; exact Evl.Ex.new hb9
    have oG30 : G30 b9 = some (.tup [.int 5, .int 4]) := by rw [← gG30]; exact upd_same
    have xG30 := xG29.trans eG30
    refine ⟨by show 2 ≤ sizeLine; decide, fun q9 hq9 => ?_⟩
    try dsimp only
    generalize gG31 : upd G30 q9 (.tup [.ref a9, .ref b9]) = G31
    have eG31 : Evl.Ex G30 G31 := by rw [← gG31]; exact Evl.Ex.new hq9
    have oG31 : G31 q9 = some (.tup [.ref a9, .ref b9]) := by rw [← gG31]; exact upd_same
    have xG31 := xG30.trans eG31
    refine ⟨by show 2 ≤ sizeLine; decide, fun a10 ha10 => ?_⟩
    try dsimp only
    generalize gG32 : upd G31 a10 (.tup [.int 4, .int 2]) = G32
    have eG32 : Evl.Ex G31 G32 := by rw [← gG32]; exact Evl.Ex.new ha10
    have oG32 : G32 a10 = some (.tup [.int 4, .int 2]) := by rw [← gG32]; exact upd_same
    have xG32 := xG31.trans eG32
    refine ⟨by show 2 ≤ sizeLine; decide, fun b10 hb10 => ?_⟩
    try dsimp only
    generalize gG33 : upd G32 b10 (.tup [.int 4, .int 5]) = G33
    have eG33 : Evl.Ex G32 G33 := by rw [← gG33]; exact Evl.Ex.new hb10
    have oG33 : G33 b10 = some (.tup [.int 4, .int 5]) := by rw [← gG33]; exact upd_same
    have xG33 := xG32.trans eG33
    refine ⟨by show 2 ≤ sizeLine; decide, fun q10 hq10 => ?_⟩
    try dsimp only
    generalize gG34 : upd G33 q10 (.tup [.ref a10, .ref b10]) = G34
    have eG34 : Evl.Ex G33 G34 := by rw [← gG34]; exact Evl.Ex.new hq10
    have oG34 : G34 q10 = some (.tup [.ref a10, .ref b10]) := by rw [← gG34]; exact upd_same
    have xG34 := xG33.trans eG34
    refine ⟨by show 5 ≤ sizeLine; decide, fun s2 hs2 => ?_⟩
    try dsimp only
    generalize gG35 : upd G34 s2 (.lst [.ref q6, .ref q7, .ref q8, .ref q9, .ref q10]) = G35
    have eG35 : Evl.Ex G34 G35 := by rw [← gG35]; exact Evl.Ex.new hs2
    have oG35 : G35 s2 = some (.lst [.ref q6, .ref q7, .ref q8, .ref q9, .ref q10]) := by rw [← gG35]; exact upd_same
    have xG35 := xG34.trans eG35
    have up1 : Evl.Ex G19 G35 := by intro z o hz; exact (fun z o hz => eG35 _ _ (eG34 _ _ (eG33 _ _ (eG32 _ _ (eG31 _ _ (eG30 _ _ (eG29 _ _ (eG28 _ _ (eG27 _ _ (eG26 _ _ (eG25 _ _ (eG24 _ _ (eG23 _ _ (eG22 _ _ (eG21 _ _ (eG20 _ _ hz)))))))))))))))) z o hz
    refine ⟨s1, s2, _, _, rfl, rfl, up1 _ _ oG19, oG35, by show 6 + 5 ≤ sizeLine; decide, fun s3 hs3 => ?_⟩
    try dsimp only [List.cons_append, List.nil_append, List.append]
    generalize gG36 : upd G35 s3 (.lst [.ref q0, .ref q1, .ref q2, .ref q3, .ref q4, .ref q5, .ref q6, .ref q7, .ref q8, .ref q9, .ref q10]) = G36
    have eG36 : Evl.Ex G35 G36 := by rw [← gG36]; exact Evl.Ex.new hs3
    have oG36 : G36 s3 = some (.lst [.ref q0, .ref q1, .ref q2, .ref q3, .ref q4, .ref q5, .ref q6, .ref q7, .ref q8, .ref q9, .ref q10]) := by rw [← gG36]; exact upd_same
    have xG36 := xG35.trans eG36
    refine ⟨_, rfl, ?_⟩
    refine ⟨by show 2 ≤ sizeLine; decide, fun a11 ha11 => ?_⟩
    try dsimp only
    generalize gG37 : upd G36 a11 (.tup [.int 8, .int 7]) = G37
    have eG37 : Evl.Ex G36 G37 := by rw [← gG37]; exact Evl.Ex.new ha11
    have oG37 : G37 a11 = some (.tup [.int 8, .int 7]) := by rw [← gG37]; exact upd_same
    have xG37 := xG36.trans eG37
    refine ⟨by show 2 ≤ sizeLine; decide, fun b11 hb11 => ?_⟩
    try dsimp only
    generalize gG38 : upd G37 b11 (.tup [.int 4, .int 3]) = G38
    have eG38 : Evl.Ex G37 G38 := by rw [← gG38]; exact Evl.Ex.new hb11
    have oG38 : G38 b11 = some (.tup [.int 4, .int 3]) := by rw [← gG38]; exact upd_same
    have xG38 := xG37.trans eG38
    refine ⟨by show 2 ≤ sizeLine; decide, fun q11 hq11 => ?_⟩
    try dsimp only
    generalize gG39 : upd G38 q11 (.tup [.ref a11, .ref b11]) = G39
    have eG39 : Evl.Ex G38 G39 := by rw [← gG39]; exact Evl.Ex.new hq11
    have oG39 : G39 q11 = some (.tup [.ref a11, .ref b11]) := by rw [← gG39]; exact upd_same
    have xG39 := xG38.trans eG39
    refine ⟨by show 1 ≤ sizeLine; decide, fun s4 hs4 => ?_⟩
    try dsimp only
    generalize gG40 : upd G39 s4 (.lst [.ref q11]) = G40
    have eG40 : Evl.Ex G39 G40 := by rw [← gG40]; exact Evl.Ex.new hs4
    have oG40 : G40 s4 = some (.lst [.ref q11]) := by rw [← gG40]; exact upd_same
    have xG40 := xG39.trans eG40
    refine ⟨s3, s4, _, _, rfl, rfl, eG40 _ _ (eG39 _ _ (eG38 _ _ (eG37 _ _ oG36))), oG40, by show 11 + 1 ≤ sizeLine; decide, fun s5 hs5 => ?_⟩
    try dsimp only [List.cons_append, List.nil_append, List.append]
    generalize gG41 : upd G40 s5 (.lst [.ref q0, .ref q1, .ref q2, .ref q3, .ref q4, .ref q5, .ref q6, .ref q7, .ref q8, .ref q9, .ref q10, .ref q11]) = G41
    have eG41 : Evl.Ex G40 G41 := by rw [← gG41]; exact Evl.Ex.new hs5
    have oG41 : G41 s5 = some (.lst [.ref q0, .ref q1, .ref q2, .ref q3, .ref q4, .ref q5, .ref q6, .ref q7, .ref q8, .ref q9, .ref q10, .ref q11]) := by rw [← gG41]; exact upd_same
    have xG41 := xG40.trans eG41
    obtain ⟨da, db, dc, hd1, hd2⟩ := hd
    refine ⟨_, rfl, d, 12, n, rfl, ⟨da, db, dc, xG41 _ _ hd1, hd2⟩, by omega, by decide, mid_of (by decide) (by decide), fun H9 r hr0 hr1 x9 d9 => ?_⟩
    have nd : ∀ z o, (∀ w, o ≠ HO.lst w) → G41 z = some o → H9 z = some o := fun z o hne hz => x9 z o (fun w => by rw [w, xG41 _ _ hd1] at hz; cases hz; exact hne _ rfl) hz
    have s5d : s5 ≠ d := fun z => by rw [z, xG40 _ _ hd1] at hs5; cases hs5
    have o9 := x9 _ _ s5d oG41
    have tp : ∀ z ys, G41 z = some (.tup ys) → H9 z = some (.tup ys) := fun z ys hz => nd z _ (fun w q => nomatch q) hz
    have xx : ExX d H H9 := (ExX.ex xG41).trans x9
    have rc : r = 0 ∨ r = 1 ∨ r = 2 ∨ r = 3 ∨ r = 4 ∨ r = 5 ∨ r = 6 ∨ r = 7 ∨ r = 8 ∨ r = 9 ∨ r = 10 ∨ r = 11 := by omega
    rcases rc with rfl | rfl | rfl | rfl | rfl | rfl | rfl | rfl | rfl | rfl | rfl | rfl
    · exact ⟨s5, _, _, _, rfl, rfl, Evl.sq_of o9, rfl, hQ H9 q0 a0 b0 ⟨1, 1, 1, 1⟩ (by simp [kds]) xx d9 (tp _ _ (eG41 _ _ (eG40 _ _ (eG39 _ _ (eG38 _ _ (eG37 _ _ (eG36 _ _ (eG35 _ _ (eG34 _ _ (eG33 _ _ (eG32 _ _ (eG31 _ _ (eG30 _ _ (eG29 _ _ (eG28 _ _ (eG27 _ _ (eG26 _ _ (eG25 _ _ (eG24 _ _ (eG23 _ _ (eG22 _ _ (eG21 _ _ (eG20 _ _ (eG19 _ _ (eG18 _ _ (eG17 _ _ (eG16 _ _ (eG15 _ _ (eG14 _ _ (eG13 _ _ (eG12 _ _ (eG11 _ _ (eG10 _ _ (eG9 _ _ (eG8 _ _ (eG7 _ _ (eG6 _ _ (eG5 _ _ (eG4 _ _ oG3))))))))))))))))))))))))))))))))))))))) (ha0) (Evl.fresh_back xG1 hb0) (tp _ _ (eG41 _ _ (eG40 _ _ (eG39 _ _ (eG38 _ _ (eG37 _ _ (eG36 _ _ (eG35 _ _ (eG34 _ _ (eG33 _ _ (eG32 _ _ (eG31 _ _ (eG30 _ _ (eG29 _ _ (eG28 _ _ (eG27 _ _ (eG26 _ _ (eG25 _ _ (eG24 _ _ (eG23 _ _ (eG22 _ _ (eG21 _ _ (eG20 _ _ (eG19 _ _ (eG18 _ _ (eG17 _ _ (eG16 _ _ (eG15 _ _ (eG14 _ _ (eG13 _ _ (eG12 _ _ (eG11 _ _ (eG10 _ _ (eG9 _ _ (eG8 _ _ (eG7 _ _ (eG6 _ _ (eG5 _ _ (eG4 _ _ (eG3 _ _ (eG2 _ _ oG1))))))))))))))))))))))))))))))))))))))))) (tp _ _ (eG41 _ _ (eG40 _ _ (eG39 _ _ (eG38 _ _ (eG37 _ _ (eG36 _ _ (eG35 _ _ (eG34 _ _ (eG33 _ _ (eG32 _ _ (eG31 _ _ (eG30 _ _ (eG29 _ _ (eG28 _ _ (eG27 _ _ (eG26 _ _ (eG25 _ _ (eG24 _ _ (eG23 _ _ (eG22 _ _ (eG21 _ _ (eG20 _ _ (eG19 _ _ (eG18 _ _ (eG17 _ _ (eG16 _ _ (eG15 _ _ (eG14 _ _ (eG13 _ _ (eG12 _ _ (eG11 _ _ (eG10 _ _ (eG9 _ _ (eG8 _ _ (eG7 _ _ (eG6 _ _ (eG5 _ _ (eG4 _ _ (eG3 _ _ oG2))))))))))))))))))))))))))))))))))))))))⟩
    · exact ⟨s5, _, _, _, rfl, rfl, Evl.sq_of o9, rfl, hQ H9 q1 a1 b1 ⟨1, 1, 2, 2⟩ (by simp [kds]) xx d9 (tp _ _ (eG41 _ _ (eG40 _ _ (eG39 _ _ (eG38 _ _ (eG37 _ _ (eG36 _ _ (eG35 _ _ (eG34 _ _ (eG33 _ _ (eG32 _ _ (eG31 _ _ (eG30 _ _ (eG29 _ _ (eG28 _ _ (eG27 _ _ (eG26 _ _ (eG25 _ _ (eG24 _ _ (eG23 _ _ (eG22 _ _ (eG21 _ _ (eG20 _ _ (eG19 _ _ (eG18 _ _ (eG17 _ _ (eG16 _ _ (eG15 _ _ (eG14 _ _ (eG13 _ _ (eG12 _ _ (eG11 _ _ (eG10 _ _ (eG9 _ _ (eG8 _ _ (eG7 _ _ oG6)))))))))))))))))))))))))))))))))))) (Evl.fresh_back xG3 ha1) (Evl.fresh_back xG4 hb1) (tp _ _ (eG41 _ _ (eG40 _ _ (eG39 _ _ (eG38 _ _ (eG37 _ _ (eG36 _ _ (eG35 _ _ (eG34 _ _ (eG33 _ _ (eG32 _ _ (eG31 _ _ (eG30 _ _ (eG29 _ _ (eG28 _ _ (eG27 _ _ (eG26 _ _ (eG25 _ _ (eG24 _ _ (eG23 _ _ (eG22 _ _ (eG21 _ _ (eG20 _ _ (eG19 _ _ (eG18 _ _ (eG17 _ _ (eG16 _ _ (eG15 _ _ (eG14 _ _ (eG13 _ _ (eG12 _ _ (eG11 _ _ (eG10 _ _ (eG9 _ _ (eG8 _ _ (eG7 _ _ (eG6 _ _ (eG5 _ _ oG4)))))))))))))))))))))))))))))))))))))) (tp _ _ (eG41 _ _ (eG40 _ _ (eG39 _ _ (eG38 _ _ (eG37 _ _ (eG36 _ _ (eG35 _ _ (eG34 _ _ (eG33 _ _ (eG32 _ _ (eG31 _ _ (eG30 _ _ (eG29 _ _ (eG28 _ _ (eG27 _ _ (eG26 _ _ (eG25 _ _ (eG24 _ _ (eG23 _ _ (eG22 _ _ (eG21 _ _ (eG20 _ _ (eG19 _ _ (eG18 _ _ (eG17 _ _ (eG16 _ _ (eG15 _ _ (eG14 _ _ (eG13 _ _ (eG12 _ _ (eG11 _ _ (eG10 _ _ (eG9 _ _ (eG8 _ _ (eG7 _ _ (eG6 _ _ oG5)))))))))))))))))))))))))))))))))))))⟩
    · exact ⟨s5, _, _, _, rfl, rfl, Evl.sq_of o9, rfl, hQ H9 q2 a2 b2 ⟨1, 1, 3, 1⟩ (by simp [kds]) xx d9 (tp _ _ (eG41 _ _ (eG40 _ _ (eG39 _ _ (eG38 _ _ (eG37 _ _ (eG36 _ _ (eG35 _ _ (eG34 _ _ (eG33 _ _ (eG32 _ _ (eG31 _ _ (eG30 _ _ (eG29 _ _ (eG28 _ _ (eG27 _ _ (eG26 _ _ (eG25 _ _ (eG24 _ _ (eG23 _ _ (eG22 _ _ (eG21 _ _ (eG20 _ _ (eG19 _ _ (eG18 _ _ (eG17 _ _ (eG16 _ _ (eG15 _ _ (eG14 _ _ (eG13 _ _ (eG12 _ _ (eG11 _ _ (eG10 _ _ oG9))))))))))))))))))))))))))))))))) (Evl.fresh_back xG6 ha2) (Evl.fresh_back xG7 hb2) (tp _ _ (eG41 _ _ (eG40 _ _ (eG39 _ _ (eG38 _ _ (eG37 _ _ (eG36 _ _ (eG35 _ _ (eG34 _ _ (eG33 _ _ (eG32 _ _ (eG31 _ _ (eG30 _ _ (eG29 _ _ (eG28 _ _ (eG27 _ _ (eG26 _ _ (eG25 _ _ (eG24 _ _ (eG23 _ _ (eG22 _ _ (eG21 _ _ (eG20 _ _ (eG19 _ _ (eG18 _ _ (eG17 _ _ (eG16 _ _ (eG15 _ _ (eG14 _ _ (eG13 _ _ (eG12 _ _ (eG11 _ _ (eG10 _ _ (eG9 _ _ (eG8 _ _ oG7))))))))))))))))))))))))))))))))))) (tp _ _ (eG41 _ _ (eG40 _ _ (eG39 _ _ (eG38 _ _ (eG37 _ _ (eG36 _ _ (eG35 _ _ (eG34 _ _ (eG33 _ _ (eG32 _ _ (eG31 _ _ (eG30 _ _ (eG29 _ _ (eG28 _ _ (eG27 _ _ (eG26 _ _ (eG25 _ _ (eG24 _ _ (eG23 _ _ (eG22 _ _ (eG21 _ _ (eG20 _ _ (eG19 _ _ (eG18 _ _ (eG17 _ _ (eG16 _ _ (eG15 _ _ (eG14 _ _ (eG13 _ _ (eG12 _ _ (eG11 _ _ (eG10 _ _ (eG9 _ _ oG8))))))))))))))))))))))))))))))))))⟩
    · exact ⟨s5, _, _, _, rfl, rfl, Evl.sq_of o9, rfl, hQ H9 q3 a3 b3 ⟨1, 1, 1, 3⟩ (by simp [kds]) xx d9 (tp _ _ (eG41 _ _ (eG40 _ _ (eG39 _ _ (eG38 _ _ (eG37 _ _ (eG36 _ _ (eG35 _ _ (eG34 _ _ (eG33 _ _ (eG32 _ _ (eG31 _ _ (eG30 _ _ (eG29 _ _ (eG28 _ _ (eG27 _ _ (eG26 _ _ (eG25 _ _ (eG24 _ _ (eG23 _ _ (eG22 _ _ (eG21 _ _ (eG20 _ _ (eG19 _ _ (eG18 _ _ (eG17 _ _ (eG16 _ _ (eG15 _ _ (eG14 _ _ (eG13 _ _ oG12)))))))))))))))))))))))))))))) (Evl.fresh_back xG9 ha3) (Evl.fresh_back xG10 hb3) (tp _ _ (eG41 _ _ (eG40 _ _ (eG39 _ _ (eG38 _ _ (eG37 _ _ (eG36 _ _ (eG35 _ _ (eG34 _ _ (eG33 _ _ (eG32 _ _ (eG31 _ _ (eG30 _ _ (eG29 _ _ (eG28 _ _ (eG27 _ _ (eG26 _ _ (eG25 _ _ (eG24 _ _ (eG23 _ _ (eG22 _ _ (eG21 _ _ (eG20 _ _ (eG19 _ _ (eG18 _ _ (eG17 _ _ (eG16 _ _ (eG15 _ _ (eG14 _ _ (eG13 _ _ (eG12 _ _ (eG11 _ _ oG10)))))))))))))))))))))))))))))))) (tp _ _ (eG41 _ _ (eG40 _ _ (eG39 _ _ (eG38 _ _ (eG37 _ _ (eG36 _ _ (eG35 _ _ (eG34 _ _ (eG33 _ _ (eG32 _ _ (eG31 _ _ (eG30 _ _ (eG29 _ _ (eG28 _ _ (eG27 _ _ (eG26 _ _ (eG25 _ _ (eG24 _ _ (eG23 _ _ (eG22 _ _ (eG21 _ _ (eG20 _ _ (eG19 _ _ (eG18 _ _ (eG17 _ _ (eG16 _ _ (eG15 _ _ (eG14 _ _ (eG13 _ _ (eG12 _ _ oG11)))))))))))))))))))))))))))))))⟩
    · exact ⟨s5, _, _, _, rfl, rfl, Evl.sq_of o9, rfl, hQ H9 q4 a4 b4 ⟨2, 3, 3, 2⟩ (by simp [kds]) xx d9 (tp _ _ (eG41 _ _ (eG40 _ _ (eG39 _ _ (eG38 _ _ (eG37 _ _ (eG36 _ _ (eG35 _ _ (eG34 _ _ (eG33 _ _ (eG32 _ _ (eG31 _ _ (eG30 _ _ (eG29 _ _ (eG28 _ _ (eG27 _ _ (eG26 _ _ (eG25 _ _ (eG24 _ _ (eG23 _ _ (eG22 _ _ (eG21 _ _ (eG20 _ _ (eG19 _ _ (eG18 _ _ (eG17 _ _ (eG16 _ _ oG15))))))))))))))))))))))))))) (Evl.fresh_back xG12 ha4) (Evl.fresh_back xG13 hb4) (tp _ _ (eG41 _ _ (eG40 _ _ (eG39 _ _ (eG38 _ _ (eG37 _ _ (eG36 _ _ (eG35 _ _ (eG34 _ _ (eG33 _ _ (eG32 _ _ (eG31 _ _ (eG30 _ _ (eG29 _ _ (eG28 _ _ (eG27 _ _ (eG26 _ _ (eG25 _ _ (eG24 _ _ (eG23 _ _ (eG22 _ _ (eG21 _ _ (eG20 _ _ (eG19 _ _ (eG18 _ _ (eG17 _ _ (eG16 _ _ (eG15 _ _ (eG14 _ _ oG13))))))))))))))))))))))))))))) (tp _ _ (eG41 _ _ (eG40 _ _ (eG39 _ _ (eG38 _ _ (eG37 _ _ (eG36 _ _ (eG35 _ _ (eG34 _ _ (eG33 _ _ (eG32 _ _ (eG31 _ _ (eG30 _ _ (eG29 _ _ (eG28 _ _ (eG27 _ _ (eG26 _ _ (eG25 _ _ (eG24 _ _ (eG23 _ _ (eG22 _ _ (eG21 _ _ (eG20 _ _ (eG19 _ _ (eG18 _ _ (eG17 _ _ (eG16 _ _ (eG15 _ _ oG14))))))))))))))))))))))))))))⟩
    · exact ⟨s5, _, _, _, rfl, rfl, Evl.sq_of o9, rfl, hQ H9 q5 a5 b5 ⟨2, 3, 3, 3⟩ (by simp [kds]) xx d9 (tp _ _ (eG41 _ _ (eG40 _ _ (eG39 _ _ (eG38 _ _ (eG37 _ _ (eG36 _ _ (eG35 _ _ (eG34 _ _ (eG33 _ _ (eG32 _ _ (eG31 _ _ (eG30 _ _ (eG29 _ _ (eG28 _ _ (eG27 _ _ (eG26 _ _ (eG25 _ _ (eG24 _ _ (eG23 _ _ (eG22 _ _ (eG21 _ _ (eG20 _ _ (eG19 _ _ oG18)))))))))))))))))))))))) (Evl.fresh_back xG15 ha5) (Evl.fresh_back xG16 hb5) (tp _ _ (eG41 _ _ (eG40 _ _ (eG39 _ _ (eG38 _ _ (eG37 _ _ (eG36 _ _ (eG35 _ _ (eG34 _ _ (eG33 _ _ (eG32 _ _ (eG31 _ _ (eG30 _ _ (eG29 _ _ (eG28 _ _ (eG27 _ _ (eG26 _ _ (eG25 _ _ (eG24 _ _ (eG23 _ _ (eG22 _ _ (eG21 _ _ (eG20 _ _ (eG19 _ _ (eG18 _ _ (eG17 _ _ oG16)))))))))))))))))))))))))) (tp _ _ (eG41 _ _ (eG40 _ _ (eG39 _ _ (eG38 _ _ (eG37 _ _ (eG36 _ _ (eG35 _ _ (eG34 _ _ (eG33 _ _ (eG32 _ _ (eG31 _ _ (eG30 _ _ (eG29 _ _ (eG28 _ _ (eG27 _ _ (eG26 _ _ (eG25 _ _ (eG24 _ _ (eG23 _ _ (eG22 _ _ (eG21 _ _ (eG20 _ _ (eG19 _ _ (eG18 _ _ oG17)))))))))))))))))))))))))⟩
    · exact ⟨s5, _, _, _, rfl, rfl, Evl.sq_of o9, rfl, hQ H9 q6 a6 b6 ⟨2, 3, 4, 2⟩ (by simp [kds]) xx d9 (tp _ _ (eG41 _ _ (eG40 _ _ (eG39 _ _ (eG38 _ _ (eG37 _ _ (eG36 _ _ (eG35 _ _ (eG34 _ _ (eG33 _ _ (eG32 _ _ (eG31 _ _ (eG30 _ _ (eG29 _ _ (eG28 _ _ (eG27 _ _ (eG26 _ _ (eG25 _ _ (eG24 _ _ (eG23 _ _ oG22)))))))))))))))))))) (Evl.fresh_back xG19 ha6) (Evl.fresh_back xG20 hb6) (tp _ _ (eG41 _ _ (eG40 _ _ (eG39 _ _ (eG38 _ _ (eG37 _ _ (eG36 _ _ (eG35 _ _ (eG34 _ _ (eG33 _ _ (eG32 _ _ (eG31 _ _ (eG30 _ _ (eG29 _ _ (eG28 _ _ (eG27 _ _ (eG26 _ _ (eG25 _ _ (eG24 _ _ (eG23 _ _ (eG22 _ _ (eG21 _ _ oG20)))))))))))))))))))))) (tp _ _ (eG41 _ _ (eG40 _ _ (eG39 _ _ (eG38 _ _ (eG37 _ _ (eG36 _ _ (eG35 _ _ (eG34 _ _ (eG33 _ _ (eG32 _ _ (eG31 _ _ (eG30 _ _ (eG29 _ _ (eG28 _ _ (eG27 _ _ (eG26 _ _ (eG25 _ _ (eG24 _ _ (eG23 _ _ (eG22 _ _ oG21)))))))))))))))))))))⟩
    · exact ⟨s5, _, _, _, rfl, rfl, Evl.sq_of o9, rfl, hQ H9 q7 a7 b7 ⟨2, 3, 3, 4⟩ (by simp [kds]) xx d9 (tp _ _ (eG41 _ _ (eG40 _ _ (eG39 _ _ (eG38 _ _ (eG37 _ _ (eG36 _ _ (eG35 _ _ (eG34 _ _ (eG33 _ _ (eG32 _ _ (eG31 _ _ (eG30 _ _ (eG29 _ _ (eG28 _ _ (eG27 _ _ (eG26 _ _ oG25))))))))))))))))) (Evl.fresh_back xG22 ha7) (Evl.fresh_back xG23 hb7) (tp _ _ (eG41 _ _ (eG40 _ _ (eG39 _ _ (eG38 _ _ (eG37 _ _ (eG36 _ _ (eG35 _ _ (eG34 _ _ (eG33 _ _ (eG32 _ _ (eG31 _ _ (eG30 _ _ (eG29 _ _ (eG28 _ _ (eG27 _ _ (eG26 _ _ (eG25 _ _ (eG24 _ _ oG23))))))))))))))))))) (tp _ _ (eG41 _ _ (eG40 _ _ (eG39 _ _ (eG38 _ _ (eG37 _ _ (eG36 _ _ (eG35 _ _ (eG34 _ _ (eG33 _ _ (eG32 _ _ (eG31 _ _ (eG30 _ _ (eG29 _ _ (eG28 _ _ (eG27 _ _ (eG26 _ _ (eG25 _ _ oG24))))))))))))))))))⟩
    · exact ⟨s5, _, _, _, rfl, rfl, Evl.sq_of o9, rfl, hQ H9 q8 a8 b8 ⟨2, 2, 4, 4⟩ (by simp [kds]) xx d9 (tp _ _ (eG41 _ _ (eG40 _ _ (eG39 _ _ (eG38 _ _ (eG37 _ _ (eG36 _ _ (eG35 _ _ (eG34 _ _ (eG33 _ _ (eG32 _ _ (eG31 _ _ (eG30 _ _ (eG29 _ _ oG28)))))))))))))) (Evl.fresh_back xG25 ha8) (Evl.fresh_back xG26 hb8) (tp _ _ (eG41 _ _ (eG40 _ _ (eG39 _ _ (eG38 _ _ (eG37 _ _ (eG36 _ _ (eG35 _ _ (eG34 _ _ (eG33 _ _ (eG32 _ _ (eG31 _ _ (eG30 _ _ (eG29 _ _ (eG28 _ _ (eG27 _ _ oG26)))))))))))))))) (tp _ _ (eG41 _ _ (eG40 _ _ (eG39 _ _ (eG38 _ _ (eG37 _ _ (eG36 _ _ (eG35 _ _ (eG34 _ _ (eG33 _ _ (eG32 _ _ (eG31 _ _ (eG30 _ _ (eG29 _ _ (eG28 _ _ oG27)))))))))))))))⟩
    · exact ⟨s5, _, _, _, rfl, rfl, Evl.sq_of o9, rfl, hQ H9 q9 a9 b9 ⟨2, 2, 5, 4⟩ (by simp [kds]) xx d9 (tp _ _ (eG41 _ _ (eG40 _ _ (eG39 _ _ (eG38 _ _ (eG37 _ _ (eG36 _ _ (eG35 _ _ (eG34 _ _ (eG33 _ _ (eG32 _ _ oG31))))))))))) (Evl.fresh_back xG28 ha9) (Evl.fresh_back xG29 hb9) (tp _ _ (eG41 _ _ (eG40 _ _ (eG39 _ _ (eG38 _ _ (eG37 _ _ (eG36 _ _ (eG35 _ _ (eG34 _ _ (eG33 _ _ (eG32 _ _ (eG31 _ _ (eG30 _ _ oG29))))))))))))) (tp _ _ (eG41 _ _ (eG40 _ _ (eG39 _ _ (eG38 _ _ (eG37 _ _ (eG36 _ _ (eG35 _ _ (eG34 _ _ (eG33 _ _ (eG32 _ _ (eG31 _ _ oG30))))))))))))⟩
    · exact ⟨s5, _, _, _, rfl, rfl, Evl.sq_of o9, rfl, hQ H9 q10 a10 b10 ⟨2, 2, 4, 5⟩ (by simp [kds]) xx d9 (tp _ _ (eG41 _ _ (eG40 _ _ (eG39 _ _ (eG38 _ _ (eG37 _ _ (eG36 _ _ (eG35 _ _ oG34)))))))) (Evl.fresh_back xG31 ha10) (Evl.fresh_back xG32 hb10) (tp _ _ (eG41 _ _ (eG40 _ _ (eG39 _ _ (eG38 _ _ (eG37 _ _ (eG36 _ _ (eG35 _ _ (eG34 _ _ (eG33 _ _ oG32)))))))))) (tp _ _ (eG41 _ _ (eG40 _ _ (eG39 _ _ (eG38 _ _ (eG37 _ _ (eG36 _ _ (eG35 _ _ (eG34 _ _ oG33)))))))))⟩
    · exact ⟨s5, _, _, _, rfl, rfl, Evl.sq_of o9, rfl, hQ H9 q11 a11 b11 ⟨3, 7, 4, 3⟩ (by simp [kds]) xx d9 (tp _ _ (eG41 _ _ (eG40 _ _ oG39))) (Evl.fresh_back xG36 ha11) (Evl.fresh_back xG37 hb11) (tp _ _ (eG41 _ _ (eG40 _ _ (eG39 _ _ (eG38 _ _ oG37))))) (tp _ _ (eG41 _ _ (eG40 _ _ (eG39 _ _ oG38))))⟩
end SF
end
section
set_option Elab.async false
set_option linter.all false
set_option maxRecDepth 100000
set_option maxHeartbeats 4000000
namespace SF
open PySem PySem.Spec PyProof.Rows L2
/-! ### a table's shape -/
def EntOk (c : Kd) (e : Option Int) : Prop := ∀ i, e = some i → -c.m ≤ i ∧ i ≤ c.m
def RowOk (c : Kd) (row : List (Option Int)) : Prop := row.length = (2 * c.half).toNat ∧ ∀ e ∈ row, EntOk c e
def TabOk (c : Kd) (tab : List (List (Option Int))) : Prop := tab.length = 2 ^ (c.t - 1) ∧ ∀ row ∈ tab, RowOk c row
theorem ExX.mut2 {d p : Addr} {H H' : Hp} {o : HO} (x : ExX d H H') (h : H p = none) : ExX d H (upd H' p o) := fun z u n hz => by
  rw [upd_ne (ne_of_none hz h)]
  exact x z u n hz
theorem Deck.not {H : Hp} {d z : Addr} {n : Nat} {o : HO} (h : Deck H d n) (hz : H z = some o) (ho : ∀ xs, o ≠ .lst xs) : z ≠ d := fun w => by
  obtain ⟨a, b, c, h1, _⟩ := h
  rw [w, h1] at hz
  cases hz
  exact ho _ rfl
theorem Deck.ex {H H' : Hp} {d : Addr} {n : Nat} (e : Evl.Ex H H') (h : Deck H d n) : Deck H' d n := by
  obtain ⟨a, b, c, h1, h2⟩ := h
  exact ⟨a, b, c, e _ _ h1, h2⟩
theorem Deck.upd {H : Hp} {d z : Addr} {n : Nat} {o : HO} (h : Deck H d n) (ne : d ≠ z) : Deck (upd H z o) d n := by
  obtain ⟨a, b, c, h1, h2⟩ := h
  exact ⟨a, b, c, by rw [upd_ne ne]; exact h1, h2⟩
theorem ent_none {c : Kd} : EntOk c none := fun i z => nomatch z
theorem atI_last {xs : List V} {v : V} (h : xs.getLast? = some v) : atI xs (-1) = some v := by
  have hn : xs ≠ [] := fun z => by rw [z] at h; cases h
  have hl : 0 < xs.length := List.length_pos_iff.mpr hn
  unfold atI ixN
  rw [if_neg (by decide), if_pos (by omega)]
  show xs[((-1 : Int) + (xs.length : Nat)).toNat]? = some v
  rw [show ((-1 : Int) + (xs.length : Nat)).toNat = xs.length - 1 by omega, ← List.getLast?_eq_getElem?]
  exact h
def spTable : Sp := fun vs H Q _ => ∃ (d k l : Addr) (c : Kd) (way n : Nat), vs = [.ref d, .ref k, .ref l, .int 2, .int (way : Nat)] ∧ way ≤ 2 ∧ H k = some (.tup [.int c.base, .int c.m]) ∧ H l = some (.tup [.int (c.t : Nat), .int (c.p : Nat)]) ∧ c.Ok ∧ Deck H d n ∧ n ≤ 10000 ∧
  ∀ (H' : Hp) (q tb : Addr) (lk : V) (tab : List (List (Option Int))), ExX d H H' → Deck H' d (n + 8256) → H' q = some (.tup [.ref tb, lk]) → TabOk c tab → (∀ K, TabR K H' tb tab) → Q (.ref q) H'
theorem sc_law_table : FnScope ["deck", "kind", "looks", "sight", "way", "table", "lacks", "top", "row", "look", "good", "figure"] ["deck", "kind", "looks", "sight", "way"] (defScope s_law_table) := ⟨rfl, rfl, rfl, by decide +kernel, rfl, by decide +kernel, by decide +kernel⟩
theorem ok_law_table {P : Program} {w : World} {K : PySem.W.Frag} {mg : Str → Option Value} {base : Heap} (T : Fx K mg) : FnX P w K mg base CX0 4 (He.ga K "_law_table") ["deck", "kind", "looks", "sight", "way"] (spTable) := by
  refine fx_of T.d_law_table sc_law_table (fun _ _ _ _ _ _ us hl => match us, hl with | [_, _, _, _, _], _ => rfl) (fun vs H Q E h => ?_) (fun cdv A outer s H vs Q E hr h => ⟨_, PSs.nox ((pss_cons (ps_set (i := 5) sc_law_table.nd rfl (Or.inl rfl) (pe_lst pa_nil))
  (pss_cons (ps_set (i := 6) sc_law_table.nd rfl (Or.inl rfl) pe_non)
  (pss_cons (ps_for PassesOwn.never rfl (pi_range2 (by rfl) T.b_range (pa_cons (pe_op op_oneShl pe_int (pe_op op_sub (pe_ix ix_tup (pv 2) pe_int (fun _ _ => rfl)) pe_int)) (pa_cons (pe_op op_oneShl pe_int (pe_ix ix_tup (pv 2) pe_int (fun _ _ => rfl))) pa_nil))) (pg_name (i := 7) sc_law_table.nd rfl (Or.inl rfl)) (pss_cons (ps_set (i := 8) sc_law_table.nd rfl (Or.inl rfl) (pe_lst pa_nil))
  (pss_cons (ps_for PassesOwn.never rfl (pi_range2 (by rfl) T.b_range (pa_cons (pe_op op_sub pe_int (pe_f (ok_law_half T) (hr.mono (by decide)) (by rfl) T.g_law_half pass0 (pa_cons (pv 1) (pa_cons (pv 2) pa_nil)))) (pa_cons (pe_f (ok_law_half T) (hr.mono (by decide)) (by rfl) T.g_law_half pass0 (pa_cons (pv 1) (pa_cons (pv 2) pa_nil))) pa_nil))) (pg_name (i := 9) sc_law_table.nd rfl (Or.inl rfl)) (pss_cons (ps_set (i := 10) sc_law_table.nd rfl (Or.inl rfl) (pe_f (ok_law_good T) hr (by rfl) T.g_law_good pass0 (pa_cons (pv 1) (pa_cons (pv 2) (pa_cons (pv 3) (pa_cons (pe_tup (pa_cons (pv 7) (pa_cons (pv 9) pa_nil))) pa_nil))))))
  (pss_cons (ps_set (i := 11) sc_law_table.nd rfl (Or.inl rfl) pe_non)
  (pss_cons (ps_if (PW.pt (pw_and (pt_val (pe_f (ok_law_met T) (hr.mono (by decide)) (by rfl) T.g_law_met pass0 (pa_cons (pv 1) (pa_cons (pv 2) (pa_cons (pv 3) (pa_cons (pe_tup (pa_cons (pv 7) (pa_cons (pv 9) pa_nil))) pa_nil)))))) (pw_and1 (pt_cmpR (SF.op_eqNil hr.units0) (pv 10) (pe_lst pa_nil) (nomark _))))) (pss_one (ps_set (i := 6) sc_law_table.nd rfl (Or.inl rfl) (pe_ifExp (pt_cmpR op_notN (pv 6) pe_non (nomark _)) (pv 6) (pe_tup (pa_cons (pv 7) (pa_cons (pv 9) pa_nil)))))) (pss_one (ps_if (pt_val (pe_f (ok_law_met T) (hr.mono (by decide)) (by rfl) T.g_law_met pass0 (pa_cons (pv 1) (pa_cons (pv 2) (pa_cons (pv 3) (pa_cons (pe_tup (pa_cons (pv 7) (pa_cons (pv 9) pa_nil))) pa_nil)))))) (pss_one (ps_set (i := 11) sc_law_table.nd rfl (Or.inl rfl) (pe_ix ix_list (pe_lst (pa_cons (SF.pe_minAbs rfl T.b_min T.b_abs (pa_cons (pv 10) pa_nil)) (pa_cons (pe_ix ix_list (pv 10) (pe_f (ok_law_pick T) (hr.mono (by decide)) (by rfl) T.g_law_pick pass0 (pa_cons (pv 0) (pa_cons (pe_callB call_len_seq (by rfl) T.b_len (by decide +kernel) (pa_cons (pv 10) pa_nil)) pa_nil))) (fun _ _ => rfl)) (pa_cons (pe_ix ix_list (pv 10) (pe_un un_neg pe_int) (fun _ _ => rfl)) pa_nil)))) (pv 4) (fun _ _ => rfl)))) pss_nil)))
  (pss_one (ps_expr (pe_bm PySem.F.plainAttrs_list PySem.F.slot_list_append PySem.F.type_list_append mt_append (pv 8) (pa_cons (pv 11) pa_nil))))))))
  (pss_one (ps_expr (pe_bm PySem.F.plainAttrs_list PySem.F.slot_list_append PySem.F.type_list_append mt_append (pv 5) (pa_cons (pv 8) pa_nil)))))))
  (pss_one (ps_ret (pe_tup (pa_cons (pv 5) (pa_cons (pv 6) pa_nil))))))))), ?_⟩)
  · obtain ⟨d, k, l, c, way, n, rfl, _⟩ := h
    rfl
  · obtain ⟨d, k, l, c, way, n, rfl, hway, hk, hl, ok, hd, hn, hQ⟩ := h
    have t1 := ok.t1
    have t5 := ok.t5
    have m1 := ok.m1
    have m7 := ok.m7
    obtain ⟨hh, hh2⟩ := ok.half_lt
    obtain ⟨pt1, pt2⟩ := p32 ok.t5
    obtain ⟨pu1, pu2⟩ := p32 (show c.t - 1 ≤ 5 by omega)
    have ept : (2 : Int) ^ c.t = 2 * 2 ^ (c.t - 1) := by
      rw [show c.t = (c.t - 1) + 1 by omega, Int.pow_succ, Int.mul_comm]
      rfl
    have nkd := hd.not hk (fun xs z => nomatch z)
    have nld := hd.not hl (fun xs z => nomatch z)
    refine ⟨by show 0 ≤ sizeLine; decide, fun tb htb => ?_⟩
    try dsimp only
    generalize gH0 : upd H tb (.lst []) = H0
    have eH0 : Evl.Ex H H0 := by rw [← gH0]; exact Evl.Ex.new htb
    have oH0 : H0 tb = some (.lst []) := by rw [← gH0]; exact upd_same
    have hl0 := eH0 _ _ hl
    refine ⟨_, rfl, _, _, _, _, rfl, rfl, Evl.st_of hl0, rfl, _, _, rfl, rfl, c.t - 1, rfl, vsub1 t1, by omega, ?_⟩
    refine ⟨_, rfl, _, _, _, _, rfl, rfl, Evl.st_of hl0, rfl, c.t, rfl, rfl, by omega, ?_⟩
    refine ⟨_, _, rfl, ⟨by omega, by omega, by omega, by omega⟩, ?_⟩
    have ntd : tb ≠ d := fun z => by
      obtain ⟨a, b, c', h1, _⟩ := hd
      rw [z, h1] at htb
      cases htb
    refine for_range (fun i σ H' => ExX d H H' ∧ Deck H' d (n + 516 * i) ∧ (∃ (as : List Addr) (tab : List (List (Option Int))), H' tb = some (.lst (as.map V.ref)) ∧ as.length = i ∧ tab.length = i ∧ (∀ (j : Nat) (a : Addr) (row : List (Option Int)), as[j]? = some a → tab[j]? = some row → (a ≠ d ∧ a ≠ tb) ∧ H' a = some (.lst (row.map cv))) ∧ ∀ row ∈ tab, RowOk c row) ∧
      ∃ (lk : V) (z1 z2 z3 z4 z5 : Option V), σ = [some (.ref d), some (.ref k), some (.ref l), some (.int 2), some (.int (way : Nat)), some (.ref tb), some lk, z1, z2, z3, z4, z5]) ?_ ?_ ?_
    · refine ⟨ExX.ex eH0, ?_, ⟨[], [], oH0, rfl, rfl, fun j a row z => (by cases z), fun row z => (by cases z)⟩, _, _, _, _, _, _, rfl⟩
      obtain ⟨a, b, c', h1, h2⟩ := hd
      exact ⟨a, b, c', eH0 _ _ h1, h2⟩
    · rintro i σ H' hlti ⟨x1, d1, ⟨as, tab, h1, h2, h3, h4, h5⟩, lk, z1, z2, z3, z4, z5, rfl⟩
      have hi16 : (i : Int) < 2 ^ (c.t - 1) := by omega
      have le16 : (2 : Int) ^ (c.t - 1) ≤ 16 := by
        have e9 : (2 : Int) ^ (c.t - 1) ≤ 2 ^ 4 := by
          have : (2 : Nat) ^ (c.t - 1) ≤ 2 ^ 4 := Nat.pow_le_pow_right (by decide) (by omega)
          exact_mod_cast this
        exact e9
      try dsimp only [gName]
      generalize hX : (2 : Int) ^ (c.t - 1) + ((i : Nat) : Int) = X0
      have smX : Sm X0 := ⟨by omega, by omega⟩
      try dsimp only [L2.start, List.map, List.length_cons, List.length_nil, List.replicate, List.set, List.append, List.cons_append, List.nil_append]
      have hk0 := x1 _ _ nkd hk
      have hl0' := x1 _ _ nld hl
      refine ⟨by show 0 ≤ sizeLine; decide, fun rw1 hrw1 => ?_⟩
      try dsimp only
      generalize gH1 : upd H' rw1 (.lst []) = H1
      have eH1 : Evl.Ex H' H1 := by rw [← gH1]; exact Evl.Ex.new hrw1
      have oH1 : H1 rw1 = some (.lst []) := by rw [← gH1]; exact upd_same
      have ndr : d ≠ rw1 := fun z => by
        obtain ⟨a, b, c', g1, _⟩ := d1
        rw [z, hrw1] at g1
        cases g1
      refine ⟨_, rfl, _, rfl, k, l, c, rfl, Evl.st_of (eH1 _ _ hk0), Evl.st_of (eH1 _ _ hl0'), ok, fun Ha ea => ?_⟩
      refine ⟨_, _, rfl, rfl, ?_⟩
      refine ⟨_, rfl, _, rfl, k, l, c, rfl, Evl.st_of (ea _ _ (eH1 _ _ hk0)), Evl.st_of (ea _ _ (eH1 _ _ hl0')), ok, fun Hb eb => ?_⟩
      have eab := (eH1.trans ea).trans eb
      refine ⟨_, _, rfl, ⟨by omega, by omega, by omega, by omega⟩, ?_⟩
      refine for_range (fun j σ H2 => ExX d H' H2 ∧ Deck H2 d (n + 516 * i + j) ∧ ∃ row : List (Option Int), H2 rw1 = some (.lst (row.map cv)) ∧ row.length = j ∧ (∀ e ∈ row, EntOk c e) ∧
        ∃ (lk : V) (y2 y3 y4 : Option V), σ = [some (.ref d), some (.ref k), some (.ref l), some (.int 2), some (.int (way : Nat)), some (.ref tb), some lk, some (.int X0), some (.ref rw1), y2, y3, y4]) ?_ ?_ ?_
      · exact ⟨ExX.ex eab, d1.ex eab, [], eb _ _ (ea _ _ oH1), rfl, fun e z => (by cases z), _, _, _, _, rfl⟩
      · rintro j σ H2 hltj ⟨x2, d2, row, hr1, hrl, hre, lk2, y2, y3, y4, rfl⟩
        have hj516 : j < 516 := by omega
        try dsimp only [gName]
        generalize hY : 0 - c.half + ((j : Nat) : Int) = Y
        have smY : Sm Y := ⟨by omega, by omega⟩
        have hk2 := x2 _ _ nkd hk0
        have hl2 := x2 _ _ nld hl0'
        try dsimp only [L2.start, List.map, List.length_cons, List.length_nil, List.replicate, List.set, List.append, List.cons_append, List.nil_append]
        refine ⟨_, rfl, _, rfl, _, rfl, _, rfl, _, rfl, ?_⟩
        refine ⟨by show 2 ≤ sizeLine; decide, fun c1 hc1 => ?_⟩
        try dsimp only
        generalize gH3 : upd H2 c1 (.tup [.int X0, .int Y]) = H3
        have eH3 : Evl.Ex H2 H3 := by rw [← gH3]; exact Evl.Ex.new hc1
        have oH3 : H3 c1 = some (.tup [.int X0, .int Y]) := by rw [← gH3]; exact upd_same
        refine ⟨k, l, c1, c, 2, X0, Y, rfl, Evl.st_of (eH3 _ _ hk2), Evl.st_of (eH3 _ _ hl2), ok, Evl.st_of oH3, smX, smY, ⟨by decide, by decide⟩, fun H4 g ns e4 hg og hbd hlen => ?_⟩
        have e24 := eH3.trans e4
        try dsimp only [L2.start, List.map, List.length_cons, List.length_nil, List.replicate, List.set, List.append, List.cons_append, List.nil_append]
        refine ⟨_, rfl, _, rfl, _, rfl, _, rfl, _, rfl, ?_⟩
        refine ⟨by show 2 ≤ sizeLine; decide, fun c2 hc2 => ?_⟩
        try dsimp only
        generalize gH5 : upd H4 c2 (.tup [.int X0, .int Y]) = H5
        have eH5 : Evl.Ex H4 H5 := by rw [← gH5]; exact Evl.Ex.new hc2
        have oH5 : H5 c2 = some (.tup [.int X0, .int Y]) := by rw [← gH5]; exact upd_same
        have e25 := e24.trans eH5
        refine ⟨k, l, c2, c, 2, X0, Y, rfl, Evl.st_of (e25 _ _ hk2), Evl.st_of (e25 _ _ hl2), ok, Evl.st_of oH5, smX, smY, ⟨by decide, by decide⟩, fun H6 e6 => ?_⟩
        have e26 := e25.trans e6
        refine ⟨_, rfl, ?_⟩
        cases hm : metF c 2 X0 Y with
        | false =>
          refine iteF ?_
          refine iteF ?_
          refine ⟨_, rfl, _, rfl, _, rfl, _, rfl, _, rfl, ?_⟩
          refine ⟨by show 2 ≤ sizeLine; decide, fun c3 hc3 => ?_⟩
          try dsimp only
          generalize gH7 : upd H6 c3 (.tup [.int X0, .int Y]) = H7
          have eH7 : Evl.Ex H6 H7 := by rw [← gH7]; exact Evl.Ex.new hc3
          have oH7 : H7 c3 = some (.tup [.int X0, .int Y]) := by rw [← gH7]; exact upd_same
          have e27 := e26.trans eH7
          refine ⟨k, l, c3, c, 2, X0, Y, rfl, Evl.st_of (e27 _ _ hk2), Evl.st_of (e27 _ _ hl2), ok, Evl.st_of oH7, smX, smY, ⟨by decide, by decide⟩, fun H8 e8 => ?_⟩
          have e28 := e27.trans e8
          rw [hm]
          refine ⟨_, rfl, ?_⟩
          refine iteF ?_
          refine ⟨_, rfl, .inl ⟨rfl, _, Evl.sq_of (e28 _ _ hr1)⟩, _, rfl, rw1, _, _, rfl, rfl, (e28 _ _ hr1), by rw [List.length_map, hrl]; exact Nat.lt_of_lt_of_le (show j < 1000 by omega) (by decide), ?_⟩
          refine ⟨(x2.trans (ExX.ex e28)).mut2 hrw1, (((d2.ex e28).upd ndr).mono (by omega)), row ++ [none], by rw [upd_same, List.map_append]; rfl, by rw [List.length_append, hrl]; rfl, ?_, _, _, _, _, rfl⟩
          intro e he
          rcases List.mem_append.mp he with h | h
          · exact hre e h
          · rw [List.mem_singleton.mp h]
            exact ent_none
        | true =>
          refine iteT ?_
          refine ⟨_, rfl, ?_⟩
          refine ⟨by show 0 ≤ sizeLine; decide, fun nl0 hnl0 => ?_⟩
          try dsimp only
          generalize gH7 : upd H6 nl0 (.lst []) = H7
          have eH7 : Evl.Ex H6 H7 := by rw [← gH7]; exact Evl.Ex.new hnl0
          have oH7 : H7 nl0 = some (.lst []) := by rw [← gH7]; exact upd_same
          have e27 := e26.trans eH7
          have og7 := eH7 _ _ (e6 _ _ (eH5 _ _ og))
          refine ⟨g, nl0, _, rfl, rfl, Evl.sq_of og7, Evl.sq_of oH7, _, rfl, ?_⟩
          cases ns with
          | nil =>
            refine iteT ?_
            refine ⟨_, rfl, rfl, _, rfl, ?_⟩
            refine itN (fun _ => ?_) (fun _ => ?_)
            · refine ⟨_, rfl, _, rfl, ?_⟩
              refine ⟨by show 2 ≤ sizeLine; decide, fun c4 hc4 => ?_⟩
              try dsimp only
              generalize gH8 : upd H7 c4 (.tup [.int X0, .int Y]) = H8
              have eH8 : Evl.Ex H7 H8 := by rw [← gH8]; exact Evl.Ex.new hc4
              have oH8 : H8 c4 = some (.tup [.int X0, .int Y]) := by rw [← gH8]; exact upd_same
              have e28 := e27.trans eH8
              refine ⟨_, rfl, .inl ⟨rfl, _, Evl.sq_of (e28 _ _ hr1)⟩, _, rfl, rw1, _, _, rfl, rfl, (e28 _ _ hr1), by rw [List.length_map, hrl]; exact Nat.lt_of_lt_of_le (show j < 1000 by omega) (by decide), ?_⟩
              refine ⟨(x2.trans (ExX.ex e28)).mut2 hrw1, (((d2.ex e28).upd ndr).mono (by omega)), row ++ [none], by rw [upd_same, List.map_append]; rfl, by rw [List.length_append, hrl]; rfl, ?_, _, _, _, _, rfl⟩
              intro e he
              rcases List.mem_append.mp he with h | h
              · exact hre e h
              · rw [List.mem_singleton.mp h]
                exact ent_none
            · refine ⟨_, rfl, ?_⟩
              refine ⟨_, rfl, .inl ⟨rfl, _, Evl.sq_of (e27 _ _ hr1)⟩, _, rfl, rw1, _, _, rfl, rfl, (e27 _ _ hr1), by rw [List.length_map, hrl]; exact Nat.lt_of_lt_of_le (show j < 1000 by omega) (by decide), ?_⟩
              refine ⟨(x2.trans (ExX.ex e27)).mut2 hrw1, (((d2.ex e27).upd ndr).mono (by omega)), row ++ [none], by rw [upd_same, List.map_append]; rfl, by rw [List.length_append, hrl]; rfl, ?_, _, _, _, _, rfl⟩
              intro e he
              rcases List.mem_append.mp he with h | h
              · exact hre e h
              · rw [List.mem_singleton.mp h]
                exact ent_none
          | cons f0 ns' =>
            refine iteF ?_
            refine ⟨_, rfl, _, rfl, _, rfl, _, rfl, _, rfl, ?_⟩
            refine ⟨by show 2 ≤ sizeLine; decide, fun c3 hc3 => ?_⟩
            try dsimp only
            generalize gH8 : upd H7 c3 (.tup [.int X0, .int Y]) = H8
            have eH8 : Evl.Ex H7 H8 := by rw [← gH8]; exact Evl.Ex.new hc3
            have oH8 : H8 c3 = some (.tup [.int X0, .int Y]) := by rw [← gH8]; exact upd_same
            have e28 := e27.trans eH8
            refine ⟨k, l, c3, c, 2, X0, Y, rfl, Evl.st_of (e28 _ _ hk2), Evl.st_of (e28 _ _ hl2), ok, Evl.st_of oH8, smX, smY, ⟨by decide, by decide⟩, fun H9 e9 => ?_⟩
            have e29 := e28.trans e9
            have og9 := e9 _ _ (eH8 _ _ og7)
            rw [hm]
            refine ⟨_, rfl, ?_⟩
            refine iteT ?_
            generalize hnsd : f0 :: ns' = ns at *
            have hpos : 0 < ns.length := by rw [← hnsd]; exact Nat.succ_pos _
            refine ⟨_, rfl, g, ns, rfl, og9, hpos, fun mn hmn => ?_⟩
            refine ⟨_, rfl, _, rfl, _, rfl, g, _, rfl, .inl (Evl.sq_of og9), ?_⟩
            rw [List.length_map]
            refine ⟨d, _, n + 516 * i + j, rfl, d2.ex e29, by omega, by omega, mid_of (by omega) (by omega), fun HA r hr0 hr1' xA dA => ?_⟩
            have ngd : g ≠ d := fun z => by
              obtain ⟨a, b, c', q1, _⟩ := d2
              rw [z, eH3 _ _ q1] at hg
              cases hg
            have ogA := xA _ _ ngd og9
            have hrl' : r.toNat < ns.length := by omega
            have hat : ns[r.toNat]? = some ns[r.toNat] := List.getElem?_eq_getElem hrl'
            have hlast : ns.getLast? = some (ns.getLast (List.ne_nil_of_length_pos hpos)) := List.getLast?_eq_some_getLast _
            have mfr : ns[r.toNat] ∈ ns := List.getElem_mem hrl'
            have mfl : ns.getLast (List.ne_nil_of_length_pos hpos) ∈ ns := List.getLast_mem _
            generalize ns[r.toNat] = fr at hat mfr
            generalize ns.getLast (List.ne_nil_of_length_pos hpos) = fl at hlast mfl
            refine ⟨g, _, _, .int fr, rfl, rfl, Evl.sq_of ogA, atI_of hr0 (by rw [List.getElem?_map, hat]; rfl), ?_⟩
            refine ⟨_, rfl, _, rfl, g, _, _, .int fl, rfl, rfl, Evl.sq_of ogA, atI_last (by rw [List.getLast?_map, hlast]; rfl), ?_⟩
            refine ⟨by show 3 ≤ sizeLine; decide, fun li hli => ?_⟩
            try dsimp only
            generalize gHC : upd HA li (.lst [.int mn, .int fr, .int fl]) = HC
            have eHC : Evl.Ex HA HC := by rw [← gHC]; exact Evl.Ex.new hli
            have oHC : HC li = some (.lst [.int mn, .int fr, .int fl]) := by rw [← gHC]; exact upd_same
            obtain ⟨f, hf1, hf2⟩ : ∃ f, ([V.int mn, V.int fr, V.int fl])[way]? = some (V.int f) ∧ f ∈ ns := by
              have : way = 0 ∨ way = 1 ∨ way = 2 := by omega
              rcases this with rfl | rfl | rfl
              · exact ⟨mn, rfl, hmn⟩
              · exact ⟨fr, rfl, mfr⟩
              · exact ⟨fl, rfl, mfl⟩
            refine ⟨_, rfl, li, _, _, .int f, rfl, rfl, Evl.sq_of oHC, atI_nat hf1, ?_⟩
            have eok : EntOk c (some f) := fun i' z => by
              cases z
              exact hbd f hf2
            have nrd : rw1 ≠ d := fun z => ndr z.symm
            refine ⟨_, rfl, .inl ⟨rfl, _, Evl.sq_of (eHC _ _ (xA _ _ nrd (e29 _ _ hr1)))⟩, _, rfl, rw1, _, _, rfl, rfl, (eHC _ _ (xA _ _ nrd (e29 _ _ hr1))), by rw [List.length_map, hrl]; exact Nat.lt_of_lt_of_le (show j < 1000 by omega) (by decide), ?_⟩
            refine ⟨((x2.trans (ExX.ex e29)).trans (xA.trans (ExX.ex eHC))).mut2 hrw1, (((dA.ex eHC).upd ndr).mono (by omega)), row ++ [(some f)], by rw [upd_same, List.map_append]; rfl, by rw [List.length_append, hrl]; rfl, ?_, _, _, _, _, rfl⟩
            intro e he
            rcases List.mem_append.mp he with h | h
            · exact hre e h
            · rw [List.mem_singleton.mp h]
              exact eok
      · rintro σ H2 ⟨x2, d2, row, hr1, hrl, hre, lk2, y2, y3, y4, rfl⟩
        have htb2 := x2 _ _ ntd h1
        have sz : as.length < sizeLine := Nat.lt_of_lt_of_le (show as.length < 100 by omega) (by decide)
        refine ⟨_, rfl, .inl ⟨rfl, _, Evl.sq_of htb2⟩, _, rfl, tb, _, _, rfl, rfl, htb2, by rw [List.length_map]; exact sz, ?_⟩
        have n516 : (c.half - (0 - c.half)).toNat ≤ 516 := by omega
        refine ⟨(x1.trans x2).mut2 htb, (d2.upd (fun z => ntd z.symm)).mono (by show n + 516 * i + _ ≤ n + 516 * (i + 1); omega), ⟨as ++ [rw1], tab ++ [row], by rw [upd_same, List.map_append]; rfl, by rw [List.length_append, h2]; rfl, by rw [List.length_append, h3]; rfl, fun j a rw' g1 g2 => ?_, fun rw' hrw' => ?_⟩, _, _, _, _, _, _, rfl⟩
        · rcases get_app g1 with g1 | ⟨e1, e2⟩
          · have hjl := (List.getElem?_eq_some_iff.mp g1).1
            rw [List.getElem?_append_left (by omega)] at g2
            obtain ⟨⟨q1, nat⟩, q2⟩ := h4 j a rw' g1 g2
            exact ⟨⟨q1, nat⟩, by rw [upd_ne nat]; exact x2 _ _ q1 q2⟩
          · subst e2
            rw [List.getElem?_append_right (by omega), show j - tab.length = 0 by omega] at g2
            cases g2
            have nat : a ≠ tb := fun z => by rw [z, h1] at hrw1; cases hrw1
            exact ⟨⟨fun z => ndr z.symm, nat⟩, by rw [upd_ne nat]; exact hr1⟩
        · rcases List.mem_append.mp hrw' with h | h
          · exact h5 rw' h
          · rw [List.mem_singleton.mp h]
            exact ⟨by rw [hrl]; congr 1; omega, hre⟩
    · rintro σ H' ⟨x1, d1, ⟨as, tab, h1, h2, h3, h4, h5⟩, lk, z1, z2, z3, z4, z5, rfl⟩
      refine ⟨_, rfl, _, rfl, ?_⟩
      have en : ((2 : Int) ^ c.t - 2 ^ (c.t - 1)).toNat = 2 ^ (c.t - 1) := by
        rw [ept, show (2 : Int) * 2 ^ (c.t - 1) - 2 ^ (c.t - 1) = ((2 ^ (c.t - 1) : Nat) : Int) by rw [show ((2 ^ (c.t - 1) : Nat) : Int) = (2 : Int) ^ (c.t - 1) from by simp]; omega]
        rfl
      rw [en] at d1 h2 h3
      have le16 : 2 ^ (c.t - 1) ≤ 16 := Nat.pow_le_pow_right (n := 2) (j := 4) (by decide) (by omega)
      refine ⟨by show 2 ≤ sizeLine; decide, fun q hq => ?_⟩
      try dsimp only
      generalize gH2 : upd H' q (.tup [.ref tb, lk]) = H2
      have eH2 : Evl.Ex H' H2 := by rw [← gH2]; exact Evl.Ex.new hq
      have oH2 : H2 q = some (.tup [.ref tb, lk]) := by rw [← gH2]; exact upd_same
      obtain ⟨a, b, c', g1, g2⟩ := d1.mono (show n + 516 * 2 ^ (c.t - 1) ≤ n + 8256 by omega)
      exact hQ H2 q tb lk tab (x1.trans (ExX.ex eH2)) ⟨a, b, c', eH2 _ _ g1, g2⟩ oH2 ⟨h3, h5⟩ fun K => ⟨as, Evl.sq_of (eH2 _ _ h1), h2.trans h3.symm, fun j a row g3 g4 => Evl.sq_of (eH2 _ _ (h4 j a row g3 g4).2)⟩
end SF
end
section
set_option Elab.async false
set_option linter.all false
set_option maxRecDepth 100000
set_option maxHeartbeats 4000000
namespace SF
open PySem PySem.Spec PyProof.Rows L2
/-! ### _law_spoilt -/
structure Told (c : Kd) (d D : Addr) (H H' : Hp) (as : List Addr) (tab : List (List (Option Int))) : Prop where
  at_ : H' D = some (.lst (as.map V.ref))
  nd : as.Nodup
  fr : ∀ a ∈ as, H a = none ∧ a ≠ D ∧ a ≠ d
  len : as.length = tab.length
  ok : TabOk c tab
  rows : ∀ (j : Nat) (a : Addr) (row : List (Option Int)), as[j]? = some a → tab[j]? = some row → H' a = some (.lst (row.map cv))
def spSpoilt (K : PySem.W.Frag) : Sp := fun vs H Q _ => ∃ (d k l tb : Addr) (c : Kd) (n : Nat) (tab : List (List (Option Int))), vs = [.ref d, .ref k, .ref l, .ref tb] ∧ H k = some (.tup [.int c.base, .int c.m]) ∧ c.Ok ∧ Deck H d n ∧ n ≤ 100000 ∧ TabR K H tb tab ∧ TabOk c tab ∧
  ∀ (H' : Hp) (D : Addr) (as : List Addr) (tab' : List (List (Option Int))), ExX d H H' → Deck H' d (n + 30) → H D = none → TabOk c tab' → H' D = some (.lst (as.map V.ref)) → RowsIn H' as tab' → (∀ a ∈ as, H a = none ∧ a ≠ D ∧ a ≠ d) → Q (.ref D) H'
theorem nodup_at {as : List Addr} (h : as.Nodup) {i j : Nat} {a : Addr} (h1 : as[i]? = some a) (h2 : as[j]? = some a) : i = j := by
  obtain ⟨l1, e1⟩ := List.getElem?_eq_some_iff.mp h1
  obtain ⟨l2, e2⟩ := List.getElem?_eq_some_iff.mp h2
  have p := List.pairwise_iff_getElem.mp h
  rcases Nat.lt_trichotomy i j with hlt | heq | hgt
  · exact absurd (e1.trans e2.symm) (p i j l1 l2 hlt)
  · exact heq
  · exact absurd (e2.trans e1.symm) (p j i l2 l1 hgt)
theorem TabOk.setE {c : Kd} {tab : List (List (Option Int))} (h : TabOk c tab) {i j : Nat} {row : List (Option Int)} {e : Option Int} (hr : tab[i]? = some row) (he : EntOk c e) : TabOk c (tab.set i (row.set j e)) := by
  refine ⟨by rw [List.length_set]; exact h.1, fun rw' hrw => ?_⟩
  rcases List.mem_or_eq_of_mem_set hrw with h1 | h1
  · exact h.2 rw' h1
  · rw [h1]
    obtain ⟨q1, q2⟩ := h.2 row (List.mem_of_getElem? hr)
    refine ⟨by rw [List.length_set]; exact q1, fun e' he' => ?_⟩
    rcases List.mem_or_eq_of_mem_set he' with h2 | h2
    · exact q2 e' h2
    · rw [h2]; exact he
theorem TabOk.setR {c : Kd} {tab : List (List (Option Int))} (h : TabOk c tab) {i : Nat} {row : List (Option Int)} (he : RowOk c row) : TabOk c (tab.set i row) := by
  refine ⟨by rw [List.length_set]; exact h.1, fun rw' hrw => ?_⟩
  rcases List.mem_or_eq_of_mem_set hrw with h1 | h1
  · exact h.2 rw' h1
  · rw [h1]; exact he
theorem TabOk.pos {c : Kd} {tab : List (List (Option Int))} (h : TabOk c tab) : 0 < tab.length := by rw [h.1]; exact Nat.two_pow_pos _
section
variable {c : Kd} {d D : Addr} {H H1 H2 : Hp} {as : List Addr} {tab : List (List (Option Int))}
theorem Told.go (t : Told c d D H H1 as tab) (n : D ≠ d) (x : ExX d H1 H2) : Told c d D H H2 as tab :=
  ⟨x _ _ n t.at_, t.nd, t.fr, t.len, t.ok, fun j a row h1 h2 => x _ _ (t.fr a (List.mem_of_getElem? h1)).2.2 (t.rows j a row h1 h2)⟩
theorem Told.setE (t : Told c d D H H1 as tab) {i j : Nat} {a : Addr} {row : List (Option Int)} {e : Option Int} (ha : as[i]? = some a) (hr : tab[i]? = some row) (he : EntOk c e) :
    Told c d D H (upd H1 a (.lst ((row.map cv).set j (cv e)))) as (tab.set i (row.set j e)) := by
  have q := t.fr a (List.mem_of_getElem? ha)
  refine ⟨by rw [upd_ne q.2.1.symm]; exact t.at_, t.nd, t.fr, by rw [List.length_set]; exact t.len, t.ok.setE hr he, fun j' a' row' h1 h2 => ?_⟩
  have hi := (List.getElem?_eq_some_iff.mp hr).1
  by_cases ei : i = j'
  · subst ei
    rw [ha] at h1
    cases h1
    rw [List.getElem?_set_self hi] at h2
    cases h2
    rw [upd_same, List.map_set]
  · rw [List.getElem?_set_ne ei] at h2
    have ne : a' ≠ a := fun z => ei (nodup_at t.nd ha (z ▸ h1))
    rw [upd_ne ne]
    exact t.rows j' a' row' h1 h2
theorem Told.setR (t : Told c d D H H1 as tab) {i : Nat} {p : Addr} {row : List (Option Int)} (hi : i < as.length) (hp : H p = none) (hpD : p ≠ D) (hpd : p ≠ d) (hpa : p ∉ as) (hr : H1 p = some (.lst (row.map cv))) (he : RowOk c row) :
    Told c d D H (upd H1 D (.lst ((as.map V.ref).set i (.ref p)))) (as.set i p) (tab.set i row) := by
  refine ⟨by rw [upd_same, List.map_set], ?_, fun a ha => ?_, by rw [List.length_set, List.length_set]; exact t.len, t.ok.setR he, fun j' a' row' h1 h2 => ?_⟩
  · refine List.pairwise_iff_getElem.mpr fun x y hx hy hxy => ?_
    rw [List.length_set] at hx hy
    rw [List.getElem_set, List.getElem_set]
    have pw := List.pairwise_iff_getElem.mp t.nd x y hx hy hxy
    split
    · split
      · omega
      · intro z
        exact hpa (z ▸ List.getElem_mem hy)
    · split
      · intro z
        exact hpa (z ▸ List.getElem_mem hx)
      · exact pw
  · rcases List.mem_or_eq_of_mem_set ha with h | h
    · exact t.fr a h
    · rw [h]; exact ⟨hp, hpD, hpd⟩
  · by_cases ei : i = j'
    · subst ei
      rw [List.getElem?_set_self hi] at h1
      cases h1
      rw [List.getElem?_set_self (by rw [← t.len]; exact hi)] at h2
      cases h2
      rw [upd_ne hpD]
      exact hr
    · rw [List.getElem?_set_ne ei] at h1 h2
      rw [upd_ne (t.fr a' (List.mem_of_getElem? h1)).2.1]
      exact t.rows j' a' row' h1 h2
end
theorem sc_law_spoilt : FnScope ["deck", "kind", "looks", "table", "told", "turn", "top", "look", "figure", "row"] ["deck", "kind", "looks", "table"] (defScope s_law_spoilt) := ⟨rfl, rfl, rfl, by decide +kernel, rfl, by decide +kernel, by decide +kernel⟩
theorem ok_law_spoilt {P : Program} {w : World} {K : PySem.W.Frag} {mg : Str → Option Value} {base : Heap} (T : Fx K mg) : FnX P w K mg base CX0 2 (He.ga K "_law_spoilt") ["deck", "kind", "looks", "table"] (spSpoilt K) := by
  refine fx_of T.d_law_spoilt sc_law_spoilt (fun _ _ _ _ _ _ us hl => match us, hl with | [_, _, _, _], _ => rfl) (fun vs H Q E h => ?_) (fun cdv A outer s H vs Q E hr h => ⟨_, PSs.nox ((pss_cons (ps_setLc (i := 4) (own := [("row", 9)]) (g := gName 9) (tt := tYes) rfl sc_law_spoilt.nd rfl rfl (sw_true rfl rfl rfl (by decide +kernel)) (pi_list (pv 3)) (blkOk_by (own := [("row", 9)]) (N := ["deck", "kind", "looks", "table", "told", "turn", "top", "look", "figure", "row"]) (sc := defScope s_law_spoilt) (by decide +kernel)) (fun _ _ _ _ _ => (pg_name (i := 9) sc_law_spoilt.nd rfl (Or.inl rfl))) (fun _ _ _ _ _ => pts_nil) (fun _ _ _ _ _ => (pe_callTy (T := "list") (r := Evl.rListS K) call_list_of (by rfl) T.b_list (by decide +kernel) (pa_cons (pv 9) pa_nil))))
  (pss_cons (ps_for PassesOwn.never rfl (pi_range1 (by rfl) T.b_range (pa_cons (pe_f (ok_law_pick T) hr (by rfl) T.g_law_pick pass0 (pa_cons (pv 0) (pa_cons pe_int pa_nil))) pa_nil)) (pg_name (i := 5) sc_law_spoilt.nd rfl (Or.inl rfl)) (pss_cons (ps_set (i := 6) sc_law_spoilt.nd rfl (Or.inl rfl) (pe_f (ok_law_pick T) hr (by rfl) T.g_law_pick pass0 (pa_cons (pv 0) (pa_cons (pe_callB call_len_seq (by rfl) T.b_len (by decide +kernel) (pa_cons (pv 4) pa_nil)) pa_nil))))
  (pss_cons (ps_set (i := 7) sc_law_spoilt.nd rfl (Or.inl rfl) (pe_f (ok_law_pick T) hr (by rfl) T.g_law_pick pass0 (pa_cons (pv 0) (pa_cons (pe_callB call_len_seq (by rfl) T.b_len (by decide +kernel) (pa_cons (pe_ix ix_list (pv 4) pe_int (fun _ _ => rfl)) pa_nil)) pa_nil))))
  (pss_cons (ps_set (i := 8) sc_law_spoilt.nd rfl (Or.inl rfl) (pe_lst (pa_cons pe_non (pa_cons (pe_op op_sub (pe_f (ok_law_pick T) hr (by rfl) T.g_law_pick pass0 (pa_cons (pv 0) (pa_cons (pe_op op_add (pe_op op_mul pe_int (pe_ix ix_tup (pv 1) pe_int (fun _ _ => rfl))) pe_int) pa_nil))) (pe_ix ix_tup (pv 1) pe_int (fun _ _ => rfl))) pa_nil))))
  (pss_cons (ps_set (i := 8) sc_law_spoilt.nd rfl (Or.inl rfl) (pe_ix ix_list (pv 8) (pe_callTy (T := "int") call_int1 (by rfl) T.b_int (by decide +kernel) (pa_cons (pe_cmpR op_gt (pe_f (ok_law_pick T) hr (by rfl) T.g_law_pick pass0 (pa_cons (pv 0) (pa_cons pe_int pa_nil))) pe_int (nomark _)) pa_nil)) (fun _ _ => rfl)))
  (pss_cons (ps_asg (pv 8) (pg_sub (pe_ix ix_list (pv 4) (pv 6) (fun _ _ => rfl)) (pv 7) set_list))
  (pss_one (ps_if (pt_cmpR op_eq (pe_f (ok_law_pick T) hr (by rfl) T.g_law_pick pass0 (pa_cons (pv 0) (pa_cons pe_int pa_nil))) pe_int (nomark _)) (pss_one (ps_asg (pe_op op_rep (pe_lst (pa_cons (pv 8) pa_nil)) (pe_callB call_len_seq (by rfl) T.b_len (by decide +kernel) (pa_cons (pe_ix ix_list (pv 4) pe_int (fun _ _ => rfl)) pa_nil))) (pg_sub (pv 4) (pv 6) set_list))) pss_nil))))))))
  (pss_one (ps_ret (pv 4)))))), ?_⟩)
  · obtain ⟨d, k, l, tb, c, n, tab, rfl, _⟩ := h
    rfl
  · obtain ⟨d, k, l, tb, c, n, tab, rfl, hk, ok, hd, hn, ht, htk, hQ⟩ := h
    have t5 := ok.t5
    have m1 := ok.m1
    have m7 := ok.m7
    obtain ⟨hh, hh2⟩ := ok.half_lt
    have nkd := hd.not hk (fun xs z => nomatch z)
    have le16 : (2 : Nat) ^ (c.t - 1) ≤ 16 := Nat.pow_le_pow_right (n := 2) (j := 4) (by decide) (by omega)
    have l16 : tab.length ≤ 16 := by rw [htk.1]; exact le16
    dsimp only [tSeq, tAsg]
    refine copy_rows (t := tb) 9 (by show 9 < 10; decide) (fun R hR => by exact ⟨_, rfl, hR⟩) ht (by omega) fun H1 D as e1 hD hf h1 hin => ?_
    have nDd : D ≠ d := fun z => by
      obtain ⟨a, b, c', g1, _⟩ := hd
      rw [z, g1] at hD
      cases hD
    have nfd : ∀ a, H a = none → a ≠ d := fun a ha z => by
      obtain ⟨x, b, c', g1, _⟩ := hd
      rw [z, g1] at ha
      cases ha
    have x1 : ExX d H H1 := ExX.ex e1
    have told1 : Told c d D H H1 as tab := ⟨h1, hf.1, fun a ha => ⟨(hf.2 a ha).1, (hf.2 a ha).2, nfd a (hf.2 a ha).1⟩, hin.1, htk, hin.2⟩
    try dsimp only [L2.start, List.map, List.length_cons, List.length_nil, List.replicate, List.set, List.append, List.cons_append, List.nil_append]
    refine ⟨_, rfl, d, 4, n, rfl, hd.ex e1, by omega, by decide, mid_of (by decide) (by decide), fun H2 r hr0 hr1 x2 d2 => ?_⟩
    refine ⟨r, rfl, by omega, by omega, for_range (fun i σ H' => ExX d H H' ∧ Deck H' d (n + 1 + 6 * i) ∧ (∃ (as : List Addr) (tab : List (List (Option Int))), Told c d D H H' as tab) ∧
      ∃ z1 z2 z3 z4 z5 : Option V, σ = [some (.ref d), some (.ref k), some (.ref l), some (.ref tb), some (.ref D), z1, z2, z3, z4, z5]) ⟨x1.trans x2, d2, ⟨as, tab, told1.go nDd x2⟩, _, _, _, _, _, rfl⟩ ?_ ?_⟩
    · rintro i σ H' hlti ⟨xa, da, ⟨as, tab, td⟩, z1, z2, z3, z4, z5, rfl⟩
      have l16 : tab.length ≤ 16 := by rw [td.ok.1]; exact le16
      have lpos := td.ok.pos
      have llen := td.len
      try dsimp only [gName]
      try dsimp only [L2.start, List.map, List.length_cons, List.length_nil, List.replicate, List.set, List.append, List.cons_append, List.nil_append]
      refine ⟨_, rfl, _, rfl, D, _, rfl, .inl (Evl.sq_of td.at_), ?_⟩
      rw [List.length_map]
      refine ⟨d, _, n + 1 + 6 * i, rfl, da, by omega, by omega, mid_of (by omega) (by omega), fun H3 tp hp0 hp1 x3 d3 => ?_⟩
      have td3 := td.go nDd x3
      have a0at : as[0]? = some as[0] := List.getElem?_eq_getElem (by omega)
      have r0at : tab[0]? = some tab[0] := List.getElem?_eq_getElem lpos
      have row0 := td3.rows 0 _ _ a0at r0at
      have rl0 : tab[0].length = (2 * c.half).toNat := (td.ok.2 _ (List.getElem_mem lpos)).1
      try dsimp only [L2.start, List.map, List.length_cons, List.length_nil, List.replicate, List.set, List.append, List.cons_append, List.nil_append]
      refine ⟨_, rfl, _, rfl, D, _, _, _, rfl, rfl, Evl.sq_of td3.at_, atI_nat (j := 0) (by rw [List.getElem?_map, a0at]; rfl), ?_⟩
      refine ⟨as[0], _, rfl, .inl (Evl.sq_of row0), ?_⟩
      rw [List.length_map, rl0]
      refine ⟨d, _, n + 1 + 6 * i + 1, rfl, d3, by omega, by omega, mid_of (by omega) (by omega), fun H4 lk hl0 hl1 x4 d4 => ?_⟩
      have td4 := td3.go nDd x4
      have xx4 := (xa.trans x3).trans x4
      try dsimp only [L2.start, List.map, List.length_cons, List.length_nil, List.replicate, List.set, List.append, List.cons_append, List.nil_append]
      refine ⟨_, rfl, _, rfl, _, _, _, _, rfl, rfl, Evl.st_of (xx4 _ _ nkd hk), rfl, _, _, rfl, rfl, .inl ⟨by decide, by decide⟩, _, _, rfl, rfl, ?_⟩
      refine ⟨d, _, n + 1 + 6 * i + 1 + 1, rfl, d4, by omega, by omega, mid_of (by omega) (by omega), fun H5 f0 hf0 hf1 x5 d5 => ?_⟩
      have td5 := td4.go nDd x5
      have xx5 := xx4.trans x5
      refine ⟨_, rfl, _, _, _, _, rfl, rfl, Evl.st_of (xx5 _ _ nkd hk), rfl, _, _, rfl, rfl, ?_⟩
      refine ⟨by show 2 ≤ sizeLine; decide, fun fl hfl => ?_⟩
      try dsimp only
      generalize gH6 : upd H5 fl (.lst [.non, .int (f0 - c.m)]) = H6
      have eH6 : Evl.Ex H5 H6 := by rw [← gH6]; exact Evl.Ex.new hfl
      have oH6 : H6 fl = some (.lst [.non, .int (f0 - c.m)]) := by rw [← gH6]; exact upd_same
      try dsimp only [L2.start, List.map, List.length_cons, List.length_nil, List.replicate, List.set, List.append, List.cons_append, List.nil_append]
      have td6 := td5.go nDd (ExX.ex eH6)
      refine ⟨_, rfl, _, rfl, d, 3, n + 1 + 6 * i + 1 + 1 + 1, rfl, d5.ex eH6, by omega, by decide, mid_of (by decide) (by decide), fun H7 r3 hr30 hr31 x7 d7 => ?_⟩
      have nfld : fl ≠ d := fun z => by
        obtain ⟨a, b, c', g1, _⟩ := d5
        rw [z, g1] at hfl
        cases hfl
      obtain ⟨e, hee, heo⟩ : ∃ e, (if decide (0 < r3) = true then V.int (f0 - c.m) else V.non) = cv e ∧ EntOk c e := by
        by_cases hz : 0 < r3
        · exact ⟨some (f0 - c.m), by rw [decide_eq_true hz]; rfl, fun i z => by cases z; omega⟩
        · exact ⟨none, by rw [decide_eq_false hz]; rfl, ent_none⟩
      refine ⟨_, _, rfl, rfl, .inr ⟨_, rfl, fl, _, _, (if decide (0 < r3) = true then V.int (f0 - c.m) else V.non), rfl, rfl, Evl.sq_of (x7 _ _ nfld oH6), by generalize decide (0 < r3) = kb; cases kb <;> rfl, ?_⟩⟩
      rw [hee]
      have td7 := td6.go nDd x7
      have a1at : as[tp.toNat]? = some as[tp.toNat] := List.getElem?_eq_getElem (by omega)
      have r1at : tab[tp.toNat]? = some tab[tp.toNat] := List.getElem?_eq_getElem (by omega)
      have row1 := td7.rows _ _ _ a1at r1at
      have rl1 : tab[tp.toNat].length = (2 * c.half).toNat := (td.ok.2 _ (List.getElem_mem _)).1
      have td8 := td7.setE (j := lk.toNat) a1at r1at heo
      have fr1 := td7.fr _ (List.mem_of_getElem? a1at)
      try dsimp only [L2.start, List.map, List.length_cons, List.length_nil, List.replicate, List.set, List.append, List.cons_append, List.nil_append]
      refine ⟨_, rfl, _, rfl, _, rfl, D, _, _, _, rfl, rfl, Evl.sq_of td7.at_, atI_of hp0 (by rw [List.getElem?_map, a1at]; rfl), ?_⟩
      refine ⟨_, rfl, as[tp.toNat], _, _, lk.toNat, rfl, rfl, row1, ixN_at hl0 (by rw [List.length_map, rl1]; omega), ?_⟩
      have d8 := d7.upd (o := .lst ((tab[tp.toNat].map cv).set lk.toNat (cv e))) fr1.2.2.symm
      have xx8 : ExX d H (upd H7 as[tp.toNat] (.lst ((tab[tp.toNat].map cv).set lk.toNat (cv e)))) := ((xx5.trans (ExX.ex eH6)).trans x7).mut2 fr1.1
      try dsimp only
      generalize upd H7 as[tp.toNat] (.lst ((tab[tp.toNat].map cv).set lk.toNat (cv e))) = H8 at td8 d8 xx8 ⊢
      generalize htab8 : tab.set tp.toNat (tab[tp.toNat].set lk.toNat e) = tab8 at td8
      refine ⟨_, rfl, d, 4, n + 1 + 6 * i + 1 + 1 + 1 + 1, rfl, d8, by omega, by decide, mid_of (by decide) (by decide), fun H9 r4 hr40 hr41 x9 d9 => ?_⟩
      have td9 := td8.go nDd x9
      have xx9 := xx8.trans x9
      have lpos9 := td9.ok.pos
      have l9 := td9.len
      refine ⟨rfl, _, rfl, ?_⟩
      refine itD (fun _ => ?_) (fun _ => ?_)
      · refine ⟨_, rfl, ?_⟩
        refine ⟨by show 1 ≤ sizeLine; decide, fun z9 hz9 => ?_⟩
        try dsimp only
        generalize gHA : upd H9 z9 (.lst [cv e]) = HA
        have eHA : Evl.Ex H9 HA := by rw [← gHA]; exact Evl.Ex.new hz9
        have oHA : HA z9 = some (.lst [cv e]) := by rw [← gHA]; exact upd_same
        have tdA := td9.go nDd (ExX.ex eHA)
        have a0at9 : as[0]? = some as[0] := List.getElem?_eq_getElem (by omega)
        have r0at9 : tab8[0]? = some tab8[0] := List.getElem?_eq_getElem lpos9
        have row09 := tdA.rows 0 _ _ a0at9 r0at9
        have rl09 : tab8[0].length = (2 * c.half).toNat := (td9.ok.2 _ (List.getElem_mem lpos9)).1
        refine ⟨_, rfl, D, _, _, _, rfl, rfl, Evl.sq_of tdA.at_, atI_nat (j := 0) (by rw [List.getElem?_map, a0at9]; rfl), ?_⟩
        refine ⟨as[0], _, rfl, .inl (Evl.sq_of row09), ?_⟩
        rw [List.length_map, rl09]
        refine ⟨z9, _, _, rfl, rfl, oHA, by omega, by omega, by show 1 * _ ≤ sizeLine; rw [Nat.one_mul]; exact Nat.le_trans (show _ ≤ 1000 by omega) (by decide), fun p hp => ?_⟩
        try dsimp only
        rw [show (((2 * c.half).toNat : Nat) : Int).toNat = (2 * c.half).toNat from rfl, rep_flat]
        have ec : List.replicate (2 * c.half).toNat (cv e) = (List.replicate (2 * c.half).toNat e).map cv := by rw [List.map_replicate]
        rw [ec]
        generalize gHB : upd HA p (.lst ((List.replicate (2 * c.half).toNat e).map cv)) = HB
        have eHB : Evl.Ex HA HB := by rw [← gHB]; exact Evl.Ex.new hp
        have oHB : HB p = some (.lst ((List.replicate (2 * c.half).toNat e).map cv)) := by rw [← gHB]; exact upd_same
        have tdB := tdA.go nDd (ExX.ex eHB)
        have dB := (d9.ex eHA).ex eHB
        have xxB := (xx9.trans (ExX.ex eHA)).trans (ExX.ex eHB)
        have npd : p ≠ d := fun z => by
          obtain ⟨a, b, c', g1, _⟩ := d9.ex eHA
          rw [z, g1] at hp
          cases hp
        have npD : p ≠ D := fun z => by rw [z, tdA.at_] at hp; cases hp
        have npa : p ∉ as := fun z => by
          obtain ⟨j, hj⟩ := List.mem_iff_getElem?.mp z
          have hjl := (List.getElem?_eq_some_iff.mp hj).1
          have := tdA.rows j p _ hj (List.getElem?_eq_getElem (by omega))
          rw [hp] at this
          cases this
        have fp : H p = none := by
          cases q : H p with
          | none => rfl
          | some o =>
            have := (xx9.trans (ExX.ex eHA)) p o npd q
            rw [hp] at this
            cases this
        refine ⟨_, rfl, _, rfl, D, _, _, tp.toNat, rfl, rfl, tdB.at_, ixN_at hp0 (by rw [List.length_map]; omega), ?_⟩
        have tdC := tdB.setR (i := tp.toNat) (p := p) (row := List.replicate (2 * c.half).toNat e) (by omega) fp npD npd npa oHB ⟨List.length_replicate .., fun e' he' => by rw [(List.mem_replicate.mp he').2]; exact heo⟩
        exact ⟨xxB.mut2 hD, (dB.upd nDd.symm).mono (by omega), ⟨_, _, tdC⟩, _, _, _, _, _, rfl⟩
      · exact ⟨xx9, d9.mono (by omega), ⟨as, tab8, td9⟩, _, _, _, _, _, rfl⟩
    · rintro σ H' ⟨xa, da, ⟨as, tab, td⟩, z1, z2, z3, z4, z5, rfl⟩
      exact ⟨_, rfl, hQ H' D as tab xa (da.mono (by omega)) hD td.ok td.at_ ⟨td.len, td.rows⟩ td.fr⟩
end SF
end
section
set_option Elab.async false
set_option linter.all false
set_option maxRecDepth 100000
set_option maxHeartbeats 4000000
namespace SF
open PySem PySem.Spec PyProof.Rows L2
/-! ### _law_bench -/
def spLBench (K : PySem.W.Frag) : Sp := fun vs H Q _ => ∃ (k l t : Addr) (tab : List (List (Option Int))), vs = [.ref k, .ref l, .ref t] ∧ TabR K H t tab ∧ tab.length ≤ 1000 ∧
  ∀ (H' : Hp) (o r ws sn dn : Addr) (as : List Addr), Evl.Ex H H' → H o = none → H' o = some (.dK (oDict k l r ws sn dn)) → H r = none → H ws = none → H sn = none → H dn = none → Fresh H r as → (∀ a ∈ as, a ≠ ws ∧ a ≠ sn ∧ a ≠ dn ∧ a ≠ o) → ws ≠ dn →
    H' r = some (.lst (as.map V.ref)) → RowsIn H' as tab → H' ws = some (.lst []) → H' sn = some (.dT []) → H' dn = some (.lst []) → Q (.ref o) H'
theorem sc_law_bench : FnScope ["kind", "looks", "table", "row"] ["kind", "looks", "table"] (defScope s_law_bench) := ⟨rfl, rfl, rfl, by decide +kernel, rfl, by decide +kernel, by decide +kernel⟩
theorem ok_law_bench {P : Program} {w : World} {K : PySem.W.Frag} {mg : Str → Option Value} {base : Heap} (T : Fx K mg) : FnX P w K mg base CX0 1 (He.ga K "_law_bench") ["kind", "looks", "table"] (spLBench K) := by
  refine fx_of T.d_law_bench sc_law_bench (fun _ _ _ _ _ _ us hl => match us, hl with | [_, _, _], _ => rfl) (fun vs H Q E h => ?_) (fun cdv A outer s H vs Q E hr h => ⟨_, PSs.nox ((pss_one (ps_ret (pe_disp (pps_cons pe_str (pv 0) (pps_cons pe_str (pv 1) (pps_cons pe_str (pe_lc (own := [("row", 3)]) (g := gName 3) (tt := tYes) rfl sc_law_bench.nd (pi_list (pv 2)) (blkOk_by (own := [("row", 3)]) (N := ["kind", "looks", "table", "row"]) (sc := defScope s_law_bench) (by decide +kernel)) (fun _ _ _ _ _ => (pg_name (i := 3) sc_law_bench.nd rfl (Or.inl rfl))) (fun _ _ _ _ _ => pts_nil) (fun _ _ _ _ _ => (pe_callTy (T := "list") (r := Evl.rListS K) call_list_of (by rfl) T.b_list (by decide +kernel) (pa_cons (pv 3) pa_nil)))) (pps_cons pe_str (pe_lst pa_nil) (pps_cons pe_str pe_dnewT (pps_cons pe_str (pe_lst pa_nil) pps_nil)))))) (by rfl) (by rfl) (fun z => by cases z) (by decide))))), ?_⟩)
  · obtain ⟨k, l, t, tab, rfl, _⟩ := h
    rfl
  · obtain ⟨k, l, t, tab, rfl, ht, hz, hQ⟩ := h
    refine fun p hp => ?_
    have eA : Evl.Ex H (upd H p (.dK [])) := Evl.Ex.new hp
    have oA : (upd H p (.dK [])) p = some (.dK []) := upd_same
    try dsimp only
    generalize upd H p (.dK []) = HA at eA oA ⊢
    refine ⟨_, rfl, _, rfl, ?_⟩
    dsimp only [tPairs, tC]
    refine copy_rows (t := t) 3 (by show 3 < 4; decide) (fun R hR => by exact ⟨_, rfl, hR⟩) (ht.ex eA) hz fun HB r as eB hr hf hrB hin => ?_
    refine ⟨by show 0 ≤ sizeLine; decide, fun ws hws => ?_⟩
    try dsimp only
    generalize gHC : upd HB ws (.lst []) = HC
    have eHC : Evl.Ex HB HC := by rw [← gHC]; exact Evl.Ex.new hws
    have oHC : HC ws = some (.lst []) := by rw [← gHC]; exact upd_same
    refine fun sn hsn => ?_
    have eD : Evl.Ex HC (upd HC sn (.dT [])) := Evl.Ex.new hsn
    have oD : (upd HC sn (.dT [])) sn = some (.dT []) := upd_same
    try dsimp only
    generalize upd HC sn (.dT []) = HD at eD oD ⊢
    refine ⟨by show 0 ≤ sizeLine; decide, fun dn hdn => ?_⟩
    try dsimp only
    generalize gHE : upd HD dn (.lst []) = HE
    have eHE : Evl.Ex HD HE := by rw [← gHE]; exact Evl.Ex.new hdn
    have oHE : HE dn = some (.lst []) := by rw [← gHE]; exact upd_same
    have eAE := ((eB.trans eHC).trans eD).trans eHE
    have eCE := eD.trans eHE
    have eBE := eHC.trans eCE
    refine ⟨eAE _ _ oA, oDict k l r ws sn dn, rfl, by show 6 ≤ 15; decide, ?_⟩
    have xF : ExX p HE (upd HE p (.dK (mergeK [] (oDict k l r ws sn dn)))) := ExX.at
    have oF : (upd HE p (.dK (mergeK [] (oDict k l r ws sn dn)))) p = some (.dK (oDict k l r ws sn dn)) := upd_same
    have eF : Evl.Ex H (upd HE p (.dK (mergeK [] (oDict k l r ws sn dn)))) := (eA.trans eAE).mut hp
    have asat : ∀ a ∈ as, ∃ row : List (Option Int), HB a = some (.lst (row.map cv)) := fun a ha => by
      obtain ⟨j, hj⟩ := List.mem_iff_getElem?.mp ha
      have hjl := (List.getElem?_eq_some_iff.mp hj).1
      exact ⟨_, hin.2 j a _ hj (List.getElem?_eq_getElem (by rw [← hin.1]; exact hjl))⟩
    have np : ∀ {z : Addr} {o : HO}, HA z = none → z ≠ p := fun {z o} hz w => by rw [w, oA] at hz; cases hz
    refine hQ _ p r ws sn dn as eF hp oF (Evl.fresh_back eA hr) (Evl.fresh_back (eA.trans eB) hws) (Evl.fresh_back ((eA.trans eB).trans eHC) hsn) (Evl.fresh_back (((eA.trans eB).trans eHC).trans eD) hdn) ⟨hf.1, fun a ha => ⟨Evl.fresh_back eA (hf.2 a ha).1, (hf.2 a ha).2⟩⟩ (fun a ha => ?_) ?_ ?_ ?_ ?_ ?_ ?_
    · obtain ⟨row, h1⟩ := asat a ha
      exact ⟨ne_of_none h1 hws, ne_of_none (eHC _ _ h1) hsn, ne_of_none (eD _ _ (eHC _ _ h1)) hdn, np (o := .lst []) (hf.2 a ha).1⟩
    · exact ne_of_none (eD _ _ oHC) hdn
    · exact xF _ _ (np (o := .lst []) hr) (eBE _ _ hrB)
    · exact ⟨hin.1, fun j a row g1 g2 => xF _ _ (np (o := .lst []) (hf.2 a (List.mem_of_getElem? g1)).1) (eBE _ _ (hin.2 j a row g1 g2))⟩
    · exact xF _ _ (np (o := .lst []) (Evl.fresh_back eB hws)) (eCE _ _ oHC)
    · exact xF _ _ (np (o := .lst []) (Evl.fresh_back (eB.trans eHC) hsn)) (eHE _ _ oD)
    · exact xF _ _ (np (o := .lst []) (Evl.fresh_back ((eB.trans eHC).trans eD) hdn)) oHE
end SF
end
section
set_option Elab.async false
set_option linter.all false
set_option maxRecDepth 100000
set_option maxHeartbeats 4000000
set_option exponentiation.threshold 20000
namespace SF
open PySem PySem.Spec PyProof.Rows L2
/-! ### _law_numbers -/
theorem Deck.fresh {H : Hp} {d z : Addr} {n : Nat} (h : Deck H d n) (hz : H z = none) : z ≠ d := fun w => by
  obtain ⟨a, b, c, h1, _⟩ := h
  rw [w, h1] at hz
  cases hz
theorem grow12 {x p : Int} {i : Nat} (h : x.natAbs + 1 ≤ 10 ^ (102 + 12 * i)) (h0 : 0 ≤ p) (h1 : p < 10 ^ 12) : (x * 10 ^ 12 + p).natAbs + 1 ≤ 10 ^ (102 + 12 * (i + 1)) := by
  have e : (10 : Nat) ^ (102 + 12 * (i + 1)) = 10 ^ (102 + 12 * i) * 10 ^ 12 := by rw [show 102 + 12 * (i + 1) = (102 + 12 * i) + 12 by omega, Nat.pow_add]
  rw [e]
  obtain ⟨B, hB⟩ : ∃ B, (10 : Nat) ^ (102 + 12 * i) = B := ⟨_, rfl⟩
  rw [hB] at h ⊢
  have h2 : (x * 10 ^ 12).natAbs = x.natAbs * 10 ^ 12 := by rw [Int.natAbs_mul]; rfl
  have h3 : (x.natAbs + 1) * 10 ^ 12 ≤ B * 10 ^ 12 := Nat.mul_le_mul_right _ h
  rw [Nat.add_mul, Nat.one_mul] at h3
  have h4 : p.natAbs < 10 ^ 12 := by omega
  have h5 : (x * 10 ^ 12 + p).natAbs ≤ (x * 10 ^ 12).natAbs + p.natAbs := Int.natAbs_add_le _ _
  omega
theorem big222 {x : Int} {i : Nat} (h : x.natAbs + 1 ≤ 10 ^ (102 + 12 * i)) (hi : i ≤ 10) : Big x := by
  have h1 : (10 : Nat) ^ (102 + 12 * i) ≤ 10 ^ 222 := Nat.pow_le_pow_right (by decide) (by omega)
  have h2 : (10 : Nat) ^ 222 < 2 ^ 1000 := by decide +kernel
  exact Nat.lt_of_lt_of_le (Nat.lt_of_succ_le h) (Nat.le_trans h1 (Nat.le_of_lt h2))
theorem small340 {x : Int} (h0 : 0 ≤ x) (h : x ≤ 10 ^ 101) : x.natAbs < 2 ^ 340 := by
  have h2 : (10 : Nat) ^ 101 < 2 ^ 340 := by decide +kernel
  have h3 : ((10 : Nat) ^ 101 : Nat) = ((10 : Int) ^ 101).toNat := by decide +kernel
  generalize (2 : Nat) ^ 340 = B at h2 ⊢
  omega
theorem b102 {x : Int} (h0 : -(10 ^ 101) ≤ x) (h : x ≤ 10 ^ 101) : x.natAbs + 1 ≤ 10 ^ (102 + 12 * 0) := by
  show x.natAbs + 1 ≤ 10 ^ 102
  omega
theorem j193 {j : Nat} (h : (2 : Int) ^ j < 10 ^ 58) : j < 193 := by
  apply Decidable.byContradiction
  intro z
  have h1 : (2 : Nat) ^ 193 ≤ 2 ^ j := Nat.pow_le_pow_right (by decide) (by omega)
  have h2 : (10 : Nat) ^ 58 < 2 ^ 193 := by decide +kernel
  have h3 : ((2 ^ j : Nat) : Int) < ((10 ^ 58 : Nat) : Int) := by
    have e : ((2 ^ j : Nat) : Int) = (2 : Int) ^ j := by simp
    rw [e]
    exact h
  have h4 : 2 ^ j < 10 ^ 58 := by exact_mod_cast h3
  omega
def spNumbers : Sp := fun vs H Q _ => ∃ (d k : Addr) (c : Kd) (n : Nat), vs = [.ref d, .ref k] ∧ H k = some (.tup [.int c.base, .int c.m]) ∧ c.Ok ∧ Deck H d n ∧ n ≤ 100000 ∧
  ∀ (H' : Hp) (q : Addr) (x v : Int), ExX d H H' → Deck H' d (n + 1000) → H' q = some (.tup [.int x, .int v]) → Big x → Big v → 0 < v → Q (.ref q) H'
theorem sc_law_numbers : FnScope ["deck", "kind", "divisor", "x", "edge", "turn"] ["deck", "kind"] (defScope s_law_numbers) := ⟨rfl, rfl, rfl, by decide +kernel, rfl, by decide +kernel, by decide +kernel⟩
theorem ok_law_numbers {P : Program} {w : World} {K : PySem.W.Frag} {mg : Str → Option Value} {base : Heap} (T : Fx K mg) : FnX P w K mg base CX0 3 (He.ga K "_law_numbers") ["deck", "kind"] (spNumbers) := by
  refine fx_of T.d_law_numbers sc_law_numbers (fun _ _ _ _ _ _ us hl => match us, hl with | [_, _], _ => rfl) (fun vs H Q E h => ?_) (fun cdv A outer s H vs Q E hr h => ⟨_, PSs.nox ((pss_cons (ps_set (i := 2) sc_law_numbers.nd rfl (Or.inl rfl) (pe_op op_add pe_int (pe_ix ix_list (pe_lst (pa_cons (pe_f (ok_law_great T) hr (by rfl) T.g_law_great pass0 (pa_cons (pv 0) (pa_cons pe_int pa_nil))) (pa_cons (pe_f (ok_law_pick T) (hr.mono (by decide)) (by rfl) T.g_law_pick pass0 (pa_cons (pv 0) (pa_cons pe_int pa_nil))) (pa_cons (pe_f (ok_law_great T) hr (by rfl) T.g_law_great pass0 (pa_cons (pv 0) (pa_cons pe_int pa_nil))) pa_nil)))) (pe_f (ok_law_pick T) (hr.mono (by decide)) (by rfl) T.g_law_pick pass0 (pa_cons (pv 0) (pa_cons pe_int pa_nil))) (fun _ _ => rfl))))
  (pss_cons (ps_set (i := 3) sc_law_numbers.nd rfl (Or.inl rfl) (pe_lst (pa_cons (pe_f (ok_law_great T) hr (by rfl) T.g_law_great pass0 (pa_cons (pv 0) (pa_cons pe_int pa_nil))) (pa_cons (pe_op op_mulW (pe_op op_fdivW (pe_f (ok_law_great T) hr (by rfl) T.g_law_great pass0 (pa_cons (pv 0) (pa_cons pe_int pa_nil))) (pv 2)) (pv 2)) (pa_cons (pe_f (ok_law_pick T) (hr.mono (by decide)) (by rfl) T.g_law_pick pass0 (pa_cons (pv 0) (pa_cons pe_int pa_nil))) (pa_cons pe_int pa_nil))))))
  (pss_cons (ps_set (i := 3) sc_law_numbers.nd rfl (Or.inl rfl) (pe_op op_sub (pe_op op_add (pe_ix ix_list (pv 3) (pe_f (ok_law_pick T) (hr.mono (by decide)) (by rfl) T.g_law_pick pass0 (pa_cons (pv 0) (pa_cons pe_int pa_nil))) (fun _ _ => rfl)) (pe_f (ok_law_pick T) (hr.mono (by decide)) (by rfl) T.g_law_pick pass0 (pa_cons (pv 0) (pa_cons pe_int pa_nil)))) pe_int))
  (pss_cons (ps_if (pt_cmpR op_eq (pe_f (ok_law_pick T) (hr.mono (by decide)) (by rfl) T.g_law_pick pass0 (pa_cons (pv 0) (pa_cons pe_int pa_nil))) pe_int (nomark _)) (pss_cons (ps_set (i := 4) sc_law_numbers.nd rfl (Or.inl rfl) (pe_op op_fdivW (pe_op op_mul (pe_ix ix_tup (pv 1) pe_int (fun _ _ => rfl)) (pv 2)) (pe_op op_sub (pe_ix ix_tup (pv 1) pe_int (fun _ _ => rfl)) pe_int)))
  (pss_cons (ps_while PassesOwn.never (PW.pt (pw_and (pt_chain op_lt op_lt pe_int (pe_op op_mul (pv 4) (pe_ix ix_tup (pv 1) pe_int (fun _ _ => rfl))) (pe_op op_pow pe_int pe_int)) (pw_and1 (pt_cmpR op_gt (pe_f (ok_law_pick T) (hr.mono (by decide)) (by rfl) T.g_law_pick pass0 (pa_cons (pv 0) (pa_cons pe_int pa_nil))) pe_int (nomark _))))) (pss_one (ps_set (i := 4) sc_law_numbers.nd rfl (Or.inl rfl) (pe_op op_mul (pv 4) (pe_ix ix_tup (pv 1) pe_int (fun _ _ => rfl))))))
  (pss_one (ps_set (i := 3) sc_law_numbers.nd rfl (Or.inl rfl) (pe_op op_sub (pe_op op_add (pv 4) (pe_f (ok_law_pick T) (hr.mono (by decide)) (by rfl) T.g_law_pick pass0 (pa_cons (pv 0) (pa_cons pe_int pa_nil)))) pe_int))))) pss_nil)
  (pss_cons (ps_for PassesOwn.never rfl (pi_range1 (by rfl) T.b_range (pa_cons (pe_op op_mul (pe_f (ok_law_pick T) (hr.mono (by decide)) (by rfl) T.g_law_pick pass0 (pa_cons (pv 0) (pa_cons pe_int pa_nil))) (pe_callTy (T := "int") call_int1 (by rfl) T.b_int (by decide +kernel) (pa_cons (pe_cmpR op_eq (pe_f (ok_law_pick T) (hr.mono (by decide)) (by rfl) T.g_law_pick pass0 (pa_cons (pv 0) (pa_cons pe_int pa_nil))) pe_int (nomark _)) pa_nil))) pa_nil)) (pg_name (i := 5) sc_law_numbers.nd rfl (Or.inl rfl)) (pss_cons (ps_set (i := 3) sc_law_numbers.nd rfl (Or.inl rfl) (pe_op op_add (pe_op op_mul (pv 3) (pe_op op_pow pe_int pe_int)) (pe_f (ok_law_pick T) (hr.mono (by decide)) (by rfl) T.g_law_pick pass0 (pa_cons (pv 0) (pa_cons (pe_op op_pow pe_int pe_int) pa_nil)))))
  (pss_one (ps_set (i := 2) sc_law_numbers.nd rfl (Or.inl rfl) (pe_op op_add (pe_op op_mul (pv 2) (pe_op op_pow pe_int pe_int)) (pe_f (ok_law_pick T) (hr.mono (by decide)) (by rfl) T.g_law_pick pass0 (pa_cons (pv 0) (pa_cons (pe_op op_pow pe_int pe_int) pa_nil))))))))
  (pss_one (ps_ret (pe_tup (pa_cons (pe_op op_mul (pv 3) (pe_ix ix_list (pe_lst (pa_cons pe_int (pa_cons (pe_un un_neg pe_int) pa_nil))) (pe_f (ok_law_pick T) (hr.mono (by decide)) (by rfl) T.g_law_pick pass0 (pa_cons (pv 0) (pa_cons pe_int pa_nil))) (fun _ _ => rfl))) (pa_cons (pv 2) pa_nil))))))))))), ?_⟩)
  · obtain ⟨d, k, c, n, rfl, _⟩ := h
    rfl
  · obtain ⟨d, k, c, n, rfl, hk, ok, hd, hn, hQ⟩ := h
    have m1 := ok.m1
    have m7 := ok.m7
    have b2 := ok.b2
    have b8 := ok.b8
    have nkd := hd.not hk (fun xs z => nomatch z)
    refine ⟨_, rfl, d, 59, n, rfl, hd, by omega, by decide, fun H1 r1 hr10 hr11 x1 d1 => ?_⟩
    refine ⟨_, rfl, d, 12, n + 6, rfl, d1, by omega, by decide, mid_of (by decide) (by decide), fun H2 r2 hr20 hr21 x2 d2 => ?_⟩
    refine ⟨_, rfl, d, 9, n + 6 + 1, rfl, d2, by omega, by decide, fun H3 r3 hr30 hr31 x3 d3 => ?_⟩
    refine ⟨by show 3 ≤ sizeLine; decide, fun ls hls => ?_⟩
    try dsimp only
    generalize gH4 : upd H3 ls (.lst [.int r1, .int r2, .int r3]) = H4
    have eH4 : Evl.Ex H3 H4 := by rw [← gH4]; exact Evl.Ex.new hls
    have oH4 : H4 ls = some (.lst [.int r1, .int r2, .int r3]) := by rw [← gH4]; exact upd_same
    refine ⟨_, rfl, d, 3, n + 6 + 1 + 6, rfl, d3.ex eH4, by omega, by decide, mid_of (by decide) (by decide), fun H5 q1 hq10 hq11 x5 d5 => ?_⟩
    have nls : ls ≠ d := d3.fresh hls
    obtain ⟨v1, hv1, hv2, hv3⟩ : ∃ v : Int, ([V.int r1, V.int r2, V.int r3] : List V)[q1.toNat]? = some (.int v) ∧ 0 ≤ v ∧ v < 10 ^ 100 := by
      have : q1 = 0 ∨ q1 = 1 ∨ q1 = 2 := by omega
      rcases this with rfl | rfl | rfl
      · exact ⟨r1, rfl, hr10, hr11⟩
      · exact ⟨r2, rfl, hr20, by omega⟩
      · exact ⟨r3, rfl, hr30, hr31⟩
    refine ⟨ls, _, _, .int v1, rfl, rfl, Evl.sq_of (x5 _ _ nls oH4), atI_of hq10 hv1, ?_⟩
    refine ⟨_, _, rfl, rfl, ?_⟩
    try dsimp only
    obtain ⟨dv, hdve⟩ : ∃ dv, dv = 1 + v1 := ⟨_, rfl⟩
    rw [← hdve]
    have hdv0 : 0 < dv := by omega
    have hdv1 : dv ≤ 10 ^ 100 := by omega
    have hdvn : dv.natAbs < 2 ^ 340 := small340 (by omega) (by omega)
    have xx5 := (((x1.trans x2).trans x3).trans (ExX.ex eH4)).trans x5
    try dsimp only [L2.start, List.map, List.length_cons, List.length_nil, List.replicate, List.set, List.append, List.cons_append, List.nil_append]
    refine ⟨_, rfl, d, 59, n + 6 + 1 + 6 + 1, rfl, d5, by omega, by decide, fun H6 r4 hr40 hr41 x6 d6 => ?_⟩
    refine ⟨_, rfl, d, 59, n + 6 + 1 + 6 + 1 + 6, rfl, d6, by omega, by decide, fun H7 r5 hr50 hr51 x7 d7 => ?_⟩
    have hq0 : 0 ≤ r5 / dv := Int.ediv_nonneg hr50 (by omega)
    have hq1 : r5 / dv ≤ r5 := Int.ediv_le_self _ hr50
    have hqm : r5 / dv * dv ≤ r5 := Int.ediv_mul_le _ (by omega)
    have hqm0 : 0 ≤ r5 / dv * dv := Int.mul_nonneg hq0 (by omega)
    refine ⟨_, rfl, _, _, rfl, rfl, wide_div hdv0 hdvn (by decide) (by decide), _, rfl, _, _, rfl, rfl, wide_mul (a := 340) (b := 340) (small340 hq0 (by omega)) hdvn (by decide) (by decide) (by decide), ?_⟩
    refine ⟨_, rfl, d, 40, n + 6 + 1 + 6 + 1 + 6 + 6, rfl, d7, by omega, by decide, mid_of (by decide) (by decide), fun H8 r6 hr60 hr61 x8 d8 => ?_⟩
    refine ⟨by show 4 ≤ sizeLine; decide, fun l1 hl1 => ?_⟩
    try dsimp only
    generalize gH9 : upd H8 l1 (.lst [.int r4, .int (r5 / dv * dv), .int r6, .int 0]) = H9
    have eH9 : Evl.Ex H8 H9 := by rw [← gH9]; exact Evl.Ex.new hl1
    have oH9 : H9 l1 = some (.lst [.int r4, .int (r5 / dv * dv), .int r6, .int 0]) := by rw [← gH9]; exact upd_same
    try dsimp only [L2.start, List.map, List.length_cons, List.length_nil, List.replicate, List.set, List.append, List.cons_append, List.nil_append]
    refine ⟨_, rfl, _, rfl, d, 4, n + 6 + 1 + 6 + 1 + 6 + 6 + 1, rfl, d8.ex eH9, by omega, by decide, mid_of (by decide) (by decide), fun H10 q2 hq20 hq21 x10 d10 => ?_⟩
    have nl1 : l1 ≠ d := d8.fresh hl1
    obtain ⟨v2, hv4, hv5, hv6⟩ : ∃ v : Int, ([V.int r4, V.int (r5 / dv * dv), V.int r6, V.int 0] : List V)[q2.toNat]? = some (.int v) ∧ 0 ≤ v ∧ v < 10 ^ 100 := by
      have : q2 = 0 ∨ q2 = 1 ∨ q2 = 2 ∨ q2 = 3 := by omega
      rcases this with rfl | rfl | rfl | rfl
      · exact ⟨r4, rfl, hr40, hr41⟩
      · exact ⟨_, rfl, hqm0, by omega⟩
      · exact ⟨r6, rfl, hr60, by omega⟩
      · exact ⟨0, rfl, by omega, by omega⟩
    refine ⟨l1, _, _, .int v2, rfl, rfl, Evl.sq_of (x10 _ _ nl1 oH9), atI_of hq20 hv4, ?_⟩
    refine ⟨_, rfl, d, 3, n + 6 + 1 + 6 + 1 + 6 + 6 + 1 + 1, rfl, d10, by omega, by decide, mid_of (by decide) (by decide), fun H11 r7 hr70 hr71 x11 d11 => ?_⟩
    refine ⟨_, _, rfl, rfl, _, _, rfl, rfl, ?_⟩
    try dsimp only
    obtain ⟨X0, hX0⟩ : ∃ x, x = v2 + r7 - 1 := ⟨_, rfl⟩
    rw [← hX0]
    have xx11 := ((((xx5.trans x6).trans x7).trans x8).trans (ExX.ex eH9)).trans (x10.trans x11)
    try dsimp only [L2.start, List.map, List.length_cons, List.length_nil, List.replicate, List.set, List.append, List.cons_append, List.nil_append]
    refine ⟨_, rfl, d, 4, n + 6 + 1 + 6 + 1 + 6 + 6 + 1 + 1 + 1, rfl, d11, by omega, by decide, mid_of (by decide) (by decide), fun H12 r8 hr80 hr81 x12 d12 => ?_⟩
    have xx12 := xx11.trans x12
    obtain ⟨N2, hN2, hN2b⟩ : ∃ N2, n + 6 + 1 + 6 + 1 + 6 + 6 + 1 + 1 + 1 + 1 = N2 ∧ N2 ≤ n + 100 := ⟨_, rfl, by omega⟩
    rw [hN2] at d12
    refine ⟨rfl, _, rfl, ?_⟩
    refine itD (fun _ => ?_) (fun _ => ?_)
    · have hk12 := xx12 _ _ nkd hk
      refine ⟨_, rfl, _, _, _, _, rfl, rfl, Evl.st_of hk12, rfl, _, rfl, _, _, rfl, rfl, .inl ⟨by omega, by omega⟩, _, rfl, _, _, _, _, rfl, rfl, Evl.st_of hk12, rfl, _, _, rfl, rfl, _, _, rfl, rfl, wide_div (b := 4) (by omega) (by omega) (by decide) (by decide), ?_⟩
      have hme0 : 0 ≤ c.m * dv / (c.base - 1) := Int.ediv_nonneg (Int.mul_nonneg (by omega) (by omega)) (by omega)
      have hme1 : c.m * dv / (c.base - 1) ≤ 7 * 10 ^ 100 := by
        have h1 : c.m * dv / (c.base - 1) ≤ c.m * dv := Int.ediv_le_self _ (Int.mul_nonneg (by omega) (by omega))
        have h2 : c.m * dv ≤ 7 * 10 ^ 100 := Int.mul_le_mul m7 hdv1 (by omega) (by omega)
        omega
      try dsimp only
      generalize c.m * dv / (c.base - 1) = ed at hme0 hme1
      try dsimp only [L2.start, List.map, List.length_cons, List.length_nil, List.replicate, List.set, List.append, List.cons_append, List.nil_append]
      refine ⟨fun m σ H' => ExX d H H' ∧ ∃ (j : Nat) (e : Int) (z : Option V), m + j = 200 ∧ Deck H' d (N2 + j) ∧ 0 ≤ e ∧ e ≤ 7 * 10 ^ 100 ∧ (0 < e → (2 : Int) ^ j ≤ e) ∧ σ = [some (.ref d), some (.ref k), some (.int dv), some (.int X0), some (.int e), z], ⟨200, xx12, 0, ed, _, rfl, d12, hme0, hme1, fun h => by show (1 : Int) ≤ ed; omega, rfl⟩, ?_⟩
      rintro m σ H' ⟨xw, j, e, z, hm, dw, he0, he1, he2, rfl⟩
      have hkw := xw _ _ nkd hk
      refine ⟨_, rfl, _, rfl, _, _, _, _, rfl, rfl, Evl.st_of hkw, rfl, _, _, rfl, rfl, .inr ⟨by omega, by omega⟩, _, _, rfl, rfl, _, rfl, ?_⟩
      refine itD (fun hc => ?_) (fun hc => ?_)
      · refine ⟨_, _, rfl, rfl, ⟨by decide, by decide⟩, _, _, rfl, rfl, _, rfl, ?_⟩
        refine itD (fun hlt => ?_) (fun hlt => ?_)
        · have he3 : 0 < e := by
            apply Decidable.byContradiction
            intro z
            have : e = 0 := by omega
            rw [this, Int.zero_mul] at hc
            omega
          have hbe : e * 2 ≤ e * c.base := Int.mul_le_mul_of_nonneg_left b2 (by omega)
          have hlt' : e * c.base < 10 ^ 58 := hlt
          have hj : j < 193 := j193 (by have := he2 he3; omega)
          refine ⟨_, rfl, d, 12, N2 + j, rfl, dw, by omega, by decide, mid_of (by decide) (by decide), fun HP r9 hr90 hr91 xp dp => ?_⟩
          refine ⟨_, _, rfl, rfl, _, rfl, ?_⟩
          refine itD (fun hp => ?_) (fun hp => ?_)
          · refine ⟨fun σ' H2 => ExX d H H2 ∧ Deck H2 d (N2 + j + 1) ∧ σ' = [some (.ref d), some (.ref k), some (.int dv), some (.int X0), some (.int (e * c.base)), z], ?_, ?_⟩
            · rintro σ' H2 ⟨y1, y2, rfl⟩
              refine ⟨m - 1, by omega, y1, j + 1, e * c.base, z, by omega, y2, by omega, by omega, fun _ => ?_, rfl⟩
              rw [Int.pow_succ]
              have := he2 he3
              omega
            · have hkp := (xw.trans xp) _ _ nkd hk
              exact ⟨_, rfl, _, rfl, _, _, _, _, rfl, rfl, Evl.st_of hkp, rfl, _, _, rfl, rfl, .inr ⟨by omega, by omega⟩, xw.trans xp, dp, rfl⟩
          · refine ⟨_, rfl, _, rfl, d, 3, (N2 + j + 1), rfl, dp, by omega, by decide, mid_of (by decide) (by decide), fun HX r12 hrx0 hrx1 xX dX => ?_⟩
            refine ⟨_, _, rfl, rfl, _, _, rfl, rfl, ?_⟩
            try dsimp only
            obtain ⟨X1, hX1⟩ : ∃ x, x = e + r12 - 1 := ⟨_, rfl⟩
            rw [← hX1]
            have xxX := (xw.trans xp).trans xX
            try dsimp only [L2.start, List.map, List.length_cons, List.length_nil, List.replicate, List.set, List.append, List.cons_append, List.nil_append]
            refine ⟨_, rfl, d, 11, ((N2 + j + 1) + 1), rfl, dX, by omega, by decide, mid_of (by decide) (by decide), fun HA r10 hra0 hra1 xA dA => ?_⟩
            refine ⟨_, rfl, d, 4, ((N2 + j + 1) + 1) + 1, rfl, dA, by omega, by decide, mid_of (by decide) (by decide), fun HB r11 hrb0 hrb1 xB dB => ?_⟩
            have xHB := (xxX.trans xA).trans xB
            have hc2 : 0 ≤ r10 * (if decide (V.int r11 = V.int 0) = true then 1 else 0) ∧ r10 * (if decide (V.int r11 = V.int 0) = true then 1 else 0) ≤ 10 := by
              split <;> omega
            refine ⟨rfl, .inr ⟨_, rfl, _, _, rfl, rfl, .inl ⟨by omega, by omega⟩, ?_⟩⟩
            refine ⟨r10 * (if decide (V.int r11 = V.int 0) = true then 1 else 0), rfl, by omega, by omega, for_range (fun i σ H' => ExX d H H' ∧ Deck H' d (((N2 + j + 1) + 1) + 2 + 2 * i) ∧ ∃ (x v : Int) (z1 z2 : Option V), x.natAbs + 1 ≤ 10 ^ (102 + 12 * i) ∧ 0 < v ∧ v.natAbs + 1 ≤ 10 ^ (102 + 12 * i) ∧ σ = [some (.ref d), some (.ref k), some (.int v), some (.int x), z1, z2]) ⟨xHB, dB, X1, dv, _, _, (b102 (by omega) (by omega)), hdv0, (b102 (by omega) (by omega)), rfl⟩ ?_ ?_⟩
            · rintro i σ H' hlti ⟨xi, di, x, v, z1, z2, bx, v0, bv, rfl⟩
              try dsimp only [gName]
              try dsimp only [L2.start, List.map, List.length_cons, List.length_nil, List.replicate, List.set, List.append, List.cons_append, List.nil_append]
              refine ⟨_, rfl, _, _, rfl, rfl, ⟨by decide, by decide⟩, _, _, rfl, rfl, .inr ⟨by decide, by decide⟩, _, rfl, _, _, rfl, rfl, ⟨by decide, by decide⟩, ?_⟩
              refine ⟨d, _, ((N2 + j + 1) + 1) + 2 + 2 * i, rfl, di, by omega, by decide, mid_of (by decide) (by decide), fun H1 p1 hp10 hp11 x1 d1 => ?_⟩
              refine ⟨_, _, rfl, rfl, ?_⟩
              refine ⟨_, rfl, _, _, rfl, rfl, ⟨by decide, by decide⟩, _, _, rfl, rfl, .inr ⟨by decide, by decide⟩, _, rfl, _, _, rfl, rfl, ⟨by decide, by decide⟩, ?_⟩
              refine ⟨d, _, ((N2 + j + 1) + 1) + 2 + 2 * i + 1, rfl, d1, by omega, by decide, mid_of (by decide) (by decide), fun H2 p2 hp20 hp21 x2 d2 => ?_⟩
              refine ⟨_, _, rfl, rfl, ?_⟩
              exact ⟨(xi.trans x1).trans x2, d2, _, _, _, _, grow12 bx hp10 hp11, by have := hp20; show 0 < v * 10 ^ 12 + p2; omega, grow12 bv hp20 hp21, rfl⟩
            · rintro σ H' ⟨xi, di, x, v, z1, z2, bx, v0, bv, rfl⟩
              have hcn : (r10 * (if decide (V.int r11 = V.int 0) = true then 1 else 0)).toNat ≤ 10 := by omega
              have BigX : Big x := big222 bx hcn
              have BigV : Big v := big222 bv hcn
              refine ⟨_, rfl, _, rfl, ?_⟩
              refine ⟨by show 2 ≤ sizeLine; decide, fun l2 hl2 => ?_⟩
              try dsimp only
              generalize gH1 : upd H' l2 (.lst [.int 1, .int (-1)]) = H1
              have eH1 : Evl.Ex H' H1 := by rw [← gH1]; exact Evl.Ex.new hl2
              have oH1 : H1 l2 = some (.lst [.int 1, .int (-1)]) := by rw [← gH1]; exact upd_same
              refine ⟨_, rfl, d, 2, ((N2 + j + 1) + 1) + 2 + 2 * (r10 * (if decide (V.int r11 = V.int 0) = true then 1 else 0)).toNat, rfl, di.ex eH1, by omega, by decide, mid_of (by decide) (by decide), fun H2 s1 hs0 hs1 x2 d2 => ?_⟩
              have nl2 : l2 ≠ d := di.fresh hl2
              obtain ⟨sg, hsg, hsg2⟩ : ∃ sg : Int, ([V.int 1, V.int (-1)] : List V)[s1.toNat]? = some (.int sg) ∧ (sg = 1 ∨ sg = -1) := by
                have : s1 = 0 ∨ s1 = 1 := by omega
                rcases this with rfl | rfl
                · exact ⟨1, rfl, .inl rfl⟩
                · exact ⟨-1, rfl, .inr rfl⟩
              refine ⟨l2, _, _, .int sg, rfl, rfl, Evl.sq_of (x2 _ _ nl2 oH1), atI_of hs0 hsg, ?_⟩
              refine ⟨_, _, rfl, rfl, .inr ⟨by omega, by omega⟩, _, rfl, ?_⟩
              refine ⟨by show 2 ≤ sizeLine; decide, fun q hq => ?_⟩
              try dsimp only
              generalize gH3 : upd H2 q (.tup [.int (x * sg), .int v]) = H3
              have eH3 : Evl.Ex H2 H3 := by rw [← gH3]; exact Evl.Ex.new hq
              have oH3 : H3 q = some (.tup [.int (x * sg), .int v]) := by rw [← gH3]; exact upd_same
              refine hQ H3 q _ v ((xi.trans (ExX.ex eH1)).trans (x2.trans (ExX.ex eH3))) ((d2.ex eH3).mono (by omega)) oH3 ?_ BigV v0
              rcases hsg2 with h | h
              · rw [h, Int.mul_one]; exact BigX
              · unfold Big at BigX ⊢
                rw [h, Int.natAbs_mul]
                show x.natAbs * 1 < _
                rw [Nat.mul_one]
                exact BigX
        · have hj2 : j ≤ 200 := by omega
          refine ⟨_, rfl, _, rfl, d, 3, (N2 + j), rfl, dw, by omega, by decide, mid_of (by decide) (by decide), fun HX r12 hrx0 hrx1 xX dX => ?_⟩
          refine ⟨_, _, rfl, rfl, _, _, rfl, rfl, ?_⟩
          try dsimp only
          obtain ⟨X1, hX1⟩ : ∃ x, x = e + r12 - 1 := ⟨_, rfl⟩
          rw [← hX1]
          have xxX := xw.trans xX
          try dsimp only [L2.start, List.map, List.length_cons, List.length_nil, List.replicate, List.set, List.append, List.cons_append, List.nil_append]
          refine ⟨_, rfl, d, 11, ((N2 + j) + 1), rfl, dX, by omega, by decide, mid_of (by decide) (by decide), fun HA r10 hra0 hra1 xA dA => ?_⟩
          refine ⟨_, rfl, d, 4, ((N2 + j) + 1) + 1, rfl, dA, by omega, by decide, mid_of (by decide) (by decide), fun HB r11 hrb0 hrb1 xB dB => ?_⟩
          have xHB := (xxX.trans xA).trans xB
          have hc2 : 0 ≤ r10 * (if decide (V.int r11 = V.int 0) = true then 1 else 0) ∧ r10 * (if decide (V.int r11 = V.int 0) = true then 1 else 0) ≤ 10 := by
            split <;> omega
          refine ⟨rfl, .inr ⟨_, rfl, _, _, rfl, rfl, .inl ⟨by omega, by omega⟩, ?_⟩⟩
          refine ⟨r10 * (if decide (V.int r11 = V.int 0) = true then 1 else 0), rfl, by omega, by omega, for_range (fun i σ H' => ExX d H H' ∧ Deck H' d (((N2 + j) + 1) + 2 + 2 * i) ∧ ∃ (x v : Int) (z1 z2 : Option V), x.natAbs + 1 ≤ 10 ^ (102 + 12 * i) ∧ 0 < v ∧ v.natAbs + 1 ≤ 10 ^ (102 + 12 * i) ∧ σ = [some (.ref d), some (.ref k), some (.int v), some (.int x), z1, z2]) ⟨xHB, dB, X1, dv, _, _, (b102 (by omega) (by omega)), hdv0, (b102 (by omega) (by omega)), rfl⟩ ?_ ?_⟩
          · rintro i σ H' hlti ⟨xi, di, x, v, z1, z2, bx, v0, bv, rfl⟩
            try dsimp only [gName]
            try dsimp only [L2.start, List.map, List.length_cons, List.length_nil, List.replicate, List.set, List.append, List.cons_append, List.nil_append]
            refine ⟨_, rfl, _, _, rfl, rfl, ⟨by decide, by decide⟩, _, _, rfl, rfl, .inr ⟨by decide, by decide⟩, _, rfl, _, _, rfl, rfl, ⟨by decide, by decide⟩, ?_⟩
            refine ⟨d, _, ((N2 + j) + 1) + 2 + 2 * i, rfl, di, by omega, by decide, mid_of (by decide) (by decide), fun H1 p1 hp10 hp11 x1 d1 => ?_⟩
            refine ⟨_, _, rfl, rfl, ?_⟩
            refine ⟨_, rfl, _, _, rfl, rfl, ⟨by decide, by decide⟩, _, _, rfl, rfl, .inr ⟨by decide, by decide⟩, _, rfl, _, _, rfl, rfl, ⟨by decide, by decide⟩, ?_⟩
            refine ⟨d, _, ((N2 + j) + 1) + 2 + 2 * i + 1, rfl, d1, by omega, by decide, mid_of (by decide) (by decide), fun H2 p2 hp20 hp21 x2 d2 => ?_⟩
            refine ⟨_, _, rfl, rfl, ?_⟩
            exact ⟨(xi.trans x1).trans x2, d2, _, _, _, _, grow12 bx hp10 hp11, by have := hp20; show 0 < v * 10 ^ 12 + p2; omega, grow12 bv hp20 hp21, rfl⟩
          · rintro σ H' ⟨xi, di, x, v, z1, z2, bx, v0, bv, rfl⟩
            have hcn : (r10 * (if decide (V.int r11 = V.int 0) = true then 1 else 0)).toNat ≤ 10 := by omega
            have BigX : Big x := big222 bx hcn
            have BigV : Big v := big222 bv hcn
            refine ⟨_, rfl, _, rfl, ?_⟩
            refine ⟨by show 2 ≤ sizeLine; decide, fun l2 hl2 => ?_⟩
            try dsimp only
            generalize gH1 : upd H' l2 (.lst [.int 1, .int (-1)]) = H1
            have eH1 : Evl.Ex H' H1 := by rw [← gH1]; exact Evl.Ex.new hl2
            have oH1 : H1 l2 = some (.lst [.int 1, .int (-1)]) := by rw [← gH1]; exact upd_same
            refine ⟨_, rfl, d, 2, ((N2 + j) + 1) + 2 + 2 * (r10 * (if decide (V.int r11 = V.int 0) = true then 1 else 0)).toNat, rfl, di.ex eH1, by omega, by decide, mid_of (by decide) (by decide), fun H2 s1 hs0 hs1 x2 d2 => ?_⟩
            have nl2 : l2 ≠ d := di.fresh hl2
            obtain ⟨sg, hsg, hsg2⟩ : ∃ sg : Int, ([V.int 1, V.int (-1)] : List V)[s1.toNat]? = some (.int sg) ∧ (sg = 1 ∨ sg = -1) := by
              have : s1 = 0 ∨ s1 = 1 := by omega
              rcases this with rfl | rfl
              · exact ⟨1, rfl, .inl rfl⟩
              · exact ⟨-1, rfl, .inr rfl⟩
            refine ⟨l2, _, _, .int sg, rfl, rfl, Evl.sq_of (x2 _ _ nl2 oH1), atI_of hs0 hsg, ?_⟩
            refine ⟨_, _, rfl, rfl, .inr ⟨by omega, by omega⟩, _, rfl, ?_⟩
            refine ⟨by show 2 ≤ sizeLine; decide, fun q hq => ?_⟩
            try dsimp only
            generalize gH3 : upd H2 q (.tup [.int (x * sg), .int v]) = H3
            have eH3 : Evl.Ex H2 H3 := by rw [← gH3]; exact Evl.Ex.new hq
            have oH3 : H3 q = some (.tup [.int (x * sg), .int v]) := by rw [← gH3]; exact upd_same
            refine hQ H3 q _ v ((xi.trans (ExX.ex eH1)).trans (x2.trans (ExX.ex eH3))) ((d2.ex eH3).mono (by omega)) oH3 ?_ BigV v0
            rcases hsg2 with h | h
            · rw [h, Int.mul_one]; exact BigX
            · unfold Big at BigX ⊢
              rw [h, Int.natAbs_mul]
              show x.natAbs * 1 < _
              rw [Nat.mul_one]
              exact BigX
      · have hj2 : j ≤ 200 := by omega
        refine ⟨_, rfl, ?_⟩
        refine ⟨_, rfl, _, rfl, d, 3, (N2 + j), rfl, dw, by omega, by decide, mid_of (by decide) (by decide), fun HX r12 hrx0 hrx1 xX dX => ?_⟩
        refine ⟨_, _, rfl, rfl, _, _, rfl, rfl, ?_⟩
        try dsimp only
        obtain ⟨X1, hX1⟩ : ∃ x, x = e + r12 - 1 := ⟨_, rfl⟩
        rw [← hX1]
        have xxX := xw.trans xX
        try dsimp only [L2.start, List.map, List.length_cons, List.length_nil, List.replicate, List.set, List.append, List.cons_append, List.nil_append]
        refine ⟨_, rfl, d, 11, ((N2 + j) + 1), rfl, dX, by omega, by decide, mid_of (by decide) (by decide), fun HA r10 hra0 hra1 xA dA => ?_⟩
        refine ⟨_, rfl, d, 4, ((N2 + j) + 1) + 1, rfl, dA, by omega, by decide, mid_of (by decide) (by decide), fun HB r11 hrb0 hrb1 xB dB => ?_⟩
        have xHB := (xxX.trans xA).trans xB
        have hc2 : 0 ≤ r10 * (if decide (V.int r11 = V.int 0) = true then 1 else 0) ∧ r10 * (if decide (V.int r11 = V.int 0) = true then 1 else 0) ≤ 10 := by
          split <;> omega
        refine ⟨rfl, .inr ⟨_, rfl, _, _, rfl, rfl, .inl ⟨by omega, by omega⟩, ?_⟩⟩
        refine ⟨r10 * (if decide (V.int r11 = V.int 0) = true then 1 else 0), rfl, by omega, by omega, for_range (fun i σ H' => ExX d H H' ∧ Deck H' d (((N2 + j) + 1) + 2 + 2 * i) ∧ ∃ (x v : Int) (z1 z2 : Option V), x.natAbs + 1 ≤ 10 ^ (102 + 12 * i) ∧ 0 < v ∧ v.natAbs + 1 ≤ 10 ^ (102 + 12 * i) ∧ σ = [some (.ref d), some (.ref k), some (.int v), some (.int x), z1, z2]) ⟨xHB, dB, X1, dv, _, _, (b102 (by omega) (by omega)), hdv0, (b102 (by omega) (by omega)), rfl⟩ ?_ ?_⟩
        · rintro i σ H' hlti ⟨xi, di, x, v, z1, z2, bx, v0, bv, rfl⟩
          try dsimp only [gName]
          try dsimp only [L2.start, List.map, List.length_cons, List.length_nil, List.replicate, List.set, List.append, List.cons_append, List.nil_append]
          refine ⟨_, rfl, _, _, rfl, rfl, ⟨by decide, by decide⟩, _, _, rfl, rfl, .inr ⟨by decide, by decide⟩, _, rfl, _, _, rfl, rfl, ⟨by decide, by decide⟩, ?_⟩
          refine ⟨d, _, ((N2 + j) + 1) + 2 + 2 * i, rfl, di, by omega, by decide, mid_of (by decide) (by decide), fun H1 p1 hp10 hp11 x1 d1 => ?_⟩
          refine ⟨_, _, rfl, rfl, ?_⟩
          refine ⟨_, rfl, _, _, rfl, rfl, ⟨by decide, by decide⟩, _, _, rfl, rfl, .inr ⟨by decide, by decide⟩, _, rfl, _, _, rfl, rfl, ⟨by decide, by decide⟩, ?_⟩
          refine ⟨d, _, ((N2 + j) + 1) + 2 + 2 * i + 1, rfl, d1, by omega, by decide, mid_of (by decide) (by decide), fun H2 p2 hp20 hp21 x2 d2 => ?_⟩
          refine ⟨_, _, rfl, rfl, ?_⟩
          exact ⟨(xi.trans x1).trans x2, d2, _, _, _, _, grow12 bx hp10 hp11, by have := hp20; show 0 < v * 10 ^ 12 + p2; omega, grow12 bv hp20 hp21, rfl⟩
        · rintro σ H' ⟨xi, di, x, v, z1, z2, bx, v0, bv, rfl⟩
          have hcn : (r10 * (if decide (V.int r11 = V.int 0) = true then 1 else 0)).toNat ≤ 10 := by omega
          have BigX : Big x := big222 bx hcn
          have BigV : Big v := big222 bv hcn
          refine ⟨_, rfl, _, rfl, ?_⟩
          refine ⟨by show 2 ≤ sizeLine; decide, fun l2 hl2 => ?_⟩
          try dsimp only
          generalize gH1 : upd H' l2 (.lst [.int 1, .int (-1)]) = H1
          have eH1 : Evl.Ex H' H1 := by rw [← gH1]; exact Evl.Ex.new hl2
          have oH1 : H1 l2 = some (.lst [.int 1, .int (-1)]) := by rw [← gH1]; exact upd_same
          refine ⟨_, rfl, d, 2, ((N2 + j) + 1) + 2 + 2 * (r10 * (if decide (V.int r11 = V.int 0) = true then 1 else 0)).toNat, rfl, di.ex eH1, by omega, by decide, mid_of (by decide) (by decide), fun H2 s1 hs0 hs1 x2 d2 => ?_⟩
          have nl2 : l2 ≠ d := di.fresh hl2
          obtain ⟨sg, hsg, hsg2⟩ : ∃ sg : Int, ([V.int 1, V.int (-1)] : List V)[s1.toNat]? = some (.int sg) ∧ (sg = 1 ∨ sg = -1) := by
            have : s1 = 0 ∨ s1 = 1 := by omega
            rcases this with rfl | rfl
            · exact ⟨1, rfl, .inl rfl⟩
            · exact ⟨-1, rfl, .inr rfl⟩
          refine ⟨l2, _, _, .int sg, rfl, rfl, Evl.sq_of (x2 _ _ nl2 oH1), atI_of hs0 hsg, ?_⟩
          refine ⟨_, _, rfl, rfl, .inr ⟨by omega, by omega⟩, _, rfl, ?_⟩
          refine ⟨by show 2 ≤ sizeLine; decide, fun q hq => ?_⟩
          try dsimp only
          generalize gH3 : upd H2 q (.tup [.int (x * sg), .int v]) = H3
          have eH3 : Evl.Ex H2 H3 := by rw [← gH3]; exact Evl.Ex.new hq
          have oH3 : H3 q = some (.tup [.int (x * sg), .int v]) := by rw [← gH3]; exact upd_same
          refine hQ H3 q _ v ((xi.trans (ExX.ex eH1)).trans (x2.trans (ExX.ex eH3))) ((d2.ex eH3).mono (by omega)) oH3 ?_ BigV v0
          rcases hsg2 with h | h
          · rw [h, Int.mul_one]; exact BigX
          · unfold Big at BigX ⊢
            rw [h, Int.natAbs_mul]
            show x.natAbs * 1 < _
            rw [Nat.mul_one]
            exact BigX
    · have DK := d12
      refine ⟨_, rfl, d, 11, N2, rfl, d12, by omega, by decide, mid_of (by decide) (by decide), fun HA r10 hra0 hra1 xA dA => ?_⟩
      refine ⟨_, rfl, d, 4, N2 + 1, rfl, dA, by omega, by decide, mid_of (by decide) (by decide), fun HB r11 hrb0 hrb1 xB dB => ?_⟩
      have xHB := (xx12.trans xA).trans xB
      have hc2 : 0 ≤ r10 * (if decide (V.int r11 = V.int 0) = true then 1 else 0) ∧ r10 * (if decide (V.int r11 = V.int 0) = true then 1 else 0) ≤ 10 := by
        split <;> omega
      refine ⟨rfl, .inr ⟨_, rfl, _, _, rfl, rfl, .inl ⟨by omega, by omega⟩, ?_⟩⟩
      refine ⟨r10 * (if decide (V.int r11 = V.int 0) = true then 1 else 0), rfl, by omega, by omega, for_range (fun i σ H' => ExX d H H' ∧ Deck H' d (N2 + 2 + 2 * i) ∧ ∃ (x v : Int) (z1 z2 : Option V), x.natAbs + 1 ≤ 10 ^ (102 + 12 * i) ∧ 0 < v ∧ v.natAbs + 1 ≤ 10 ^ (102 + 12 * i) ∧ σ = [some (.ref d), some (.ref k), some (.int v), some (.int x), z1, z2]) ⟨xHB, dB, X0, dv, _, _, (b102 (by omega) (by omega)), hdv0, (b102 (by omega) (by omega)), rfl⟩ ?_ ?_⟩
      · rintro i σ H' hlti ⟨xi, di, x, v, z1, z2, bx, v0, bv, rfl⟩
        try dsimp only [gName]
        try dsimp only [L2.start, List.map, List.length_cons, List.length_nil, List.replicate, List.set, List.append, List.cons_append, List.nil_append]
        refine ⟨_, rfl, _, _, rfl, rfl, ⟨by decide, by decide⟩, _, _, rfl, rfl, .inr ⟨by decide, by decide⟩, _, rfl, _, _, rfl, rfl, ⟨by decide, by decide⟩, ?_⟩
        refine ⟨d, _, N2 + 2 + 2 * i, rfl, di, by omega, by decide, mid_of (by decide) (by decide), fun H1 p1 hp10 hp11 x1 d1 => ?_⟩
        refine ⟨_, _, rfl, rfl, ?_⟩
        refine ⟨_, rfl, _, _, rfl, rfl, ⟨by decide, by decide⟩, _, _, rfl, rfl, .inr ⟨by decide, by decide⟩, _, rfl, _, _, rfl, rfl, ⟨by decide, by decide⟩, ?_⟩
        refine ⟨d, _, N2 + 2 + 2 * i + 1, rfl, d1, by omega, by decide, mid_of (by decide) (by decide), fun H2 p2 hp20 hp21 x2 d2 => ?_⟩
        refine ⟨_, _, rfl, rfl, ?_⟩
        exact ⟨(xi.trans x1).trans x2, d2, _, _, _, _, grow12 bx hp10 hp11, by have := hp20; show 0 < v * 10 ^ 12 + p2; omega, grow12 bv hp20 hp21, rfl⟩
      · rintro σ H' ⟨xi, di, x, v, z1, z2, bx, v0, bv, rfl⟩
        have hcn : (r10 * (if decide (V.int r11 = V.int 0) = true then 1 else 0)).toNat ≤ 10 := by omega
        have BigX : Big x := big222 bx hcn
        have BigV : Big v := big222 bv hcn
        refine ⟨_, rfl, _, rfl, ?_⟩
        refine ⟨by show 2 ≤ sizeLine; decide, fun l2 hl2 => ?_⟩
        try dsimp only
        generalize gH1 : upd H' l2 (.lst [.int 1, .int (-1)]) = H1
        have eH1 : Evl.Ex H' H1 := by rw [← gH1]; exact Evl.Ex.new hl2
        have oH1 : H1 l2 = some (.lst [.int 1, .int (-1)]) := by rw [← gH1]; exact upd_same
        refine ⟨_, rfl, d, 2, N2 + 2 + 2 * (r10 * (if decide (V.int r11 = V.int 0) = true then 1 else 0)).toNat, rfl, di.ex eH1, by omega, by decide, mid_of (by decide) (by decide), fun H2 s1 hs0 hs1 x2 d2 => ?_⟩
        have nl2 : l2 ≠ d := di.fresh hl2
        obtain ⟨sg, hsg, hsg2⟩ : ∃ sg : Int, ([V.int 1, V.int (-1)] : List V)[s1.toNat]? = some (.int sg) ∧ (sg = 1 ∨ sg = -1) := by
          have : s1 = 0 ∨ s1 = 1 := by omega
          rcases this with rfl | rfl
          · exact ⟨1, rfl, .inl rfl⟩
          · exact ⟨-1, rfl, .inr rfl⟩
        refine ⟨l2, _, _, .int sg, rfl, rfl, Evl.sq_of (x2 _ _ nl2 oH1), atI_of hs0 hsg, ?_⟩
        refine ⟨_, _, rfl, rfl, .inr ⟨by omega, by omega⟩, _, rfl, ?_⟩
        refine ⟨by show 2 ≤ sizeLine; decide, fun q hq => ?_⟩
        try dsimp only
        generalize gH3 : upd H2 q (.tup [.int (x * sg), .int v]) = H3
        have eH3 : Evl.Ex H2 H3 := by rw [← gH3]; exact Evl.Ex.new hq
        have oH3 : H3 q = some (.tup [.int (x * sg), .int v]) := by rw [← gH3]; exact upd_same
        refine hQ H3 q _ v ((xi.trans (ExX.ex eH1)).trans (x2.trans (ExX.ex eH3))) ((d2.ex eH3).mono (by omega)) oH3 ?_ BigV v0
        rcases hsg2 with h | h
        · rw [h, Int.mul_one]; exact BigX
        · unfold Big at BigX ⊢
          rw [h, Int.natAbs_mul]
          show x.natAbs * 1 < _
          rw [Nat.mul_one]
          exact BigX
end SF
end
section
set_option Elab.async false
set_option linter.all false
set_option maxRecDepth 100000
set_option maxHeartbeats 4000000
namespace SF
open PySem PySem.Spec PyProof.Rows L2 HotX L2H
/-! ### a def called in an except suite, with the caught error as an argument -/
structure FnP (P : Program) (w : World) (K : PySem.W.Frag) (mg : Str → Option Value) (base : Heap) (CX : CXT) (k : Nat) (f : Addr) (ps : List Str) (sp : Addr × Obj → Sp) : Prop where
  ex : ∃ fd, (∀ p vs H Q E, sp p vs H Q E → vs.length = ps.length) ∧ Binds K fd ps [] ∧ ∀ (A : Around) (outer : List Env) (s : Shared) (H : Hp) (args : Args) (us : List Value) (vs : List V) (Q : VK) (E : XK) (p : Addr × Obj), RoomH k A → Hot1 A p → PinOk outer H s p → Env0 P w K mg base A outer s H → BindsTo s fd args (ps.zip us) → Vals vs us → sp p vs H Q E →
    codeAny (model P w) A (.call (.ref f) args) (CR CX outer P w H s Q E) s
  kp : PySem.W.keepIn K (.ref f) = true
section
variable {P : Program} {w : World} {K : PySem.W.Frag} {mg : Str → Option Value} {base : Heap} {CX : CXT} {f : Addr} {ps : List Str} {sp : Addr × Obj → Sp}
theorem fp_of {N : List Str} {k : Nat} {x qual : Str} {params : Arguments} {body : List Stmt} {scope : Scope} (F0 : ∃ fd, FunD K x qual params body scope [] [] f fd) (S : FnScope N ps scope)
    (hb : ∀ (kV doc pm : Value) (an : Option Addr) (cdv ct : Value) (us : List Value), us.length = ps.length → bindArgs (PySem.W.fnOf x qual params body scope .none kV doc pm an cdv ct) ⟨us, []⟩ = pure (ps.zip us))
    (len : ∀ p vs H Q E, sp p vs H Q E → vs.length = ps.length)
    (hbody : ∀ (cdv : Value) (A : Around) (outer : List Env) (s : Shared) (H : Hp) (vs : List V) (Q : VK) (E : XK) (p : Addr × Obj), Hot1 A p → RoomH k (A.deeper (envOfC qual scope s.heap.objs.size f cdv)) → sp p vs H Q E →
      ∃ t, PSs (cxH CX P w K mg base N qual scope f cdv A outer s H E p) body t ∧ t { nx := fun _ H' => Q .non H', rt := Q } (L2.start N vs) H) : FnP P w K mg base CX (k + 1) f ps sp := by
  obtain ⟨fd, F⟩ := F0
  have bn := F.bindsN hb
  obtain ⟨oc, od, dV, kV, doc, pm, an, cdv, ct, osl, rfl, lk, hcd, _, _⟩ := F.ex
  refine ⟨⟨_, len, bn, fun A outer s H args us vs Q E p hr hot hpin e0 hbd r hsp => ?_⟩, F.kp⟩
  have hl := len _ _ _ _ _ hsp
  have KX : K.In s.heap := e0.mod.kin.keeps fun b o e => (e0.bs b o e).1
  have lim : s.heap.NoLimit := e0.mod.nolimit.keeps fun b o e => (e0.bs b o e).1
  have hkind : ∀ y ∈ ps.zip us, scope.names.lookup y.1 = some .local ∨ (scope.names.lookup y.1 = some .cell ∧ ((cellsFrom (s.heap.objs.size + 1) scope.names []).lookup y.1).isSome = true) := fun ⟨n, v⟩ hy => by
    rcases S.par n (List.of_mem_zip hy).1 with q | q
    · exact .inl q
    · exact .inr ⟨q, PySem.W.cellsFrom_some _ _ _ (.inl q)⟩
  refine codeAny_call_function hr.depth (KX _ _ lk) rfl S.co S.gen rfl (PySem.W.codeRec_of KX hcd) (hbd _ _ _ _ ?_)
  refine wpAny_newFunctionEnv_cells S.kind hkind fun env he s1 x => ?_
  subst he
  refine ⟨lim.keeps x.toInCall.keep, codeAny_func ?_⟩
  obtain ⟨t, ht, hq⟩ := hbody cdv A outer s H vs Q E p hot (hr.deeper _) hsp
  have I : Inv (cxH CX P w K mg base N qual scope f cdv A outer s H E p) [] (L2.start N vs) H s1 := inv_startH S hpin e0 hl r x
  refine wpAny_mono (ht.run [] s1 (L2.start N vs) H _ I hq) (fun fl s' hs => ?_) fun e s' hs => hs
  have fin : ∀ {σ' : L2.St} {H' : Hp} {v : V} {u : Value}, Inv (cxH CX P w K mg base N qual scope f cdv A outer s H E p) [] σ' H' s' → RelV v u → Q v H' → CE outer P w H s Q u s' :=
    fun {σ' H' v u} J rv q => ⟨v, H', J.os, J.bare, J.base, J.hok, rv, q⟩
  cases fl with
  | ret u =>
    obtain ⟨v, σ', H', J, rv, q⟩ := hs
    exact fin J rv q
  | next =>
    obtain ⟨σ', H', J, q⟩ := hs
    exact fin (v := V.non) (u := Value.none) J rfl q
  | brk =>
    obtain ⟨_, _, _, q⟩ := hs
    exact False.elim q
  | cont =>
    obtain ⟨_, _, _, q⟩ := hs
    exact False.elim q
end
section
variable {X : Cx} {CX : CXT} {k : Nat} {f : Addr} {ps : List Str} {sp : Addr × Obj → Sp} {E : XK} {x : Str} {q pos : Pos} {e : Expr} {es : List Expr} {t : TA}
theorem pe_p (F : FnP X.prog X.w X.K X.mg X.base CX k f ps sp) (hr : RoomH k X.A) {p : Addr × Obj} (hot : Hot1 X.A p) (hp : p ∈ X.pn) (hg : Gl X x) (hm : X.mg x = some (.ref f)) (hx : Passes CX X E)
    (ha : PA X (e :: es) t) (hdb : (x == ("__debug__" : Str)) = false := by decide) (he : starEach (e :: es) X.env = (false, eval e X.env) :: starEach es X.env := by rfl) (hpl : (backTo pos (starEach es X.env)).any (·.1) = false := by rfl) :
    PE X (.Call (.Name x q) (e :: es) [] pos) (tCall (sp p) [] E t) := by
  obtain ⟨⟨fd, len, b, run⟩, kp⟩ := F
  refine ⟨fun pins s σ H Q I h => ?_⟩
  refine wpAny_Call_Name_kw (ld_glob I hg hm ?_ hdb)
  refine PySem.W.callWith_K (h₀ := X.base) I.ok.mod.kin kp (thn (ha.run pos pins s σ H _ I h) fun us s1 ⟨vs, H1, I1, r, q⟩ => ⟨I1.kIn, ?_⟩) he hpl
  have q' : sp p vs H1 Q E := by
    have q2 : sp p (vs ++ []) H1 Q E := q
    rw [List.append_nil] at q2
    exact q2
  have hl : us.length = ps.length := by rw [← r.length]; exact len _ _ _ _ _ q'
  have b1 := b s1 us I1.kIn (by rw [List.append_nil]; exact hl)
  rw [List.append_nil] at b1
  have P1 := I1.pin p (List.mem_append_left _ hp)
  have hpin : PinOk X.stack H1 s1 p := ⟨P1.1, P1.2.1, fun hm => (List.mem_cons.mp (I1.stkSub p.1 hm)).elim P1.2.2.1 P1.2.2.2.1, P1.2.2.2.2⟩
  refine wpAny_call (codeAny_mono (run X.A X.stack s1 H1 ⟨us, []⟩ us vs Q E p hr hot hpin I1.env0 b1 r q') fun r s' hq => ?_)
  cases r with
  | error e => exact hx pins σ H1 s1 e s' I1 hq
  | ok fl =>
    cases fl with
    | ret u => exact I1.after hq
    | next => exact False.elim hq
    | brk => exact False.elim hq
    | cont => exact False.elim hq
/-- isinstance(e, C), e the error that is pinned -/
theorem call_isP {a D : Addr} {oe : Obj} (C : ExcC X.K D) (hz : Zc (.ref D) none oe) (hf : ∃ vs, oe.data = .fields vs) (hp : (a, oe) ∈ X.pn) : CallR X (.builtin "isinstance") (rIsE X.K D a) := by
  intro pins s σ H xs us Q I r h
  obtain ⟨c, cv, b, rfl, hcv, e, q⟩ := h
  cases r with
  | cons rx rr =>
    cases rr with
    | cons rt rr =>
      cases rr
      cases rx
      have ec := hcv _ rt
      subst ec
      obtain ⟨hget, _⟩ := I.pin (a, oe) (List.mem_append.mpr (.inl hp))
      obtain ⟨vs, hv⟩ := hf
      have J : PySem.W.InstAt s.heap a oe D none := by
        obtain ⟨oc, od, oda, osl⟩ := oe
        obtain ⟨h1, h2⟩ := hz
        dsimp only at h1 h2 hv
        subst h1 h2 hv
        exact ⟨hget, rfl, rfl, trivial⟩
      exact PySem.W.kia_one (PySem.W.handS_kitx_exc C.hg C.hk C.hs C.hd C.ha C.hn C.ht C.hm) I.kIn J e (fun z => nomatch z) fun tk => ⟨.bl b, H, I.kept (t' := tk) fun _ _ z => z, rfl, q⟩
end
end SF
end
section
set_option Elab.async false
set_option linter.all false
set_option maxRecDepth 100000
set_option maxHeartbeats 4000000
namespace SF
open PySem PySem.Spec PyProof.Rows L2 HotX L2H
/-! ### [name for name, kind in zip(names, kinds) if kind] -/
def pickS : List Str → List Bool → List Str
  | x :: xs, b :: bs => if b = true then x :: pickS xs bs else pickS xs bs
  | _, _ => []
theorem pickS_succ : ∀ {xs : List Str} {bs : List Bool} {i : Nat} {x : Str} {b : Bool}, xs[i]? = some x → bs[i]? = some b → pickS (xs.take (i + 1)) (bs.take (i + 1)) = pickS (xs.take i) (bs.take i) ++ (if b = true then [x] else [])
  | [], _, _, _, _, h1, _ => by cases h1
  | _ :: _, [], _, _, _, _, h2 => by cases h2
  | y :: xs, c :: bs, 0, x, b, h1, h2 => by
    cases h1
    cases h2
    show (if c = true then y :: pickS (xs.take 0) (bs.take 0) else pickS (xs.take 0) (bs.take 0)) = pickS [] [] ++ _
    rw [List.take_zero, List.take_zero]
    rfl
  | y :: xs, c :: bs, i + 1, x, b, h1, h2 => by
    have ih := pickS_succ (xs := xs) (bs := bs) (i := i) (x := x) (b := b) h1 h2
    show (if c = true then y :: pickS (xs.take (i + 1)) (bs.take (i + 1)) else pickS (xs.take (i + 1)) (bs.take (i + 1))) = (if c = true then y :: pickS (xs.take i) (bs.take i) else pickS (xs.take i) (bs.take i)) ++ _
    rw [ih]
    cases c <;> rfl
theorem pickS_len : ∀ (xs : List Str) (bs : List Bool), (pickS xs bs).length ≤ xs.length
  | [], _ => Nat.zero_le _
  | _ :: _, [] => Nat.zero_le _
  | x :: xs, b :: bs => by
    have ih := pickS_len xs bs
    show (if b = true then x :: pickS xs bs else pickS xs bs).length ≤ xs.length + 1
    cases b
    · exact Nat.le_succ_of_le ih
    · exact Nat.succ_le_succ ih
theorem lc_zipE {K : PySem.W.Frag} {a b : Addr} {xs : List Str} {bs : List Bool} {D : Addr} {σ : L2.St} {H1 : Hp} {Qd : Hp → Prop} {i j : Nat}
    (hw : ∀ x y : V, wipe (((wipe σ [i, j]).set i (some x)).set j (some y)) [i, j] = wipe σ [i, j]) (hi : ∀ x y : V, (((wipe σ [i, j]).set i (some x)).set j (some y))[i]? = some (some x)) (hj : ∀ x y : V, (((wipe σ [i, j]).set i (some x)).set j (some y))[j]? = some (some y))
    (hl : xs.length = bs.length) (hz : xs.length < 1000) (ha : SqL K H1 a (xs.map V.str)) (hb : SqL K H1 b (bs.map V.bl)) (hD : H1 D = none) (hd : ∀ H', Evl.Ex H1 H' → H' D = some (.lst ((pickS xs bs).map V.str)) → Qd H') :
    ∃ W : Nat → Nat → Hp → Prop, (∃ m, W 0 m (upd H1 D (.lst []))) ∧ ∀ n m H, W n m H →
      ((ItzE K a b).stop n H ∧ Qd H) ∨ ((ItzE K a b).go n H ∧ ∃ Nx : Hp → Prop, (∀ H', Nx H' → ∃ m', m' < m ∧ W (n + 1) m' H') ∧ ∀ x H', (ItzE K a b).yld n H x H' → gTup K 2 (gCons (gName i) (gCons (gName j) gNil)) x (wipe σ [i, j]) H' fun σ2 H2 => wipe σ2 [i, j] = wipe σ [i, j] ∧ tB (tVar j) σ2 H2 fun b H3 =>
        if b = true then tVar i σ2 H3 fun y H4 => ∃ acc, H4 D = some (.lst acc) ∧ acc.length < sizeLine ∧ Nx (upd H4 D (.lst (acc ++ [y]))) else Nx H3) := by
  refine ⟨fun n m H => m = xs.length - n ∧ n ≤ xs.length ∧ Evl.Ex H1 H ∧ H D = some (.lst ((pickS (xs.take n) (bs.take n)).map V.str)), ⟨xs.length, rfl, Nat.zero_le _, Evl.Ex.new hD, upd_same⟩, ?_⟩
  rintro n m H ⟨rfl, hn, e, hDn⟩
  by_cases hlt : n < xs.length
  · have gx : xs[n]? = some xs[n] := List.getElem?_eq_getElem hlt
    have gb : bs[n]? = some bs[n] := List.getElem?_eq_getElem (by omega)
    generalize xs[n] = x at gx
    generalize bs[n] = bb at gb
    have gx' : (xs.map V.str)[n]? = some (.str x) := by rw [List.getElem?_map, gx]; rfl
    have gb' : (bs.map V.bl)[n]? = some (.bl bb) := by rw [List.getElem?_map, gb]; rfl
    refine .inr ⟨⟨_, _, _, _, Evl.ex_l e ha, Evl.ex_l e hb, gx', gb'⟩, fun H' => Evl.Ex H1 H' ∧ H' D = some (.lst ((pickS (xs.take (n + 1)) (bs.take (n + 1))).map V.str)), fun H' ⟨e', h'⟩ => ⟨xs.length - (n + 1), by omega, rfl, hlt, e', h'⟩, fun v H' hy => ?_⟩
    obtain ⟨T, x0, y0, rfl, hT, rfl, h1, h2⟩ := hy
    have ex0 := h1 _ (Evl.ex_l e ha)
    have ey0 := h2 _ (Evl.ex_l e hb)
    rw [gx'] at ex0
    rw [gb'] at ey0
    cases ex0
    cases ey0
    have e2 := e.trans (Evl.Ex.new (o := .tup [.str x, .bl bb]) hT)
    have oT : (upd H T (.tup [V.str x, V.bl bb])) T = some (.tup [.str x, .bl bb]) := upd_same
    have oD : (upd H T (.tup [V.str x, V.bl bb])) D = some (.lst ((pickS (xs.take n) (bs.take n)).map V.str)) := by rw [upd_ne (ne_of_none hDn hT)]; exact hDn
    generalize upd H T (.tup [V.str x, V.bl bb]) = H2 at e2 oT oD
    refine ⟨T, _, rfl, Evl.st_of oT, rfl, _, _, rfl, _, _, rfl, rfl, hw _ _, _, hj _ _, bb, rfl, ?_⟩
    have hs := pickS_succ gx gb
    cases bb with
    | true =>
      refine iteT ?_
      refine ⟨_, hi _ _, _, oD, ?_, e2.mut hD, ?_⟩
      · rw [List.length_map]
        refine Nat.lt_of_le_of_lt (m := 1000) ?_ (by decide)
        refine Nat.le_trans (pickS_len _ _) ?_
        rw [List.length_take]
        omega
      · rw [upd_same, hs, if_pos rfl, List.map_append]
        rfl
    | false =>
      refine iteF ?_
      refine ⟨e2, ?_⟩
      rw [hs, if_neg (by decide), List.append_nil]
      exact oD
  · have en : n = xs.length := by omega
    refine .inl ⟨⟨_, _, Evl.ex_l e ha, Evl.ex_l e hb, by rw [List.length_map]; omega⟩, hd H e ?_⟩
    rw [en, List.take_length, hl, List.take_length] at hDn
    exact hDn
section
variable {K : PySem.W.Frag} {mg : Str → Option Value}
theorem Fx.exc (T : Fx K mg) {x : Str} (hx : x ∈ (["NoRoom", "NoWork", "NoCell"] : List Str)) : ExcC K (He.ga K x) ∧ (∀ y ∈ exNames, PySem.W.kitOne K (.ref (He.ga K x)) (.ref (He.ga K y)) = some (decide (x = y))) ∧ PySem.W.kitOne K (.ref (He.ga K x)) (.type "ValueError") = some true := by
  have h := T.ex
  unfold exB at h
  have h2 := List.all_eq_true.mp (He.ba (He.ba h).2).2 x hx
  obtain ⟨h3, h4⟩ := He.ba h2
  obtain ⟨h5, h6⟩ := He.ba h4
  unfold excB at h3
  obtain ⟨a1, h3⟩ := He.ba h3
  obtain ⟨a2, h3⟩ := He.ba h3
  obtain ⟨a3, h3⟩ := He.ba h3
  obtain ⟨a4, h3⟩ := He.ba h3
  obtain ⟨a5, h3⟩ := He.ba h3
  obtain ⟨a6, h3⟩ := He.ba h3
  obtain ⟨a7, a8⟩ := He.ba h3
  exact ⟨⟨He.eqO_ok a1, He.eqO_ok a2, of_decide_eq_true a3, a4, He.eqO_ok a5, He.eqO_ok a6, of_decide_eq_true a7, of_decide_eq_true a8⟩, fun y hy => of_decide_eq_true (List.all_eq_true.mp h5 y hy), of_decide_eq_true h6⟩
end
/-! ### _law_name_of -/
def spName (K : PySem.W.Frag) : Addr × Obj → Sp := fun p vs H Q _ => ∃ x : Str, x ∈ (["NoRoom", "NoWork", "NoCell"] : List Str) ∧ vs = [.ref p.1] ∧ Zc (.ref (He.ga K x)) none p.2 ∧ ∀ H', Evl.Ex H H' → Q (.str (x ++ "+")) H'
theorem sc_law_name_of : FnScope ["e", "kinds", "names", "name", "kind"] ["e"] (defScope s_law_name_of) := ⟨rfl, rfl, rfl, by decide +kernel, rfl, by decide +kernel, by decide +kernel⟩
theorem ok_law_name_of {P : Program} {w : World} {K : PySem.W.Frag} {mg : Str → Option Value} {base : Heap} (T : Fx K mg) : FnP P w K mg base CX0 1 (He.ga K "_law_name_of") ["e"] (spName K) := by
  refine fp_of T.d_law_name_of sc_law_name_of (fun _ _ _ _ _ _ us hl => match us, hl with | [_], _ => rfl) (fun p vs H Q E h => ?_) (fun cdv A outer s H vs Q E p hot hr h => ?_)
  · obtain ⟨x, _, rfl, _⟩ := h
    rfl
  · obtain ⟨x, hx, rfl, hz, hQ⟩ := h
    obtain ⟨hC, hy, hv⟩ := T.exc hx
    have hotA : Hot1 (A.deeper (envOfC "_law_name_of" (defScope s_law_name_of) s.heap.objs.size (He.ga K "_law_name_of") cdv)) p := hot
    refine ⟨_, PSs.nox ((pss_cons (ps_set (i := 1) sc_law_name_of.nd rfl (Or.inl rfl) (pe_lst (pa_cons (pe_callB (SF.call_isP hC hz ⟨_, hot.2.choose_spec.1⟩ (List.mem_cons_self)) (by rfl) T.b_isinstance (by decide +kernel) (pa_cons (pv 0) (pa_cons (pe_glob rfl T.g_NoFigure (v := .ref (He.ga K "NoFigure")) rfl) pa_nil))) (pa_cons (pe_callB (SF.call_isP hC hz ⟨_, hot.2.choose_spec.1⟩ (List.mem_cons_self)) (by rfl) T.b_isinstance (by decide +kernel) (pa_cons (pv 0) (pa_cons (pe_glob rfl T.g_NoLooks (v := .ref (He.ga K "NoLooks")) rfl) pa_nil))) (pa_cons (pe_callB (SF.call_isP hC hz ⟨_, hot.2.choose_spec.1⟩ (List.mem_cons_self)) (by rfl) T.b_isinstance (by decide +kernel) (pa_cons (pv 0) (pa_cons (pe_glob rfl T.g_NoRoom (v := .ref (He.ga K "NoRoom")) rfl) pa_nil))) (pa_cons (pe_callB (SF.call_isP hC hz ⟨_, hot.2.choose_spec.1⟩ (List.mem_cons_self)) (by rfl) T.b_isinstance (by decide +kernel) (pa_cons (pv 0) (pa_cons (pe_glob rfl T.g_NoRow (v := .ref (He.ga K "NoRow")) rfl) pa_nil))) pa_nil))))))
  (pss_cons (ps_set (i := 1) sc_law_name_of.nd rfl (Or.inl rfl) (pe_op op_cat (pv 1) (pe_lst (pa_cons (pe_callB (SF.call_isP hC hz ⟨_, hot.2.choose_spec.1⟩ (List.mem_cons_self)) (by rfl) T.b_isinstance (by decide +kernel) (pa_cons (pv 0) (pa_cons (pe_glob rfl T.g_NoTable (v := .ref (He.ga K "NoTable")) rfl) pa_nil))) (pa_cons (pe_callB (SF.call_isP hC hz ⟨_, hot.2.choose_spec.1⟩ (List.mem_cons_self)) (by rfl) T.b_isinstance (by decide +kernel) (pa_cons (pv 0) (pa_cons (pe_glob rfl T.g_NoText (v := .ref (He.ga K "NoText")) rfl) pa_nil))) (pa_cons (pe_callB (SF.call_isP hC hz ⟨_, hot.2.choose_spec.1⟩ (List.mem_cons_self)) (by rfl) T.b_isinstance (by decide +kernel) (pa_cons (pv 0) (pa_cons (pe_glob rfl T.g_Spoilt (v := .ref (He.ga K "Spoilt")) rfl) pa_nil))) (pa_cons (pe_callB (SF.call_isP hC hz ⟨_, hot.2.choose_spec.1⟩ (List.mem_cons_self)) (by rfl) T.b_isinstance (by decide +kernel) (pa_cons (pv 0) (pa_cons (pe_glob rfl T.g_NoMore (v := .ref (He.ga K "NoMore")) rfl) pa_nil))) pa_nil)))))))
  (pss_cons (ps_set (i := 1) sc_law_name_of.nd rfl (Or.inl rfl) (pe_op op_cat (pv 1) (pe_lst (pa_cons (pe_callB (SF.call_isP hC hz ⟨_, hot.2.choose_spec.1⟩ (List.mem_cons_self)) (by rfl) T.b_isinstance (by decide +kernel) (pa_cons (pv 0) (pa_cons (pe_glob rfl T.g_NoWork (v := .ref (He.ga K "NoWork")) rfl) pa_nil))) (pa_cons (pe_callB (SF.call_isP hC hz ⟨_, hot.2.choose_spec.1⟩ (List.mem_cons_self)) (by rfl) T.b_isinstance (by decide +kernel) (pa_cons (pv 0) (pa_cons (pe_glob rfl T.g_NoCell (v := .ref (He.ga K "NoCell")) rfl) pa_nil))) (pa_cons (pe_callB (SF.call_isP hC hz ⟨_, hot.2.choose_spec.1⟩ (List.mem_cons_self)) (by rfl) T.b_isinstance (by decide +kernel) (pa_cons (pv 0) (pa_cons (pe_glob rfl T.g_NoDeed (v := .ref (He.ga K "NoDeed")) rfl) pa_nil))) (pa_cons (pe_callB (SF.call_isP hC hz ⟨_, hot.2.choose_spec.1⟩ (List.mem_cons_self)) (by rfl) T.b_isinstance (by decide +kernel) (pa_cons (pv 0) (pa_cons (pe_bltn (by rfl) T.b_ValueError (by decide +kernel) (v := .ty "ValueError") rfl) pa_nil))) pa_nil)))))))
  (pss_cons (ps_set (i := 2) sc_law_name_of.nd rfl (Or.inl rfl) (pe_lst (pa_cons pe_str (pa_cons pe_str (pa_cons pe_str (pa_cons pe_str (pa_cons pe_str (pa_cons pe_str (pa_cons pe_str (pa_cons pe_str (pa_cons pe_str (pa_cons pe_str pa_nil))))))))))))
  (pss_one (ps_ret (pe_join pe_str (pe_lcH (p := p) hotA List.mem_cons_self (own := [("name", 3), ("kind", 4)]) sc_law_name_of.nd (SF.pi_zipH (by rfl) T.b_zip (pa_cons (pe_op op_cat (pv 2) (pe_lst (pa_cons pe_str (pa_cons pe_str pa_nil)))) (pa_cons (pv 1) pa_nil))) (blkOk_by (own := [("name", 3), ("kind", 4)]) (N := ["e", "kinds", "names", "name", "kind"]) (sc := defScope s_law_name_of) (by decide +kernel)) (g := gTup K 2 (gCons (gName 3) (gCons (gName 4) gNil))) (fun _ _ _ _ _ => (pg_tupH ⟨p, hotA, List.mem_cons_self⟩ (pgs_cons (pg_name (i := 3) sc_law_name_of.nd rfl (Or.inl rfl)) (pgs_cons (pg_name (i := 4) sc_law_name_of.nd rfl (Or.inl rfl)) pgs_nil)))) (fun _ _ _ _ _ => (pts_one (pt_val (pv 4)))) (fun _ _ _ _ _ => (pv 3))))))))))), ?_⟩
    have key : ∀ (B1 B2 B3 : List Bool) (R : Prop), R → R := fun _ _ _ _ r => r
    simp only [List.mem_cons, List.not_mem_nil, or_false] at hx
    have cn : ∀ y : Str, ∀ u : Value, RelV (V.ref (He.ga K y)) u → u = .ref (He.ga K y) := fun y u r => r
    have ct : ∀ u : Value, RelV (V.ty "ValueError") u → u = .type "ValueError" := fun u r => r
    refine ⟨_, rfl, _, _, _, rfl, cn "NoFigure", hy _ (by decide), _, rfl, _, _, _, rfl, cn "NoLooks", hy _ (by decide), _, rfl, _, _, _, rfl, cn "NoRoom", hy _ (by decide), _, rfl, _, _, _, rfl, cn "NoRow", hy _ (by decide), ?_⟩
    refine ⟨by show 4 ≤ sizeLine; decide, fun k1 hk1 => ?_⟩
    try dsimp only
    generalize gH1 : upd H k1 (.lst [.bl (decide (x = "NoFigure")), .bl (decide (x = "NoLooks")), .bl (decide (x = "NoRoom")), .bl (decide (x = "NoRow"))]) = H1
    have eH1 : Evl.Ex H H1 := by rw [← gH1]; exact Evl.Ex.new hk1
    have oH1 : H1 k1 = some (.lst [.bl (decide (x = "NoFigure")), .bl (decide (x = "NoLooks")), .bl (decide (x = "NoRoom")), .bl (decide (x = "NoRow"))]) := by rw [← gH1]; exact upd_same
    refine ⟨_, rfl, _, rfl, _, _, _, rfl, cn "NoTable", hy _ (by decide), _, rfl, _, _, _, rfl, cn "NoText", hy _ (by decide), _, rfl, _, _, _, rfl, cn "Spoilt", hy _ (by decide), _, rfl, _, _, _, rfl, cn "NoMore", hy _ (by decide), ?_⟩
    refine ⟨by show 4 ≤ sizeLine; decide, fun k2 hk2 => ?_⟩
    try dsimp only
    generalize gH2 : upd H1 k2 (.lst [.bl (decide (x = "NoTable")), .bl (decide (x = "NoText")), .bl (decide (x = "Spoilt")), .bl (decide (x = "NoMore"))]) = H2
    have eH2 : Evl.Ex H1 H2 := by rw [← gH2]; exact Evl.Ex.new hk2
    have oH2 : H2 k2 = some (.lst [.bl (decide (x = "NoTable")), .bl (decide (x = "NoText")), .bl (decide (x = "Spoilt")), .bl (decide (x = "NoMore"))]) := by rw [← gH2]; exact upd_same
    refine ⟨k1, k2, _, _, rfl, rfl, eH2 _ _ oH1, oH2, by show 4 + 4 ≤ sizeLine; decide, fun k3 hk3 => ?_⟩
    try dsimp only [List.cons_append, List.nil_append, List.append]
    generalize gH3 : upd H2 k3 (.lst [.bl (decide (x = "NoFigure")), .bl (decide (x = "NoLooks")), .bl (decide (x = "NoRoom")), .bl (decide (x = "NoRow")), .bl (decide (x = "NoTable")), .bl (decide (x = "NoText")), .bl (decide (x = "Spoilt")), .bl (decide (x = "NoMore"))]) = H3
    have eH3 : Evl.Ex H2 H3 := by rw [← gH3]; exact Evl.Ex.new hk3
    have oH3 : H3 k3 = some (.lst [.bl (decide (x = "NoFigure")), .bl (decide (x = "NoLooks")), .bl (decide (x = "NoRoom")), .bl (decide (x = "NoRow")), .bl (decide (x = "NoTable")), .bl (decide (x = "NoText")), .bl (decide (x = "Spoilt")), .bl (decide (x = "NoMore"))]) := by rw [← gH3]; exact upd_same
    refine ⟨_, rfl, _, rfl, _, _, _, rfl, cn "NoWork", hy _ (by decide), _, rfl, _, _, _, rfl, cn "NoCell", hy _ (by decide), _, rfl, _, _, _, rfl, cn "NoDeed", hy _ (by decide), _, rfl, _, _, _, rfl, ct, hv, ?_⟩
    refine ⟨by show 4 ≤ sizeLine; decide, fun k4 hk4 => ?_⟩
    try dsimp only
    generalize gH4 : upd H3 k4 (.lst [.bl (decide (x = "NoWork")), .bl (decide (x = "NoCell")), .bl (decide (x = "NoDeed")), .bl true]) = H4
    have eH4 : Evl.Ex H3 H4 := by rw [← gH4]; exact Evl.Ex.new hk4
    have oH4 : H4 k4 = some (.lst [.bl (decide (x = "NoWork")), .bl (decide (x = "NoCell")), .bl (decide (x = "NoDeed")), .bl true]) := by rw [← gH4]; exact upd_same
    refine ⟨k3, k4, _, _, rfl, rfl, eH4 _ _ oH3, oH4, by show 8 + 4 ≤ sizeLine; decide, fun k5 hk5 => ?_⟩
    try dsimp only [List.cons_append, List.nil_append, List.append]
    generalize gH5 : upd H4 k5 (.lst [.bl (decide (x = "NoFigure")), .bl (decide (x = "NoLooks")), .bl (decide (x = "NoRoom")), .bl (decide (x = "NoRow")), .bl (decide (x = "NoTable")), .bl (decide (x = "NoText")), .bl (decide (x = "Spoilt")), .bl (decide (x = "NoMore")), .bl (decide (x = "NoWork")), .bl (decide (x = "NoCell")), .bl (decide (x = "NoDeed")), .bl true]) = H5
    have eH5 : Evl.Ex H4 H5 := by rw [← gH5]; exact Evl.Ex.new hk5
    have oH5 : H5 k5 = some (.lst [.bl (decide (x = "NoFigure")), .bl (decide (x = "NoLooks")), .bl (decide (x = "NoRoom")), .bl (decide (x = "NoRow")), .bl (decide (x = "NoTable")), .bl (decide (x = "NoText")), .bl (decide (x = "Spoilt")), .bl (decide (x = "NoMore")), .bl (decide (x = "NoWork")), .bl (decide (x = "NoCell")), .bl (decide (x = "NoDeed")), .bl true]) := by rw [← gH5]; exact upd_same
    refine ⟨by show 10 ≤ sizeLine; decide, fun n1 hn1 => ?_⟩
    try dsimp only
    generalize gH6 : upd H5 n1 (.lst [.str "NoFigure", .str "NoLooks", .str "NoRoom", .str "NoRow", .str "NoTable", .str "NoText", .str "Spoilt", .str "NoMore", .str "NoWork", .str "NoCell"]) = H6
    have eH6 : Evl.Ex H5 H6 := by rw [← gH6]; exact Evl.Ex.new hn1
    have oH6 : H6 n1 = some (.lst [.str "NoFigure", .str "NoLooks", .str "NoRoom", .str "NoRow", .str "NoTable", .str "NoText", .str "Spoilt", .str "NoMore", .str "NoWork", .str "NoCell"]) := by rw [← gH6]; exact upd_same
    refine ⟨⟨_, rfl⟩, ?_⟩
    refine ⟨_, rfl, ?_⟩
    refine ⟨by show 2 ≤ sizeLine; decide, fun n2 hn2 => ?_⟩
    try dsimp only
    generalize gH7 : upd H6 n2 (.lst [.str "NoDeed", .str "+"]) = H7
    have eH7 : Evl.Ex H6 H7 := by rw [← gH7]; exact Evl.Ex.new hn2
    have oH7 : H7 n2 = some (.lst [.str "NoDeed", .str "+"]) := by rw [← gH7]; exact upd_same
    refine ⟨n1, n2, _, _, rfl, rfl, eH7 _ _ oH6, oH7, by show 10 + 2 ≤ sizeLine; decide, fun n3 hn3 => ?_⟩
    try dsimp only [List.cons_append, List.nil_append, List.append]
    generalize gH8 : upd H7 n3 (.lst [.str "NoFigure", .str "NoLooks", .str "NoRoom", .str "NoRow", .str "NoTable", .str "NoText", .str "Spoilt", .str "NoMore", .str "NoWork", .str "NoCell", .str "NoDeed", .str "+"]) = H8
    have eH8 : Evl.Ex H7 H8 := by rw [← gH8]; exact Evl.Ex.new hn3
    have oH8 : H8 n3 = some (.lst [.str "NoFigure", .str "NoLooks", .str "NoRoom", .str "NoRow", .str "NoTable", .str "NoText", .str "Spoilt", .str "NoMore", .str "NoWork", .str "NoCell", .str "NoDeed", .str "+"]) := by rw [← gH8]; exact upd_same
    have ok5 := eH8 _ _ (eH7 _ _ (eH6 _ _ oH5))
    have eAll : Evl.Ex H H8 := ((((((eH1.trans eH2).trans eH3).trans eH4).trans eH5).trans eH6).trans eH7).trans eH8
    refine ⟨_, rfl, ?_⟩
    refine ⟨n3, k5, _, _, rfl, Evl.sq_of oH8, Evl.sq_of ok5, fun D hD => ?_⟩
    refine lc_zipE (K := K) (a := n3) (b := k5) (i := 3) (j := 4) (xs := ["NoFigure", "NoLooks", "NoRoom", "NoRow", "NoTable", "NoText", "Spoilt", "NoMore", "NoWork", "NoCell", "NoDeed", "+"]) (bs := [decide (x = "NoFigure"), decide (x = "NoLooks"), decide (x = "NoRoom"), decide (x = "NoRow"), decide (x = "NoTable"), decide (x = "NoText"), decide (x = "Spoilt"), decide (x = "NoMore"), decide (x = "NoWork"), decide (x = "NoCell"), decide (x = "NoDeed"), true])
      (fun _ _ => rfl) (fun _ _ => rfl) (fun _ _ => rfl) rfl (by show 12 < 1000; decide) (Evl.sq_of oH8) (Evl.sq_of ok5) hD fun H' e' hD' => ?_
    have hp : pickS ["NoFigure", "NoLooks", "NoRoom", "NoRow", "NoTable", "NoText", "Spoilt", "NoMore", "NoWork", "NoCell", "NoDeed", "+"] [decide (x = "NoFigure"), decide (x = "NoLooks"), decide (x = "NoRoom"), decide (x = "NoRow"), decide (x = "NoTable"), decide (x = "NoText"), decide (x = "Spoilt"), decide (x = "NoMore"), decide (x = "NoWork"), decide (x = "NoCell"), decide (x = "NoDeed"), true] = [x, "+"] := by
      rcases hx with rfl | rfl | rfl <;> decide
    rw [hp] at hD'
    have hj : Txt.join Str.empty [x, "+"] = x ++ "+" := by rcases hx with rfl | rfl | rfl <;> decide
    refine ⟨_, D, [x, "+"], rfl, rfl, .inl (Evl.sq_of hD'), by rcases hx with rfl | rfl | rfl <;> decide, ?_⟩
    have fin := hQ H' (eAll.trans e')
    rw [← hj] at fin
    exact fin
end SF
end
section
set_option Elab.async false
set_option linter.all false
set_option maxRecDepth 100000
set_option maxHeartbeats 4000000
namespace SF
open PySem PySem.Spec PyProof.Rows L2
/-! ### _law_tried -/
abbrev exl : List Str := ["NoRoom", "NoWork", "NoCell"]
/-- what follows a deed's error: the pair (None, its name) -/
def faultE (K : PySem.W.Frag) (Q : VK) : XK := fun cls d H => ∃ x : Str, x ∈ exl ∧ cls = .ref (He.ga K x) ∧ d = none ∧ ∀ H', Evl.Ex H H' → NewT H' [.non, .str (x ++ "+")] Q
def goneQ (Q : VK) : VK := fun v H => NewT H [v, .str Str.empty] Q
def goneT (Q : VK) : VK := fun v H => NewT H [v] fun t H' => NewT H' [t, .str Str.empty] Q
def triedSp (K : PySem.W.Frag) (b : Addr) : What → Hp → VK → Prop
  | .beg r x d n, H, Q => spBeg K r [.ref b, .int x, .int d, .int (n : Nat)] H (goneQ Q) (faultE K Q)
  | .step n, H, Q => spGo K [.ref b, .int n] H (goneQ Q) (faultE K Q)
  | .put t l fv, H, Q => spPut K [.ref b, .int t, .int l, fv] H (goneT Q) (faultE K Q)
def spTriedL (K : PySem.W.Frag) : Sp := fun vs H Q _ => ∃ (b wt dx : Addr) (fs : List (Str × V)) (wh : What), vs = [.ref b, .ref wt] ∧ SqT K H wt wh.vs ∧ H b = some (.ins (He.ga K "Bench") dx fs) ∧ (∀ m ∈ (["begin", "begin_rows", "go", "put"] : List Str), fs.lookup m = none) ∧ triedSp K b wh H Q
theorem spBeg_mono {K : PySem.W.Frag} {r : Bool} {vs : List V} {H : Hp} {Q Q' : VK} {E E' : XK} (hq : ∀ v H', Q v H' → Q' v H') (he : ∀ c d H', E c d H' → E' c d H') (h : spBeg K r vs H Q E) : spBeg K r vs H Q' E' := by
  obtain ⟨b, x, d, n, c, T1, S, e0, tg, hB, ok, hx, hd, hn, z1, z2, h1, h2⟩ := h
  exact ⟨b, x, d, n, c, T1, S, e0, tg, hB, ok, hx, hd, hn, z1, z2, fun hr T2 H' g t B => hq _ _ (h1 hr T2 H' g t B), fun hr H' e => he _ _ _ (h2 hr H' e)⟩
theorem spGo_mono {K : PySem.W.Frag} {vs : List V} {H : Hp} {Q Q' : VK} {E E' : XK} (hq : ∀ v H', Q v H' → Q' v H') (he : ∀ c d H', E c d H' → E' c d H') (h : spGo K vs H Q E) : spGo K vs H Q' E' := by
  obtain ⟨b, n, c, T1, S, e0, tg, hB, ok, hS, z1, z2, h1, h2⟩ := h
  refine ⟨b, n, c, T1, S, e0, tg, hB, ok, hS, z1, z2, fun hr => he _ _ _ (h1 hr), fun w hi hw => ?_⟩
  obtain ⟨a1, a2⟩ := h2 w hi hw
  refine ⟨fun hl H' r e f o => hq _ _ (a1 hl H' r e f o), fun hl => ?_⟩
  obtain ⟨b1, e, b2, b3, b4⟩ := a2 hl
  exact ⟨b1, e, b2, fun q H' r g B f o => hq _ _ (b3 q H' r g B f o), fun f q H' r g B fr o => hq _ _ (b4 f q H' r g B fr o)⟩
theorem spPut_mono {K : PySem.W.Frag} {vs : List V} {H : Hp} {Q Q' : VK} {E E' : XK} (hq : ∀ v H', Q v H' → Q' v H') (he : ∀ c d H', E c d H' → E' c d H') (h : spPut K vs H Q E) : spPut K vs H Q' E' := by
  obtain ⟨b, t, l, fv, fg, c, T1, S, e0, tg, hB, ok, hf, z, h1, h2⟩ := h
  refine ⟨b, t, l, fv, fg, c, T1, S, e0, tg, hB, ok, hf, z, fun hr => he _ _ _ (h1 hr), fun e p q => ?_⟩
  obtain ⟨old, a1, a2⟩ := h2 e p q
  exact ⟨old, a1, fun H' g B => hq _ _ (a2 H' g B)⟩
def tNm (K : PySem.W.Frag) (a : Addr) (cls : Value) (d : Option Addr) : TE := fun σ H Q => σ[4]? = some (some (.ref a)) ∧ ∃ x : Str, x ∈ exl ∧ cls = .ref (He.ga K x) ∧ d = none ∧ ∀ H', Evl.Ex H H' → Q (.str (x ++ "+")) H'
def tIx (K : PySem.W.Frag) (j : Int) : TE := tOp (rIxT K) (tVar 1) (tC (.int j))
def tbT (K : PySem.W.Frag) (W : WX) : TS :=
  tIfS (tTest (tOp rEq (tIx K 0) (tC (.str "begin")))) (tAsg (tMethS (He.ga K "Bench") "begin" (spBeg K false) (WE W) (tVar 0) (tCons (tIx K 1) (tCons (tIx K 2) (tCons (tIx K 3) tNil)))) (gName 2))
  (tIfS (tTest (tOp rEq (tIx K 0) (tC (.str "rows")))) (tAsg (tMethS (He.ga K "Bench") "begin_rows" (spBeg K true) (WE W) (tVar 0) (tCons (tIx K 1) (tCons (tIx K 2) (tCons (tIx K 3) tNil)))) (gName 2))
  (tIfS (tTest (tOp rEq (tIx K 0) (tC (.str "step")))) (tAsg (tMethS (He.ga K "Bench") "go" (spGo K) (WE W) (tVar 0) (tCons (tIx K 1) tNil)) (gName 2))
    (tAsg (tTup (tCons (tMethS (He.ga K "Bench") "put" (spPut K) (WE W) (tVar 0) (tCons (tIx K 1) (tCons (tIx K 2) (tCons (tIx K 3) tNil)))) tNil)) (gName 2))))
theorem sc_law_tried : FnScope ["bench", "what", "told", "fault", "e"] ["bench", "what"] (defScope s_law_tried) := ⟨rfl, rfl, rfl, by decide +kernel, rfl, by decide +kernel, by decide +kernel⟩
theorem ok_law_tried {P : Program} {w : World} {K : PySem.W.Frag} {mg : Str → Option Value} {base : Heap} (T : Fx K mg) : FnX P w K mg base CX0 9 (He.ga K "_law_tried") ["bench", "what"] (spTriedL K) := by
  refine fx_of T.d_law_tried sc_law_tried (fun _ _ _ _ _ _ us hl => match us, hl with | [_, _], _ => rfl) (fun vs H Q E h => ?_) (fun cdv A outer s H vs Q E hr h => ?_)
  · obtain ⟨b, wt, dx, fs, wh, rfl, _⟩ := h
    rfl
  · refine ⟨_, pss_cons (ps_set (i := 2) sc_law_tried.nd rfl (Or.inl rfl) pe_non) (pss_cons (ps_set (i := 3) sc_law_tried.nd rfl (Or.inl rfl) pe_str)
      (pss_cons (L2N.ps_try_as (i := 4) (tb := tbT K) (ts := fun a cls d => tAsg (tNm K a cls d) (gName 3)) (Wout := fun _ _ _ _ => False) rfl rfl sc_law_tried.nd rfl rfl ⟨rfl, by decide, Or.inl T.g_SlackError⟩ takesN0
        (fun W pn xe tk _ => pss_one (ps_if (pt_cmpR op_eq (pe_ix ix_tup (pv 1) pe_int (fun _ _ => rfl)) pe_str (nomark _))
            (pss_one (ps_set (i := 2) sc_law_tried.nd rfl (Or.inl rfl) (by exact (pe_mS (pv 0) T.c_Bench T.m_Bench_begin (ok_Bench_begin T) (hr.mono (by decide)) (fun σ => L2N.passAt tk σ) (pa_cons (pe_ix ix_tup (pv 1) pe_int (fun _ _ => rfl)) (pa_cons (pe_ix ix_tup (pv 1) pe_int (fun _ _ => rfl)) (pa_cons (pe_ix ix_tup (pv 1) pe_int (fun _ _ => rfl)) pa_nil)))))))
            (pss_one (ps_if (pt_cmpR op_eq (pe_ix ix_tup (pv 1) pe_int (fun _ _ => rfl)) pe_str (nomark _))
              (pss_one (ps_set (i := 2) sc_law_tried.nd rfl (Or.inl rfl) (by exact (pe_mS (pv 0) T.c_Bench T.m_Bench_begin_rows (ok_Bench_begin_rows T) (hr.mono (by decide)) (fun σ => L2N.passAt tk σ) (pa_cons (pe_ix ix_tup (pv 1) pe_int (fun _ _ => rfl)) (pa_cons (pe_ix ix_tup (pv 1) pe_int (fun _ _ => rfl)) (pa_cons (pe_ix ix_tup (pv 1) pe_int (fun _ _ => rfl)) pa_nil)))))))
              (pss_one (ps_if (pt_cmpR op_eq (pe_ix ix_tup (pv 1) pe_int (fun _ _ => rfl)) pe_str (nomark _))
                (pss_one (ps_set (i := 2) sc_law_tried.nd rfl (Or.inl rfl) (by exact (pe_mS (pv 0) T.c_Bench T.m_Bench_go (ok_Bench_go T) (hr.mono (by decide)) (fun σ => L2N.passAt tk σ) (pa_cons (pe_ix ix_tup (pv 1) pe_int (fun _ _ => rfl)) pa_nil)))))
                (pss_one (ps_set (i := 2) sc_law_tried.nd rfl (Or.inl rfl) (by exact (pe_tup (pa_cons (pe_mS (pv 0) T.c_Bench T.m_Bench_put (ok_Bench_put T) (hr.mono (by decide)) (fun σ => L2N.passAt tk σ) (pa_cons (pe_ix ix_tup (pv 1) pe_int (fun _ _ => rfl)) (pa_cons (pe_ix ix_tup (pv 1) pe_int (fun _ _ => rfl)) (pa_cons (pe_ix ix_tup (pv 1) pe_int (fun _ _ => rfl)) pa_nil)))) pa_nil)))))))))))
        (fun a oe cls d pn hz hf => pss_one (ps_set (i := 3) sc_law_tried.nd rfl (Or.inl rfl) (by
          refine ⟨fun pins s σ H Q I h => ?_⟩
          obtain ⟨hs, x, hx, rfl, rfl, hq⟩ := h
          obtain ⟨fv, hfv⟩ := hf
          exact (pe_p (E := L2.E0) (ok_law_name_of T) (p := (a, oe)) ⟨(hr.mono (show 1 ≤ 8 by decide)).dp, (hr.mono (show 1 ≤ 8 by decide)).un⟩ ⟨rfl, fv, hfv, hz.2.2 fv hfv⟩ List.mem_cons_self (by rfl) T.g_law_name_of pass0 (pa_cons (pv 4) pa_nil)).run pins s σ H Q I ⟨_, hs, x, hx, rfl, hz.zc, hq⟩))))
      (pss_one (ps_ret (pe_tup (pa_cons (pv 2) (pa_cons (pv 3) pa_nil))))))), ?_⟩
    obtain ⟨b, wt, dx, fs, wh, rfl, hw, hb, hno, hT⟩ := h
    have ret : ∀ v f e H', NewT H' [v, .str f] Q → tRet (tTup (tCons (tVar 2) (tCons (tVar 3) tNil))) { nx := fun _ H' => Q .non H', rt := Q } [some (.ref b), some (.ref wt), some v, some (.str f), e] H' := fun v f e H' hv =>
      ⟨_, rfl, _, rfl, by show 2 ≤ sizeLine; decide, fun p hp => hv _ p (Evl.Ex.new hp) hp upd_same⟩
    have fe : ∀ (σ1 : L2.St) (v : Option V), σ1 = [some (.ref b), some (.ref wt), some .non, some (.str Str.empty), none] → ∀ c d H', faultE K Q c d H' → wAs K (.ref (He.ga K "SlackError")) 4 (fun a cls d => tAsg (tNm K a cls d) (gName 3)) (fun _ _ _ _ => False) { nx := tRet (tTup (tCons (tVar 2) (tCons (tVar 3) tNil))) { nx := fun _ H' => Q .non H', rt := Q }, rt := Q } c d σ1 H' := by
      rintro σ1 _ rfl c d H' ⟨x, hx, rfl, rfl, hq⟩
      refine ⟨true, ?_, fun _ a ha => ⟨rfl, x, hx, rfl, rfl, fun H'' e'' => ret _ _ _ _ (hq H'' e'')⟩, fun q => nomatch q⟩
      simp only [List.mem_cons, List.not_mem_nil, or_false] at hx
      rcases hx with rfl | rfl | rfl
      · exact T.y_NoRoom
      · exact T.y_NoWork
      · exact T.y_NoCell
    cases wh with
    | beg r x d n =>
      have hw' : SqT K H wt [.str (wordOf r), .int x, .int d, .int (n : Nat)] := hw
      refine ⟨_, rfl, wt, _, _, _, rfl, rfl, hw', rfl, rfl, _, rfl, ?_⟩
      cases r with
      | false =>
        refine itT (c := V.str (wordOf false) = V.str "begin") rfl ?_
        refine ⟨_, rfl, b, dx, _, rfl, hb, hno _ (by decide), _, rfl, wt, _, _, _, rfl, rfl, hw', rfl, _, rfl, wt, _, _, _, rfl, rfl, hw', rfl, _, rfl, wt, _, _, _, rfl, rfl, hw', rfl, ?_⟩
        exact spBeg_mono (Q := goneQ Q) (E := faultE K Q) (fun v H' hv => ret v Str.empty _ H' hv) (fe _ none rfl) hT
      | true =>
        refine itF (c := V.str (wordOf true) = V.str "begin") (by decide) ?_
        refine ⟨_, rfl, wt, _, _, _, rfl, rfl, hw', rfl, rfl, _, rfl, ?_⟩
        refine itT (c := V.str (wordOf true) = V.str "rows") rfl ?_
        refine ⟨_, rfl, b, dx, _, rfl, hb, hno _ (by decide), _, rfl, wt, _, _, _, rfl, rfl, hw', rfl, _, rfl, wt, _, _, _, rfl, rfl, hw', rfl, _, rfl, wt, _, _, _, rfl, rfl, hw', rfl, ?_⟩
        exact spBeg_mono (Q := goneQ Q) (E := faultE K Q) (fun v H' hv => ret v Str.empty _ H' hv) (fe _ none rfl) hT
    | step n =>
      have hw' : SqT K H wt [.str "step", .int n] := hw
      refine ⟨_, rfl, wt, _, _, _, rfl, rfl, hw', rfl, rfl, _, rfl, ?_⟩
      refine itF (c := V.str "step" = V.str "begin") (by decide) ?_
      refine ⟨_, rfl, wt, _, _, _, rfl, rfl, hw', rfl, rfl, _, rfl, ?_⟩
      refine itF (c := V.str "step" = V.str "rows") (by decide) ?_
      refine ⟨_, rfl, wt, _, _, _, rfl, rfl, hw', rfl, rfl, _, rfl, ?_⟩
      refine itT (c := V.str "step" = V.str "step") rfl ?_
      refine ⟨_, rfl, b, dx, _, rfl, hb, hno _ (by decide), _, rfl, wt, _, _, _, rfl, rfl, hw', rfl, ?_⟩
      exact spGo_mono (Q := goneQ Q) (E := faultE K Q) (fun v H' hv => ret v Str.empty _ H' hv) (fe _ none rfl) hT
    | put t l fv =>
      have hw' : SqT K H wt [.str "put", .int t, .int l, fv] := hw
      refine ⟨_, rfl, wt, _, _, _, rfl, rfl, hw', rfl, rfl, _, rfl, ?_⟩
      refine itF (c := V.str "put" = V.str "begin") (by decide) ?_
      refine ⟨_, rfl, wt, _, _, _, rfl, rfl, hw', rfl, rfl, _, rfl, ?_⟩
      refine itF (c := V.str "put" = V.str "rows") (by decide) ?_
      refine ⟨_, rfl, wt, _, _, _, rfl, rfl, hw', rfl, rfl, _, rfl, ?_⟩
      refine itF (c := V.str "put" = V.str "step") (by decide) ?_
      refine ⟨_, rfl, b, dx, _, rfl, hb, hno _ (by decide), _, rfl, wt, _, _, _, rfl, rfl, hw', rfl, _, rfl, wt, _, _, _, rfl, rfl, hw', rfl, _, rfl, wt, _, _, _, rfl, rfl, hw', rfl, ?_⟩
      exact spPut_mono (Q := goneT Q) (Q' := fun v H' => [v].length ≤ sizeLine ∧ ∀ p, H' p = none → tRet (tTup (tCons (tVar 2) (tCons (tVar 3) tNil))) { nx := fun _ H' => Q .non H', rt := Q } [some (.ref b), some (.ref wt), some (.ref p), some (.str Str.empty), none] (upd H' p (.tup [v]))) (E := faultE K Q) (fun v H' hv => ⟨by show 1 ≤ sizeLine; decide, fun p hp => ret (.ref p) Str.empty _ _ (hv _ p (Evl.Ex.new hp) hp upd_same)⟩) (fe _ none rfl) hT
end SF
end
section
set_option Elab.async false
set_option linter.all false
set_option maxRecDepth 100000
set_option maxHeartbeats 4000000
namespace SF
open PySem PySem.Spec PyProof.Rows L2
/-! ### three numbers in two -/
theorem three_nat : ∀ (n a b c : Nat), a < 2 ^ n → b < 2 ^ n → c < 2 ^ n → (a ^^^ b ^^^ c) + 2 * ((a &&& b) ||| (a &&& c) ||| (b &&& c)) = a + b + c
  | 0, a, b, c, ha, hb, hc => by
    have e1 : a = 0 := by simpa using ha
    have e2 : b = 0 := by simpa using hb
    have e3 : c = 0 := by simpa using hc
    subst e1 e2 e3
    decide
  | n + 1, a, b, c, ha, hb, hc => by
    have ih := three_nat n (a / 2) (b / 2) (c / 2) (by rw [Nat.pow_succ] at ha; omega) (by rw [Nat.pow_succ] at hb; omega) (by rw [Nat.pow_succ] at hc; omega)
    have x1 : (a ^^^ b ^^^ c) / 2 = a / 2 ^^^ b / 2 ^^^ c / 2 := by rw [Nat.xor_div_two, Nat.xor_div_two]
    have y1 : ((a &&& b) ||| (a &&& c) ||| (b &&& c)) / 2 = (a / 2 &&& b / 2) ||| (a / 2 &&& c / 2) ||| (b / 2 &&& c / 2) := by rw [Nat.or_div_two, Nat.or_div_two, Nat.and_div_two, Nat.and_div_two, Nat.and_div_two]
    have x2 : (a ^^^ b ^^^ c) % 2 = (a % 2 ^^^ b % 2 ^^^ c % 2) % 2 := by
      have := Nat.xor_mod_two_pow (a := a ^^^ b) (b := c) (n := 1)
      have h2 := Nat.xor_mod_two_pow (a := a) (b := b) (n := 1)
      simp only [Nat.pow_one] at this h2
      rw [this, h2]
      rcases Nat.mod_two_eq_zero_or_one a with p | p <;> rcases Nat.mod_two_eq_zero_or_one b with q | q <;> rcases Nat.mod_two_eq_zero_or_one c with r | r <;> rw [p, q, r] <;> decide
    have y2 : ((a &&& b) ||| (a &&& c) ||| (b &&& c)) % 2 = ((a % 2 &&& b % 2) ||| (a % 2 &&& c % 2) ||| (b % 2 &&& c % 2)) % 2 := by
      have h1 := Nat.or_mod_two_pow (a := (a &&& b) ||| (a &&& c)) (b := b &&& c) (n := 1)
      have h2 := Nat.or_mod_two_pow (a := a &&& b) (b := a &&& c) (n := 1)
      have h3 := Nat.and_mod_two_pow (a := a) (b := b) (n := 1)
      have h4 := Nat.and_mod_two_pow (a := a) (b := c) (n := 1)
      have h5 := Nat.and_mod_two_pow (a := b) (b := c) (n := 1)
      simp only [Nat.pow_one] at h1 h2 h3 h4 h5
      rw [h1, h2, h3, h4, h5]
      rcases Nat.mod_two_eq_zero_or_one a with p | p <;> rcases Nat.mod_two_eq_zero_or_one b with q | q <;> rcases Nat.mod_two_eq_zero_or_one c with r | r <;> rw [p, q, r] <;> decide
    have z : (a ^^^ b ^^^ c) % 2 + 2 * (((a &&& b) ||| (a &&& c) ||| (b &&& c)) % 2) = a % 2 + b % 2 + c % 2 := by
      rw [x2, y2]
      rcases Nat.mod_two_eq_zero_or_one a with p | p <;> rcases Nat.mod_two_eq_zero_or_one b with q | q <;> rcases Nat.mod_two_eq_zero_or_one c with r | r <;> rw [p, q, r] <;> decide
    rw [← x1, ← y1] at ih
    generalize a ^^^ b ^^^ c = X at *
    generalize (a &&& b) ||| (a &&& c) ||| (b &&& c) = Y at *
    omega
theorem or_nat : ∀ (n a b : Nat), a < 2 ^ n → b < 2 ^ n → (a ||| b) = (a &&& b) + (a ^^^ b)
  | 0, a, b, ha, hb => by
    have e1 : a = 0 := by simpa using ha
    have e2 : b = 0 := by simpa using hb
    subst e1 e2
    decide
  | n + 1, a, b, ha, hb => by
    have ih := or_nat n (a / 2) (b / 2) (by rw [Nat.pow_succ] at ha; omega) (by rw [Nat.pow_succ] at hb; omega)
    rw [← Nat.or_div_two, ← Nat.and_div_two, ← Nat.xor_div_two] at ih
    have z : (a ||| b) % 2 = (a &&& b) % 2 + (a ^^^ b) % 2 := by
      have h1 := Nat.or_mod_two_pow (a := a) (b := b) (n := 1)
      have h2 := Nat.and_mod_two_pow (a := a) (b := b) (n := 1)
      have h3 := Nat.xor_mod_two_pow (a := a) (b := b) (n := 1)
      simp only [Nat.pow_one] at h1 h2 h3
      rw [h1, h2, h3]
      rcases Nat.mod_two_eq_zero_or_one a with p | p <;> rcases Nat.mod_two_eq_zero_or_one b with q | q <;> rw [p, q] <;> decide
    generalize a ^^^ b = X at *
    generalize a &&& b = Y at *
    generalize a ||| b = Z at *
    omega
theorem bitAnd_pp {x y : Int} (hx : 0 ≤ x) (hy : 0 ≤ y) : Builtin.bitAnd x y = ((x.toNat &&& y.toNat : Nat) : Int) := by
  unfold Builtin.bitAnd
  rw [decide_eq_true hx, decide_eq_true hy]
theorem bitXor_pp {x y : Int} (hx : 0 ≤ x) (hy : 0 ≤ y) : Builtin.bitXor x y = ((x.toNat ^^^ y.toNat : Nat) : Int) := by
  unfold Builtin.bitXor
  rw [bitOr_nn hx hy, bitAnd_pp hx hy]
  have h : x.toNat ||| y.toNat = (x.toNat &&& y.toNat) + (x.toNat ^^^ y.toNat) := by
    have h1 : x.toNat < 2 ^ (x.toNat + y.toNat) := Nat.lt_of_lt_of_le Nat.lt_two_pow_self (Nat.pow_le_pow_right (by decide) (by omega))
    have h2 : y.toNat < 2 ^ (x.toNat + y.toNat) := Nat.lt_of_lt_of_le Nat.lt_two_pow_self (Nat.pow_le_pow_right (by decide) (by omega))
    exact or_nat _ _ _ h1 h2
  omega
/-- t3o, t3m of numbers below 2 ^ n -/
theorem three_int {n : Nat} {a b c : Int} (a0 : 0 ≤ a) (a1 : a < 2 ^ n) (b0 : 0 ≤ b) (b1 : b < 2 ^ n) (c0 : 0 ≤ c) (c1 : c < 2 ^ n) : t3o a b c + 2 * t3m a b c = a + b + c ∧ 0 ≤ t3o a b c ∧ t3o a b c < 2 ^ n ∧ 0 ≤ t3m a b c := by
  obtain ⟨x, rfl⟩ : ∃ x : Nat, a = (x : Int) := ⟨a.toNat, (Int.toNat_of_nonneg a0).symm⟩
  obtain ⟨y, rfl⟩ : ∃ x : Nat, b = (x : Int) := ⟨b.toNat, (Int.toNat_of_nonneg b0).symm⟩
  obtain ⟨z, rfl⟩ : ∃ x : Nat, c = (x : Int) := ⟨c.toNat, (Int.toNat_of_nonneg c0).symm⟩
  have hx : x < 2 ^ n := by exact_mod_cast a1
  have hy : y < 2 ^ n := by exact_mod_cast b1
  have hz : z < 2 ^ n := by exact_mod_cast c1
  have key := three_nat n x y z hx hy hz
  have e1 : t3o x y z = ((x ^^^ y ^^^ z : Nat) : Int) := by
    unfold t3o
    rw [bitXor_pp a0 b0, bitXor_pp (Int.natCast_nonneg _) c0]
    rfl
  have e2 : t3m x y z = (((x &&& y) ||| (x &&& z) ||| (y &&& z) : Nat) : Int) := by
    unfold t3m
    rw [bitAnd_pp a0 b0, bitAnd_pp a0 c0, bitAnd_pp b0 c0, bitOr_nn (Int.natCast_nonneg _) (Int.natCast_nonneg _), bitOr_nn (Int.natCast_nonneg _) (Int.natCast_nonneg _)]
    rfl
  have hlt : x ^^^ y ^^^ z < 2 ^ n := Nat.xor_lt_two_pow (Nat.xor_lt_two_pow hx hy) hz
  rw [e1, e2]
  refine ⟨by exact_mod_cast key, Int.natCast_nonneg _, by exact_mod_cast hlt, Int.natCast_nonneg _⟩
/-! ### the signed rest -/
theorem pw_uniq {W : Nat} (hW : 1 ≤ W) {a b r : Int} (h : (a + b) % 2 ^ W = r % 2 ^ W) (h0 : -(2 ^ (W - 1)) ≤ r) (h1 : r < 2 ^ (W - 1)) : pw W a b = r := by
  have e : (2 : Int) ^ W = 2 * 2 ^ (W - 1) := by
    rw [show W = (W - 1) + 1 by omega, Int.pow_succ, Int.mul_comm]
    rfl
  have p := two_pos (W - 1)
  unfold pw
  rw [h, e]
  generalize (2 : Int) ^ (W - 1) = M at *
  by_cases hr : 0 ≤ r
  · rw [Int.emod_eq_of_lt hr (by omega), if_neg (by omega)]
  · have e2 : r % (2 * M) = r + 2 * M := by
      rw [← Int.add_emod_right r (2 * M), Int.emod_eq_of_lt (by omega) (by omega)]
    rw [e2, if_pos (by omega)]
    omega
theorem pw_mod {W : Nat} {a b : Int} : (a + b) % 2 ^ W = pw W a b % 2 ^ W := by
  unfold pw
  split
  · rw [Int.sub_emod, Int.emod_self, Int.sub_zero, Int.emod_emod, Int.emod_emod]
  · rw [Int.emod_emod]
end SF
end
section
set_option Elab.async false
set_option linter.all false
set_option maxRecDepth 100000
set_option maxHeartbeats 4000000
namespace SF
open PySem PySem.Spec PyProof.Rows L2
/-! ### what holds of a work -/
def Wk.st (c : Kd) (w : Wk) : Int := if w.rows = true then pw (w.wide + c.k + 2) w.sa w.sb else w.sa
structure WkOk (c : Kd) (w : Wk) : Prop where
  wd : w.wide ≤ 4035
  wt : c.t ≤ w.wide
  wp : c.p ≤ w.wide
  g0 : 2 ^ (w.wide - 1) ≤ w.great
  g1 : w.great < 2 ^ w.wide
  ln : w.figs.length + w.left ≤ 1010
  fg : ∀ f ∈ w.figs, f.natAbs ≤ 7
  bd : Big w.d
  st : (c.base - 1) * ab (w.st c) ≤ c.m * w.great
theorem ab_le {c : Kd} (ok : c.Ok) {s g : Int} (g0 : 0 ≤ g) (h : (c.base - 1) * ab s ≤ c.m * g) : ab s ≤ g := by
  have b2 := ok.b2
  have h1 : c.m * g ≤ (c.base - 1) * g := Int.mul_le_mul_of_nonneg_right ok.mb g0
  exact Int.le_of_mul_le_mul_left (Int.le_trans h h1) (by omega)
theorem ab_two {s g : Int} (h : ab s ≤ g) : -g ≤ s ∧ s ≤ g := by
  unfold ab at h
  split at h <;> omega
theorem WkOk.stb {c : Kd} (ok : c.Ok) {w : Wk} (h : WkOk c w) : -(2 ^ w.wide) < w.st c ∧ w.st c < 2 ^ w.wide := by
  have g := h.g0
  have p := two_pos (w.wide - 1)
  have := ab_two (ab_le ok (by omega) h.st)
  have g1 := h.g1
  omega
theorem pow_split (a b : Nat) : (2 : Int) ^ (a + b) = 2 ^ a * 2 ^ b := Int.pow_add 2 a b
theorem mul_two {s P B : Int} (hB : 0 < B) (h0 : -P < s) (h1 : s < P) : -(P * B) < s * B ∧ s * B < P * B := by
  refine ⟨?_, Int.mul_lt_mul_of_pos_right h1 hB⟩
  rw [← Int.neg_mul]
  exact Int.mul_lt_mul_of_pos_right h0 hB
theorem base_pos (c : Kd) : 0 < c.base := two_pos c.k
theorem WkOk.rs {c : Kd} (ok : c.Ok) {w : Wk} (h : WkOk c w) : w.rs c = w.st c * c.base := by
  obtain ⟨s0, s1⟩ := h.stb ok
  unfold Wk.rs
  by_cases e : w.rows = true
  · rw [if_pos e]
    have eS : w.st c = pw (w.wide + c.k + 2) w.sa w.sb := by unfold Wk.st; rw [if_pos e]
    obtain ⟨t0, t1⟩ := mul_two (base_pos c) s0 s1
    have eW : (2 : Int) ^ (w.wide + c.k + 2 - 1) = 2 ^ w.wide * c.base * 2 := by
      rw [show w.wide + c.k + 2 - 1 = w.wide + c.k + 1 by omega, pow_split, pow_split]
      rfl
    have pp : (0 : Int) < 2 ^ w.wide * c.base := Int.mul_pos (two_pos _) (base_pos c)
    unfold reR
    refine pw_uniq (by omega) ?_ (by rw [eW]; omega) (by rw [eW]; omega)
    unfold stA
    rw [← Int.add_emod, ← Int.add_mul, Int.mul_emod, pw_mod, ← eS, ← Int.mul_emod]
  · rw [if_neg e]
    unfold Wk.st
    rw [if_neg e]
theorem WkOk.rsb {c : Kd} (ok : c.Ok) {w : Wk} (h : WkOk c w) : -(2 ^ w.wide * c.base) < w.rs c ∧ w.rs c < 2 ^ w.wide * c.base := by
  obtain ⟨s0, s1⟩ := h.stb ok
  rw [h.rs ok]
  exact mul_two (base_pos c) s0 s1
theorem div_two {L A R : Int} (hL : 0 < L) (h0 : -(A * L) < R) (h1 : R < A * L) : -A ≤ R / L ∧ R / L < A :=
  ⟨(Int.le_ediv_iff_mul_le hL).mpr (by rw [Int.neg_mul]; omega), (Int.ediv_lt_iff_lt_mul hL).mpr h1⟩
/-- the parts of two numbers, cut at L, add up to the part of the sum, or to one below -/
theorem cut_two {L N a b R : Int} (hL : 0 < L) (h : (a + b) % (N * L) = R % (N * L)) : ∃ z : Int, (z = 0 ∨ z = -1) ∧ (a / L + b / L) % N = (R / L + z) % N := by
  have h1 : (N * L) ∣ (a + b) - R := Int.dvd_of_emod_eq_zero (Int.emod_eq_emod_iff_emod_sub_eq_zero.mp h)
  obtain ⟨j, hj⟩ := h1
  have ea := Int.mul_ediv_add_emod a L
  have eb := Int.mul_ediv_add_emod b L
  have er := Int.mul_ediv_add_emod R L
  have a0 := Int.emod_nonneg a (show L ≠ 0 by omega)
  have a1 := Int.emod_lt_of_pos a hL
  have b0 := Int.emod_nonneg b (show L ≠ 0 by omega)
  have b1 := Int.emod_lt_of_pos b hL
  have r0 := Int.emod_nonneg R (show L ≠ 0 by omega)
  have r1 := Int.emod_lt_of_pos R hL
  generalize a / L = qa at *
  generalize b / L = qb at *
  generalize R / L = qr at *
  generalize a % L = ra at *
  generalize b % L = rb at *
  generalize R % L = rr at *
  have key : L * (qa + qb - qr - N * j) = rr - ra - rb := by
    have e1 : L * (qa + qb - qr - N * j) = L * qa + L * qb - L * qr - N * L * j := by
      rw [Int.mul_sub, Int.mul_sub, Int.mul_add, ← Int.mul_assoc, Int.mul_comm L N]
    omega
  generalize hz : qa + qb - qr - N * j = z at *
  have z0 : z < 1 := by
    apply Decidable.byContradiction
    intro n
    have : L * 1 ≤ L * z := Int.mul_le_mul_of_nonneg_left (by omega) (by omega)
    omega
  have z1 : -2 < z := by
    apply Decidable.byContradiction
    intro n
    have : L * z ≤ L * (-2) := Int.mul_le_mul_of_nonneg_left (by omega) (by omega)
    omega
  refine ⟨z, by omega, ?_⟩
  rw [show qa + qb = qr + z + N * j by omega, Int.add_mul_emod_self_left]
theorem WkOk.lkb {c : Kd} (ok : c.Ok) {w : Wk} (h : WkOk c w) : -c.half ≤ w.lk c ∧ w.lk c < c.half := by
  obtain ⟨r0, r1⟩ := h.rsb ok
  have wp := h.wp
  have eL : (2 : Int) ^ w.wide * c.base = c.base * 2 ^ c.p * 2 ^ (w.wide - c.p) := by
    rw [Int.mul_assoc, ← pow_split, Int.mul_comm, show c.p + (w.wide - c.p) = w.wide by omega]
  rw [eL] at r0 r1
  have hL := two_pos (w.wide - c.p)
  obtain ⟨d0, d1⟩ := div_two hL r0 r1
  have hh : c.half = c.base * 2 ^ c.p + 2 := rfl
  unfold Wk.lk
  by_cases e : w.rows = true
  · rw [if_pos e]
    have eR : w.rs c = reR c w.wide w.sa w.sb := by unfold Wk.rs; rw [if_pos e]
    have eW : w.wide + c.k + 2 - (w.wide - c.p) = c.p + c.k + 2 := by omega
    have eM : (2 : Int) ^ (w.wide + c.k + 2) = 2 ^ (c.p + c.k + 2) * 2 ^ (w.wide - c.p) := by
      rw [← pow_split]
      congr 1
      omega
    have hm : (stA c w.wide w.sa + stA c w.wide w.sb) % (2 ^ (c.p + c.k + 2) * 2 ^ (w.wide - c.p)) = w.rs c % (2 ^ (c.p + c.k + 2) * 2 ^ (w.wide - c.p)) := by
      rw [eR, ← eM]
      exact pw_mod
    obtain ⟨z, hz, hq⟩ := cut_two hL hm
    have e2 : (2 : Int) ^ (c.p + c.k + 2 - 1) = c.base * 2 ^ c.p * 2 := by
      rw [show c.p + c.k + 2 - 1 = c.p + c.k + 1 by omega, pow_split, pow_split, Int.mul_comm (2 ^ c.p)]
      rfl
    have pp : (2 : Int) ≤ c.base * 2 ^ c.p := by
      have := ok.b2
      have := Int.mul_le_mul (a := 2) (c := c.base) (b := 1) (d := 2 ^ c.p) this (p32 ok.p5).2 (by decide) (by omega)
      omega
    have eU : lkR c w.wide w.sa w.sb = w.rs c / 2 ^ (w.wide - c.p) + z := by
      unfold lkR
      rw [eW]
      exact pw_uniq (by omega) hq (by rw [e2]; omega) (by rw [e2]; omega)
    rw [eU]
    omega
  · rw [if_neg e]
    have eR : w.rs c = w.sa * c.base := by unfold Wk.rs; rw [if_neg e]
    rw [← eR]
    omega
theorem WkOk.tpb {c : Kd} (ok : c.Ok) {w : Wk} (h : WkOk c w) : 2 ^ (c.t - 1) ≤ w.tp c ∧ w.tp c < 2 ^ c.t := by
  have t1 := ok.t1
  have wt := h.wt
  have g0 := h.g0
  have g1 := h.g1
  have hL := two_pos (w.wide - c.t)
  refine ⟨(Int.le_ediv_iff_mul_le hL).mpr ?_, (Int.ediv_lt_iff_lt_mul hL).mpr ?_⟩
  · rw [← pow_split, show c.t - 1 + (w.wide - c.t) = w.wide - 1 by omega]
    exact g0
  · rw [← pow_split, show c.t + (w.wide - c.t) = w.wide by omega]
    exact g1
theorem WkOk.fit {c : Kd} (ok : c.Ok) {w : Wk} (h : WkOk c w) {tab : List (List (Option Int))} (ht : TabOk c tab) : ∃ e, Fit c tab w e ∧ EntOk c e := by
  obtain ⟨t0, t1⟩ := h.tpb ok
  obtain ⟨l0, l1⟩ := h.lkb ok
  have m7 := ok.m7
  have ot := ok.t1
  have hi : topI c (w.tp c) < tab.length := by
    rw [ht.1]
    have e : (2 : Int) ^ c.t = 2 ^ (c.t - 1) * 2 := by
      have := pow_split (c.t - 1) 1
      rw [show c.t - 1 + 1 = c.t by omega] at this
      rw [this]
      rfl
    have p := two_pos (c.t - 1)
    have en : (2 : Int) ^ (c.t - 1) = ((2 ^ (c.t - 1) : Nat) : Int) := by simp
    rw [e] at t1
    unfold topI
    omega
  obtain ⟨rl, re⟩ := ht.2 _ (List.getElem_mem hi)
  have hj : colI c (w.lk c) < (tab[topI c (w.tp c)]).length := by
    rw [rl]
    have := ok.half_lt
    unfold colI
    omega
  have hE := re _ (List.getElem_mem hj)
  refine ⟨_, ⟨by have := h.wd; omega, h.wt, h.wp, by omega, by omega, ?_, fun f hf => ?_⟩, hE⟩
  · unfold entAt
    rw [List.getElem?_eq_getElem hi]
    show (tab[topI c (w.tp c)])[_]? = _
    rw [List.getElem?_eq_getElem hj]
  · have := hE f hf
    have q1 : (2 : Int) ^ 63 = 9223372036854775808 := by decide
    rw [q1]
    omega
theorem WkOk.nxt {c : Kd} (ok : c.Ok) {w : Wk} (h : WkOk c w) {e : Option Int} {f : Int} (he : EntOk c e) (hf : w.stF c e = some f) (hl : w.left ≠ 0) : WkOk c (w.nxt c f) := by
  have hs : e = some f ∧ sv c f w.great (w.rs c) := by
    cases e with
    | none => cases hf
    | some g =>
      unfold Wk.stF at hf
      dsimp only at hf
      split at hf
      · rename_i q
        cases hf
        exact ⟨rfl, q⟩
      · cases hf
  obtain ⟨rfl, hsv⟩ := hs
  have hm := he f rfl
  have m7 := ok.m7
  have g0 := h.g0
  have p := two_pos (w.wide - 1)
  have g1 := h.g1
  have ln := h.ln
  have eSt : (w.nxt c f).st c = w.rs c - f * w.great := by
    have hab := ab_two (ab_le ok (by omega) hsv)
    unfold Wk.st Wk.nxt
    dsimp only
    by_cases er : w.rows = true
    · rw [if_pos er, if_pos er, if_pos er]
      have eR : w.rs c = reR c w.wide w.sa w.sb := by unfold Wk.rs; rw [if_pos er]
      have mp := two_pos (w.wide + c.k + 2)
      have a0 : 0 ≤ stA c w.wide w.sa := Int.emod_nonneg _ (by omega)
      have a1 : stA c w.wide w.sa < 2 ^ (w.wide + c.k + 2) := Int.emod_lt_of_pos _ mp
      have b0 : 0 ≤ stA c w.wide w.sb := Int.emod_nonneg _ (by omega)
      have b1 : stA c w.wide w.sb < 2 ^ (w.wide + c.k + 2) := Int.emod_lt_of_pos _ mp
      have c0 : 0 ≤ thR c w.wide f w.great := Int.emod_nonneg _ (by omega)
      have c1 : thR c w.wide f w.great < 2 ^ (w.wide + c.k + 2) := Int.emod_lt_of_pos _ mp
      have t3 := (three_int a0 a1 b0 b1 c0 c1).1
      have eW : (2 : Int) ^ (w.wide + c.k + 2 - 1) = 2 ^ w.wide * (2 ^ c.k * 2) := by
        rw [show w.wide + c.k + 2 - 1 = w.wide + (c.k + 1) by omega, pow_split, pow_split]
        rfl
      have le1 : (2 : Int) ^ w.wide * 1 ≤ 2 ^ w.wide * (2 ^ c.k * 2) := Int.mul_le_mul_of_nonneg_left (by have := two_pos c.k; omega) (by have := two_pos w.wide; omega)
      refine pw_uniq (by omega) ?_ (by rw [eW]; omega) (by rw [eW]; omega)
      rw [Int.add_emod, Int.emod_emod, ← Int.add_emod, t3]
      have q : (stA c w.wide w.sa + stA c w.wide w.sb) % 2 ^ (w.wide + c.k + 2) = w.rs c % 2 ^ (w.wide + c.k + 2) := by rw [eR]; exact pw_mod
      rw [Int.add_emod, q]
      unfold thR
      rw [Int.emod_emod, ← Int.add_emod, Int.neg_mul]
      rfl
    · rw [if_neg er, if_neg er]
      have eR : w.rs c = w.sa * c.base := by unfold Wk.rs; rw [if_neg er]
      rw [eR]
  refine ⟨h.wd, h.wt, h.wp, h.g0, h.g1, ?_, fun g hg => ?_, h.bd, ?_⟩
  · show (w.figs ++ [f]).length + (w.left - 1) ≤ 1010
    rw [List.length_append]
    show w.figs.length + 1 + (w.left - 1) ≤ 1010
    omega
  · rcases List.mem_append.mp hg with h1 | h1
    · exact h.fg g h1
    · rw [List.mem_singleton.mp h1]
      omega
  · rw [eSt]
    exact hsv
theorem ab_mul {x j : Int} (hj : 0 ≤ j) : ab (x * j) = ab x * j := by
  rw [ab_nat, ab_nat, Int.natAbs_mul, Int.natCast_mul, Int.natAbs_of_nonneg hj]
theorem w0_ok {c : Kd} (ok : c.Ok) {r : Bool} {x d : Int} {n : Nat} (hd : 0 < d) (bd : Big d) (hn : n ≤ 1010) (hr : room c x d n) : WkOk c (w0 c r x d n) := by
  have jp := two_pos (gm c d n).toNat
  have gp : 0 < gG c d n := Int.mul_pos (g0_pos hd n) jp
  have eb : bits (gG c d n) = gW c d n := bits_gG hd n
  have w1 : (gG c d n).natAbs < 2 ^ gW c d n := intBits_le_iff.mp (Nat.le_of_eq eb)
  have hmx : mx c ≤ (gW c d n : Nat) := by
    have := gm_nn c d n
    unfold gW
    have h2 : mx c - ((bits (g0 c d n) : Nat) : Int) ≤ gm c d n := by unfold gm; split <;> omega
    omega
  have ht : (c.t : Int) ≤ mx c := by unfold mx; split <;> omega
  have hp : (c.p : Int) ≤ mx c := by unfold mx; split <;> omega
  have ot := ok.t1
  have g1 : gG c d n < 2 ^ gW c d n := by
    have : ((gG c d n).natAbs : Int) < ((2 ^ gW c d n : Nat) : Int) := by exact_mod_cast w1
    simp at this
    omega
  have g0' : 2 ^ (gW c d n - 1) ≤ gG c d n := by
    apply Decidable.byContradiction
    intro z
    have z2 : (gG c d n).natAbs < 2 ^ (gW c d n - 1) := by
      have : ((gG c d n).natAbs : Int) < ((2 ^ (gW c d n - 1) : Nat) : Int) := by simp; omega
      exact_mod_cast this
    have := intBits_le_iff.mpr z2
    have e2 : Builtin.Int.intBits (gG c d n) = gW c d n := eb
    omega
  have sv0 : (c.base - 1) * ab (gX c x d n) ≤ c.m * gG c d n := by
    unfold gX gG g0
    rw [ab_mul (by omega), ← Int.mul_assoc, ← Int.mul_assoc, ← Int.mul_assoc]
    exact Int.mul_le_mul_of_nonneg_right hr (by omega)
  refine ⟨gW_le ok bd hn, by show c.t ≤ gW c d n; omega, by show c.p ≤ gW c d n; omega, g0', g1, by show 0 + n ≤ 1010; omega, fun f hf => (nomatch hf), bd, ?_⟩
  have eS : (w0 c r x d n).st c = gX c x d n := by
    have hab := ab_two (ab_le ok (by omega) sv0)
    unfold Wk.st w0
    dsimp only
    by_cases e : r = true
    · rw [if_pos e, if_pos e]
      have eW : (2 : Int) ^ (gW c d n + c.k + 2 - 1) = 2 ^ gW c d n * (2 ^ c.k * 2) := by
        rw [show gW c d n + c.k + 2 - 1 = gW c d n + (c.k + 1) by omega, pow_split, pow_split]
        rfl
      have le1 : (2 : Int) ^ gW c d n * 1 ≤ 2 ^ gW c d n * (2 ^ c.k * 2) := Int.mul_le_mul_of_nonneg_left (by have := two_pos c.k; omega) (by have := two_pos (gW c d n); omega)
      exact pw_uniq (by omega) (by rw [Int.add_zero, Int.emod_emod]) (by rw [eW]; omega) (by rw [eW]; omega)
    · rw [if_neg e, if_neg e]
  rw [eS]
  exact sv0
end SF
end
section
set_option Elab.async false
set_option linter.all false
set_option maxRecDepth 100000
set_option maxHeartbeats 4000000
namespace SF
open PySem PySem.Spec PyProof.Rows L2
/-! ### what holds of a state -/
structure StOk (c : Kd) (S : Sta) : Prop where
  tab : TabOk c S.tab
  wk : ∀ w ∈ S.works, WkOk c w
  seen : SeenP S.seen
structure StLen (S : Sta) (n : Nat) : Prop where
  ws : S.works.length ≤ n
  sn : S.seen.length ≤ n
  dn : S.deeds.length ≤ n
theorem StLen.mono {S : Sta} {n m : Nat} (h : StLen S n) (le : n ≤ m) : StLen S m := ⟨Nat.le_trans h.ws le, Nat.le_trans h.sn le, Nat.le_trans h.dn le⟩
section
variable {c : Kd} {S : Sta} {n : Nat}
theorem StOk.beg (ok : c.Ok) (h : StOk c S) {r : Bool} {x d : Int} {m : Nat} (hd : 0 < d) (bd : Big d) (hm : m ≤ 1010) (hr : room c x d m) : StOk c (S.begS c r x d m) :=
  ⟨h.tab, fun w hw => (List.mem_append.mp hw).elim (h.wk w) fun z => by rw [List.mem_singleton.mp z]; exact w0_ok ok hd bd hm hr, h.seen⟩
theorem StOk.saw (h : StOk c S) {w : Wk} {j : Int} : StOk c (S.saw c w j) := ⟨h.tab, h.wk, (h.seen.bump _).1⟩
theorem StOk.fwd (ok : c.Ok) (h : StOk c S) {i : Nat} {w : Wk} {j f : Int} {e : Option Int} (hw : S.works[i]? = some w) (he : EntOk c e) (hf : w.stF c e = some f) (hl : w.left ≠ 0) : StOk c (S.fwd c i w j f) :=
  ⟨h.tab, fun w' hw' => (List.mem_or_eq_of_mem_set hw').elim (h.wk w') fun z => by rw [z]; exact (h.wk w (List.mem_of_getElem? hw)).nxt ok he hf hl, (h.seen.bump _).1⟩
theorem StOk.put (h : StOk c S) {t l : Int} {e : Option Int} (he : eOk c e) : StOk c (S.putS c t l e) := by
  refine ⟨?_, h.wk, h.seen⟩
  show TabOk c (setE S.tab (topI c t) (colI c l) e)
  unfold setE
  cases hr : S.tab[topI c t]? with
  | none => exact h.tab
  | some row => exact h.tab.setE hr fun i hi => by have := ab_two (he i hi); omega
theorem StLen.beg (h : StLen S n) {r : Bool} {x d : Int} {m : Nat} : StLen (S.begS c r x d m) (n + 1) :=
  ⟨by show (S.works ++ [_]).length ≤ _; rw [List.length_append]; exact Nat.succ_le_succ h.ws, Nat.le_succ_of_le h.sn, by show (S.deeds ++ [_]).length ≤ _; rw [List.length_append]; exact Nat.succ_le_succ h.dn⟩
theorem StLen.saw (k : StOk c S) (h : StLen S n) {w : Wk} {j : Int} : StLen (S.saw c w j) (n + 1) :=
  ⟨Nat.le_succ_of_le h.ws, Nat.le_trans (k.seen.bump _).2 (Nat.succ_le_succ h.sn), by show (S.deeds ++ [_]).length ≤ _; rw [List.length_append]; exact Nat.succ_le_succ h.dn⟩
theorem StLen.fwd (k : StOk c S) (h : StLen S n) {i : Nat} {w : Wk} {j f : Int} : StLen (S.fwd c i w j f) (n + 1) :=
  ⟨by show (S.works.set _ _).length ≤ _; rw [List.length_set]; exact Nat.le_succ_of_le h.ws, (h.saw k (w := w) (j := j)).sn, (h.saw k (w := w) (j := j)).dn⟩
theorem StLen.put (h : StLen S n) {t l : Int} {e : Option Int} : StLen (S.putS c t l e) (n + 1) :=
  ⟨Nat.le_succ_of_le h.ws, Nat.le_succ_of_le h.sn, by show (S.deeds ++ [_]).length ≤ _; rw [List.length_append]; exact Nat.succ_le_succ h.dn⟩
end
/-! ### _law_deed_right -/
def whOk (K : PySem.W.Frag) (H : Hp) : What → Prop
  | .beg r x d n => Big x ∧ 0 < d ∧ Big d ∧ n ≤ 1010
  | .step n => True
  | .put t l fv => ∃ fg, FgOk K H fv fg
def pD : Tg → Prop := fun t => t.sd = 1 ∨ t.sd = 2
def spDRight (K : PySem.W.Frag) : Sp := fun vs H Q _ => ∃ (o b wt : Addr) (wh : What) (c : Kd) (T1 : TT1) (S : Sta) (n : Nat), vs = [.ref o, .ref b, .ref wt] ∧ H wt = some (.tup wh.vs) ∧ T1 wt = .no ∧ TgOk T1 H ∧ OwnAt c T1 H o S ∧ BenchAt K c T1 H b S ∧ c.Ok ∧ StOk c S ∧ StLen S n ∧ n < 10000 ∧ whOk K H wh ∧
  ∀ (T2 : TT1) (H' : Hp) (S' : Sta), Go pD T1 H T2 H' → TgOk T2 H' → OwnAt c T2 H' o S' → BenchAt K c T2 H' b S' → StOk c S' → StLen S' (n + 1) → Q (.bl true) H'
/-- two results that the law calls the same -/
def SameV (K : PySem.W.Frag) (H : Hp) (v u : V) : Prop := ∃ (d : PyData) (t : Value) (bo : Bool), Dp K H v d ∧ Dp K H u d ∧ SeqAt.shaped d = true ∧ TyX K H v t ∧ TyX K H u t ∧ PySem.W.kitOne K t (.type "str") = some false ∧ PySem.W.kitOne K t (.type "tuple") = some bo
def tailQ (K : PySem.W.Frag) (Q : VK) (due : V) : VK := fun u H2 => ∃ (p : Addr) (told : V) (fault : Str), u = .ref p ∧ H2 p = some (.tup [told, .str fault]) ∧ ((due = .str fault ∧ told = .non ∧ SeqAt.shaped (.str fault) = true) ∨ (fault = Str.empty ∧ SameV K H2 told due)) ∧ Q (.bl true) H2
theorem NewT.mono {H : Hp} {xs : List V} {Q Q' : VK} (hq : ∀ v H', Q v H' → Q' v H') (h : NewT H xs Q) : NewT H xs Q' := fun H' r e f o => hq _ _ (h H' r e f o)
theorem triedSp_mono {K : PySem.W.Frag} {b : Addr} {wh : What} {H : Hp} {Q Q' : VK} (hq : ∀ v H', Q v H' → Q' v H') (h : triedSp K b wh H Q) : triedSp K b wh H Q' := by
  have he : ∀ c d H', faultE K Q c d H' → faultE K Q' c d H' := fun c d H' ⟨x, h1, h2, h3, h4⟩ => ⟨x, h1, h2, h3, fun H2 e => (h4 H2 e).mono hq⟩
  cases wh with
  | beg r x d n => exact spBeg_mono (fun v H' h => NewT.mono hq h) he h
  | step n => exact spGo_mono (fun v H' h => NewT.mono hq h) he h
  | put t l fv => exact spPut_mono (fun v H' h H2 r e f o H3 p e' f' o' => hq _ _ (h H2 r e f o H3 p e' f' o')) he h
theorem dp_cv {K : PySem.W.Frag} {H : Hp} (e : Option Int) : ∃ d, Dp K H (cv e) d ∧ d.canLay0 = true ∧ d.depth = 0 := by
  cases e with
  | none => exact ⟨_, .non, rfl, rfl⟩
  | some i => exact ⟨_, .int i, rfl, rfl⟩
theorem sh3 {x : Str} (h : SeqAt.shaped (.tuple [.str x, .int 0, .int 0]) = true) (i j : Int) : SeqAt.shaped (.tuple [.str x, .int i, .int j]) = true := h
theorem sh2 {x : Str} (h : SeqAt.shaped (.tuple [.str x, .int 0]) = true) (i : Int) : SeqAt.shaped (.tuple [.str x, .int i]) = true := h
theorem same_int {K : PySem.W.Frag} {H : Hp} (i : Int) : SameV K H (.int i) (.int i) := ⟨_, _, false, .int i, .int i, rfl, .base (.int i), .base (.int i), rfl, rfl⟩
theorem same_tup {K : PySem.W.Frag} {H : Hp} {a b : Addr} {xs : List V} {ds : List PyData} (ha : H a = some (.tup xs)) (hb : H b = some (.tup xs)) (hd : DpAll K H xs ds) (hs : SeqAt.shaped (.tuple ds) = true) : SameV K H (.ref a) (.ref b) :=
  ⟨_, _, true, .tup (Evl.st_of ha) hd, .tup (Evl.st_of hb) hd, hs, .base (.tup ha), .base (.tup hb), rfl, rfl⟩
theorem same_res {K : PySem.W.Frag} {H : Hp} {a b : Addr} {s : Str} (hs : SeqAt.shaped (.tuple [.str s]) = true) (ha : H a = some (.tup [.str s])) (hb : H b = some (.tup [.str s])) : SameV K H (.ref a) (.ref b) := same_tup ha hb (.cons (.str s) .nil) hs
theorem bench_no {k l r ws sn dn : Addr} : ∀ m ∈ (["begin", "begin_rows", "go", "put"] : List Str), ([("kind", .ref k), ("looks", .ref l), ("rows", .ref r), ("works", .ref ws), ("seen", .ref sn), ("done", .ref dn)] : List (Str × V)).lookup m = none := fun m hm => by
  simp only [List.mem_cons, List.not_mem_nil, or_false] at hm
  rcases hm with rfl | rfl | rfl | rfl <;> rfl
theorem BenchAt.ex {K : PySem.W.Frag} {c : Kd} {T : TT1} {H H' : Hp} {b : Addr} {S : Sta} (h : BenchAt K c T H b S) (e : Evl.Ex H H') : BenchAt K c T H' b S := h.go (Go.ex (p := fun _ => False) e) fun _ z => z.elim
theorem OwnAt.ex {c : Kd} {T : TT1} {H H' : Hp} {b : Addr} {S : Sta} (h : OwnAt c T H b S) (e : Evl.Ex H H') : OwnAt c T H' b S := h.go (Go.ex (p := fun _ => False) e) fun _ z => z.elim
theorem pB_no {s : Nat} (h : s ≠ 0) : ¬ pB s .no := fun z => h z.symm
theorem FgOk.ex {K : PySem.W.Frag} {H H' : Hp} {fv : V} {fg : Option (Option Int)} (e : Evl.Ex H H') (h : FgOk K H fv fg) : FgOk K H' fv fg := by
  cases fg with
  | some i => exact h
  | none =>
    obtain ⟨h1, t, a, b, h2, h3⟩ := h
    exact ⟨h1, t, a, b, fun H2 e2 => h2 H2 (e.trans e2), h3⟩
theorem sc_law_deed_right : FnScope ["own", "bench", "what", "due", "told", "fault"] ["own", "bench", "what"] (defScope s_law_deed_right) := ⟨rfl, rfl, rfl, by decide +kernel, rfl, by decide +kernel, by decide +kernel⟩
theorem ok_law_deed_right {P : Program} {w : World} {K : PySem.W.Frag} {mg : Str → Option Value} {base : Heap} (T : Fx K mg) : FnX P w K mg base CX0 10 (He.ga K "_law_deed_right") ["own", "bench", "what"] (spDRight K) := by
  refine fx_of T.d_law_deed_right sc_law_deed_right (fun _ _ _ _ _ _ us hl => match us, hl with | [_, _, _], _ => rfl) (fun vs H Q E h => ?_) (fun cdv A outer s H vs Q E hr h => ⟨_, PSs.nox ((pss_cons (ps_set (i := 3) sc_law_deed_right.nd rfl (Or.inl rfl) (pe_f (ok_law_due T) (hr.mono (by decide)) (by rfl) T.g_law_due pass0 (pa_cons (pv 0) (pa_cons (pv 2) pa_nil))))
  (pss_cons (ps_asg (pe_f (ok_law_tried T) hr (by rfl) T.g_law_tried pass0 (pa_cons (pv 1) (pa_cons (pv 2) pa_nil))) (pg_tup rfl (pgs_cons (pg_name (i := 4) sc_law_deed_right.nd rfl (Or.inl rfl)) (pgs_cons (pg_name (i := 5) sc_law_deed_right.nd rfl (Or.inl rfl)) pgs_nil))))
  (pss_cons (ps_if (pt_val (pe_callB call_isi (by rfl) T.b_isinstance (by decide +kernel) (pa_cons (pv 3) (pa_cons (pe_bltn (by rfl) T.b_str (by decide +kernel) (v := .ty "str") rfl) pa_nil)))) (pss_one (ps_ret (pe_and (pe_cmpR op_isN (pv 4) pe_non (nomark _)) (pe_one (pe_cmpR (op_eqD hr.units) (pv 5) (pv 3) (nomark _)))))) pss_nil)
  (pss_one (ps_ret (pe_and (pe_cmpR op_eq (pv 5) pe_str (nomark _)) (pe_and (pe_cmpR (op_eqD hr.units) (pv 4) (pv 3) (nomark _)) (pe_one (pe_cmpR op_eq (pe_callB call_isi (by rfl) T.b_isinstance (by decide +kernel) (pa_cons (pv 4) (pa_cons (pe_bltn (by rfl) T.b_tuple (by decide +kernel) (v := .ty "tuple") rfl) pa_nil))) (pe_callB call_isi (by rfl) T.b_isinstance (by decide +kernel) (pa_cons (pv 3) (pa_cons (pe_bltn (by rfl) T.b_tuple (by decide +kernel) (v := .ty "tuple") rfl) pa_nil))) (nomark _))))))))))), ?_⟩)
  · obtain ⟨o, b, wt, wh, c, T1, S, n, rfl, _⟩ := h
    rfl
  · obtain ⟨o, b, wt, wh, c, T1, S, n, rfl, hwt, twt, tg, hO, hB, ok, st, ln, hn, hwh, hQ⟩ := h
    have key : ∀ (H1 : Hp) (R : VK), Evl.Ex H H1 → (∀ (due : V) (H2 : Hp), spTriedL K [.ref b, .ref wt] H2 (tailQ K Q due) L2.E0 → R due H2) → dueSp K o wh H1 R L2.E0 := by
      intro H1 R e1 hR
      have B1 := hB.ex e1
      have O1 := hO.ex e1
      have tg1 : TgOk T1 H1 := tg.gr (Gr.ex e1)
      have w1 := e1 _ _ hwt
      have l1 := ln.ws
      have l2 := ln.sn
      have l3 := ln.dn
      -- the bench's own call, from a heap that own's turn made
      have call : ∀ (T2 : TT1) (H2 : Hp) (due : V), Go (pB 2) T1 H1 T2 H2 → (BenchAt K c T2 H2 b S → triedSp K b wh H2 (tailQ K Q due)) → R due H2 := by
        intro T2 H2 due g h
        have B2 := B1.go g fun t z => by unfold pB at z; omega
        obtain ⟨dx, k, l, r, ws, sn, dn, ⟨hb, _⟩, _⟩ := id B2
        exact hR _ _ ⟨b, wt, dx, _, wh, rfl, Evl.st_of (g.at w1 (by rw [twt]; exact pB_no (by decide))).1, hb, bench_no, h B2⟩
      -- the end, once both are through
      have fin : ∀ (T2 T3 : TT1) (H2 H3 : Hp) (S' : Sta), Go (pB 2) T1 H1 T2 H2 → TgOk T2 H2 → OwnAt c T2 H2 o S' → Go (pB 1) T2 H2 T3 H3 → TgOk T3 H3 → BenchAt K c T3 H3 b S' → StOk c S' → StLen S' (n + 1) → Q (.bl true) H3 := by
        intro T2 T3 H2 H3 S' g2 t2 O2 g3 t3 B3 k1 k2
        exact hQ T3 H3 S' (((Go.ex (p := pD) e1).trans (g2.mono fun t z => .inr z)).trans (g3.mono fun t z => .inl z)) t3 (O2.go g3 fun t z => by unfold pB at z; omega) B3 k1 k2
      cases wh with
      | beg r x d m =>
        obtain ⟨bx, dp, bd, hm⟩ := hwh
        refine ⟨r, o, x, d, m, c, T1, S, rfl, tg1, O1, ok, bx, dp, bd, hm, by omega, by omega, fun hr T2 H2 g2 t2 O2 => ?_, fun hr => ?_⟩
        · refine call T2 H2 _ g2 fun B2 => ⟨b, x, d, m, c, T2, S, rfl, t2, B2, ok, bx, bd, hm, by omega, by omega, fun _ T3 H3 g3 t3 B3 H4 p e4 f4 o4 => ?_, fun nr => absurd hr nr⟩
          exact ⟨p, _, _, rfl, o4, .inr ⟨rfl, same_int _⟩, fin T2 T3 H2 H4 _ g2 t2 O2 (g3.trans (Go.ex e4)) (t3.gr (Gr.ex e4)) (B3.ex e4) (st.beg ok dp bd hm hr) ln.beg⟩
        · refine call T1 H1 _ Go.refl fun B2 => ⟨b, x, d, m, c, T1, S, rfl, tg1, B2, ok, bx, bd, hm, by omega, by omega, fun h => absurd h hr, fun _ H3 e3 => ⟨"NoRoom", by decide, rfl, rfl, fun H4 e4 H5 p e5 f5 o5 => ?_⟩⟩
          have e35 := (e3.trans e4).trans e5
          exact ⟨p, _, _, rfl, o5, .inl ⟨rfl, rfl, by decide +kernel⟩, fin T1 T1 H1 H5 _ Go.refl tg1 O1 (Go.ex e35) (tg1.gr (Gr.ex e35)) (B2.ex e35) st (ln.mono (Nat.le_succ _))⟩
      | step j =>
        refine ⟨o, j, c, T1, S, rfl, tg1, O1, ok, st.seen, by omega, by omega, fun hr => ?_, fun w hi hw => ⟨fun hl H2 r e2 f2 o2 => ?_, fun hl => ?_⟩⟩
        · refine call T1 H1 _ Go.refl fun B2 => ⟨b, j, c, T1, S, rfl, tg1, B2, ok, st.seen, by omega, by omega, fun _ => ⟨"NoWork", by decide, rfl, rfl, fun H4 e4 H5 p e5 f5 o5 => ?_⟩, fun w hi hw => absurd hi hr⟩
          have e35 := e4.trans e5
          exact ⟨p, _, _, rfl, o5, .inl ⟨rfl, rfl, by decide +kernel⟩, fin T1 T1 H1 H5 _ Go.refl tg1 O1 (Go.ex e35) (tg1.gr (Gr.ex e35)) (B2.ex e35) st (ln.mono (Nat.le_succ _))⟩
        · refine call T1 H2 _ (Go.ex e2) fun B2 => ⟨b, j, c, T1, S, rfl, tg1.gr (Gr.ex e2), B2, ok, st.seen, by omega, by omega, fun z => absurd hi z, fun w' hi' hw' => ?_⟩
          rw [hw] at hw'
          cases hw'
          refine ⟨fun _ H3 q e3 f3 o3 H5 p e5 f5 o5 => ?_, fun z => absurd hl z⟩
          have e35 := e3.trans e5
          exact ⟨p, _, _, rfl, o5, .inr ⟨rfl, same_res (by decide +kernel) (e5 _ _ o3) (e35 _ _ o2)⟩, fin T1 T1 H2 H5 _ (Go.ex e2) (tg1.gr (Gr.ex e2)) (O1.ex e2) (Go.ex e35) (tg1.gr (Gr.ex (e2.trans e35))) (B2.ex e35) st (ln.mono (Nat.le_succ _))⟩
        · have hk := st.wk w (List.mem_of_getElem? hw)
          have hln := hk.ln
          obtain ⟨e, hf, he⟩ := hk.fit ok st.tab
          refine ⟨by omega, e, hf, fun hs H2 r g2 O2 f2 o2 => ?_, fun f hs H2 r g2 O2 f2 o2 => ?_⟩
          · have t2 := tg1.gr g2.gr
            have tr : T1 r = .no := tg1 r f2
            refine call T1 H2 _ g2 fun B2 => ⟨b, j, c, T1, S, rfl, t2, B2, ok, st.seen, by omega, by omega, fun z => absurd hi z, fun w' hi' hw' => ?_⟩
            rw [hw] at hw'
            cases hw'
            refine ⟨fun z => absurd z hl, fun _ => ⟨by omega, e, hf, fun _ H3 q g3 B3 f3 o3 H5 p e5 f5 o5 => ?_, fun f z => by rw [hs] at z; cases z⟩⟩
            have g35 := g3.trans (Go.ex e5)
            have o2' := (g35.at o2 (by rw [tr]; exact pB_no (by decide))).1
            exact ⟨p, _, _, rfl, o5, .inr ⟨rfl, same_tup (e5 _ _ o3) o2' (.cons (.str _) (.cons (.int _) (.cons (.int _) .nil))) (sh3 (by decide +kernel) _ _)⟩, fin T1 T1 H2 H5 _ g2 t2 O2 g35 (t2.gr g35.gr) (B3.ex e5) st.saw (ln.saw st)⟩
          · have t2 := tg1.gr g2.gr
            have tr : T1 r = .no := tg1 r f2
            refine call T1 H2 _ g2 fun B2 => ⟨b, j, c, T1, S, rfl, t2, B2, ok, st.seen, by omega, by omega, fun z => absurd hi z, fun w' hi' hw' => ?_⟩
            rw [hw] at hw'
            cases hw'
            refine ⟨fun z => absurd z hl, fun _ => ⟨by omega, e, hf, fun z => by (rw [hs] at z; cases z), fun f' hs' H3 q g3 B3 f3 o3 H5 p e5 f5 o5 => ?_⟩⟩
            rw [hs] at hs'
            cases hs'
            have g35 := g3.trans (Go.ex e5)
            have o2' := (g35.at o2 (by rw [tr]; exact pB_no (by decide))).1
            exact ⟨p, _, _, rfl, o5, .inr ⟨rfl, same_tup (e5 _ _ o3) o2' (.cons (.str _) (.cons (.int _) .nil)) (sh2 (by decide +kernel) _)⟩, fin T1 T1 H2 H5 _ g2 t2 O2 g35 (t2.gr g35.gr) (B3.ex e5) (st.fwd ok hw he hs hl) (ln.fwd st)⟩
      | put t l fv =>
        obtain ⟨fg, hfg⟩ := hwh
        have fg1 := hfg.ex e1
        refine ⟨o, t, l, fv, fg, c, T1, S, rfl, tg1, O1, ok, fg1, by omega, fun hr H2 e2 => ?_, fun e he hfe => ?_⟩
        · refine call T1 H2 _ (Go.ex e2) fun B2 => ⟨b, t, l, fv, fg, c, T1, S, rfl, tg1.gr (Gr.ex e2), B2, ok, fg1.ex e2, by omega, fun _ => ⟨"NoCell", by decide, rfl, rfl, fun H4 e4 H5 p e5 f5 o5 => ?_⟩, fun e he => absurd he hr⟩
          have e35 := e4.trans e5
          exact ⟨p, _, _, rfl, o5, .inl ⟨rfl, rfl, by decide +kernel⟩, fin T1 T1 H2 H5 _ (Go.ex e2) (tg1.gr (Gr.ex e2)) (O1.ex e2) (Go.ex e35) (tg1.gr (Gr.ex (e2.trans e35))) (B2.ex e35) st (ln.mono (Nat.le_succ _))⟩
        · subst hfe
          obtain ⟨hin, e', he', heo⟩ := id he
          cases he'
          have hent : ∃ old, entAt S.tab (topI c t) (colI c l) = some old := by
            obtain ⟨⟨a1, a2⟩, a3, a4⟩ := hin
            have hi : topI c t < S.tab.length := by unfold topI; omega
            obtain ⟨rl, _⟩ := st.tab.2 _ (List.getElem_mem hi)
            have hj : colI c l < (S.tab[topI c t]).length := by rw [rl]; unfold colI; omega
            refine ⟨(S.tab[topI c t])[colI c l], ?_⟩
            unfold entAt
            rw [List.getElem?_eq_getElem hi]
            show (S.tab[topI c t])[_]? = _
            rw [List.getElem?_eq_getElem hj]
          obtain ⟨old, hold⟩ := hent
          refine ⟨old, hold, fun H2 r g2 O2 f2 o2 => ?_⟩
          have t2 := tg1.gr g2.gr
          have tr : T1 r = .no := tg1 r f2
          refine call T1 H2 _ g2 fun B2 => ⟨b, t, l, cv e, some e, c, T1, S, by rw [show fv = cv e from hfg], t2, B2, ok, rfl, by omega, fun z => absurd he z, fun e2 _ z => ?_⟩
          cases z
          refine ⟨old, hold, fun H3 g3 B3 H4 q e4 f4 o4 H5 p e5 f5 o5 => ?_⟩
          have g35 := (g3.trans (Go.ex e4)).trans (Go.ex e5)
          have o2' := (g35.at o2 (by rw [tr]; exact pB_no (by decide))).1
          have o4' := e5 _ _ o4
          refine ⟨p, _, _, rfl, o5, .inr ⟨rfl, ?_⟩, fin T1 T1 H2 H5 _ g2 t2 O2 g35 (t2.gr g35.gr) (B3.ex (e4.trans e5)) (st.put heo) ln.put⟩
          cases old with
          | none => exact same_tup o4' o2' (.cons .non .nil) rfl
          | some i => exact same_tup o4' o2' (.cons (.int i) .nil) rfl
    refine ⟨_, rfl, _, rfl, o, wt, wh, rfl, Evl.st_of hwt, fun H1 e1 => key H1 _ e1 fun due H2 h => ?_⟩
    obtain ⟨b', wt', dx, fs, wh', e0, q1, q2, q3, q4⟩ := h
    refine ⟨_, rfl, _, rfl, b', wt', dx, fs, wh', e0, q1, q2, q3, triedSp_mono (fun u H3 hu => ?_) q4⟩
    obtain ⟨p, told, fault, rfl, hp, hc, hq⟩ := hu
    have er : ∀ d : PyData, SeqAt.shaped d = true → PyData.eqv d d = true := fun d h => SeqAt.eqv_refl d (SeqAt.canLay_of_shaped h)
    refine ⟨p, _, rfl, Evl.st_of hp, rfl, _, _, rfl, _, _, rfl, rfl, ?_⟩
    try dsimp only [L2.start, List.map, List.length_cons, List.length_nil, List.replicate, List.set, List.append, List.cons_append, List.nil_append]
    rcases hc with ⟨rfl, rfl, hs⟩ | ⟨rfl, d, t, bo, d1, d2, sd, t1, t2, k1, k2⟩
    · refine ⟨_, rfl, _, _, _, _, _, rfl, .ty _, .base (.str _), rfl, _, rfl, ?_⟩
      refine ⟨_, rfl, rfl, ?_⟩
      exact ⟨true, congrArg V.bl (decide_eq_true rfl), _, rfl, _, rfl, _, _, .str _, .str _, hs, hs, by rw [er _ hs]; exact hq⟩
    · refine ⟨_, rfl, _, _, _, _, _, rfl, .ty _, t2, k1, _, rfl, ?_⟩
      refine ⟨_, rfl, rfl, true, congrArg V.bl (decide_eq_true rfl), ?_⟩
      refine ⟨_, rfl, _, rfl, d, d, d1, d2, sd, sd, true, congrArg V.bl (er _ sd), ?_⟩
      refine ⟨_, rfl, _, _, _, _, _, rfl, .ty _, t1, k2, ?_⟩
      refine ⟨_, rfl, _, _, _, _, _, rfl, .ty _, t2, k2, ?_⟩
      refine ⟨by cases bo <;> rfl, ?_⟩
      show Q (.bl (decide (V.bl bo = V.bl bo))) H3
      rw [decide_eq_true rfl]
      exact hq
end SF
end
section
set_option Elab.async false
set_option linter.all false
set_option maxRecDepth 100000
set_option maxHeartbeats 4000000
namespace SF
open PySem PySem.Spec PyProof.Rows L2
/-- the turns of enumerate over a list -/
theorem for_enum {K : PySem.W.Frag} {a : Addr} {xs : List V} {g : TG} {tb : TS} {D : Ends} {σ : L2.St} {H : Hp} (Pv : Nat → L2.St → Hp → Prop) (h0 : Pv 0 σ H) (hl : ∀ i σ H, i ≤ xs.length → Pv i σ H → SqL K H a xs)
    (hs : ∀ i x T σ H, xs[i]? = some x → Pv i σ H → H T = none → g (.ref T) σ (upd H T (.tup [.int (i : Nat), x])) fun σ2 H2 => tb { D with nx := Pv (i + 1), ct := Pv (i + 1), bk := D.nx } σ2 H2) (hd : ∀ σ H, Pv xs.length σ H → D.nx σ H) :
    ∃ W : Nat → Nat → L2.St → Hp → Prop, (∃ m, W 0 m σ H) ∧ ∀ i m σ H, W i m σ H →
      ((Ite K a).stop i H ∧ D.nx σ H) ∨ ((Ite K a).go i H ∧ ∃ N : L2.St → Hp → Prop, (∀ σ' H', N σ' H' → ∃ m', m' < m ∧ W (i + 1) m' σ' H') ∧ ∀ x H', (Ite K a).yld i H x H' → g x σ H' fun σ2 H2 => tb { D with nx := N, ct := N, bk := D.nx } σ2 H2) := by
  refine ⟨fun i m σ H => m = xs.length - i ∧ i ≤ xs.length ∧ Pv i σ H, ⟨xs.length - 0, rfl, Nat.zero_le _, h0⟩, ?_⟩
  rintro i m σ H ⟨rfl, hi, p⟩
  have q := hl i σ H hi p
  by_cases hlt : i < xs.length
  · refine .inr ⟨⟨xs, xs[i], q, List.getElem?_eq_getElem hlt⟩, Pv (i + 1), fun σ' H' p' => ⟨xs.length - (i + 1), by omega, rfl, hlt, p'⟩, fun x H' y => ?_⟩
    obtain ⟨T, x', e, hT, e2, y⟩ := y
    subst e
    subst e2
    exact hs i x' T σ H (y xs q) p hT
  · have e : i = xs.length := by omega
    refine .inl ⟨⟨xs, q, Nat.le_of_eq e.symm⟩, hd σ H ?_⟩
    rw [e] at p
    exact p
/-! ### what stands, as data -/
def dOf : Option Int → PyData
  | none => .none
  | some i => .int i
theorem dp_of {K : PySem.W.Frag} {H : Hp} (e : Option Int) : Dp K H (cv e) (dOf e) := by
  cases e with
  | none => exact .non
  | some i => exact .int i
theorem dpAll_of {K : PySem.W.Frag} {H : Hp} : ∀ {vs : List V} {ds : List PyData}, vs.length = ds.length → (∀ (i : Nat) (v : V) (d : PyData), vs[i]? = some v → ds[i]? = some d → Dp K H v d) → DpAll K H vs ds
  | [], [], _, _ => .nil
  | v :: vs, d :: ds, hl, h => .cons (h 0 v d rfl rfl) (dpAll_of (Nat.succ.inj hl) fun i v' d' h1 h2 => h (i + 1) v' d' h1 h2)
theorem dpAll_map {K : PySem.W.Frag} {H : Hp} {α : Type} {as : List Addr} {xs : List α} {f : α → PyData} (hl : as.length = xs.length) (h : ∀ (i : Nat) (a : Addr) (x : α), as[i]? = some a → xs[i]? = some x → Dp K H (.ref a) (f x)) : DpAll K H (as.map V.ref) (xs.map f) := by
  refine dpAll_of (by rw [List.length_map, List.length_map]; exact hl) fun i v d h1 h2 => ?_
  rw [List.getElem?_map] at h1 h2
  cases e1 : as[i]? with
  | none => rw [e1] at h1; cases h1
  | some a =>
    cases e2 : xs[i]? with
    | none => rw [e2] at h2; cases h2
    | some x =>
      rw [e1] at h1
      rw [e2] at h2
      cases h1
      cases h2
      exact h i a x e1 e2
theorem dpAll_cv {K : PySem.W.Frag} {H : Hp} : ∀ row : List (Option Int), DpAll K H (row.map cv) (row.map dOf)
  | [] => .nil
  | e :: row => .cons (dp_of e) (dpAll_cv row)
theorem dpAll_int {K : PySem.W.Frag} {H : Hp} : ∀ row : List Int, DpAll K H (row.map V.int) (row.map PyData.int)
  | [] => .nil
  | e :: row => .cons (.int e) (dpAll_int row)
def Sh (n : Nat) (d : PyData) : Prop := d.canLay0 = true ∧ d.depth ≤ n
theorem sh_all {n : Nat} : ∀ {ds : List PyData}, (∀ d ∈ ds, Sh n d) → PyData.canLayAll0 ds = true ∧ PyData.depthAll ds ≤ n
  | [], _ => ⟨rfl, Nat.zero_le _⟩
  | d :: ds, h => by
    obtain ⟨a, b⟩ := h d List.mem_cons_self
    obtain ⟨a', b'⟩ := sh_all fun x hx => h x (List.mem_cons_of_mem _ hx)
    refine ⟨?_, ?_⟩
    · rw [PyData.canLayAll0, a, a']; rfl
    · rw [PyData.depthAll]; exact Nat.max_le.mpr ⟨b, b'⟩
theorem sh_list {n : Nat} {ds : List PyData} (h : ∀ d ∈ ds, Sh n d) : Sh (n + 1) (.list ds) := ⟨(sh_all h).1, Nat.succ_le_succ (sh_all h).2⟩
theorem sh_tup {n : Nat} {ds : List PyData} (h : ∀ d ∈ ds, Sh n d) : Sh (n + 1) (.tuple ds) := ⟨(sh_all h).1, Nat.succ_le_succ (sh_all h).2⟩
theorem Sh.ok {n : Nat} {d : PyData} (h : Sh n d) (hn : n ≤ 64) : SeqAt.shaped d = true := by
  unfold SeqAt.shaped
  rw [h.1, decide_eq_true (Nat.le_trans h.2 hn)]
  rfl
theorem sh_int (n : Nat) (i : Int) : Sh n (.int i) := ⟨rfl, Nat.zero_le _⟩
theorem sh_of (n : Nat) (e : Option Int) : Sh n (dOf e) := by cases e <;> exact ⟨rfl, Nat.zero_le _⟩
def tabD (tab : List (List (Option Int))) : PyData := .list (tab.map fun row => .list (row.map dOf))
theorem tabD_sh (tab : List (List (Option Int))) : Sh 2 (tabD tab) := sh_list fun d hd => by
  obtain ⟨row, _, rfl⟩ := List.mem_map.mp hd
  exact sh_list fun e he => by
    obtain ⟨x, _, rfl⟩ := List.mem_map.mp he
    exact sh_of 0 x
theorem TabR.dp {K : PySem.W.Frag} {H : Hp} {r : Addr} {tab : List (List (Option Int))} (h : TabR K H r tab) : Dp K H (.ref r) (tabD tab) := by
  obtain ⟨as, h1, h2, h3⟩ := h
  exact .lst h1 (dpAll_map h2 fun i a row ha hr => .lst (h3 i a row ha hr) (dpAll_cv row))
theorem RowsIn.dp {K : PySem.W.Frag} {H : Hp} {D : Addr} {as : List Addr} {tab : List (List (Option Int))} (hD : H D = some (.lst (as.map V.ref))) (h : RowsIn H as tab) : Dp K H (.ref D) (tabD tab) :=
  .lst (Evl.sq_of hD) (dpAll_map h.1 fun i a row ha hr => .lst (Evl.sq_of (h.2 i a row ha hr)) (dpAll_cv row))
def cellD (kvs : List (List Key × V)) (c : Int × Int) : PyData := .tuple [.tuple [.int c.1, .int c.2], .int (cntv kvs c)]
def seenD (kvs : List (List Key × V)) (ds : List (Int × Int)) : PyData := .list (ds.map (cellD kvs))
theorem seenD_sh (kvs : List (List Key × V)) (ds : List (Int × Int)) : Sh 3 (seenD kvs ds) := sh_list fun d hd => by
  obtain ⟨c, _, rfl⟩ := List.mem_map.mp hd
  exact ⟨rfl, Nat.le_refl 2⟩
theorem SeenL.dp {K : PySem.W.Frag} {H : Hp} {D : Addr} {kvs : List (List Key × V)} {ds : List (Int × Int)} (h : SeenL H D kvs ds) : Dp K H (.ref D) (seenD kvs ds) := by
  obtain ⟨as, h1, h2, h3⟩ := h
  refine .lst (Evl.sq_of h1) (dpAll_map h2 fun i a c ha hc => ?_)
  obtain ⟨t, q1, q2⟩ := h3 i a c ha hc
  exact .tup (Evl.st_of q1) (.cons (.tup (Evl.st_of q2) (.cons (.int _) (.cons (.int _) .nil))) (.cons (.int _) .nil))
theorem map_ckey : ∀ {cs cs' : List (Int × Int)}, cs.map ckey = cs'.map ckey → cs = cs'
  | [], [], _ => rfl
  | [], _ :: _, h => nomatch h
  | _ :: _, [], h => nomatch h
  | c :: cs, c' :: cs', h => by
    rw [List.map_cons, List.map_cons] at h
    injection h with h1 h2
    rw [ckey_inj h1, map_ckey h2]
theorem srt_uniq {ds ds' cs cs' : List (Int × Int)} (p : ds.Perm cs) (p' : ds'.Perm cs') (e : cs.map ckey = cs'.map ckey) (s : SrtO.Srtd SrtO.lexB ds) (s' : SrtO.Srtd SrtO.lexB ds') : ds = ds' := by
  have ec := map_ckey e
  subst ec
  refine List.Perm.eq_of_pairwise (le := fun x y => SrtO.lexB y x = false) (fun a b _ _ h1 h2 => ?_) s s' (p.trans p'.symm)
  have n1 : ¬ (SrtO.lexB b a = true) := by rw [h1]; exact fun z => nomatch z
  have n2 : ¬ (SrtO.lexB a b = true) := by rw [h2]; exact fun z => nomatch z
  rw [SrtO.lexB_iff] at n1 n2
  have e1 : a.1 = b.1 := by omega
  have e2 : a.2 = b.2 := by omega
  exact Prod.ext e1 e2
def Deed.ds : Deed → List PyData
  | .beg r x d n => [.str (wordOf r), .int x, .int d, .int (n : Nat)]
  | .step n => [.str "step", .int n]
  | .put t l e => [.str "put", .int t, .int l, dOf e]
theorem Deed.dp {K : PySem.W.Frag} {H : Hp} (d : Deed) : DpAll K H d.vs d.ds := by
  cases d with
  | beg r x d n => exact .cons (.str _) (.cons (.int _) (.cons (.int _) (.cons (.int _) .nil)))
  | step n => exact .cons (.str _) (.cons (.int _) .nil)
  | put t l e => exact .cons (.str _) (.cons (.int _) (.cons (.int _) (.cons (dp_of e) .nil)))
theorem sh_str (x : Str) (h : PyData.canLay0 (.str x) = true) : Sh 0 (.str x) := ⟨h, Nat.le_refl 0⟩
theorem Deed.sh (d : Deed) : Sh 1 (.tuple d.ds) := sh_tup fun x hx => by
  cases d with
  | beg r x d n =>
    simp only [Deed.ds, List.mem_cons, List.not_mem_nil, or_false] at hx
    rcases hx with rfl | rfl | rfl | rfl
    · exact sh_str _ (by cases r <;> decide +kernel)
    all_goals exact sh_int _ _
  | step n =>
    simp only [Deed.ds, List.mem_cons, List.not_mem_nil, or_false] at hx
    rcases hx with rfl | rfl
    · exact sh_str _ (by decide +kernel)
    · exact sh_int _ _
  | put t l e =>
    simp only [Deed.ds, List.mem_cons, List.not_mem_nil, or_false] at hx
    rcases hx with rfl | rfl | rfl | rfl
    · exact sh_str _ (by decide +kernel)
    · exact sh_int _ _
    · exact sh_int _ _
    · exact sh_of _ _
def deedsD (ds : List Deed) : PyData := .list (ds.map fun d => .tuple d.ds)
theorem deedsD_sh (ds : List Deed) : Sh 2 (deedsD ds) := sh_list fun d hd => by
  obtain ⟨x, _, rfl⟩ := List.mem_map.mp hd
  exact x.sh
theorem figsD_sh (fs : List Int) : Sh 1 (.list (fs.map PyData.int)) := sh_list fun d hd => by
  obtain ⟨x, _, rfl⟩ := List.mem_map.mp hd
  exact sh_int _ _
mutual
theorem Dp.ex {K : PySem.W.Frag} {H H' : Hp} (e : Evl.Ex H H') : ∀ (d : PyData) (v : V), Dp K H v d → Dp K H' v d
  | .none, _, h => by cases h; exact .non
  | .bool b, _, h => by cases h; exact .bl b
  | .int i, _, h => by cases h; exact .int i
  | .str x, _, h => by cases h; exact .str x
  | .list ds, _, h => by
    cases h with
    | lst hs ha => exact .lst (Evl.ex_l e hs) (Dp.exAll e ds _ ha)
  | .tuple ds, _, h => by
    cases h with
    | tup hs ha => exact .tup (Evl.ex_t e hs) (Dp.exAll e ds _ ha)
  | .dict _, _, h => by cases h
theorem Dp.exAll {K : PySem.W.Frag} {H H' : Hp} (e : Evl.Ex H H') : ∀ (ds : List PyData) (vs : List V), DpAll K H vs ds → DpAll K H' vs ds
  | [], _, h => by cases h; exact .nil
  | d :: ds, _, h => by
    cases h with
    | cons h1 h2 => exact .cons (Dp.ex e d _ h1) (Dp.exAll e ds _ h2)
end
theorem DeedsAt.dp {K : PySem.W.Frag} {s : Bool} {T : TT1} {H : Hp} {dn : Addr} {ds : List Deed} (h : DeedsAt s T H dn ds) : ∃ xs, H dn = some (.lst xs) ∧ DpAll K H xs (ds.map fun d => .tuple d.ds) := by
  obtain ⟨as, h1, h2, h3, h4⟩ := h
  exact ⟨_, h1, dpAll_map h3 fun i a d ha hd => .tup (Evl.st_of (h4 i a d ha hd).2) d.dp⟩
theorem ne_same {d : PyData} (h : SeqAt.shaped d = true) : (!PyData.eqv d d) = false := by rw [SeqAt.eqv_refl d (SeqAt.canLay_of_shaped h)]; rfl
theorem TabOk.le {c : Kd} (ok : c.Ok) {tab : List (List (Option Int))} (h : TabOk c tab) : tab.length ≤ 16 := by
  rw [h.1]
  have := ok.t5
  show 2 ^ (c.t - 1) ≤ 2 ^ 4
  exact Nat.pow_le_pow_right (by decide) (by omega)
theorem sh_2i (i j : Int) : Sh 1 (.tuple [.int i, .int j]) := ⟨rfl, Nat.le_refl 1⟩
theorem sq_nx {u : TS} {D : Ends} {σ : L2.St} {H : Hp} (h : u D σ H) : tNext { D with nx := u D } σ H := h
/-! ### _law_stands_right -/
def spStands (K : PySem.W.Frag) : Sp := fun vs H Q _ => ∃ (o b : Addr) (c : Kd) (T1 : TT1) (S : Sta) (n : Nat), vs = [.ref o, .ref b] ∧ OwnAt c T1 H o S ∧ BenchAt K c T1 H b S ∧ c.Ok ∧ StOk c S ∧ StLen S n ∧ n < 10000 ∧ ∀ H', Evl.Ex H H' → Q (.bl true) H'
theorem sc_law_stands_right : FnScope ["own", "bench", "seen", "number", "work", "cell"] ["own", "bench"] (defScope s_law_stands_right) := ⟨rfl, rfl, rfl, by decide +kernel, rfl, by decide +kernel, by decide +kernel⟩
theorem ok_law_stands_right {P : Program} {w : World} {K : PySem.W.Frag} {mg : Str → Option Value} {base : Heap} (T : Fx K mg) : FnX P w K mg base CX0 4 (He.ga K "_law_stands_right") ["own", "bench"] (spStands K) := by
  refine fx_of T.d_law_stands_right sc_law_stands_right (fun _ _ _ _ _ _ us hl => match us, hl with | [_, _], _ => rfl) (fun vs H Q E h => ?_) (fun cdv A outer s H vs Q E hr h => ⟨_, PSs.nox ((pss_cons (ps_setLc (i := 2) (own := [("cell", 5)]) (g := gName 5) (tt := tYes) rfl sc_law_stands_right.nd rfl rfl (sw_true rfl rfl rfl (by decide +kernel)) (pi_list (pe_callB (SF.cr_sortedDT rfl) (by rfl) T.b_sorted (by decide +kernel) (pa_cons (pe_dget (hu_of hr) (pv 0) pe_str (fun _ _ => rfl)) pa_nil))) (blkOk_by (own := [("cell", 5)]) (N := ["own", "bench", "seen", "number", "work", "cell"]) (sc := defScope s_law_stands_right) (by decide +kernel)) (fun _ _ _ _ _ => (pg_name (i := 5) sc_law_stands_right.nd rfl (Or.inl rfl))) (fun _ _ _ _ _ => pts_nil) (fun _ _ _ _ _ => (pe_tup (pa_cons (pv 5) (pa_cons (pe_dget (hu_of hr) (pe_dget (hu_of hr) (pv 0) pe_str (fun _ _ => rfl)) (pv 5) (fun _ _ => rfl)) pa_nil)))))
  (pss_cons (ps_if (PW.pt (pw_or (pt_cmpR (op_neD hr.units) (SF.pe_m0 (pv 1) T.c_Bench T.m_Bench_looked (ok_Bench_looked T) (hr.mono (by decide)) pass0) (pv 2) (nomark _)) (pw_or (pt_cmpR (op_neD hr.units) (SF.pe_m0 (pv 1) T.c_Bench T.m_Bench_entries (ok_Bench_entries T) (hr.mono (by decide)) pass0) (pe_dget (hu_of hr) (pv 0) pe_str (fun _ _ => rfl)) (nomark _)) (pw_or1 (pt_cmpR (op_neD hr.units) (SF.pe_m0 (pv 1) T.c_Bench T.m_Bench_deeds (ok_Bench_deeds T) (hr.mono (by decide)) pass0) (pe_dget (hu_of hr) (pv 0) pe_str (fun _ _ => rfl)) (nomark _)))))) (pss_one (ps_ret pe_bl)) pss_nil)
  (pss_cons (ps_for PassesOwn.never rfl (pi_enum (by rfl) T.b_enumerate (pa_cons (pe_dget (hu_of hr) (pv 0) pe_str (fun _ _ => rfl)) pa_nil)) (pg_tup rfl (pgs_cons (pg_name (i := 3) sc_law_stands_right.nd rfl (Or.inl rfl)) (pgs_cons (pg_name (i := 4) sc_law_stands_right.nd rfl (Or.inl rfl)) pgs_nil))) (pss_one (ps_if (PW.pt (pw_or (pt_cmpR (op_neD hr.units) (pe_m (pv 1) T.c_Bench T.m_Bench_row (ok_Bench_row T) (hr.mono (by decide)) pass0 (pa_cons (pv 3) pa_nil)) (pe_dget (hu_of hr) (pv 4) pe_str (fun _ _ => rfl)) (nomark _)) (pw_or1 (pt_cmpR (op_neD hr.units) (pe_m (pv 1) T.c_Bench T.m_Bench_rest (ok_Bench_rest T) hr pass0 (pa_cons (pv 3) pa_nil)) (pe_f (ok_law_rest T) (hr.mono (by decide)) (by rfl) T.g_law_rest pass0 (pa_cons (pv 0) (pa_cons (pv 4) pa_nil))) (nomark _))))) (pss_one (ps_ret pe_bl)) pss_nil)))
  (pss_one (ps_ret pe_bl)))))), ?_⟩)
  · obtain ⟨o, b, c, T1, S, n, rfl, _⟩ := h
    rfl
  · obtain ⟨o, b, c, T1, S, n, rfl, hO, hB, ok, st, ln, hn, hQ⟩ := h
    obtain ⟨k, l, rr, ws, sn, dn, ⟨ho, to⟩, hkl, hrows, hworks, hseen, hdeeds⟩ := id hO
    obtain ⟨bdx, bk, bl, br, bws, bsn, bdn, ⟨hb, tb⟩, bkl, brows, bworks, bseen, bdeeds⟩ := id hB
    have zs : S.seen.length ≤ 1000000 := by have := ln.sn; omega
    have nF : ∀ (d : PyData) (A B : Prop), SeqAt.shaped d = true → B → if (!PyData.eqv d d) = true then A else B := fun d A B h hb => by
      rw [ne_same h, if_neg (by decide)]
      exact hb
    refine sq_asg ?_
    refine looked_list (K := K) (tl := tDGet (tVar 0) (tC (V.str "seen"))) (tk := tDGet (tVar 0) (tC (V.str "seen"))) (σ := [some (.ref o), some (.ref b), none, none, none, none]) 5 (by show 5 < 6; decide) st.seen zs hseen.1 (fun R hR => by exact ⟨_, rfl, o, _, rfl, DGet.k (k := .inr "seen") ho, hR⟩) (fun H' x R e hR => by exact ⟨_, rfl, o, _, rfl, DGet.k (k := .inr "seen") (e _ _ ho), hR⟩) fun H1 D1 ds cs e1 f1 hm nd pm sd hL => ?_
    have dS : Dp K H1 (.ref D1) (seenD S.seen ds) := hL.dp
    try dsimp only [L2.start, List.map, List.length_cons, List.length_nil, List.replicate, List.set, List.append, List.cons_append, List.nil_append]
    refine ⟨_, rfl, b, bdx, _, rfl, e1 _ _ hb, rfl, b, c, T1, S, rfl, hB.ex e1, st.seen, zs, fun H2 D2 ds2 cs2 e2 f2 hm2 nd2 pm2 sd2 hL2 => ?_⟩
    have eu : ds2 = ds := srt_uniq pm2 pm (hm2.symm.trans hm) sd2 sd
    subst eu
    refine ⟨_, rfl, _, _, hL2.dp, SF.Dp.ex e2 _ _ dS, (seenD_sh _ _).ok (by decide), (seenD_sh _ _).ok (by decide), _, rfl, nF _ _ _ ((seenD_sh _ _).ok (by decide)) ?_⟩
    have e12 := e1.trans e2
    refine ⟨_, rfl, b, bdx, _, rfl, e12 _ _ hb, rfl, b, br, bdx, _, S.tab, rfl, e12 _ _ hb, rfl, brows.tabR.ex e12, Nat.le_trans (st.tab.le ok) (by decide), fun H3 D3 as e3 f3 fr3 hD3 hin3 => ?_⟩
    have e13 := e12.trans e3
    refine ⟨_, rfl, o, _, rfl, DGet.k (k := .inr "table") (e13 _ _ ho), _, _, RowsIn.dp hD3 hin3, (hrows.tabR.ex e13).dp, (tabD_sh _).ok (by decide), (tabD_sh _).ok (by decide), _, rfl, nF _ _ _ ((tabD_sh _).ok (by decide)) ?_⟩
    obtain ⟨xb, xb1, xb2⟩ := bdeeds.dp (K := K)
    obtain ⟨xo, xo1, xo2⟩ := hdeeds.dp (K := K)
    refine ⟨_, rfl, b, bdx, _, rfl, e13 _ _ hb, rfl, b, bdn, bdx, _, xb, rfl, e13 _ _ hb, rfl, Evl.sq_of (e13 _ _ xb1), fun H4 D4 e4 f4 hD4 => ?_⟩
    have e14 := e13.trans e4
    refine ⟨_, rfl, o, _, rfl, DGet.k (k := .inr "deeds") (e14 _ _ ho), _, deedsD S.deeds, .lst (Evl.sq_of hD4) (SF.Dp.exAll e14 _ _ xb2), .lst (Evl.sq_of (e14 _ _ xo1)) (SF.Dp.exAll e14 _ _ xo2), (deedsD_sh _).ok (by decide), (deedsD_sh _).ok (by decide), _, rfl, nF _ _ _ ((deedsD_sh _).ok (by decide)) ?_⟩
    refine sq_nx ?_
    obtain ⟨as, w1, w2, w3, w4⟩ := id hworks
    obtain ⟨bas, bw1, bw2, bw3, bw4⟩ := id bworks
    refine ⟨_, rfl, o, _, rfl, DGet.k (k := .inr "works") (e14 _ _ ho), ws, _, rfl, Evl.sq_of (e14 _ _ w1), ?_⟩
    refine for_enum (fun i σ' H' => (∃ y3 y4, σ' = [some (.ref o), some (.ref b), some (.ref D1), y3, y4, none]) ∧ Evl.Ex H H') ⟨⟨_, _, rfl⟩, e14⟩ (fun i σ' H' _ p => Evl.sq_of (p.2 _ _ w1)) ?_ ?_
    · rintro i x Tq σ' H5 hx ⟨⟨y3, y4, rfl⟩, e5⟩ hT
      rw [List.getElem?_map] at hx
      cases ha0 : as[i]? with
      | none => rw [ha0] at hx; cases hx
      | some a =>
        rw [ha0] at hx
        cases hx
        have hi : i < S.works.length := by rw [← w3]; exact (List.getElem?_eq_some_iff.mp ha0).1
        have g1 : S.works[i]? = some S.works[i] := List.getElem?_eq_getElem hi
        generalize S.works[i] = wk at g1
        have g2 := w4 i a wk ha0 g1
        have wok := st.wk wk (List.mem_of_getElem? g1)
        have e56 : Evl.Ex H5 (upd H5 Tq (.tup [.int (i : Nat), .ref a])) := Evl.Ex.new hT
        have oT : (upd H5 Tq (.tup [.int (i : Nat), .ref a])) Tq = some (.tup [.int (i : Nat), .ref a]) := upd_same
        generalize upd H5 Tq (.tup [.int (i : Nat), .ref a]) = H6 at e56 oT ⊢
        have e16 := e5.trans e56
        refine ⟨Tq, _, rfl, Evl.st_of oT, rfl, _, _, rfl, _, _, rfl, rfl, ?_⟩
        try dsimp only [L2.start, List.map, List.length_cons, List.length_nil, List.replicate, List.set, List.append, List.cons_append, List.nil_append]
        refine ⟨_, rfl, b, bdx, _, rfl, e16 _ _ hb, rfl, _, rfl, b, i, c, T1, S, wk, rfl, hB.ex e16, g1, fun H7 r7 e7 f7 o7 => ?_⟩
        obtain ⟨n2, f2, sv2, ha, ta, hn2, ⟨hf2, tf2⟩, hst⟩ := id g2
        have e17 := e16.trans e7
        refine ⟨_, rfl, a, _, rfl, DGet.k (k := .inr "row") (e17 _ _ ha), _, .list (wk.figs.map PyData.int), .lst (Evl.sq_of o7) (dpAll_int _), .lst (Evl.sq_of (e17 _ _ hf2)) (dpAll_int _), (figsD_sh _).ok (by decide), (figsD_sh _).ok (by decide), _, rfl, nF _ _ _ ((figsD_sh _).ok (by decide)) ?_⟩
        refine ⟨_, rfl, b, bdx, _, rfl, e17 _ _ hb, rfl, _, rfl, b, i, c, T1, S, wk, rfl, hB.ex e17, g1, ok, wok.ln, wok.fg, wok.bd, fun H8 r8 e8 f8 o8 => ?_⟩
        have e18 := e17.trans e8
        refine ⟨_, rfl, _, rfl, o, a, k, l, rr, ws, sn, dn, i, c, T1, wk, rfl, e18 _ _ ho, e18 _ _ hkl.1.1, g2.go (Go.ex (p := fun _ => False) e18) (fun z => z) (fun z => z), ok, wok.ln, wok.fg, wok.bd, fun H9 r9 e9 f9 o9 => ?_⟩
        exact ⟨_, .tuple [.int _, .int _], .tup (Evl.st_of (e9 _ _ o8)) (.cons (.int _) (.cons (.int _) .nil)), .tup (Evl.st_of o9) (.cons (.int _) (.cons (.int _) .nil)), (sh_2i _ _).ok (by decide), (sh_2i _ _).ok (by decide), _, rfl, nF _ _ _ ((sh_2i _ _).ok (by decide)) ⟨⟨_, _, rfl⟩, e18.trans e9⟩⟩
    · rintro σ' H5 ⟨⟨y3, y4, rfl⟩, e5⟩
      exact hQ _ e5
end SF
end
section
set_option Elab.async false
set_option linter.all false
set_option maxRecDepth 100000
set_option maxHeartbeats 4000000
namespace SF
open PySem PySem.Spec PyProof.Rows L2
/-! ### _law_deed -/
theorem Go.exx {T : TT1} {H H' : Hp} {d : Addr} {n : Nat} (h : T d = .dk) (x : ExX d H H') (hd : Deck H' d n) : Go (fun t => t = .dk) T H T H' := by
  refine ⟨fun a o ha => ⟨rfl, fun hp => x a o (fun z => hp (by rw [z]; exact h)) ha⟩, fun a ha => ?_⟩
  by_cases e : a = d
  · obtain ⟨p, q, r, h1, _⟩ := hd
    rw [e, h1] at ha
    cases ha
  · exact x.back e ha
theorem OwnAt.exx {T : TT1} {H H' : Hp} {d o : Addr} {n : Nat} {c : Kd} {S : Sta} (h : T d = .dk) (hO : OwnAt c T H o S) (x : ExX d H H') (hd : Deck H' d n) : OwnAt c T H' o S := hO.go (Go.exx h x hd) fun t z => by rw [z]; exact ⟨fun q => (nomatch q), fun q => (nomatch q)⟩
/-- the values that a deed puts -/
def FvOk (H : Hp) (d : Addr) (fv : V) : Prop := (∃ e, fv = cv e) ∨ fv = .bl true ∨ fv = .str "0" ∨ ∃ q, fv = .ref q ∧ q ≠ d ∧ H q = some (.tup [.int 0])
theorem FvOk.exx {H H' : Hp} {d : Addr} {fv : V} (h : FvOk H d fv) (x : ExX d H H') : FvOk H' d fv := by
  rcases h with h | h | h | ⟨q, h1, h2, h3⟩
  · exact .inl h
  · exact .inr (.inl h)
  · exact .inr (.inr (.inl h))
  · exact .inr (.inr (.inr ⟨q, h1, h2, x _ _ h2 h3⟩))
theorem FvOk.fg {K : PySem.W.Frag} {H : Hp} {d : Addr} {fv : V} (h : FvOk H d fv) : ∃ fg, FgOk K H fv fg := by
  rcases h with ⟨e, rfl⟩ | rfl | rfl | ⟨q, rfl, _, h3⟩
  · exact ⟨some e, rfl⟩
  · exact ⟨none, fun z => (nomatch z), Value.type "bool", true, true, fun H' _ => TyX.base (.bl _), rfl, rfl, rfl⟩
  · exact ⟨none, fun z => (nomatch z), Value.type "str", false, false, fun H' _ => TyX.base (.str _), rfl, rfl, rfl⟩
  · exact ⟨none, fun z => (nomatch z), Value.type "tuple", false, false, fun H' e => TyX.base (.tup (e _ _ h3)), rfl, rfl, rfl⟩
/-- what stands behind a statement, shown once for all its ways out -/
theorem seq_cut {u v : TS} {D : Ends} {σ : L2.St} {H : Hp} (P : L2.St → Hp → Prop) (h2 : ∀ σ' H', P σ' H' → v D σ' H') (h1 : (∀ σ' H', P σ' H' → v D σ' H') → tSeq u v D σ H) : tSeq u v D σ H := h1 h2
def spDeed (K : PySem.W.Frag) : Sp := fun vs H Q _ => ∃ (d o : Addr) (c : Kd) (T1 : TT1) (S : Sta) (n m : Nat), vs = [.ref d, .ref o] ∧ Deck H d n ∧ n ≤ 10000 ∧ T1 d = .dk ∧ OwnAt c T1 H o S ∧ c.Ok ∧ StOk c S ∧ StLen S m ∧ m < 10000 ∧
  ∀ (H' : Hp) (q : Addr) (wh : What), ExX d H H' → Deck H' d (n + 2000) → H q = none → H' q = some (.tup wh.vs) → whOk K H' wh → Q (.ref q) H'
theorem sc_law_deed : FnScope ["deck", "own", "kind", "looks", "way", "x", "divisor", "least", "many", "number", "half", "top", "look", "work", "figure"] ["deck", "own"] (defScope s_law_deed) := ⟨rfl, rfl, rfl, by decide +kernel, rfl, by decide +kernel, by decide +kernel⟩
theorem ok_law_deed {P : Program} {w : World} {K : PySem.W.Frag} {mg : Str → Option Value} {base : Heap} (T : Fx K mg) : FnX P w K mg base CX0 5 (He.ga K "_law_deed") ["deck", "own"] (spDeed K) := by
  refine fx_of T.d_law_deed sc_law_deed (fun _ _ _ _ _ _ us hl => match us, hl with | [_, _], _ => rfl) (fun vs H Q E h => ?_) (fun cdv A outer s H vs Q E hr h => ⟨_, PSs.nox ((pss_cons (ps_par (i := 2) (j := 3) rfl sc_law_deed.nd rfl rfl (by decide) rfl rfl (pa_cons (pe_dget (hu_of hr) (pv 1) pe_str (fun _ _ => rfl)) (pa_cons (pe_dget (hu_of hr) (pv 1) pe_str (fun _ _ => rfl)) pa_nil)) rfl)
  (pss_cons (ps_set (i := 4) sc_law_deed.nd rfl (Or.inl rfl) (pe_f (ok_law_pick T) (hr.mono (by decide)) (by rfl) T.g_law_pick pass0 (pa_cons (pv 0) (pa_cons pe_int pa_nil))))
  (pss_cons (ps_if (PW.pt (pw_or (PW.pt (pw_and (pt_cmpR op_lt (pv 4) pe_int (nomark _)) (pw_and1 (pt_cmpR op_lt (pe_callB call_len_seq (by rfl) T.b_len (by decide +kernel) (pa_cons (pe_dget (hu_of hr) (pv 1) pe_str (fun _ _ => rfl)) pa_nil)) pe_int (nomark _))))) (pw_or1 (pt_cmpR (SF.op_eqNil hr.units0) (pe_dget (hu_of hr) (pv 1) pe_str (fun _ _ => rfl)) (pe_lst pa_nil) (nomark _))))) (pss_cons (ps_asg (pe_f (ok_law_numbers T) (hr.mono (by decide)) (by rfl) T.g_law_numbers pass0 (pa_cons (pv 0) (pa_cons (pv 2) pa_nil))) (pg_tup rfl (pgs_cons (pg_name (i := 5) sc_law_deed.nd rfl (Or.inl rfl)) (pgs_cons (pg_name (i := 6) sc_law_deed.nd rfl (Or.inl rfl)) pgs_nil))))
  (pss_cons (ps_set (i := 7) sc_law_deed.nd rfl (Or.inl rfl) (pe_f (ok_law_room T) (hr.mono (by decide)) (by rfl) T.g_law_room pass0 (pa_cons (pv 2) (pa_cons (pv 5) (pa_cons (pv 6) pa_nil)))))
  (pss_cons (ps_set (i := 8) sc_law_deed.nd rfl (Or.inl rfl) (pe_ix ix_list (pe_lst (pa_cons (pv 7) (pa_cons (pe_op op_add (pv 7) (pe_f (ok_law_pick T) (hr.mono (by decide)) (by rfl) T.g_law_pick pass0 (pa_cons (pv 0) (pa_cons pe_int pa_nil)))) (pa_cons (pe_callB (call_max2 rfl) (by rfl) T.b_max (by decide +kernel) (pa_cons pe_int (pa_cons (pe_op op_sub (pv 7) pe_int) pa_nil))) pa_nil)))) (pe_f (ok_law_pick T) (hr.mono (by decide)) (by rfl) T.g_law_pick pass0 (pa_cons (pv 0) (pa_cons pe_int pa_nil))) (fun _ _ => rfl)))
  (pss_one (ps_ret (pe_tup (pa_cons (pe_ix ix_list (pe_lst (pa_cons pe_str (pa_cons pe_str pa_nil))) (pe_f (ok_law_pick T) (hr.mono (by decide)) (by rfl) T.g_law_pick pass0 (pa_cons (pv 0) (pa_cons pe_int pa_nil))) (fun _ _ => rfl)) (pa_cons (pv 5) (pa_cons (pv 6) (pa_cons (pv 8) pa_nil)))))))))) pss_nil)
  (pss_cons (ps_set (i := 9) sc_law_deed.nd rfl (Or.inl rfl) (pe_f (ok_law_pick T) (hr.mono (by decide)) (by rfl) T.g_law_pick pass0 (pa_cons (pv 0) (pa_cons (pe_callB call_len_seq (by rfl) T.b_len (by decide +kernel) (pa_cons (pe_dget (hu_of hr) (pv 1) pe_str (fun _ _ => rfl)) pa_nil)) pa_nil))))
  (pss_cons (ps_if (pt_cmpR op_lt (pv 4) pe_int (nomark _)) (pss_one (ps_ret (pe_tup (pa_cons pe_str (pa_cons (pe_ix ix_list (pe_lst (pa_cons (pv 9) (pa_cons (pv 9) (pa_cons (pv 9) (pa_cons (pe_callB call_len_seq (by rfl) T.b_len (by decide +kernel) (pa_cons (pe_dget (hu_of hr) (pv 1) pe_str (fun _ _ => rfl)) pa_nil)) (pa_cons (pe_un un_neg pe_int) pa_nil)))))) (pe_callB (call_max2 rfl) (by rfl) T.b_max (by decide +kernel) (pa_cons pe_int (pa_cons (pe_op op_sub (pe_f (ok_law_pick T) (hr.mono (by decide)) (by rfl) T.g_law_pick pass0 (pa_cons (pv 0) (pa_cons pe_int pa_nil))) pe_int) pa_nil))) (fun _ _ => rfl)) pa_nil))))) pss_nil)
  (pss_cons (ps_set (i := 10) sc_law_deed.nd rfl (Or.inl rfl) (pe_f (ok_law_half T) (hr.mono (by decide)) (by rfl) T.g_law_half pass0 (pa_cons (pv 2) (pa_cons (pv 3) pa_nil))))
  (pss_cons (ps_set (i := 11) sc_law_deed.nd rfl (Or.inl rfl) (pe_op op_add (pe_op op_oneShl pe_int (pe_op op_sub (pe_ix ix_tup (pv 3) pe_int (fun _ _ => rfl)) pe_int)) (pe_f (ok_law_pick T) (hr.mono (by decide)) (by rfl) T.g_law_pick pass0 (pa_cons (pv 0) (pa_cons (pe_op op_oneShl pe_int (pe_op op_sub (pe_ix ix_tup (pv 3) pe_int (fun _ _ => rfl)) pe_int)) pa_nil)))))
  (pss_cons (ps_set (i := 12) sc_law_deed.nd rfl (Or.inl rfl) (pe_op op_sub (pe_f (ok_law_pick T) (hr.mono (by decide)) (by rfl) T.g_law_pick pass0 (pa_cons (pv 0) (pa_cons (pe_op op_mul pe_int (pv 10)) pa_nil))) (pv 10)))
  (pss_cons (ps_set (i := 13) sc_law_deed.nd rfl (Or.inl rfl) (pe_ix ix_list (pe_dget (hu_of hr) (pv 1) pe_str (fun _ _ => rfl)) (pv 9) (fun _ _ => rfl)))
  (pss_cons (ps_if (PW.pt (pw_and (pt_cmpR op_eq (pv 4) pe_int (nomark _)) (pw_and1 (pt_cmpR op_gt (pe_dget (hu_of hr) (pv 13) pe_str (fun _ _ => rfl)) pe_int (nomark _))))) (pss_one (ps_asg (pe_ix ix_tup (pe_f (ok_law_looked T) hr (by rfl) T.g_law_looked pass0 (pa_cons (pv 1) (pa_cons (pv 13) pa_nil))) pe_int (fun _ _ => rfl)) (pg_tup rfl (pgs_cons (pg_name (i := 11) sc_law_deed.nd rfl (Or.inl rfl)) (pgs_cons (pg_name (i := 12) sc_law_deed.nd rfl (Or.inl rfl)) pgs_nil))))) pss_nil)
  (pss_cons (ps_set (i := 14) sc_law_deed.nd rfl (Or.inl rfl) (pe_ix ix_list (pe_lst (pa_cons pe_non (pa_cons (pe_op op_sub (pe_f (ok_law_pick T) (hr.mono (by decide)) (by rfl) T.g_law_pick pass0 (pa_cons (pv 0) (pa_cons (pe_op op_add (pe_op op_mul pe_int (pe_ix ix_tup (pv 2) pe_int (fun _ _ => rfl))) pe_int) pa_nil))) (pe_ix ix_tup (pv 2) pe_int (fun _ _ => rfl))) pa_nil))) (pe_callTy (T := "int") call_int1 (by rfl) T.b_int (by decide +kernel) (pa_cons (pe_cmpR op_gt (pe_f (ok_law_pick T) (hr.mono (by decide)) (by rfl) T.g_law_pick pass0 (pa_cons (pv 0) (pa_cons pe_int pa_nil))) pe_int (nomark _)) pa_nil)) (fun _ _ => rfl)))
  (pss_cons (ps_if (pt_cmpR op_eq (pe_f (ok_law_pick T) (hr.mono (by decide)) (by rfl) T.g_law_pick pass0 (pa_cons (pv 0) (pa_cons pe_int pa_nil))) pe_int (nomark _)) (pss_one (ps_set (i := 14) sc_law_deed.nd rfl (Or.inl rfl) (pe_ix ix_list (pe_lst (pa_cons (pe_op op_add (pe_ix ix_tup (pv 2) pe_int (fun _ _ => rfl)) pe_int) (pa_cons (pe_op op_sub (pe_op op_sub pe_int (pe_ix ix_tup (pv 2) pe_int (fun _ _ => rfl))) pe_int) (pa_cons pe_bl (pa_cons pe_str (pa_cons (pe_tup (pa_cons pe_int pa_nil)) (pa_cons (pe_op op_pow pe_int pe_int) pa_nil))))))) (pe_f (ok_law_pick T) (hr.mono (by decide)) (by rfl) T.g_law_pick pass0 (pa_cons (pv 0) (pa_cons pe_int pa_nil))) (fun _ _ => rfl)))) pss_nil)
  (pss_cons (ps_if (pt_cmpR op_eq (pe_f (ok_law_pick T) (hr.mono (by decide)) (by rfl) T.g_law_pick pass0 (pa_cons (pv 0) (pa_cons pe_int pa_nil))) pe_int (nomark _)) (pss_one (ps_asg (pe_ix ix_list (pe_lst (pa_cons (pe_tup (pa_cons pe_int (pa_cons (pv 12) pa_nil))) (pa_cons (pe_tup (pa_cons (pe_op op_mul pe_int (pv 11)) (pa_cons (pv 12) pa_nil))) (pa_cons (pe_tup (pa_cons (pv 11) (pa_cons (pv 10) pa_nil))) (pa_cons (pe_tup (pa_cons (pv 11) (pa_cons (pe_op op_sub (pe_op op_sub pe_int (pv 10)) pe_int) pa_nil))) (pa_cons (pe_tup (pa_cons (pe_op op_sub pe_int (pv 11)) (pa_cons (pv 12) pa_nil))) pa_nil)))))) (pe_f (ok_law_pick T) (hr.mono (by decide)) (by rfl) T.g_law_pick pass0 (pa_cons (pv 0) (pa_cons pe_int pa_nil))) (fun _ _ => rfl)) (pg_tup rfl (pgs_cons (pg_name (i := 11) sc_law_deed.nd rfl (Or.inl rfl)) (pgs_cons (pg_name (i := 12) sc_law_deed.nd rfl (Or.inl rfl)) pgs_nil))))) pss_nil)
  (pss_one (ps_ret (pe_tup (pa_cons pe_str (pa_cons (pv 11) (pa_cons (pv 12) (pa_cons (pv 14) pa_nil))))))))))))))))))))), ?_⟩)
  · obtain ⟨d, o, c, T1, S, n, m, rfl, _⟩ := h
    rfl
  · obtain ⟨d, o, c, T1, S, n, m, rfl, hd, hn, td, hO, ok, st, ln, hm, hQ⟩ := h
    obtain ⟨k, l, rr, ws, sn, dn, ⟨ho, to⟩, ⟨⟨hk, tk⟩, hl, tl⟩, hrows, ⟨as, w1, w2, w3, w4⟩, hseen, hdeeds⟩ := id hO
    have nod : ∀ z, T1 z ≠ .dk → z ≠ d := fun z h e => h (by rw [e]; exact td)
    have no := nod o (by rw [to]; exact fun z => nomatch z)
    have nk := nod k (by rw [tk]; exact fun z => nomatch z)
    have nl := nod l (by rw [tl]; exact fun z => nomatch z)
    have nw := nod ws (by rw [w2]; exact fun z => nomatch z)
    have lw := ln.ws
    have t1 := ok.t1
    have t5 := ok.t5
    have m1 := ok.m1
    have m7 := ok.m7
    obtain ⟨hh, hh2⟩ := ok.half_lt
    obtain ⟨pu1, pu2⟩ := p32 (show c.t - 1 ≤ 5 by omega)
    refine ⟨_, rfl, o, _, rfl, DGet.k (k := .inr "kind") ho, _, rfl, o, _, rfl, DGet.k (k := .inr "looks") ho, _, _, rfl, ?_⟩
    try dsimp only [L2.start, List.map, List.length_cons, List.length_nil, List.replicate, List.set, List.append, List.cons_append, List.nil_append]
    refine ⟨_, rfl, d, 12, n, rfl, hd, by omega, by decide, mid_of (by decide) (by decide), fun H1 way hway0 hway1 x1 d1 => ?_⟩
    have ho1 := x1 _ _ no ho
    try dsimp only [L2.start, List.map, List.length_cons, List.length_nil, List.replicate, List.set, List.append, List.cons_append, List.nil_append]
    have sw : SqL K H1 ws (as.map V.ref) := Evl.sq_of (x1 _ _ nw w1)
    refine seq_cut (fun σ' H' => σ' = [some (.ref d), some (.ref o), some (.ref k), some (.ref l), some (.int way), none, none, none, none, none, none, none, none, none, none] ∧ ExX d H H' ∧ Deck H' d (n + 1) ∧ 0 < S.works.length) ?_ fun cont => ?_
    · rintro σ' H0 ⟨rfl, x0, d0, hpos⟩
      have no0 := x0 _ _ no ho
      have el : (((as.map V.ref).length : Nat) : Int) = (S.works.length : Nat) := by rw [List.length_map, w3]
      refine ⟨_, rfl, _, rfl, o, _, rfl, DGet.k (k := .inr "works") no0, ws, _, rfl, .inl (Evl.sq_of (x0 _ _ nw w1)), d, _, n + 1, rfl, d0, by omega, by omega, mid_of (by omega) (by omega), fun H2 num hn0 hn1 x2 d2 => ?_⟩
      have xx2 := x0.trans x2
      have xo2 := xx2 _ _ no ho
      try dsimp only [L2.start, List.map, List.length_cons, List.length_nil, List.replicate, List.set, List.append, List.cons_append, List.nil_append]
      refine ⟨_, rfl, _, _, rfl, rfl, _, rfl, itD (fun h9 => ?_) (fun h9 => ?_)⟩
      · refine ⟨_, rfl, _, rfl, _, rfl, _, rfl, o, _, rfl, DGet.k (k := .inr "works") xo2, ws, _, rfl, .inl (Evl.sq_of (xx2 _ _ nw w1)), ?_⟩
        refine ⟨1, rfl, ?_⟩
        refine ⟨by show 5 ≤ sizeLine; decide, fun l1 hl1 => ?_⟩
        try dsimp only
        generalize gH3 : upd H2 l1 (.lst [.int num, .int num, .int num, .int ((as.map V.ref).length : Nat), .int (-1)]) = H3
        have eH3 : Evl.Ex H2 H3 := by rw [← gH3]; exact Evl.Ex.new hl1
        have oH3 : H3 l1 = some (.lst [.int num, .int num, .int num, .int ((as.map V.ref).length : Nat), .int (-1)]) := by rw [← gH3]; exact upd_same
        refine ⟨_, rfl, d, 20, n + 1 + 1, rfl, d2.ex eH3, by omega, by decide, mid_of (by decide) (by decide), fun H4 p4 a4 b4 x4 d4 => ?_⟩
        refine ⟨_, _, rfl, rfl, _, _, rfl, ?_⟩
        have nl1 : l1 ≠ d := d2.fresh hl1
        obtain ⟨z, hz⟩ : ∃ z : Int, ([V.int num, V.int num, V.int num, V.int ((as.map V.ref).length : Nat), V.int (-1)] : List V)[(if p4 - 15 > 0 then p4 - 15 else 0).toNat]? = some (.int z) := by
          have : (if p4 - 15 > 0 then p4 - 15 else 0).toNat = 0 ∨ (if p4 - 15 > 0 then p4 - 15 else 0).toNat = 1 ∨ (if p4 - 15 > 0 then p4 - 15 else 0).toNat = 2 ∨ (if p4 - 15 > 0 then p4 - 15 else 0).toNat = 3 ∨ (if p4 - 15 > 0 then p4 - 15 else 0).toNat = 4 := by split <;> omega
          rcases this with e | e | e | e | e <;> rw [e] <;> exact ⟨_, rfl⟩
        refine ⟨l1, _, _, .int z, rfl, rfl, Evl.sq_of (x4 _ _ nl1 oH3), atI_of (by split <;> omega) hz, ?_⟩
        have xx4 := xx2.trans ((ExX.ex eH3).trans x4)
        refine ⟨by show 2 ≤ sizeLine; decide, fun q hq => ?_⟩
        try dsimp only
        generalize gH5 : upd H4 q (.tup [.str "step", .int z]) = H5
        have eH5 : Evl.Ex H4 H5 := by rw [← gH5]; exact Evl.Ex.new hq
        have oH5 : H5 q = some (.tup [.str "step", .int z]) := by rw [← gH5]; exact upd_same
        exact hQ H5 q (.step z) (xx4.trans (ExX.ex eH5)) ((d4.ex eH5).mono (by omega)) (xx4.back (d4.fresh hq) hq) oH5 trivial
      · try dsimp only [L2.start, List.map, List.length_cons, List.length_nil, List.replicate, List.set, List.append, List.cons_append, List.nil_append]
        refine ⟨_, rfl, _, rfl, k, l, c, rfl, Evl.st_of (xx2 _ _ nk hk), Evl.st_of (xx2 _ _ nl hl), ok, fun H3 e3 => ?_⟩
        have xx3 := xx2.trans (ExX.ex e3)
        have d3 := d2.ex e3
        try dsimp only [L2.start, List.map, List.length_cons, List.length_nil, List.replicate, List.set, List.append, List.cons_append, List.nil_append]
        refine ⟨_, rfl, _, _, _, _, rfl, rfl, Evl.st_of (xx3 _ _ nl hl), rfl, _, _, rfl, rfl, c.t - 1, rfl, vsub1 t1, by omega, ?_⟩
        refine ⟨_, rfl, _, rfl, _, _, _, _, rfl, rfl, Evl.st_of (xx3 _ _ nl hl), rfl, _, _, rfl, rfl, c.t - 1, rfl, vsub1 t1, by omega, ?_⟩
        refine ⟨d, _, n + 1 + 1, rfl, d3, by omega, by omega, mid_of (by omega) (by omega), fun H4 tp htp0 htp1 x4 d4 => ?_⟩
        refine ⟨_, _, rfl, rfl, ?_⟩
        have xx4 := xx3.trans x4
        try dsimp only
        obtain ⟨top0, htop0⟩ : ∃ x, x = 2 ^ (c.t - 1) + tp := ⟨_, rfl⟩
        rw [← htop0]
        try dsimp only [L2.start, List.map, List.length_cons, List.length_nil, List.replicate, List.set, List.append, List.cons_append, List.nil_append]
        refine ⟨_, rfl, _, rfl, _, _, rfl, rfl, .inl ⟨by decide, by decide⟩, ?_⟩
        refine ⟨d, _, n + 1 + 1 + 1, rfl, d4, by omega, by omega, mid_of (by omega) (by omega), fun H5 lk0 hlk0 hlk1 x5 d5 => ?_⟩
        have xx5 := xx4.trans x5
        have ho5 := xx5 _ _ no ho
        refine ⟨_, rfl, _, _, rfl, rfl, ?_⟩
        try dsimp only
        obtain ⟨look0, hlook0⟩ : ∃ x, x = lk0 - c.half := ⟨_, rfl⟩
        rw [← hlook0]
        try dsimp only [L2.start, List.map, List.length_cons, List.length_nil, List.replicate, List.set, List.append, List.cons_append, List.nil_append]
        have hnl : num.toNat < S.works.length := by omega
        have ga : as[num.toNat]? = some as[num.toNat] := List.getElem?_eq_getElem (by omega)
        have gw : S.works[num.toNat]? = some S.works[num.toNat] := List.getElem?_eq_getElem hnl
        generalize as[num.toNat] = a at ga
        generalize S.works[num.toNat] = wk at gw
        refine ⟨_, rfl, o, _, rfl, DGet.k (k := .inr "works") ho5, _, rfl, ws, _, _, .ref a, rfl, rfl, Evl.sq_of (xx5 _ _ nw w1), atI_of hn0 (by rw [List.getElem?_map, ga]; rfl), ?_⟩
        try dsimp only [L2.start, List.map, List.length_cons, List.length_nil, List.replicate, List.set, List.append, List.cons_append, List.nil_append]
        refine seq_cut (fun σ' H' => ∃ top look : Int, (-1000 ≤ top ∧ top ≤ 1000) ∧ σ' = [some (.ref d), some (.ref o), some (.ref k), some (.ref l), some (.int way), none, none, none, none, some (.int num), some (.int c.half), some (.int top), some (.int look), some (.ref a), none] ∧ ExX d H H' ∧ Deck H' d (n + 4)) ?_ fun cont2 => ?_
        · rintro σ' H6 ⟨top, look, ⟨hT0, hT1⟩, rfl, x6, d6⟩
          refine ⟨_, rfl, _, rfl, _, _, _, _, rfl, rfl, Evl.st_of (x6 _ _ nk hk), rfl, _, _, rfl, rfl, .inl ⟨by decide, by decide⟩, _, _, rfl, rfl, ?_⟩
          refine ⟨d, _, n + 4, rfl, d6, by omega, by omega, mid_of (by omega) (by omega), fun H7 f0 hf0 hf1 x7 d7 => ?_⟩
          have xx7 := x6.trans x7
          refine ⟨_, rfl, _, _, _, _, rfl, rfl, Evl.st_of (xx7 _ _ nk hk), rfl, _, _, rfl, rfl, ?_⟩
          refine ⟨by show 2 ≤ sizeLine; decide, fun fl hfl => ?_⟩
          try dsimp only
          generalize gH8 : upd H7 fl (.lst [.non, .int (f0 - c.m)]) = H8
          have eH8 : Evl.Ex H7 H8 := by rw [← gH8]; exact Evl.Ex.new hfl
          have oH8 : H8 fl = some (.lst [.non, .int (f0 - c.m)]) := by rw [← gH8]; exact upd_same
          refine ⟨_, rfl, d, 4, n + 4 + 1, rfl, d7.ex eH8, by omega, by decide, mid_of (by decide) (by decide), fun H9 r9 hr90 hr91 x9 d9 => ?_⟩
          have nfl : fl ≠ d := d7.fresh hfl
          have xx9 := xx7.trans ((ExX.ex eH8).trans x9)
          refine ⟨_, _, rfl, rfl, .inr ⟨_, rfl, fl, _, _, cv (if 0 < r9 then some (f0 - c.m) else none), rfl, rfl, Evl.sq_of (x9 _ _ nfl oH8), ?_, ?_⟩⟩
          · by_cases hz : 0 < r9
            · rw [if_pos hz, decide_eq_true hz]; rfl
            · rw [if_neg hz, decide_eq_false hz]; rfl
          generalize (if 0 < r9 then some (f0 - c.m) else none) = fe
          try dsimp only [L2.start, List.map, List.length_cons, List.length_nil, List.replicate, List.set, List.append, List.cons_append, List.nil_append]
          refine seq_cut (fun σ' H' => ∃ fv : V, FvOk H' d fv ∧ σ' = [some (.ref d), some (.ref o), some (.ref k), some (.ref l), some (.int way), none, none, none, none, some (.int num), some (.int c.half), some (.int top), some (.int look), some (.ref a), some fv] ∧ ExX d H H' ∧ Deck H' d (n + 8)) ?_ fun cont3 => ?_
          · rintro σ' H10 ⟨fv, hfv, rfl, x10, d10⟩
            refine seq_cut (fun σ' H' => ∃ t9 l9 : Int, σ' = [some (.ref d), some (.ref o), some (.ref k), some (.ref l), some (.int way), none, none, none, none, some (.int num), some (.int c.half), some (.int t9), some (.int l9), some (.ref a), some fv] ∧ FvOk H' d fv ∧ ExX d H H' ∧ Deck H' d (n + 10)) ?_ fun cont4 => ?_
            · rintro σ' H11 ⟨t9, l9, rfl, hfv, x11, d11⟩
              refine ⟨_, rfl, _, rfl, _, rfl, ?_⟩
              refine ⟨by show 4 ≤ sizeLine; decide, fun q hq => ?_⟩
              try dsimp only
              generalize gH12 : upd H11 q (.tup [.str "put", .int t9, .int l9, fv]) = H12
              have eH12 : Evl.Ex H11 H12 := by rw [← gH12]; exact Evl.Ex.new hq
              have oH12 : H12 q = some (.tup [.str "put", .int t9, .int l9, fv]) := by rw [← gH12]; exact upd_same
              exact hQ H12 q (.put t9 l9 fv) (x11.trans (ExX.ex eH12)) ((d11.ex eH12).mono (by omega)) (x11.back (d11.fresh hq) hq) oH12 ((hfv.exx (ExX.ex eH12)).fg)
            · refine ⟨_, rfl, d, 12, n + 8, rfl, d10, by omega, by decide, mid_of (by decide) (by decide), fun H11 r11 hr110 hr111 x11 d11 => ?_⟩
              have xx11 := x10.trans x11
              have hfv11 := hfv.exx x11
              refine ⟨rfl, _, rfl, itD (fun hz => ?_) (fun hz => ?_)⟩
              · refine ⟨_, rfl, ?_⟩
                refine ⟨by show 2 ≤ sizeLine; decide, fun t1 ht1 => ?_⟩
                try dsimp only
                generalize gH12 : upd H11 t1 (.tup [.int 0, .int look]) = H12
                have eH12 : Evl.Ex H11 H12 := by rw [← gH12]; exact Evl.Ex.new ht1
                have oH12 : H12 t1 = some (.tup [.int 0, .int look]) := by rw [← gH12]; exact upd_same
                refine ⟨_, rfl, _, _, rfl, rfl, .inl ⟨by decide, by decide⟩, _, rfl, ?_⟩
                refine ⟨by show 2 ≤ sizeLine; decide, fun t2 ht2 => ?_⟩
                try dsimp only
                generalize gH13 : upd H12 t2 (.tup [.int (2 * top), .int look]) = H13
                have eH13 : Evl.Ex H12 H13 := by rw [← gH13]; exact Evl.Ex.new ht2
                have oH13 : H13 t2 = some (.tup [.int (2 * top), .int look]) := by rw [← gH13]; exact upd_same
                refine ⟨_, rfl, _, rfl, ?_⟩
                refine ⟨by show 2 ≤ sizeLine; decide, fun t3 ht3 => ?_⟩
                try dsimp only
                generalize gH14 : upd H13 t3 (.tup [.int top, .int c.half]) = H14
                have eH14 : Evl.Ex H13 H14 := by rw [← gH14]; exact Evl.Ex.new ht3
                have oH14 : H14 t3 = some (.tup [.int top, .int c.half]) := by rw [← gH14]; exact upd_same
                refine ⟨_, rfl, _, rfl, _, _, rfl, rfl, _, _, rfl, rfl, ?_⟩
                refine ⟨by show 2 ≤ sizeLine; decide, fun t4 ht4 => ?_⟩
                try dsimp only
                generalize gH15 : upd H14 t4 (.tup [.int top, .int (0 - c.half - 1)]) = H15
                have eH15 : Evl.Ex H14 H15 := by rw [← gH15]; exact Evl.Ex.new ht4
                have oH15 : H15 t4 = some (.tup [.int top, .int (0 - c.half - 1)]) := by rw [← gH15]; exact upd_same
                refine ⟨_, rfl, _, _, rfl, rfl, _, rfl, ?_⟩
                refine ⟨by show 2 ≤ sizeLine; decide, fun t5 ht5 => ?_⟩
                try dsimp only
                generalize gH16 : upd H15 t5 (.tup [.int (0 - top), .int look]) = H16
                have eH16 : Evl.Ex H15 H16 := by rw [← gH16]; exact Evl.Ex.new ht5
                have oH16 : H16 t5 = some (.tup [.int (0 - top), .int look]) := by rw [← gH16]; exact upd_same
                refine ⟨by show 5 ≤ sizeLine; decide, fun l5 hl5 => ?_⟩
                try dsimp only
                generalize gH17 : upd H16 l5 (.lst [.ref t1, .ref t2, .ref t3, .ref t4, .ref t5]) = H17
                have eH17 : Evl.Ex H16 H17 := by rw [← gH17]; exact Evl.Ex.new hl5
                have oH17 : H17 l5 = some (.lst [.ref t1, .ref t2, .ref t3, .ref t4, .ref t5]) := by rw [← gH17]; exact upd_same
                have d16 := (((d11.ex eH12).ex eH13).ex eH14).ex eH15
                have d17 := (d16.ex eH16).ex eH17
                refine ⟨_, rfl, d, 5, n + 8 + 1, rfl, d17, by omega, by decide, mid_of (by decide) (by decide), fun H18 r18 hr180 hr181 x18 d18 => ?_⟩
                have nl5 : l5 ≠ d := (d16.ex eH16).fresh hl5
                have xx18 := xx11.trans (((ExX.ex eH12).trans ((ExX.ex eH13).trans ((ExX.ex eH14).trans ((ExX.ex eH15).trans ((ExX.ex eH16).trans (ExX.ex eH17)))))).trans x18)
                have hfv18 := hfv11.exx (((ExX.ex eH12).trans ((ExX.ex eH13).trans ((ExX.ex eH14).trans ((ExX.ex eH15).trans ((ExX.ex eH16).trans (ExX.ex eH17)))))).trans x18)
                obtain ⟨tt, y1, y2, htt, ht18⟩ : ∃ (tt : Addr) (y1 y2 : Int), ([.ref t1, .ref t2, .ref t3, .ref t4, .ref t5] : List V)[r18.toNat]? = some (.ref tt) ∧ H18 tt = some (.tup [.int y1, .int y2]) := by
                  have n1 : t1 ≠ d := d11.fresh ht1
                  have n2 : t2 ≠ d := (d11.ex eH12).fresh ht2
                  have n3 : t3 ≠ d := ((d11.ex eH12).ex eH13).fresh ht3
                  have n4 : t4 ≠ d := (((d11.ex eH12).ex eH13).ex eH14).fresh ht4
                  have n5 : t5 ≠ d := d16.fresh ht5
                  have : r18 = 0 ∨ r18 = 1 ∨ r18 = 2 ∨ r18 = 3 ∨ r18 = 4 := by omega
                  rcases this with rfl | rfl | rfl | rfl | rfl
                  · exact ⟨t1, _, _, rfl, x18 _ _ n1 (eH17 _ _ (eH16 _ _ (eH15 _ _ (eH14 _ _ (eH13 _ _ oH12)))))⟩
                  · exact ⟨t2, _, _, rfl, x18 _ _ n2 (eH17 _ _ (eH16 _ _ (eH15 _ _ (eH14 _ _ oH13))))⟩
                  · exact ⟨t3, _, _, rfl, x18 _ _ n3 (eH17 _ _ (eH16 _ _ (eH15 _ _ oH14)))⟩
                  · exact ⟨t4, _, _, rfl, x18 _ _ n4 (eH17 _ _ (eH16 _ _ oH15))⟩
                  · exact ⟨t5, _, _, rfl, x18 _ _ n5 (eH17 _ _ oH16)⟩
                refine ⟨l5, _, _, .ref tt, rfl, rfl, Evl.sq_of (x18 _ _ nl5 oH17), atI_of hr180 htt, ?_⟩
                refine ⟨tt, _, rfl, Evl.st_of ht18, rfl, _, _, rfl, _, _, rfl, rfl, ?_⟩
                exact cont4 _ _ ⟨y1, y2, rfl, hfv18, xx18, d18.mono (by omega)⟩
              · exact cont4 _ _ ⟨top, look, rfl, hfv11, xx11, d11.mono (by omega)⟩
          · refine ⟨_, rfl, d, 12, n + 4 + 1 + 1, rfl, d9, by omega, by decide, mid_of (by decide) (by decide), fun H10 r10 hr100 hr101 x10 d10 => ?_⟩
            have xx10 := xx9.trans x10
            refine ⟨rfl, _, rfl, itD (fun hz => ?_) (fun hz => ?_)⟩
            · refine ⟨_, rfl, _, _, _, _, rfl, rfl, Evl.st_of (xx10 _ _ nk hk), rfl, _, _, rfl, rfl, ?_⟩
              refine ⟨_, rfl, _, _, _, _, rfl, rfl, Evl.st_of (xx10 _ _ nk hk), rfl, _, _, rfl, rfl, _, _, rfl, rfl, ?_⟩
              refine ⟨by show 1 ≤ sizeLine; decide, fun tz htz => ?_⟩
              try dsimp only
              generalize gH11 : upd H10 tz (.tup [.int 0]) = H11
              have eH11 : Evl.Ex H10 H11 := by rw [← gH11]; exact Evl.Ex.new htz
              have oH11 : H11 tz = some (.tup [.int 0]) := by rw [← gH11]; exact upd_same
              refine ⟨_, _, rfl, rfl, ⟨by decide, by decide⟩, ?_⟩
              try dsimp only
              generalize (10 : Int) ^ Int.toNat 30 = big
              refine ⟨by show 6 ≤ sizeLine; decide, fun l4 hl4 => ?_⟩
              try dsimp only
              generalize gH12 : upd H11 l4 (.lst [.int (c.m + 1), .int (0 - c.m - 1), .bl true, .str "0", .ref tz, .int big]) = H12
              have eH12 : Evl.Ex H11 H12 := by rw [← gH12]; exact Evl.Ex.new hl4
              have oH12 : H12 l4 = some (.lst [.int (c.m + 1), .int (0 - c.m - 1), .bl true, .str "0", .ref tz, .int big]) := by rw [← gH12]; exact upd_same
              have d12 := (d10.ex eH11).ex eH12
              refine ⟨_, rfl, d, 6, n + 4 + 1 + 1 + 1, rfl, d12, by omega, by decide, mid_of (by decide) (by decide), fun H13 r13 hr130 hr131 x13 d13 => ?_⟩
              have nl4 : l4 ≠ d := (d10.ex eH11).fresh hl4
              have ntz : tz ≠ d := d10.fresh htz
              have xx13 := xx10.trans (((ExX.ex eH11).trans (ExX.ex eH12)).trans x13)
              obtain ⟨fv, hfv1, hfv2⟩ : ∃ fv : V, ([.int (c.m + 1), .int (0 - c.m - 1), .bl true, .str "0", .ref tz, .int big] : List V)[r13.toNat]? = some fv ∧ FvOk H13 d fv := by
                have : r13 = 0 ∨ r13 = 1 ∨ r13 = 2 ∨ r13 = 3 ∨ r13 = 4 ∨ r13 = 5 := by omega
                rcases this with rfl | rfl | rfl | rfl | rfl | rfl
                · exact ⟨_, rfl, .inl ⟨some _, rfl⟩⟩
                · exact ⟨_, rfl, .inl ⟨some _, rfl⟩⟩
                · exact ⟨_, rfl, .inr (.inl rfl)⟩
                · exact ⟨_, rfl, .inr (.inr (.inl rfl))⟩
                · exact ⟨_, rfl, .inr (.inr (.inr ⟨tz, rfl, ntz, x13 _ _ ntz (eH12 _ _ oH11)⟩))⟩
                · exact ⟨_, rfl, .inl ⟨some _, rfl⟩⟩
              refine ⟨l4, _, _, fv, rfl, rfl, Evl.sq_of (x13 _ _ nl4 oH12), atI_of hr130 hfv1, ?_⟩
              exact cont3 _ _ ⟨fv, hfv2, rfl, xx13, d13.mono (by omega)⟩
            · exact cont3 _ _ ⟨cv fe, .inl ⟨fe, rfl⟩, rfl, xx10, d10.mono (by omega)⟩
        · have O5 : OwnAt c T1 H5 o S := hO.exx td xx5 d5
          have w5 : WorkO T1 H5 num.toNat a wk := (w4 _ _ _ ga gw).go (Go.exx td xx5 d5) (fun z => nomatch z) (fun z => nomatch z)
          have R5 : RowsAt false T1 H5 rr S.tab := hrows.go (Go.exx td xx5 d5) (fun z => nomatch z) (fun i z => nomatch z)
          obtain ⟨nn, ff, sv, hwa, _⟩ := id w5
          have wok := st.wk wk (List.mem_of_getElem? gw)
          refine ⟨_, rfl, rfl, _, rfl, itD (fun h10 => ?_) (fun h10 => ?_)⟩
          · refine ⟨_, rfl, a, _, rfl, DGet.k (k := .inr "left") hwa, _, _, rfl, rfl, _, rfl, itD (fun hlf => ?_) (fun _ => ?_)⟩
            · obtain ⟨e, hf, he⟩ := wok.fit ok st.tab
              refine ⟨_, rfl, _, rfl, o, a, k, l, rr, ws, sn, dn, num.toNat, c, T1, wk, S.tab, e, rfl, ho5, xx5 _ _ nk hk, xx5 _ _ nl hl, w5, ok, R5.tabR, hf, fun H6 q cl sv' e6 h6 hcl hst => ?_⟩
              refine ⟨_, _, _, _, rfl, rfl, Evl.st_of h6, rfl, ?_⟩
              refine ⟨cl, _, rfl, Evl.st_of hcl, rfl, _, _, rfl, _, _, rfl, rfl, ?_⟩
              refine cont2 _ _ ⟨wk.tp c, wk.lk c, ?_, rfl, xx5.trans (ExX.ex e6), (d5.ex e6).mono (by omega)⟩
              have h1 := hf.i1
              have h2 : topI c (wk.tp c) < S.tab.length := by
                have h3 := hf.at_
                unfold entAt at h3
                cases h4 : S.tab[topI c (wk.tp c)]? with
                | none => rw [h4] at h3; cases h3
                | some row => exact (List.getElem?_eq_some_iff.mp h4).1
              have h5 := st.tab.le ok
              unfold topI at h2
              omega
            · exact cont2 _ _ ⟨top0, look0, by omega, rfl, xx5, d5.mono (by omega)⟩
          · exact cont2 _ _ ⟨top0, look0, by omega, rfl, xx5, d5.mono (by omega)⟩
    refine ⟨_, rfl, _, _, rfl, rfl, _, rfl, itD (fun h => ?_) (fun h => ?_)⟩
    · refine ⟨_, rfl, o, _, rfl, DGet.k (k := .inr "works") ho1, ws, _, rfl, .inl sw, _, _, rfl, rfl, _, rfl, itD (fun h2 => ?_) (fun h2 => ?_)⟩
      · have xH := x1
        have dH := d1
        have hkB := xH _ _ nk hk
        refine ⟨_, rfl, _, rfl, d, k, c, n + 1, rfl, hkB, ok, dH, by omega, fun H2 q1 x v x2 d2 o2 bx bv v0 => ?_⟩
        refine ⟨q1, _, rfl, Evl.st_of o2, rfl, _, _, rfl, _, _, rfl, rfl, ?_⟩
        try dsimp only [L2.start, List.map, List.length_cons, List.length_nil, List.replicate, List.set, List.append, List.cons_append, List.nil_append]
        have xx2 := xH.trans x2
        refine ⟨_, rfl, _, rfl, _, rfl, k, c, x, v, rfl, Evl.st_of (xx2 _ _ nk hk), ok, bx, v0, fun lst hls hlj => ?_⟩
        try dsimp only [L2.start, List.map, List.length_cons, List.length_nil, List.replicate, List.set, List.append, List.cons_append, List.nil_append]
        refine ⟨_, rfl, _, rfl, _, rfl, d, 4, n + 1 + 1000, rfl, d2, by omega, by decide, mid_of (by decide) (by decide), fun H3 p3 a3 b3 x3 d3 => ?_⟩
        refine ⟨_, _, rfl, rfl, ?_⟩
        refine ⟨_, rfl, _, _, rfl, rfl, _, _, rfl, ?_⟩
        refine ⟨by show 3 ≤ sizeLine; decide, fun l1 hl1 => ?_⟩
        try dsimp only
        generalize gH4 : upd H3 l1 (.lst [.int (lst : Nat), .int ((lst : Nat) + p3), .int (if (lst : Nat) - (1 : Int) > 0 then (lst : Nat) - (1 : Int) else 0)]) = H4
        have eH4 : Evl.Ex H3 H4 := by rw [← gH4]; exact Evl.Ex.new hl1
        have oH4 : H4 l1 = some (.lst [.int (lst : Nat), .int ((lst : Nat) + p3), .int (if (lst : Nat) - (1 : Int) > 0 then (lst : Nat) - (1 : Int) else 0)]) := by rw [← gH4]; exact upd_same
        refine ⟨_, rfl, d, 3, n + 1 + 1000 + 1, rfl, d3.ex eH4, by omega, by decide, mid_of (by decide) (by decide), fun H5 p5 a5 b5 x5 d5 => ?_⟩
        have nl1 : l1 ≠ d := d3.fresh hl1
        obtain ⟨many, hmany, hmle⟩ : ∃ many : Nat, ([V.int (lst : Nat), V.int ((lst : Nat) + p3), V.int (if (lst : Nat) - (1 : Int) > 0 then (lst : Nat) - (1 : Int) else 0)] : List V)[p5.toNat]? = some (.int (many : Nat)) ∧ many ≤ 1010 := by
          have : p5 = 0 ∨ p5 = 1 ∨ p5 = 2 := by omega
          rcases this with rfl | rfl | rfl
          · exact ⟨lst, rfl, by omega⟩
          · exact ⟨lst + p3.toNat, congrArg (fun z => some (V.int z)) (by omega), by omega⟩
          · exact ⟨lst - 1, congrArg (fun z => some (V.int z)) (by split <;> omega), by omega⟩
        refine ⟨l1, _, _, .int (many : Nat), rfl, rfl, Evl.sq_of (x5 _ _ nl1 oH4), atI_of a5 hmany, ?_⟩
        try dsimp only [L2.start, List.map, List.length_cons, List.length_nil, List.replicate, List.set, List.append, List.cons_append, List.nil_append]
        refine ⟨by show 2 ≤ sizeLine; decide, fun l2 hl2 => ?_⟩
        try dsimp only
        generalize gH6 : upd H5 l2 (.lst [.str "begin", .str "rows"]) = H6
        have eH6 : Evl.Ex H5 H6 := by rw [← gH6]; exact Evl.Ex.new hl2
        have oH6 : H6 l2 = some (.lst [.str "begin", .str "rows"]) := by rw [← gH6]; exact upd_same
        refine ⟨_, rfl, d, 2, n + 1 + 1000 + 1 + 1, rfl, d5.ex eH6, by omega, by decide, mid_of (by decide) (by decide), fun H7 p7 a7 b7 x7 d7 => ?_⟩
        have nl2 : l2 ≠ d := d5.fresh hl2
        obtain ⟨r, hr2⟩ : ∃ r : Bool, ([V.str "begin", V.str "rows"] : List V)[p7.toNat]? = some (.str (wordOf r)) := by
          have : p7 = 0 ∨ p7 = 1 := by omega
          rcases this with rfl | rfl
          · exact ⟨false, rfl⟩
          · exact ⟨true, rfl⟩
        refine ⟨l2, _, _, .str (wordOf r), rfl, rfl, Evl.sq_of (x7 _ _ nl2 oH6), atI_of a7 hr2, _, rfl, _, rfl, _, rfl, ?_⟩
        have xx7 := (((xx2.trans x3).trans (ExX.ex eH4)).trans x5).trans ((ExX.ex eH6).trans x7)
        refine ⟨by show 4 ≤ sizeLine; decide, fun q hq => ?_⟩
        try dsimp only
        generalize gH8 : upd H7 q (.tup [.str (wordOf r), .int x, .int v, .int (many : Nat)]) = H8
        have eH8 : Evl.Ex H7 H8 := by rw [← gH8]; exact Evl.Ex.new hq
        have oH8 : H8 q = some (.tup [.str (wordOf r), .int x, .int v, .int (many : Nat)]) := by rw [← gH8]; exact upd_same
        exact hQ H8 q (.beg r x v many) (xx7.trans (ExX.ex eH8)) ((d7.ex eH8).mono (by omega)) (xx7.back (d7.fresh hq) hq) oH8 ⟨bx, v0, bv, hmle⟩
      · refine ⟨_, rfl, o, _, rfl, DGet.k (k := .inr "works") ho1, ?_⟩
        refine ⟨by show 0 ≤ sizeLine; decide, fun nz hnz => ?_⟩
        try dsimp only
        generalize gHN : upd H1 nz (.lst []) = HN
        have eHN : Evl.Ex H1 HN := by rw [← gHN]; exact Evl.Ex.new hnz
        have oHN : HN nz = some (.lst []) := by rw [← gHN]; exact upd_same
        have xH := x1.trans (ExX.ex eHN)
        have dH := d1.ex eHN
        refine ⟨ws, nz, _, rfl, rfl, Evl.sq_of (eHN _ _ (x1 _ _ nw w1)), Evl.sq_of oHN, _, rfl, ?_⟩
        cases has : (as.map V.ref).isEmpty with
        | true =>
          refine iteT ?_
          have hkB := xH _ _ nk hk
          refine ⟨_, rfl, _, rfl, d, k, c, n + 1, rfl, hkB, ok, dH, by omega, fun H2 q1 x v x2 d2 o2 bx bv v0 => ?_⟩
          refine ⟨q1, _, rfl, Evl.st_of o2, rfl, _, _, rfl, _, _, rfl, rfl, ?_⟩
          try dsimp only [L2.start, List.map, List.length_cons, List.length_nil, List.replicate, List.set, List.append, List.cons_append, List.nil_append]
          have xx2 := xH.trans x2
          refine ⟨_, rfl, _, rfl, _, rfl, k, c, x, v, rfl, Evl.st_of (xx2 _ _ nk hk), ok, bx, v0, fun lst hls hlj => ?_⟩
          try dsimp only [L2.start, List.map, List.length_cons, List.length_nil, List.replicate, List.set, List.append, List.cons_append, List.nil_append]
          refine ⟨_, rfl, _, rfl, _, rfl, d, 4, n + 1 + 1000, rfl, d2, by omega, by decide, mid_of (by decide) (by decide), fun H3 p3 a3 b3 x3 d3 => ?_⟩
          refine ⟨_, _, rfl, rfl, ?_⟩
          refine ⟨_, rfl, _, _, rfl, rfl, _, _, rfl, ?_⟩
          refine ⟨by show 3 ≤ sizeLine; decide, fun l1 hl1 => ?_⟩
          try dsimp only
          generalize gH4 : upd H3 l1 (.lst [.int (lst : Nat), .int ((lst : Nat) + p3), .int (if (lst : Nat) - (1 : Int) > 0 then (lst : Nat) - (1 : Int) else 0)]) = H4
          have eH4 : Evl.Ex H3 H4 := by rw [← gH4]; exact Evl.Ex.new hl1
          have oH4 : H4 l1 = some (.lst [.int (lst : Nat), .int ((lst : Nat) + p3), .int (if (lst : Nat) - (1 : Int) > 0 then (lst : Nat) - (1 : Int) else 0)]) := by rw [← gH4]; exact upd_same
          refine ⟨_, rfl, d, 3, n + 1 + 1000 + 1, rfl, d3.ex eH4, by omega, by decide, mid_of (by decide) (by decide), fun H5 p5 a5 b5 x5 d5 => ?_⟩
          have nl1 : l1 ≠ d := d3.fresh hl1
          obtain ⟨many, hmany, hmle⟩ : ∃ many : Nat, ([V.int (lst : Nat), V.int ((lst : Nat) + p3), V.int (if (lst : Nat) - (1 : Int) > 0 then (lst : Nat) - (1 : Int) else 0)] : List V)[p5.toNat]? = some (.int (many : Nat)) ∧ many ≤ 1010 := by
            have : p5 = 0 ∨ p5 = 1 ∨ p5 = 2 := by omega
            rcases this with rfl | rfl | rfl
            · exact ⟨lst, rfl, by omega⟩
            · exact ⟨lst + p3.toNat, congrArg (fun z => some (V.int z)) (by omega), by omega⟩
            · exact ⟨lst - 1, congrArg (fun z => some (V.int z)) (by split <;> omega), by omega⟩
          refine ⟨l1, _, _, .int (many : Nat), rfl, rfl, Evl.sq_of (x5 _ _ nl1 oH4), atI_of a5 hmany, ?_⟩
          try dsimp only [L2.start, List.map, List.length_cons, List.length_nil, List.replicate, List.set, List.append, List.cons_append, List.nil_append]
          refine ⟨by show 2 ≤ sizeLine; decide, fun l2 hl2 => ?_⟩
          try dsimp only
          generalize gH6 : upd H5 l2 (.lst [.str "begin", .str "rows"]) = H6
          have eH6 : Evl.Ex H5 H6 := by rw [← gH6]; exact Evl.Ex.new hl2
          have oH6 : H6 l2 = some (.lst [.str "begin", .str "rows"]) := by rw [← gH6]; exact upd_same
          refine ⟨_, rfl, d, 2, n + 1 + 1000 + 1 + 1, rfl, d5.ex eH6, by omega, by decide, mid_of (by decide) (by decide), fun H7 p7 a7 b7 x7 d7 => ?_⟩
          have nl2 : l2 ≠ d := d5.fresh hl2
          obtain ⟨r, hr2⟩ : ∃ r : Bool, ([V.str "begin", V.str "rows"] : List V)[p7.toNat]? = some (.str (wordOf r)) := by
            have : p7 = 0 ∨ p7 = 1 := by omega
            rcases this with rfl | rfl
            · exact ⟨false, rfl⟩
            · exact ⟨true, rfl⟩
          refine ⟨l2, _, _, .str (wordOf r), rfl, rfl, Evl.sq_of (x7 _ _ nl2 oH6), atI_of a7 hr2, _, rfl, _, rfl, _, rfl, ?_⟩
          have xx7 := (((xx2.trans x3).trans (ExX.ex eH4)).trans x5).trans ((ExX.ex eH6).trans x7)
          refine ⟨by show 4 ≤ sizeLine; decide, fun q hq => ?_⟩
          try dsimp only
          generalize gH8 : upd H7 q (.tup [.str (wordOf r), .int x, .int v, .int (many : Nat)]) = H8
          have eH8 : Evl.Ex H7 H8 := by rw [← gH8]; exact Evl.Ex.new hq
          have oH8 : H8 q = some (.tup [.str (wordOf r), .int x, .int v, .int (many : Nat)]) := by rw [← gH8]; exact upd_same
          exact hQ H8 q (.beg r x v many) (xx7.trans (ExX.ex eH8)) ((d7.ex eH8).mono (by omega)) (xx7.back (d7.fresh hq) hq) oH8 ⟨bx, v0, bv, hmle⟩
        | false =>
          refine iteF ?_
          have hpos : 0 < S.works.length := by
            rw [← w3]
            cases as with
            | nil => cases has
            | cons a as => exact Nat.succ_pos _
          exact cont _ _ ⟨rfl, xH, dH, hpos⟩
    · refine ⟨_, rfl, o, _, rfl, DGet.k (k := .inr "works") ho1, ?_⟩
      refine ⟨by show 0 ≤ sizeLine; decide, fun nz hnz => ?_⟩
      try dsimp only
      generalize gHN : upd H1 nz (.lst []) = HN
      have eHN : Evl.Ex H1 HN := by rw [← gHN]; exact Evl.Ex.new hnz
      have oHN : HN nz = some (.lst []) := by rw [← gHN]; exact upd_same
      have xH := x1.trans (ExX.ex eHN)
      have dH := d1.ex eHN
      refine ⟨ws, nz, _, rfl, rfl, Evl.sq_of (eHN _ _ (x1 _ _ nw w1)), Evl.sq_of oHN, _, rfl, ?_⟩
      cases has : (as.map V.ref).isEmpty with
      | true =>
        refine iteT ?_
        have hkB := xH _ _ nk hk
        refine ⟨_, rfl, _, rfl, d, k, c, n + 1, rfl, hkB, ok, dH, by omega, fun H2 q1 x v x2 d2 o2 bx bv v0 => ?_⟩
        refine ⟨q1, _, rfl, Evl.st_of o2, rfl, _, _, rfl, _, _, rfl, rfl, ?_⟩
        try dsimp only [L2.start, List.map, List.length_cons, List.length_nil, List.replicate, List.set, List.append, List.cons_append, List.nil_append]
        have xx2 := xH.trans x2
        refine ⟨_, rfl, _, rfl, _, rfl, k, c, x, v, rfl, Evl.st_of (xx2 _ _ nk hk), ok, bx, v0, fun lst hls hlj => ?_⟩
        try dsimp only [L2.start, List.map, List.length_cons, List.length_nil, List.replicate, List.set, List.append, List.cons_append, List.nil_append]
        refine ⟨_, rfl, _, rfl, _, rfl, d, 4, n + 1 + 1000, rfl, d2, by omega, by decide, mid_of (by decide) (by decide), fun H3 p3 a3 b3 x3 d3 => ?_⟩
        refine ⟨_, _, rfl, rfl, ?_⟩
        refine ⟨_, rfl, _, _, rfl, rfl, _, _, rfl, ?_⟩
        refine ⟨by show 3 ≤ sizeLine; decide, fun l1 hl1 => ?_⟩
        try dsimp only
        generalize gH4 : upd H3 l1 (.lst [.int (lst : Nat), .int ((lst : Nat) + p3), .int (if (lst : Nat) - (1 : Int) > 0 then (lst : Nat) - (1 : Int) else 0)]) = H4
        have eH4 : Evl.Ex H3 H4 := by rw [← gH4]; exact Evl.Ex.new hl1
        have oH4 : H4 l1 = some (.lst [.int (lst : Nat), .int ((lst : Nat) + p3), .int (if (lst : Nat) - (1 : Int) > 0 then (lst : Nat) - (1 : Int) else 0)]) := by rw [← gH4]; exact upd_same
        refine ⟨_, rfl, d, 3, n + 1 + 1000 + 1, rfl, d3.ex eH4, by omega, by decide, mid_of (by decide) (by decide), fun H5 p5 a5 b5 x5 d5 => ?_⟩
        have nl1 : l1 ≠ d := d3.fresh hl1
        obtain ⟨many, hmany, hmle⟩ : ∃ many : Nat, ([V.int (lst : Nat), V.int ((lst : Nat) + p3), V.int (if (lst : Nat) - (1 : Int) > 0 then (lst : Nat) - (1 : Int) else 0)] : List V)[p5.toNat]? = some (.int (many : Nat)) ∧ many ≤ 1010 := by
          have : p5 = 0 ∨ p5 = 1 ∨ p5 = 2 := by omega
          rcases this with rfl | rfl | rfl
          · exact ⟨lst, rfl, by omega⟩
          · exact ⟨lst + p3.toNat, congrArg (fun z => some (V.int z)) (by omega), by omega⟩
          · exact ⟨lst - 1, congrArg (fun z => some (V.int z)) (by split <;> omega), by omega⟩
        refine ⟨l1, _, _, .int (many : Nat), rfl, rfl, Evl.sq_of (x5 _ _ nl1 oH4), atI_of a5 hmany, ?_⟩
        try dsimp only [L2.start, List.map, List.length_cons, List.length_nil, List.replicate, List.set, List.append, List.cons_append, List.nil_append]
        refine ⟨by show 2 ≤ sizeLine; decide, fun l2 hl2 => ?_⟩
        try dsimp only
        generalize gH6 : upd H5 l2 (.lst [.str "begin", .str "rows"]) = H6
        have eH6 : Evl.Ex H5 H6 := by rw [← gH6]; exact Evl.Ex.new hl2
        have oH6 : H6 l2 = some (.lst [.str "begin", .str "rows"]) := by rw [← gH6]; exact upd_same
        refine ⟨_, rfl, d, 2, n + 1 + 1000 + 1 + 1, rfl, d5.ex eH6, by omega, by decide, mid_of (by decide) (by decide), fun H7 p7 a7 b7 x7 d7 => ?_⟩
        have nl2 : l2 ≠ d := d5.fresh hl2
        obtain ⟨r, hr2⟩ : ∃ r : Bool, ([V.str "begin", V.str "rows"] : List V)[p7.toNat]? = some (.str (wordOf r)) := by
          have : p7 = 0 ∨ p7 = 1 := by omega
          rcases this with rfl | rfl
          · exact ⟨false, rfl⟩
          · exact ⟨true, rfl⟩
        refine ⟨l2, _, _, .str (wordOf r), rfl, rfl, Evl.sq_of (x7 _ _ nl2 oH6), atI_of a7 hr2, _, rfl, _, rfl, _, rfl, ?_⟩
        have xx7 := (((xx2.trans x3).trans (ExX.ex eH4)).trans x5).trans ((ExX.ex eH6).trans x7)
        refine ⟨by show 4 ≤ sizeLine; decide, fun q hq => ?_⟩
        try dsimp only
        generalize gH8 : upd H7 q (.tup [.str (wordOf r), .int x, .int v, .int (many : Nat)]) = H8
        have eH8 : Evl.Ex H7 H8 := by rw [← gH8]; exact Evl.Ex.new hq
        have oH8 : H8 q = some (.tup [.str (wordOf r), .int x, .int v, .int (many : Nat)]) := by rw [← gH8]; exact upd_same
        exact hQ H8 q (.beg r x v many) (xx7.trans (ExX.ex eH8)) ((d7.ex eH8).mono (by omega)) (xx7.back (d7.fresh hq) hq) oH8 ⟨bx, v0, bv, hmle⟩
      | false =>
        refine iteF ?_
        have hpos : 0 < S.works.length := by
          rw [← w3]
          cases as with
          | nil => cases has
          | cons a as => exact Nat.succ_pos _
        exact cont _ _ ⟨rfl, xH, dH, hpos⟩
end SF
end
section
set_option Elab.async false
set_option linter.all false
set_option maxRecDepth 100000
set_option maxHeartbeats 4000000
namespace SF
open PySem PySem.Spec PyProof.Rows L2
/-! ### tags for a bench that was just made -/
def tagL (T : TT1) (as : List Addr) (f : Nat → Tg) : TT1 := fun a => if a ∈ as then f (as.idxOf a) else T a
theorem tagL_ne {T : TT1} {as : List Addr} {f : Nat → Tg} {a : Addr} (h : a ∉ as) : tagL T as f a = T a := by unfold tagL; rw [if_neg h]
theorem idx_nodup : ∀ {as : List Addr} {i : Nat} {a : Addr}, as.Nodup → as[i]? = some a → as.idxOf a = i
  | [], i, a, _, h => by cases i <;> cases h
  | b :: as, 0, a, _, h => by
    cases h
    exact List.idxOf_cons_self
  | b :: as, i + 1, a, nd, h => by
    have h2 : as[i]? = some a := h
    have hm := List.mem_of_getElem? h2
    have nb : b ≠ a := fun z => (List.nodup_cons.mp nd).1 (by rw [z]; exact hm)
    rw [List.idxOf_cons, beq_false_of_ne nb]
    show List.idxOf a as + 1 = i + 1
    rw [idx_nodup (List.nodup_cons.mp nd).2 h2]
theorem tagL_at {T : TT1} {as : List Addr} {f : Nat → Tg} {i : Nat} {a : Addr} (nd : as.Nodup) (h : as[i]? = some a) : tagL T as f a = f i := by
  unfold tagL
  rw [if_pos (List.mem_of_getElem? h), idx_nodup nd h]
theorem cv_ref {e : Option Int} {a : Addr} : cv e ≠ V.ref a := by
  cases e with
  | none => exact fun z => nomatch z
  | some i => exact fun z => nomatch z
/-- rows of a table, each not empty -/
def TabN (tab : List (List (Option Int))) : Prop := 0 < tab.length ∧ ∀ row ∈ tab, row ≠ []
theorem rowsIn_ne {H : Hp} {as : List Addr} {tab : List (List (Option Int))} (h : RowsIn H as tab) (n : TabN tab) {a : Addr} (ha : a ∈ as) : ∃ e es, H a = some (.lst (cv e :: es)) := by
  obtain ⟨j, hj⟩ := List.mem_iff_getElem?.mp ha
  have hjl := (List.getElem?_eq_some_iff.mp hj).1
  rw [h.1] at hjl
  have h1 := h.2 j a _ hj (List.getElem?_eq_getElem hjl)
  have h2 := n.2 _ (List.getElem_mem hjl)
  cases hr : tab[j] with
  | nil => exact absurd hr h2
  | cons e es =>
    rw [hr] at h1
    exact ⟨e, _, h1⟩
theorem side_tags (s : Bool) (W : TT1 → Hp → Nat → Addr → Wk → Prop) {T : TT1} {H H' : Hp} {as : List Addr} {ws sn dn r : Addr} {tab : List (List (Option Int))} (tg : TgOk T H) (gr : Gr H H') (nd : as.Nodup) (fa : ∀ a ∈ as, H a = none) (fr : H r = none) (fw : H ws = none) (fs : H sn = none) (fd : H dn = none)
    (n1 : ws ≠ dn) (hr : H' r = some (.lst (as.map V.ref))) (tn : TabN tab) (hin : RowsIn H' as tab) (hw : H' ws = some (.lst [])) (hs : H' sn = some (.dT [])) (hd : H' dn = some (.lst [])) :
    ∃ T' : TT1, (∀ a, H a ≠ none → T' a = T a) ∧ TgOk T' H' ∧ RowsAt s T' H' r tab ∧ WorksAt W s T' H' ws [] ∧ SeenAt s T' H' sn [] ∧ DeedsAt s T' H' dn [] ∧ ∀ a, (∀ xs, H' a ≠ some (.lst xs)) → (∀ k, H' a ≠ some (.dT k)) → T' a = T a := by
  have nas : ∀ {a : Addr}, (∀ e es, H' a ≠ some (.lst (cv e :: es))) → a ∉ as := fun h z => by
    obtain ⟨e, es, q⟩ := rowsIn_ne hin tn z
    exact h e es q
  have wa : ws ∉ as := nas fun e es z => by rw [hw] at z; cases z
  have da : dn ∉ as := nas fun e es z => by rw [hd] at z; cases z
  have sa : sn ∉ as := nas fun e es z => by rw [hs] at z; cases z
  have asl : as ≠ [] := fun z => by
    have := hin.1
    rw [z] at this
    have := tn.1
    simp at *
    omega
  obtain ⟨a0, as0, ea⟩ : ∃ a0 as0, as = a0 :: as0 := by
    cases as with
    | nil => exact absurd rfl asl
    | cons a0 as0 => exact ⟨_, _, rfl⟩
  have ra : r ∉ as := nas fun e es z => by
    rw [hr, ea] at z
    injection z with z
    injection z with z
    injection z with z _
    exact cv_ref z.symm
  have ws_sn : ws ≠ sn := fun z => by rw [z, hs] at hw; cases hw
  have dn_sn : dn ≠ sn := fun z => by rw [z, hs] at hd; cases hd
  have r_sn : r ≠ sn := fun z => by rw [z, hs] at hr; cases hr
  have r_ws : r ≠ ws := fun z => by rw [z, hw, ea] at hr; cases hr
  have r_dn : r ≠ dn := fun z => by rw [z, hd, ea] at hr; cases hr
  have key : ∀ a, a ∉ as → a ≠ ws → a ≠ sn → a ≠ dn → tagAt (tagAt (tagAt (tagL T as (Tg.row s)) ws (.ws s)) sn (.sn s)) dn (.dn s) a = T a := fun a h1 h2 h3 h4 => by
    rw [tagAt_ne h4, tagAt_ne h3, tagAt_ne h2, tagL_ne h1]
  have old : ∀ a, H a ≠ none → a ∉ as ∧ a ≠ ws ∧ a ≠ sn ∧ a ≠ dn := fun a h => ⟨fun z => h (fa a z), fun z => h (by rw [z]; exact fw), fun z => h (by rw [z]; exact fs), fun z => h (by rw [z]; exact fd)⟩
  refine ⟨tagAt (tagAt (tagAt (tagL T as (Tg.row s)) ws (.ws s)) sn (.sn s)) dn (.dn s), fun a h => ?_, fun a h => ?_, ⟨as, hr, ?_, hin.1, fun i b row h1 h2 => ⟨?_, hin.2 i b row h1 h2⟩⟩, ⟨[], hw, ?_, rfl, fun i b w h => ?_⟩, ⟨hs, ?_⟩, ⟨[], hd, ?_, rfl, fun i b w h => ?_⟩, fun a h1 h2 => ?_⟩
  · obtain ⟨h1, h2, h3, h4⟩ := old a h
    exact key a h1 h2 h3 h4
  · have h0 := tg a (gr a h)
    rw [key a (fun z => by obtain ⟨e, es, q⟩ := rowsIn_ne hin tn z; rw [q] at h; cases h) (fun z => by rw [z, hw] at h; cases h) (fun z => by rw [z, hs] at h; cases h) (fun z => by rw [z, hd] at h; cases h)]
    exact h0
  · rw [key r ra r_ws r_sn r_dn]
    exact tg r fr
  · have hb := List.mem_of_getElem? h1
    rw [tagAt_ne (fun z => da (by rw [← z]; exact hb)), tagAt_ne (fun z => sa (by rw [← z]; exact hb)), tagAt_ne (fun z => wa (by rw [← z]; exact hb)), tagL_at nd h1]
  · rw [tagAt_ne n1, tagAt_ne ws_sn, tagAt_same]
  · cases i <;> cases h
  · rw [tagAt_ne (fun z => dn_sn z.symm), tagAt_same]
  · rw [tagAt_same]
  · cases i <;> cases h
  · exact key a (fun z => by obtain ⟨e, es, q⟩ := rowsIn_ne hin tn z; exact h1 _ q) (fun z => h1 _ (by rw [z]; exact hw)) (fun z => h2 _ (by rw [z]; exact hs)) (fun z => h1 _ (by rw [z]; exact hd))
end SF
end
section
set_option Elab.async false
set_option linter.all false
set_option maxRecDepth 100000
set_option maxHeartbeats 4000000
namespace SF
open PySem PySem.Spec PyProof.Rows L2
/-! ### law: what stands between the deeds -/
def RowsTg (g : Tg) (T : TT1) (H : Hp) (r : Addr) (tab : List (List (Option Int))) : Prop := ∃ as : List Addr, H r = some (.lst (as.map V.ref)) ∧ T r = .no ∧ as.length = tab.length ∧
  ∀ (i : Nat) (b : Addr) (row : List (Option Int)), as[i]? = some b → tab[i]? = some row → T b = g ∧ H b = some (.lst (row.map cv))
theorem RowsTg.go {p : Tg → Prop} {T T' : TT1} {H H' : Hp} {g : Tg} {r : Addr} {tab : List (List (Option Int))} (f : Go p T H T' H') (h0 : ¬ p .no) (h1 : ¬ p g) (h : RowsTg g T H r tab) : RowsTg g T' H' r tab := by
  obtain ⟨as, a1, a2, a3, a4⟩ := h
  obtain ⟨b1, b2⟩ := f.at a1 (by rw [a2]; exact h0)
  refine ⟨as, b1, b2.trans a2, a3, fun i b row h2 h3 => ?_⟩
  obtain ⟨c1, c2⟩ := a4 i b row h2 h3
  obtain ⟨d1, d2⟩ := f.at c2 (by rw [c1]; exact h1)
  exact ⟨d2.trans c1, d1⟩
theorem RowsTg.tabR {K : PySem.W.Frag} {g : Tg} {T : TT1} {H : Hp} {r : Addr} {tab : List (List (Option Int))} (h : RowsTg g T H r tab) : TabR K H r tab := by
  obtain ⟨as, a1, a2, a3, a4⟩ := h
  exact ⟨as, Evl.sq_of a1, a3, fun i b row h1 h2 => Evl.sq_of (a4 i b row h1 h2).2⟩
structure LawI (K : PySem.W.Frag) (c : Kd) (o b hd tb : Addr) (tab : List (List (Option Int))) (en : Addr) (xs : List V) (n : Nat) (H : Hp) (T : TT1) (S : Sta) : Prop where
  tg : TgOk T H
  own : OwnAt c T H o S
  bench : BenchAt K c T H b S
  st : StOk c S
  ln : StLen S n
  hd : RowsTg .oth T H hd tab
  tb : RowsTg .no T H tb tab
  en : H en = some (.lst xs) ∧ T en = .no
theorem LawI.exF {K : PySem.W.Frag} {c : Kd} {o b hd tb en : Addr} {tab : List (List (Option Int))} {xs : List V} {n : Nat} {H H' : Hp} {T T' : TT1} {S : Sta} (h : LawI K c o b hd tb tab en xs n H T S) {p : Tg → Prop} (g : Go p T H T' H') (hp : ∀ t, p t → t.sd = 4) (t : TgOk T' H') : LawI K c o b hd tb tab en xs n H' T' S := by
  have np : ∀ t : Tg, t.sd ≠ 4 → ¬ p t := fun t h z => h (hp t z)
  exact ⟨t, h.own.go g fun t z => by rw [hp t z]; exact ⟨by decide, by decide⟩, h.bench.go g fun t z => by rw [hp t z]; exact ⟨by decide, by decide⟩, h.st, h.ln, h.hd.go g (np _ (by decide)) (np _ (by decide)), h.tb.go g (np _ (by decide)) (np _ (by decide)), noAt g (np _ (by decide)) h.en⟩
theorem LawI.ex {K : PySem.W.Frag} {c : Kd} {o b hd tb en : Addr} {tab : List (List (Option Int))} {xs : List V} {n : Nat} {H H' : Hp} {T : TT1} {S : Sta} (h : LawI K c o b hd tb tab en xs n H T S) (e : Evl.Ex H H') : LawI K c o b hd tb tab en xs n H' T S :=
  h.exF (p := fun _ => False) (Go.ex e) (fun _ z => z.elim) (h.tg.gr (Gr.ex e))
/-- .. what is new and no part of these is written -/
theorem LawI.wr {K : PySem.W.Frag} {c : Kd} {o b hd tb en : Addr} {tab : List (List (Option Int))} {xs : List V} {n : Nat} {H H' : Hp} {T : TT1} {S : Sta} (h : LawI K c o b hd tb tab en xs n H T S) (e : Evl.Ex H H') {a : Addr} (hn : H a = none) (v : HO) : LawI K c o b hd tb tab en xs n (upd H' a v) (tagAt T a .dk) S :=
  h.exF (p := fun t => t = .dk) ((Go.tag hn).trans ((Go.ex e).trans (Go.upd tagAt_same))) (fun t z => by rw [z]; rfl) fun z hz => by
    have nz : z ≠ a := fun w => by rw [w, upd_same] at hz; cases hz
    rw [upd_ne nz] at hz
    rw [tagAt_ne nz]
    exact h.tg z (Evl.fresh_back e hz)
theorem LawI.mono {K : PySem.W.Frag} {c : Kd} {o b hd tb en : Addr} {tab : List (List (Option Int))} {xs : List V} {n m : Nat} {H : Hp} {T : TT1} {S : Sta} (h : LawI K c o b hd tb tab en xs n H T S) (l : n ≤ m) : LawI K c o b hd tb tab en xs m H T S := ⟨h.tg, h.own, h.bench, h.st, h.ln.mono l, h.hd, h.tb, h.en⟩
theorem cut_all {p : V → Prop} {xs : List V} {lo hi : Option Int} (h : ∀ x ∈ xs, p x) : ∀ x ∈ cutV xs lo hi, p x := fun x hx => h x (List.mem_of_mem_drop (List.mem_of_mem_take hx))
theorem TabOk.n {c : Kd} {tab : List (List (Option Int))} (h : TabOk c tab) (ok : c.Ok) : TabN tab := ⟨h.pos, fun row hr e => by
  have h1 := (h.2 row hr).1
  obtain ⟨h2, h3⟩ := ok.half_lt
  rw [e] at h1
  have h4 : (0 : Nat) = (2 * c.half).toNat := h1
  omega⟩
/-- a loop, its ends as a variable -/
theorem seq_end {u v : TS} {D : Ends} {σ : L2.St} {H : Hp} (h : ∀ D' : Ends, (∀ σ' H', v D σ' H' → D'.nx σ' H') → u D' σ H) : tSeq u v D σ H := h _ fun _ _ z => z
def spLaw (K : PySem.W.Frag) : Sp := fun vs H Q _ => ∃ (a : Addr) (ns : List Int), vs = [.ref a] ∧ SqL K H a (ns.map V.int) ∧ ns.length ≤ 63 ∧ ∀ H', Q (.bl true) H'
theorem sc_law : FnScope ["script", "deck", "kind", "looks", "table", "lacks", "handed", "bench", "own", "rounds", "number", "cell", "turn", "told", "row"] ["script"] (defScope s_law) := ⟨rfl, rfl, rfl, by decide +kernel, rfl, by decide +kernel, by decide +kernel⟩
theorem ok_law {P : Program} {w : World} {K : PySem.W.Frag} {mg : Str → Option Value} {base : Heap} (T : Fx K mg) {fd : FuncData} (F0 : FunD K "law" "law" (defArgs s_law) (defBody s_law) (defScope s_law) [] [] (He.ga K "law") fd) : FnOk P w K mg base CX0 11 (He.ga K "law") fd ["script"] (spLaw K) := by
  refine F0.ok sc_law (fun vs H Q E h => ?_) (fun cdv A outer s H vs Q E hr h => ⟨_, PSs.nox ((pss_cons (ps_set (i := 1) sc_law.nd rfl (Or.inl rfl) (pe_f (ok_law_deck T) (hr.mono (by decide)) (by rfl) T.g_law_deck pass0 (pa_cons (pe_ix ix_list (pe_op op_catS (pv 0) (pe_lst (pa_cons pe_int pa_nil))) pe_int (fun _ _ => rfl)) (pa_cons pe_int pa_nil))))
  (pss_cons (ps_asg (pe_f (ok_law_set T) (hr.mono (by decide)) (by rfl) T.g_law_set pass0 (pa_cons (pv 1) pa_nil)) (pg_tup rfl (pgs_cons (pg_name (i := 2) sc_law.nd rfl (Or.inl rfl)) (pgs_cons (pg_name (i := 3) sc_law.nd rfl (Or.inl rfl)) pgs_nil))))
  (pss_cons (ps_asg (pe_f (ok_law_table T) (hr.mono (by decide)) (by rfl) T.g_law_table pass0 (pa_cons (pv 1) (pa_cons (pv 2) (pa_cons (pv 3) (pa_cons pe_int (pa_cons (pe_f (ok_law_pick T) (hr.mono (by decide)) (by rfl) T.g_law_pick pass0 (pa_cons (pv 1) (pa_cons pe_int pa_nil))) pa_nil)))))) (pg_tup rfl (pgs_cons (pg_name (i := 4) sc_law.nd rfl (Or.inl rfl)) (pgs_cons (pg_name (i := 5) sc_law.nd rfl (Or.inl rfl)) pgs_nil))))
  (pss_cons (ps_set (i := 4) sc_law.nd rfl (Or.inl rfl) (pe_f (ok_law_spoilt T) (hr.mono (by decide)) (by rfl) T.g_law_spoilt pass0 (pa_cons (pv 1) (pa_cons (pv 2) (pa_cons (pv 3) (pa_cons (pv 4) pa_nil))))))
  (pss_cons (ps_setLc (i := 6) (own := [("row", 14)]) (g := gName 14) (tt := tYes) rfl sc_law.nd rfl rfl (sw_true rfl rfl rfl (by decide +kernel)) (pi_list (pv 4)) (blkOk_by (own := [("row", 14)]) (N := ["script", "deck", "kind", "looks", "table", "lacks", "handed", "bench", "own", "rounds", "number", "cell", "turn", "told", "row"]) (sc := defScope s_law) (by decide +kernel)) (fun _ _ _ _ _ => (pg_name (i := 14) sc_law.nd rfl (Or.inl rfl))) (fun _ _ _ _ _ => pts_nil) (fun _ _ _ _ _ => (pe_callTy (T := "list") (r := Evl.rListS K) call_list_of (by rfl) T.b_list (by decide +kernel) (pa_cons (pv 14) pa_nil))))
  (pss_cons (ps_set (i := 7) sc_law.nd rfl (Or.inl rfl) (pe_mk T.k_Bench (ok_Bench_init T) (hr.mono (by decide)) (by rfl) T.g_Bench pass0 (pa_cons (pv 2) (pa_cons (pv 3) (pa_cons (pv 6) pa_nil)))))
  (pss_cons (ps_set (i := 8) sc_law.nd rfl (Or.inl rfl) (pe_f (ok_law_bench T) (hr.mono (by decide)) (by rfl) T.g_law_bench pass0 (pa_cons (pv 2) (pa_cons (pv 3) (pa_cons (pv 4) pa_nil)))))
  (pss_cons (ps_set (i := 9) sc_law.nd rfl (Or.inl rfl) (pe_ix ix_list (pe_lst (pa_cons pe_int (pa_cons pe_int (pa_cons pe_int (pa_cons pe_int pa_nil))))) (pe_f (ok_law_pick T) (hr.mono (by decide)) (by rfl) T.g_law_pick pass0 (pa_cons (pv 1) (pa_cons pe_int pa_nil))) (fun _ _ => rfl)))
  (pss_cons (ps_for PassesOwn.never rfl (pi_enum (by rfl) T.b_enumerate (pa_cons (pe_op op_catS (pe_slice sl_list (pv 0) (po_some pe_int) (po_some pe_int)) (pe_lst (pa_cons pe_int pa_nil))) pa_nil)) (pg_tup rfl (pgs_cons (pg_name (i := 10) sc_law.nd rfl (Or.inl rfl)) (pgs_cons (pg_name (i := 11) sc_law.nd rfl (Or.inl rfl)) pgs_nil))) (pss_cons (ps_for PassesOwn.never rfl (pi_range1 (by rfl) T.b_range (pa_cons (pv 9) pa_nil)) (pg_name (i := 12) sc_law.nd rfl (Or.inl rfl)) (pss_cons (ps_set (i := 1) sc_law.nd rfl (Or.inl rfl) (pe_f (ok_law_deck T) (hr.mono (by decide)) (by rfl) T.g_law_deck pass0 (pa_cons (pv 11) (pa_cons (pe_op op_add pe_int (pe_op op_mul pe_int (pv 12))) pa_nil))))
  (pss_one (ps_if (pt_not (pt_val (pe_f (ok_law_deed_right T) hr (by rfl) T.g_law_deed_right pass0 (pa_cons (pv 8) (pa_cons (pv 7) (pa_cons (pe_f (ok_law_deed T) (hr.mono (by decide)) (by rfl) T.g_law_deed pass0 (pa_cons (pv 1) (pa_cons (pv 8) pa_nil))) pa_nil)))))) (pss_one (ps_ret pe_bl)) pss_nil))))
  (pss_one (ps_if (PW.pt (pw_and (pt_cmpR op_eq (pe_op op_mod (pv 10) pe_int) pe_int (nomark _)) (pw_and1 (pt_not (pt_val (pe_f (ok_law_stands_right T) (hr.mono (by decide)) (by rfl) T.g_law_stands_right pass0 (pa_cons (pv 8) (pa_cons (pv 7) pa_nil)))))))) (pss_one (ps_ret pe_bl)) pss_nil))))
  (pss_cons (ps_if (PW.pt (pw_or (pt_not (pt_val (pe_f (ok_law_stands_right T) (hr.mono (by decide)) (by rfl) T.g_law_stands_right pass0 (pa_cons (pv 8) (pa_cons (pv 7) pa_nil))))) (pw_or1 (pt_cmpR (op_neD hr.units) (pv 6) (pv 4) (nomark _))))) (pss_one (ps_ret pe_bl)) pss_nil)
  (pss_cons (ps_set (i := 13) sc_law.nd rfl (Or.inl rfl) (SF.pe_m0 (pv 7) T.c_Bench T.m_Bench_entries (ok_Bench_entries T) (hr.mono (by decide)) pass0))
  (pss_cons (ps_asg pe_int (pg_sub (pe_ix ix_list (pv 13) pe_int (fun _ _ => rfl)) pe_int set_list))
  (pss_cons (ps_expr (pe_bm PySem.F.plainAttrs_list PySem.F.slot_list_append PySem.F.type_list_append mt_append (SF.pe_m0 (pv 7) T.c_Bench T.m_Bench_looked (ok_Bench_looked T) (hr.mono (by decide)) pass0) (pa_cons pe_non pa_nil)))
  (pss_cons (ps_expr (pe_bm PySem.F.plainAttrs_list PySem.F.slot_list_append PySem.F.type_list_append mt_append (SF.pe_m0 (pv 7) T.c_Bench T.m_Bench_deeds (ok_Bench_deeds T) (hr.mono (by decide)) pass0) (pa_cons pe_non pa_nil)))
  (pss_cons (ps_if (pt_cmpR (SF.op_neNil hr.units0) (pe_dget (hu_of hr) (pv 8) pe_str (fun _ _ => rfl)) (pe_lst pa_nil) (nomark _)) (pss_one (ps_expr (pe_bm PySem.F.plainAttrs_list PySem.F.slot_list_append PySem.F.type_list_append mt_append (pe_m (pv 7) T.c_Bench T.m_Bench_row (ok_Bench_row T) (hr.mono (by decide)) pass0 (pa_cons pe_int pa_nil)) (pa_cons pe_int pa_nil)))) pss_nil)
  (pss_cons (ps_asg pe_int (pg_sub (pe_ix ix_list (pv 6) pe_int (fun _ _ => rfl)) pe_int set_list))
  (pss_one (ps_ret (pe_f (ok_law_stands_right T) (hr.mono (by decide)) (by rfl) T.g_law_stands_right pass0 (pa_cons (pv 8) (pa_cons (pv 7) pa_nil)))))))))))))))))))))), ?_⟩)
  · obtain ⟨a, ns, rfl, _⟩ := h
    rfl
  · obtain ⟨a, ns, rfl, hS, hns, hQ⟩ := h
    have hsz : (ns.map V.int).length + 1 ≤ sizeLine := by
      rw [List.length_map]
      exact Nat.le_trans (show ns.length + 1 ≤ 64 by omega) (by decide)
    refine ⟨_, rfl, ?_⟩
    refine ⟨by show 1 ≤ sizeLine; decide, fun z0 hz0 => ?_⟩
    try dsimp only
    generalize gH1 : upd H z0 (.lst [.int 0]) = H1
    have eH1 : Evl.Ex H H1 := by rw [← gH1]; exact Evl.Ex.new hz0
    have oH1 : H1 z0 = some (.lst [.int 0]) := by rw [← gH1]; exact upd_same
    refine ⟨a, z0, _, _, rfl, rfl, Evl.ex_l eH1 hS, Evl.sq_of oH1, hsz, fun p hp => ?_⟩
    obtain ⟨x0, hx0⟩ : ∃ x0, (ns.map V.int ++ [V.int 0])[0]? = some (.int x0) := by
      cases ns with
      | nil => exact ⟨0, rfl⟩
      | cons i ns => exact ⟨i, rfl⟩
    refine ⟨p, _, _, .int x0, rfl, rfl, Evl.sq_of upd_same, atI_nat (j := 0) hx0, ?_⟩
    have e1 : Evl.Ex H (upd H1 p (.lst (ns.map V.int ++ [V.int 0]))) := eH1.trans (Evl.Ex.new hp)
    refine ⟨x0, 0, rfl, fun H2 d e2 fd dk2 => ?_⟩
    have hSx : ∀ H', ExX d H2 H' → SqL K H' a (ns.map V.int) := by
      rcases hS with (h | ⟨u, h⟩) | h
      · have h1 := e1 _ _ h
        have nad : a ≠ d := fun z => by rw [z, fd] at h1; cases h1
        exact fun H' x => .inl (.inl (x _ _ nad (e2 _ _ h1)))
      · have h1 := e1 _ _ h
        have nad : a ≠ d := fun z => by rw [z, fd] at h1; cases h1
        exact fun H' x => .inl (.inr ⟨u, x _ _ nad (e2 _ _ h1)⟩)
      · exact fun H' x => .inr h
    clear e1 e2 fd hp hS eH1 oH1 hz0 hsz
    try dsimp only [L2.start, List.map, List.length_cons, List.length_nil, List.replicate, List.set, List.append, List.cons_append, List.nil_append]
    refine ⟨_, rfl, d, 0, rfl, dk2, by decide, fun H3 q k l c hc x3 dk3 hq fk fl hk hl => ?_⟩
    have ok := kds_ok c hc
    refine ⟨q, _, rfl, Evl.st_of hq, rfl, _, _, rfl, _, _, rfl, rfl, ?_⟩
    try dsimp only [L2.start, List.map, List.length_cons, List.length_nil, List.replicate, List.set, List.append, List.cons_append, List.nil_append]
    have nkd := dk3.not hk (fun xs z => nomatch z)
    have nld := dk3.not hl (fun xs z => nomatch z)
    refine ⟨_, rfl, _, rfl, _, rfl, _, rfl, d, 3, 1, rfl, dk3, by decide, by decide, mid_of (by decide) (by decide), fun H4 r3 hr30 hr31 x4 dk4 => ?_⟩
    refine ⟨d, k, l, c, r3.toNat, 2, by rw [vnat hr30]; rfl, by omega, x4 _ _ nkd hk, x4 _ _ nld hl, ok, dk4, by decide, fun H5 q5 tb0 lk tab0 x5 dk5 hq5 tok0 htr0 => ?_⟩
    have x35 := x4.trans x5
    refine ⟨q5, _, rfl, Evl.st_of hq5, rfl, _, _, rfl, _, _, rfl, rfl, ?_⟩
    try dsimp only [L2.start, List.map, List.length_cons, List.length_nil, List.replicate, List.set, List.append, List.cons_append, List.nil_append]
    refine ⟨_, rfl, _, rfl, _, rfl, _, rfl, d, k, l, tb0, c, 2 + 8256, tab0, rfl, x35 _ _ nkd hk, ok, dk5, by decide, htr0 K, tok0, fun H6 tb tas tab x6 dk6 ftb tok htb htin tfr => ?_⟩
    have x36 := x35.trans x6
    have hk6 := x36 _ _ nkd hk
    have hl6 := x36 _ _ nld hl
    have tab16 := tok.le ok
    have htr : TabR K H6 tb tab := ⟨tas, Evl.sq_of htb, htin.1, fun j a row g1 g2 => Evl.sq_of (htin.2 j a row g1 g2)⟩
    try dsimp only [L2.start, List.map, List.length_cons, List.length_nil, List.replicate, List.set, List.append, List.cons_append, List.nil_append]
    dsimp only [gName]
    try dsimp only [L2.start, List.map, List.length_cons, List.length_nil, List.replicate, List.set, List.append, List.cons_append, List.nil_append]
    dsimp only [tSeq, tAsg]
    refine copy_rows (t := tb) 14 (by show 14 < 15; decide) (fun R hR => by exact ⟨_, rfl, hR⟩) htr (by omega) fun H7 hd has e7 fhd frs hhd hin => ?_
    have dk7 := dk6.ex e7
    dsimp only [gName]
    try dsimp only [L2.start, List.map, List.length_cons, List.length_nil, List.replicate, List.set, List.append, List.cons_append, List.nil_append]
    refine ⟨_, rfl, _, rfl, _, rfl, ?_⟩
    intro b dx hb0 hdx0 hne
    have e0 : Evl.Ex H7 (upd (upd H7 dx (.own b)) b (.ins (He.ga K "Bench") dx [])) := (Evl.Ex.new hdx0).mut hb0
    have o0 : (upd (upd H7 dx (.own b)) b (.ins (He.ga K "Bench") dx [])) b = some (.ins (He.ga K "Bench") dx []) := upd_same
    have b0 : ∀ z, (upd (upd H7 dx (.own b)) b (.ins (He.ga K "Bench") dx [])) z = none → H7 z = none := fun z hz => Evl.fresh_back e0 hz
    show spBInit K _ (upd (upd H7 dx (.own b)) b (.ins (He.ga K "Bench") dx [])) _ _
    generalize upd (upd H7 dx (.own b)) b (.ins (He.ga K "Bench") dx []) = H8 at e0 o0 b0 ⊢
    have hRh : RowsIn H7 has tab := hin
    have trh : TabR K H7 hd tab := ⟨has, Evl.sq_of hhd, hin.1, fun j a row g1 g2 => Evl.sq_of (hin.2 j a row g1 g2)⟩
    refine ⟨b, dx, k, l, hd, tab, rfl, o0, TabR.ex e0 trh, by omega, fun H9 r ws sn dn as x9 hb9 fr fw fs fdn nd fas n6 _ _ _ _ _ hr9 hin9 hw9 hs9 hd9 => ⟨rfl, ?_⟩⟩
    have e9 : Evl.Ex H7 H9 := fun z o hz => x9 z o (ne_of_none hz hb0) (e0 z o hz)
    dsimp only [gName]
    try dsimp only [L2.start, List.map, List.length_cons, List.length_nil, List.replicate, List.set, List.append, List.cons_append, List.nil_append]
    have dk9 := dk7.ex e9
    have e69 := e7.trans e9
    refine ⟨_, rfl, _, rfl, _, rfl, k, l, tb, tab, rfl, TabR.ex e69 htr, by omega, fun H10 o r2 ws2 sn2 dn2 as2 e10 fo ho fr2 fw2 fs2 fd2 frs2 _ n12 hr2 hin2 hw2 hs2 hd2 => ?_⟩
    have e610 := e69.trans e10
    have e710 := e9.trans e10
    have dk10 := dk9.ex e10
    obtain ⟨T2, tdk, own10, ben10, tg10, hdT, tbT⟩ : ∃ T2 : TT1, T2 d = .dk ∧ OwnAt c T2 H10 o ⟨tab, [], [], []⟩ ∧ BenchAt K c T2 H10 b ⟨tab, [], [], []⟩ ∧ TgOk T2 H10 ∧ RowsTg .oth T2 H10 hd tab ∧ RowsTg .no T2 H10 tb tab := by
      have tn := tok.n ok
      obtain ⟨da, db, dc, hd6, _⟩ := id dk6
      have dhas : d ∉ has := fun z => by
        have := (frs.2 d z).1
        rw [hd6] at this
        cases this
      obtain ⟨T0, hT0⟩ : ∃ T0, T0 = tagAt (tagL (fun _ => Tg.no) has (fun _ => Tg.oth)) d .dk := ⟨_, rfl⟩
      have t0d : T0 d = .dk := by rw [hT0, tagAt_same]
      have t0n : ∀ z, z ≠ d → z ∉ has → T0 z = .no := fun z h1 h2 => by rw [hT0, tagAt_ne h1, tagL_ne h2]
      have t06 : ∀ z u, H6 z = some u → z ≠ d → T0 z = .no := fun z u h1 h2 => t0n z h2 fun h3 => by
        have := (frs.2 z h3).1
        rw [h1] at this
        cases this
      have t0h : ∀ i z, has[i]? = some z → T0 z = .oth := fun i z h1 => by
        rw [hT0, tagAt_ne (fun w => dhas (by rw [← w]; exact List.mem_of_getElem? h1)), tagL_at frs.1 h1]
      have tg0 : TgOk T0 H7 := fun z hz => t0n z (fun w => by rw [w, e7 _ _ hd6] at hz; cases hz) (fun w => by
        obtain ⟨e, es, q⟩ := rowsIn_ne hin tn w
        rw [q] at hz
        cases hz)
      obtain ⟨T1, q1, q2, q3, q4, q5, q6, q7⟩ := side_tags true (WorkB K c) tg0 (Gr.ex e9) nd (fun a ha => b0 a (fas a ha).1) (b0 _ fr.1) (b0 _ fw.1) (b0 _ fs.1) (b0 _ fdn.1) n6 hr9 tn hin9 hw9 hs9 hd9
      obtain ⟨T2, p1, p2, p3, p4, p5, p6, p7⟩ := side_tags false WorkO q2 (Gr.ex e10) frs2.1 (fun a ha => (frs2.2 a ha).1) fr2 fw2 fs2 fd2 n12 hr2 tn hin2 hw2 hs2 hd2
      have g12 : Go (fun _ => False) T1 H9 T2 H10 := ⟨fun a u ha => ⟨p1 a (fun z => by rw [ha] at z; cases z), fun _ => e10 a u ha⟩, Gr.ex e10⟩
      have up : ∀ z u, H7 z = some u → T2 z = T0 z := fun z u h1 => (p1 z (fun w => by rw [e9 _ _ h1] at w; cases w)).trans (q1 z (fun w => by rw [h1] at w; cases w))
      have up1 : ∀ z u, H7 z = some u → T1 z = T0 z := fun z u h1 => q1 z (fun w => by rw [h1] at w; cases w)
      have kn := t06 k _ hk6 nkd
      have lnn := t06 l _ hl6 nld
      have ntb : tb ≠ d := dk5.fresh ftb
      refine ⟨T2, (up d _ (e7 _ _ hd6)).trans t0d, ⟨k, l, r2, ws2, sn2, dn2, ⟨ho, ?_⟩, ⟨⟨e610 _ _ hk6, (up k _ (e7 _ _ hk6)).trans kn⟩, e610 _ _ hl6, (up l _ (e7 _ _ hl6)).trans lnn⟩, p3, p4, p5, p6⟩, ?_, p2, ?_, ?_⟩
      · rw [p7 o (fun xs z => by rw [ho] at z; cases z) (fun xs z => by rw [ho] at z; cases z)]
        exact q2 o fo
      · refine BenchAt.go (T := T1) (H := H9) g12 (fun _ z => z.elim) ⟨dx, k, l, r, ws, sn, dn, ⟨hb9, ?_⟩, ⟨⟨e69 _ _ hk6, (up1 k _ (e7 _ _ hk6)).trans kn⟩, e69 _ _ hl6, (up1 l _ (e7 _ _ hl6)).trans lnn⟩, q3, q4, q5, q6⟩
        rw [q7 b (fun xs z => by rw [hb9] at z; cases z) (fun xs z => by rw [hb9] at z; cases z)]
        exact tg0 b hb0
      · refine ⟨has, e710 _ _ hhd, (up hd _ hhd).trans (t0n hd (dk6.fresh fhd) fun z => (frs.2 hd z).2 rfl), hin.1, fun i z row g1 g2 => ?_⟩
        have h1 := hin.2 i z row g1 g2
        exact ⟨(up z _ h1).trans (t0h i z g1), e710 _ _ h1⟩
      · refine ⟨tas, e610 _ _ htb, (up tb _ (e7 _ _ htb)).trans (t06 tb _ htb ntb), htin.1, fun i z row g1 g2 => ?_⟩
        have h1 := htin.2 i z row g1 g2
        exact ⟨(up z _ (e7 _ _ h1)).trans (t06 z _ h1 (tfr z (List.mem_of_getElem? g1)).2.2), e610 _ _ h1⟩
    have st0 : StOk c ⟨tab, [], [], []⟩ := ⟨tok, fun w z => (nomatch z), ⟨[], rfl, List.nodup_nil, fun p z => (nomatch z)⟩⟩
    have ln0 : StLen ⟨tab, [], [], []⟩ (9 * 0) := ⟨Nat.le_refl 0, Nat.le_refl 0, Nat.le_refl 0⟩
    try dsimp only [L2.start, List.map, List.length_cons, List.length_nil, List.replicate, List.set, List.append, List.cons_append, List.nil_append]
    -- how many turns
    refine ⟨by show 4 ≤ sizeLine; decide, fun rl hrl => ?_⟩
    try dsimp only
    generalize gH11 : upd H10 rl (.lst [.int 1, .int 1, .int 5, .int 9]) = H11
    have eH11 : Evl.Ex H10 H11 := by rw [← gH11]; exact Evl.Ex.new hrl
    have oH11 : H11 rl = some (.lst [.int 1, .int 1, .int 5, .int 9]) := by rw [← gH11]; exact upd_same
    have dk11 := dk10.ex eH11
    refine ⟨_, rfl, d, 4, 2 + 8256 + 30, rfl, dk11, by decide, by decide, mid_of (by decide) (by decide), fun H12 r4 hr40 hr41 x12 dk12 => ?_⟩
    obtain ⟨rd, hrd, hrd9⟩ : ∃ rd : Nat, ([.int 1, .int 1, .int 5, .int 9] : List V)[r4.toNat]? = some (.int (rd : Nat)) ∧ rd ≤ 9 := by
      have : r4 = 0 ∨ r4 = 1 ∨ r4 = 2 ∨ r4 = 3 := by omega
      rcases this with rfl | rfl | rfl | rfl
      · exact ⟨1, rfl, by decide⟩
      · exact ⟨1, rfl, by decide⟩
      · exact ⟨5, rfl, by decide⟩
      · exact ⟨9, rfl, by decide⟩
    refine ⟨rl, _, _, .int (rd : Nat), rfl, rfl, Evl.sq_of (x12 _ _ (dk10.fresh hrl) oH11), atI_of hr40 hrd, ?_⟩
    have g12 : Go (fun t => t = .dk) T2 H10 T2 H12 := (Go.ex eH11).trans (Go.exx tdk x12 dk12)
    have tg12 := tg10.gr g12.gr
    have hS12 : SqL K H12 a (ns.map V.int) := hSx H12 ((x3.trans x36).trans ((ExX.ex (e610.trans eH11)).trans x12))
    have own12 := own10.go g12 fun t z => by rw [z]; exact ⟨by decide, by decide⟩
    have ben12 := ben10.go g12 fun t z => by rw [z]; exact ⟨by decide, by decide⟩
    have hdT12 := RowsTg.go (g := .oth) g12 (fun z => nomatch z) (fun z => nomatch z) hdT
    have tbT12 := RowsTg.go (g := .no) g12 (fun z => nomatch z) (fun z => nomatch z) tbT
    dsimp only [gName]
    try dsimp only [L2.start, List.map, List.length_cons, List.length_nil, List.replicate, List.set, List.append, List.cons_append, List.nil_append]
    refine seq_end fun D1 hD1 => ?_
    refine ⟨_, rfl, 1, rfl, 61, rfl, a, _, rfl, hS12, fun sl hsl => ?_⟩
    have hall : ∀ x ∈ cutV (ns.map V.int) (some 1) (some 61), ∃ z : Int, x = .int z := cut_all fun x hx => by
      obtain ⟨z, _, rfl⟩ := List.mem_map.mp hx
      exact ⟨z, rfl⟩
    have hlen := cutV_length (ns.map V.int) (some 1) (some 61)
    rw [List.length_map] at hlen
    try dsimp only
    generalize cutV (ns.map V.int) (some 1) (some 61) = ys at hall hlen ⊢
    have e13 : Evl.Ex H12 (upd H12 sl (.lst ys)) := Evl.Ex.new hsl
    have o13 : (upd H12 sl (.lst ys)) sl = some (.lst ys) := upd_same
    generalize upd H12 sl (.lst ys) = H13 at e13 o13 ⊢
    refine ⟨by show 1 ≤ sizeLine; decide, fun z1 hz1 => ?_⟩
    try dsimp only
    generalize gH14 : upd H13 z1 (.lst [.int 0]) = H14
    have eH14 : Evl.Ex H13 H14 := by rw [← gH14]; exact Evl.Ex.new hz1
    have oH14 : H14 z1 = some (.lst [.int 0]) := by rw [← gH14]; exact upd_same
    refine ⟨sl, z1, _, _, rfl, rfl, Evl.sq_of (eH14 _ _ o13), Evl.sq_of oH14, Nat.le_trans (show ys.length + 1 ≤ 64 by omega) (by decide), fun en hen => ?_⟩
    have hxs : ∀ x ∈ ys ++ [V.int 0], ∃ z : Int, x = .int z := fun x hx => by
      rcases List.mem_append.mp hx with h | h
      · exact hall x h
      · exact ⟨0, List.mem_singleton.mp h⟩
    have hxl : (ys ++ [V.int 0]).length ≤ 64 := by
      rw [List.length_append]
      show ys.length + 1 ≤ 64
      omega
    try dsimp only
    generalize ys ++ [V.int 0] = xs at hxs hxl ⊢
    have e15 : Evl.Ex H14 (upd H14 en (.lst xs)) := Evl.Ex.new hen
    have o15 : (upd H14 en (.lst xs)) en = some (.lst xs) := upd_same
    generalize upd H14 en (.lst xs) = H15 at e15 o15 ⊢
    have e1215 := (e13.trans eH14).trans e15
    have I0 : LawI K c o b hd tb tab en xs (9 * 0) H15 T2 ⟨tab, [], [], []⟩ := ⟨tg12.gr (Gr.ex e1215), own12.ex e1215, ben12.ex e1215, st0, ln0, hdT12.go (Go.ex (p := fun _ => False) e1215) (fun z => z) (fun z => z), tbT12.go (Go.ex (p := fun _ => False) e1215) (fun z => z) (fun z => z), o15, tg12 en (Evl.fresh_back (e13.trans eH14) hen)⟩
    refine ⟨en, _, rfl, Evl.sq_of o15, ?_⟩
    refine for_enum (fun i σ' H' => (∃ y1 y10 y11 y12, σ' = [some (.ref a), y1, some (.ref k), some (.ref l), some (.ref tb), some lk, some (.ref hd), some (.ref b), some (.ref o), some (.int (rd : Nat)), y10, y11, y12, none, none]) ∧ ∃ T1 S, LawI K c o b hd tb tab en xs (9 * i) H' T1 S) ⟨⟨_, _, _, _, rfl⟩, T2, _, I0⟩ (fun i σ' H' _ p => by obtain ⟨_, T1, S, I⟩ := p; exact Evl.sq_of (K := K) I.en.1) ?_ ?_
    · rintro i x Tq σ' H16 hx ⟨⟨y1, y10, y11, y12, rfl⟩, T1, S, I⟩ hTq
      obtain ⟨z, rfl⟩ := hxs x (List.mem_of_getElem? hx)
      have hi : i < 64 := Nat.lt_of_lt_of_le (List.getElem?_eq_some_iff.mp hx).1 hxl
      have e17 : Evl.Ex H16 (upd H16 Tq (.tup [.int (i : Nat), .int z])) := Evl.Ex.new hTq
      have o17 : (upd H16 Tq (.tup [.int (i : Nat), .int z])) Tq = some (.tup [.int (i : Nat), .int z]) := upd_same
      generalize upd H16 Tq (.tup [.int (i : Nat), .int z]) = H17 at e17 o17 ⊢
      have I17 := I.exF (p := fun _ => False) (Go.ex e17) (fun _ z => z.elim) (I.tg.gr (Gr.ex e17))
      refine ⟨Tq, _, rfl, Evl.st_of o17, rfl, _, _, rfl, _, _, rfl, rfl, ?_⟩
      try dsimp only [L2.start, List.map, List.length_cons, List.length_nil, List.replicate, List.set, List.append, List.cons_append, List.nil_append]
      refine seq_end fun D2 hD2 => ?_
      refine ⟨_, rfl, (rd : Nat), rfl, by omega, by omega, for_range (fun j σ' H' => (∃ y1 y12, σ' = [some (.ref a), y1, some (.ref k), some (.ref l), some (.ref tb), some lk, some (.ref hd), some (.ref b), some (.ref o), some (.int (rd : Nat)), some (.int (i : Nat)), some (.int z), y12, none, none]) ∧ ∃ T1 S, LawI K c o b hd tb tab en xs (9 * i + j) H' T1 S) ⟨⟨_, _, rfl⟩, T1, S, I17⟩ ?_ ?_⟩
      · rintro j σ' H18 hj ⟨⟨y1, y12, rfl⟩, T1, S, I⟩
        have hj9 : j < 9 := by omega
        try dsimp only [gName]
        try dsimp only [L2.start, List.map, List.length_cons, List.length_nil, List.replicate, List.set, List.append, List.cons_append, List.nil_append]
        refine ⟨_, rfl, _, rfl, _, _, rfl, rfl, .inl ⟨by decide, by decide⟩, _, _, rfl, rfl, z, 6100 + 40 * j, congrArg (fun u => [V.int z, V.int u]) (by omega), fun H19 d e19 fd dk19 => ?_⟩
        have td : tagAt T1 d .dk d = .dk := tagAt_same
        have gT : Go (fun _ => False) T1 H18 (tagAt T1 d .dk) H19 := (Go.tag fd).trans (Go.ex e19)
        obtain ⟨ua, ub, uc, hd19, _⟩ := id dk19
        have I19 := I.exF gT (fun _ z => z.elim) fun q hq => by
          rw [tagAt_ne (fun w => by rw [w, hd19] at hq; cases hq)]
          exact I.tg q (Evl.fresh_back e19 hq)
        generalize tagAt T1 d .dk = T2 at td gT I19
        try dsimp only [L2.start, List.map, List.length_cons, List.length_nil, List.replicate, List.set, List.append, List.cons_append, List.nil_append]
        refine ⟨_, rfl, _, rfl, _, rfl, _, rfl, d, o, c, T2, S, 6100 + 40 * j, 9 * i + j, rfl, dk19, by omega, td, I19.own, ok, I19.st, I19.ln, by omega, fun H20 q wh x20 dk20 fq hq wok => ?_⟩
        have gD : Go (fun t => t = .dk) T2 H19 T2 H20 := Go.exx td x20 dk20
        have I20 := I19.exF gD (fun t z => by rw [z]; rfl) (I19.tg.gr gD.gr)
        refine ⟨o, b, q, wh, c, T2, S, 9 * i + j, rfl, hq, I19.tg q fq, I20.tg, I20.own, I20.bench, ok, I20.st, I20.ln, by omega, wok, fun T3 H21 S' g21 t21 O21 B21 k1 k2 => ?_⟩
        have npD : ∀ t : Tg, t.sd = 0 ∨ t.sd = 3 → ¬ pD t := fun t h z => by unfold pD at z; omega
        have I21 : LawI K c o b hd tb tab en xs (9 * i + (j + 1)) H21 T3 S' := ⟨t21, O21, B21, k1, k2, I20.hd.go g21 (npD _ (.inl rfl)) (npD _ (.inr rfl)), I20.tb.go g21 (npD _ (.inl rfl)) (npD _ (.inl rfl)), noAt g21 (npD _ (.inl rfl)) I20.en⟩
        exact ⟨true, rfl, iteF ⟨⟨_, _, rfl⟩, T3, S', I21⟩⟩
      · rintro σ' H18 ⟨⟨y1, y12, rfl⟩, T1, S, I⟩
        refine hD2 _ _ ?_
        refine ⟨_, rfl, _, _, rfl, rfl, (by show (0 : Int) < 8; decide), rfl, _, rfl, itD (fun _ => ?_) (fun _ => ?_)⟩
        · refine ⟨_, rfl, _, rfl, o, b, c, T1, S, _, rfl, I.own, I.bench, ok, I.st, I.ln, by omega, fun H19 e19 => ⟨true, rfl, iteF ?_⟩⟩
          exact ⟨⟨_, _, _, _, rfl⟩, T1, S, (I.ex e19).mono (by omega)⟩
        · exact ⟨⟨_, _, _, _, rfl⟩, T1, S, I.mono (by omega)⟩
    · rintro σ' H16 ⟨⟨y1, y10, y11, y12, rfl⟩, T1, S, I⟩
      refine hD1 _ _ ?_
      have nF : ∀ (d : PyData) (A B : Prop), SeqAt.shaped d = true → B → if (!PyData.eqv d d) = true then A else B := fun d A B h hb => by
        rw [ne_same h, if_neg (by decide)]
        exact hb
      refine ⟨_, rfl, _, rfl, o, b, c, T1, S, _, rfl, I.own, I.bench, ok, I.st, I.ln, by omega, fun H17 e17 => ⟨true, rfl, iteF ?_⟩⟩
      have I17 := I.ex e17
      refine ⟨_, rfl, _, rfl, _, _, (I17.hd.tabR (K := K)).dp, (I17.tb.tabR (K := K)).dp, (tabD_sh _).ok (by decide), (tabD_sh _).ok (by decide), _, rfl, nF _ _ _ ((tabD_sh _).ok (by decide)) ?_⟩
      refine sq_nx ?_
      clear nF
      have szl : ∀ n : Nat, n ≤ 20000 → n < sizeLine := fun n h => Nat.lt_of_le_of_lt h (by decide)
      -- a list of its own: entries
      obtain ⟨dx1, k1, l1, r1, ws1, sn1, dn1, ⟨hb1, _⟩, _, brows, _⟩ := id I17.bench
      have tl17 := I17.st.tab.le ok
      refine ⟨_, rfl, b, dx1, _, rfl, hb1, rfl, b, r1, dx1, _, S.tab, rfl, hb1, rfl, brows.tabR, by omega, fun H18 D18 as18 e18 f18 fr18 hD18 hin18 => ?_⟩
      try dsimp only [gName]
      try dsimp only [L2.start, List.map, List.length_cons, List.length_nil, List.replicate, List.set, List.append, List.cons_append, List.nil_append]
      have tp18 := I17.st.tab.pos
      have tp18' : 0 < as18.length := by rw [hin18.1]; exact tp18
      obtain ⟨a18, ga18⟩ : ∃ u, as18[0]? = some u := ⟨_, List.getElem?_eq_getElem tp18'⟩
      obtain ⟨rw18, gr18⟩ : ∃ u, S.tab[0]? = some u := ⟨_, List.getElem?_eq_getElem tp18⟩
      have hrow18 := hin18.2 0 _ _ ga18 gr18
      have hrl18 : rw18.length = (2 * c.half).toNat := (I17.st.tab.2 _ (List.mem_of_getElem? gr18)).1
      have fa18 := (fr18.2 _ (List.mem_of_getElem? ga18)).1
      obtain ⟨hh, hh2⟩ := ok.half_lt
      have hix : ixN (rw18.map cv).length 0 = some 0 := ixN_at (i := 0) (by decide) (by rw [List.length_map, hrl18]; omega)
      generalize rw18.map cv = rowv at hrow18 hix
      clear gr18 hrl18
      refine ⟨_, rfl, D18, _, _, .ref a18, rfl, rfl, Evl.sq_of hD18, atI_nat (j := 0) (by rw [List.getElem?_map, ga18]; rfl), ?_⟩
      refine ⟨a18, rowv, 0, 0, rfl, rfl, hrow18, hix, ?_⟩
      have I19 := I17.wr e18 fa18 (.lst (rowv.set 0 (.int 99)))
      try dsimp only
      generalize upd H18 a18 (.lst (rowv.set 0 (.int 99))) = H19 at I19 ⊢
      generalize tagAt T1 a18 .dk = T19 at I19
      -- .. looked
      obtain ⟨dx2, k2, l2, r2', ws2', sn2', dn2', ⟨hb2, _⟩, _⟩ := id I19.bench
      refine ⟨_, rfl, b, dx2, _, rfl, hb2, rfl, b, c, T19, S, rfl, I19.bench, I19.st.seen, Nat.le_trans I19.ln.sn (by omega), fun H20 D20 ds cs e20 f20 hm _ hperm _ hL => ?_⟩
      obtain ⟨as20, hL1, hL2, _⟩ := hL
      have hl20 : as20.length ≤ 9 * xs.length := by
        have h1 : (S.seen.map (·.1)).length = (cs.map ckey).length := by rw [hm]
        rw [List.length_map, List.length_map] at h1
        rw [hL2, hperm.length_eq, ← h1]
        exact I19.ln.sn
      refine ⟨.inl ⟨rfl, _, Evl.sq_of hL1⟩, D20, _, _, rfl, rfl, hL1, by rw [List.length_map]; exact szl _ (by omega), ?_⟩
      have I21 := I19.wr e20 f20 (.lst (as20.map V.ref ++ [.non]))
      try dsimp only
      generalize upd H20 D20 (.lst (as20.map V.ref ++ [.non])) = H21 at I21 ⊢
      generalize tagAt T19 D20 .dk = T21 at I21
      -- .. deeds
      obtain ⟨dx3, k3, l3, r3', ws3, sn3, dn3, ⟨hb3, _⟩, _, _, _, _, bdeeds⟩ := id I21.bench
      obtain ⟨das, hd3, _, hdl3, _⟩ := id bdeeds
      refine ⟨_, rfl, b, dx3, _, rfl, hb3, rfl, b, dn3, dx3, _, _, rfl, hb3, rfl, Evl.sq_of hd3, fun H22 D22 e22 f22 h22 => ?_⟩
      refine ⟨.inl ⟨rfl, _, Evl.sq_of h22⟩, D22, _, _, rfl, rfl, h22, by rw [List.length_map, hdl3]; exact szl _ (Nat.le_trans I21.ln.dn (by omega)), ?_⟩
      have I23 := I21.wr e22 f22 (.lst (das.map V.ref ++ [.non]))
      try dsimp only
      generalize upd H22 D22 (.lst (das.map V.ref ++ [.non])) = H23 at I23 ⊢
      generalize tagAt T21 D22 .dk = T23 at I23
      refine seq_cut (fun σ' H' => σ' = [some (.ref a), y1, some (.ref k), some (.ref l), some (.ref tb), some lk, some (.ref hd), some (.ref b), some (.ref o), some (.int (rd : Nat)), y10, y11, y12, some (.ref D18), none] ∧ ∃ T1 S, LawI K c o b hd tb tab en xs (9 * xs.length) H' T1 S) ?_ fun cont => ?_
      · rintro σ' H24 ⟨rfl, T4, S4, I⟩
        obtain ⟨has4, hh1, hh2, hh3, hh4⟩ := id I.hd
        have tp4 := tok.pos
        have tp4' : 0 < has4.length := by rw [hh3]; exact tp4
        obtain ⟨a4, ga4⟩ : ∃ u, has4[0]? = some u := ⟨_, List.getElem?_eq_getElem tp4'⟩
        obtain ⟨rw4, gr4⟩ : ∃ u, tab[0]? = some u := ⟨_, List.getElem?_eq_getElem tp4⟩
        obtain ⟨ta4, hrow4⟩ := hh4 0 _ _ ga4 gr4
        have hrl4 : rw4.length = (2 * c.half).toNat := (tok.2 _ (List.mem_of_getElem? gr4)).1
        obtain ⟨hf1, hf2⟩ := ok.half_lt
        have hix4 : ixN (rw4.map cv).length 0 = some 0 := ixN_at (i := 0) (by decide) (by rw [List.length_map, hrl4]; omega)
        refine ⟨_, rfl, hd, _, _, .ref a4, rfl, rfl, Evl.sq_of hh1, atI_nat (j := 0) (by rw [List.getElem?_map, ga4]; rfl), ?_⟩
        refine ⟨a4, _, 0, 0, rfl, rfl, hrow4, hix4, ?_⟩
        have gO : Go (fun t => t = .oth) T4 H24 T4 (upd H24 a4 (.lst ((rw4.map cv).set 0 (.int 99)))) := Go.upd ta4
        have ownO := I.own.go gO fun t z => by rw [z]; exact ⟨by decide, by decide⟩
        have benO := I.bench.go gO fun t z => by rw [z]; exact ⟨by decide, by decide⟩
        try dsimp only
        generalize upd H24 a4 (.lst ((rw4.map cv).set 0 (.int 99))) = H25 at ownO benO ⊢
        exact ⟨_, rfl, _, rfl, o, b, c, T4, S4, _, rfl, ownO, benO, ok, I.st, I.ln, by omega, fun H' _ => hQ H'⟩
      · obtain ⟨k5, l5, rr5, ws5, sn5, dn5, ⟨ho5, _⟩, _, _, ⟨as5, w51, _, w53, _⟩, _⟩ := id I23.own
        refine ⟨_, rfl, o, _, rfl, DGet.k (k := .inr "works") ho5, ?_⟩
        refine ⟨by show 0 ≤ sizeLine; decide, fun nz hnz => ?_⟩
        try dsimp only
        generalize gH24 : upd H23 nz (.lst []) = H24
        have eH24 : Evl.Ex H23 H24 := by rw [← gH24]; exact Evl.Ex.new hnz
        have oH24 : H24 nz = some (.lst []) := by rw [← gH24]; exact upd_same
        have I24 := I23.ex eH24
        refine ⟨ws5, nz, _, rfl, rfl, Evl.sq_of (eH24 _ _ w51), Evl.sq_of oH24, _, rfl, ?_⟩
        cases has : (as5.map V.ref).isEmpty with
        | true =>
          refine iteF ?_
          exact cont _ _ ⟨rfl, _, _, I24⟩
        | false =>
          refine iteT ?_
          have hpos : 0 < S.works.length := by
            rw [← w53]
            cases as5 with
            | nil => cases has
            | cons a as => exact Nat.succ_pos _
          obtain ⟨wk, gw⟩ : ∃ u, S.works[0]? = some u := ⟨_, List.getElem?_eq_getElem hpos⟩
          have wok := I24.st.wk wk (List.mem_of_getElem? gw)
          have wln := wok.ln
          obtain ⟨dx6, k6, l6, r6, ws6, sn6, dn6, ⟨hb6, _⟩, _⟩ := id I24.bench
          refine ⟨_, rfl, b, dx6, _, rfl, hb6, rfl, b, 0, c, _, S, wk, rfl, I24.bench, gw, fun H25 D25 e25 f25 h25 => ?_⟩
          refine ⟨.inl ⟨rfl, _, Evl.sq_of h25⟩, D25, _, _, rfl, rfl, h25, by rw [List.length_map]; exact szl _ (by omega), ?_⟩
          have I26 := I24.wr e25 f25 (.lst (wk.figs.map V.int ++ [.int 99]))
          exact cont _ _ ⟨rfl, _, _, I26⟩
end SF
end
set_option Elab.async false
set_option linter.all false
set_option maxRecDepth 100000
set_option maxHeartbeats 0
namespace SF
open PySem PySem.Spec PyProof.Rows L2
theorem facts {P : Program} {w : World} {K : PySem.W.Frag} {h : Heap} {mg : Str → Option Value} {f : Addr} (X : K.In h) (G : h.Ns mainGlobals mg) (hfa : mg ("law" : Str) = some (.ref f)) (c : He.SaysD fa fn K) (ce : exB K = true) :
    ∃ fd : FuncData, (∀ (s : Shared) (v : Value), BindsTo s fd ⟨[v], []⟩ [("script", v)]) ∧ ∀ base : Heap, K.In base → base.Ns mainGlobals mg → FnOk P w K mg base CX0 11 f fd ["script"] (spLaw K) := by
  have T : Fx K mg := ⟨c, ⟨h, X, G⟩, ce⟩
  have e := hfa.symm.trans T.g_law
  cases e
  obtain ⟨fd, F⟩ := T.d_law
  have b := FunD.bindsA (ps := ["script"]) F fun _ _ _ _ _ _ us hl => match us, hl with | [_], _ => rfl
  exact ⟨fd, fun s v => b s [v] rfl, fun base _ _ => ok_law T F⟩
end SF
open PySem PySem.W PySem.Calls PyProof.Rows
theorem PySem.Challenge.cw_slackfigures_k41_whole_benches_holds : PySem.Challenge.rw_slackfigures_k41_whole_benches.Holds := by
  w_on; o_law
  refine HandSHeadRun.head_any (r := OpenLaw.row PySem.Challenge.rw_slackfigures_k41_whole_benches) (q := view (OpenLaw.row PySem.Challenge.rw_slackfigures_k41_whole_benches).prog [74]) (H := SF.hk) (ob := SF.ob) (M := 6000) (loose := SF.loose) (d := HandSHeadRun.topDef (OpenLaw.row PySem.Challenge.rw_slackfigures_k41_whole_benches).prog 74) (kwd := []) SF.ob_eq
    (by kernel_rfl) (fun s => by kernel_rfl) SF.run (by kernel_rfl) (by kernel_rfl) (by kernel_rfl) (by rfl) (by first | assumption | decide +kernel) (by decide +kernel) ⟨rfl, rfl, rfl, rfl, rfl, by decide +kernel⟩ ?hw ?hc
  case hw => w_witness2
  case hc =>
    refine L2.walk_ofE (l := PySem.Challenge.rw_slackfigures_k41_whole_benches) (n := 63) (k := 11) (x := "script") (CX := L2.CX0) rfl (by decide) (by kernel_rfl) ⟨rfl, by decide, by decide⟩ ?F (fun _ _ _ _ z => z)
    intro w mg fa h Y G hmg0
    obtain ⟨K, KX, c, ce⟩ := Y
    have hmg : mg ("law" : PySem.Str) = some (.ref fa) := by
      have e : (HandSHeadRun.topDef (OpenLaw.row PySem.Challenge.rw_slackfigures_k41_whole_benches).prog 74).name = ("law" : PySem.Str) := by kernel_rfl
      rw [← e]
      exact hmg0
    obtain ⟨fd, hb, hF⟩ := SF.facts (P := (PySem.Challenge.rw_slackfigures_k41_whole_benches).prog) (w := w) KX G hmg c ce
    exact ⟨K, fd, SF.spLaw K, KX, hb, fun H a ns hl _ hS => ⟨a, ns, rfl, hS, hl, fun _ => rfl⟩, hF⟩
