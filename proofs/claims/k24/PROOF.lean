import PyProof.Rows.All
import Wide.All
import OpenK.AllK
import Wide.FinOn
import KE.KStateDown
import HandS.ForMost
import HandS.HeadEnd
import HandS.HeadNt
import HandS.Style
import HandS.Zip
import PyProof.P3Eq
import HandS.TupLen
import HandS.TupAny
import HandS.DictComp
import HandS.Strs
import KE.KDictDisplayH
import HandS.TupMul
import HandS.Walk
import PyProof.DictUpdate
import HandS.Words
import KE.KDictWalk
import KE.KDictCopyH
import KE.KDictItemsList
import KE.KDictOf
import KE.KDictKeyed
import HandS.Conv
import HandS.ListItems
import HandS.Codes
import HandS.IsInst
import HandS.Wide
import HandS.Slots
import HandS.SlotsOwn
import HandS.Property
import HandS.Flow
import PyProof.RulesMatch
import KE.GoesEnum
import KE.SortData
import PyProof.DictCompW
import KE.KEqDict
import HandS.ListEq
import HandS.DictEq
import HandS.Head0
import HandS.Head1
import HandS.Head2
import HandS.HeadHook1
import HandS.HeadHook2
import PySem.Challenge.RW_evencoins_k24_whole_forms_of_gates
section
set_option Elab.async false
set_option linter.all false
set_option maxRecDepth 100000
set_option maxHeartbeats 1000000
/-! rules of my own over the layer, 4: dict(d) of tuple keys, dict(pairs), list(d.items()) -/
namespace K24
open PySem PySem.Spec PyProof.Rows L2
section
variable {X : Cx}
/-! ### dict(d) -/
theorem kt_call_dictH {K : Type} [DecidableEq K] {prog : Program} {w : World} {knd : HeapKind prog w K} {A : Around} {E : Value → Shared → Prop} {s : Shared} {o : Addr} {more : List (K × Addr × Value)} {Q : Value → Shared → Prop} (hu : knd.room A.in1.in1) (hoS : (o == sysModules) = false) (ho : s.heap.DictOfH knd o more)
    (hpush : (s.heap.push { cls := .type "dict", data := .dict #[] }).DictOfH knd o more) (hty : ∀ x ∈ more, s.TypeIs (.ref x.2.1) "tuple") (hap : (more.map fun x => knd.hash x.1).Nodup) (hsz : more.length ≤ sizeLine)
    (h : ∀ h', h'.DictOfH knd s.heap.objs.size more → Heap.SameBut s.heap.objs.size (s.heap.push { cls := .type "dict", data := .dict #[] }) h' → Q (.ref s.heap.objs.size) { s with heap := h' }) :
    wpAny (model prog w) A (call (.type "dict") [.ref o]) Q E s := by
  refine callType_codes (Q₁ := fun obj s₁ => obj = .ref s.heap.objs.size ∧ s₁ = { s with heap := s.heap.push { cls := .type "dict", data := .dict #[] } }) F.kt_called_dict (F.kt_typeCall_dict_1 _) F.entry_dict_init (kt_code_dict_new _ ⟨rfl, rfl⟩) ?_
  rintro obj s₁ ⟨rfl, rfl⟩
  have hnew : (s.heap.push { cls := .type "dict", data := .dict #[] }).DictOfH knd s.heap.objs.size [] := Heap.DictOfH.new s.heap
  have hn : (more.map (·.1)).Nodup := ho.nodup
  have hdo : s.heap.objs.size ≠ o := by
    obtain ⟨_, _, _, hg, _⟩ := ho
    exact fun e => absurd (Heap.lt_size hg) (by rw [e]; exact Nat.lt_irrefl _)
  refine ⟨hnew.typeIs, F.args_dict_init_2 _ _, ?_⟩
  unfold Builtin.«dict.__init__»
  refine wpAny_bind ?_
  unfold Builtin.Dict.selfAndRest
  refine wpAny_bind (wpAny_notOrdered_dict hnew.typeIs ?_)
  show wpAny _ _ (pure (s.heap.objs.size, [Value.ref o])) _ _ _
  refine wpAny_pure ?_
  show wpAny _ _ (Builtin.Dict.updateFrom "dict.__init__" s.heap.objs.size (.ref o) [] .none) _ _ _
  have tys : ∀ x ∈ more, Shared.TypeIs { s with heap := s.heap.push { cls := .type "dict", data := .dict #[] } } (.ref x.2.1) "tuple" := fun x hx => by
    obtain ⟨ob, e, c⟩ := hty x hx
    exact ⟨ob, Heap.get?_push_of_some _ e, c⟩
  refine updateFrom_dictH (A := A.in1) (nm := "dict.__init__") (s := { s with heap := s.heap.push { cls := .type "dict", data := .dict #[] } }) .none hu hdo hoS hnew hpush (.inr ⟨tys, hap⟩) (by simpa using hsz) fun h' hd' ho' hs' => ?_
  rw [storedAllH_nil_of_nodup more hn] at hd'
  exact ⟨rfl, h h' hd' hs'⟩
def hashT (P : Program) (w : World) (k : List Key) : Int := (tupleKind (mixKind P w)).hash k
theorem hashes_eq {P : Program} {w : World} {H : Hp} : ∀ {kvs : List (List Key × V)} {xs : List (List Key × Addr × Value)}, KT H kvs xs → xs.map (fun x => (tupleKind (mixKind P w)).hash x.1) = kvs.map fun p => hashT P w p.1
  | _, _, .nil => rfl
  | _, _, .cons r t => by rw [List.map_cons, List.map_cons, hashes_eq t, r.1]; rfl
theorem keysIs_of {P : Program} {w : World} {H : Hp} {h : Heap} (ok : HOk P w H h) : ∀ {kvs : List (List Key × V)} {xs : List (List Key × Addr × Value)}, KT H kvs xs → ∀ x ∈ xs, (tupleKind (mixKind P w)).is h x.1 x.2.1
  | _, _, .nil, x, hx => nomatch hx
  | _, _, .cons r t, x, hx => by
    rcases List.mem_cons.mp hx with e | e
    · subst e
      have e1 := r.1
      rw [← e1]
      exact key_of ok r.2.1
    · exact keysIs_of ok t x e
theorem call_dict_dT : CallR X (.type "dict") (fun xs H Q => ∃ (a : Addr) (kvs : List (List Key × V)), xs = [.ref a] ∧ Rd H a (.dT kvs) ∧ (kvs.map fun p => hashT X.prog X.w p.1).Nodup ∧ X.A.units + 4 < cLine ∧ ∀ p, H p = none → Q (.ref p) (upd H p (.dT kvs))) := by
  intro pins s σ H xs us Q I r h
  obtain ⟨a, kvs, ex, hd, hap, hu, q⟩ := h
  subst ex
  obtain ⟨u, eu, rx⟩ := r.one
  subst eu
  cases rx
  obtain ⟨z, hs, xs, pr, dd⟩ := dt_rd I.hok hd
  have l2 : kvs.length = xs.length := Paired.length pr
  have dd' : (s.heap.push { cls := .type "dict", data := .dict #[] }).DictOfH (tupleKind (mixKind X.prog X.w)) a xs := by
    obtain ⟨_, _, _, _, dd2⟩ := dt_rd (w := X.w) (P := X.prog) (H := H) (h := s.heap) I.hok hd
    obtain ⟨o, es, ep, h1, h2, h3, h4, h5, h6⟩ := id dd
    exact ⟨o, es, ep, Heap.get?_push_of_some _ h1, h2, h3, h4, fun x hx => tupleKind_stays.stays (fun b o vs n e _ => Heap.get?_push_of_some _ e) (h5 x hx), h6⟩
  have keysEq := hashes_eq (P := X.prog) (w := X.w) pr
  refine kt_call_dictH (knd := tupleKind (mixKind X.prog X.w)) (by show X.A.units + 1 + 1 < cLine; omega) hs dd dd' (fun x hx => ?_) (by rw [keysEq]; exact hap) (by rw [← l2]; exact z) fun h' hd' hsb => ?_
  · obtain ⟨_, _, _, _, _, _, _, his, _⟩ := dd
    exact tupleKind_stays.tuple (his x hx)
  · have kp : ∀ b u, s.heap.get? b = some u → h'.get? b = some u := fun b u e => (hsb.2 b (Nat.ne_of_lt (Heap.lt_size e))).trans (Heap.get?_push_of_some _ e)
    have hm : (s.heap.objs.size == sysModules) = false := beq_eq_false_iff_ne.mpr (Nat.ne_of_gt I.big)
    obtain ⟨o, es, ep, h1, h2, h3, h4, h5, h6⟩ := hd'
    refine ⟨.ref s.heap.objs.size, upd H s.heap.objs.size (.dT kvs), I.laid (t' := s.toks) kp (Nat.le_refl _) ?_, rfl, q _ (I.hok.fresh (Nat.le_refl _))⟩
    refine ⟨z, hm, xs, ?_, o, es, ep, h1, h2, h3, h4, h6⟩
    exact KT.keeps pr fun b ys e => by
      rw [upd_ne (ne_of_none e (I.hok.fresh (Nat.le_refl _)))]
      exact e
/-! ### list(d.items()) -/
def putL : Hp → List Addr → List (List V) → Hp
  | H, a :: as, p :: ps => putL (upd H a (.tup p)) as ps
  | H, _, _ => H
theorem putL_off {b : Addr} : ∀ (as : List Addr) (ps : List (List V)) (H : Hp), b ∉ as → putL H as ps b = H b
  | [], _, _, _ => rfl
  | _ :: _, [], _, _ => rfl
  | a :: as, p :: ps, H, h => by
    show putL (upd H a (.tup p)) as ps b = H b
    rw [putL_off as ps _ (fun z => h (List.mem_cons_of_mem _ z)), upd_ne (fun z => h (by rw [z]; exact List.mem_cons_self))]
theorem putL_at : ∀ (as : List Addr) (ps : List (List V)) (H : Hp), as.length = ps.length → as.Nodup → Paired (fun (t : Addr) (p : List V) => putL H as ps t = some (.tup p)) as ps
  | [], [], _, _, _ => .nil
  | [], _ :: _, _, h, _ => by cases h
  | _ :: _, [], _, h, _ => by cases h
  | a :: as, p :: ps, H, h, hn => by
    have hn' := List.nodup_cons.mp hn
    have ih := putL_at as ps (upd H a (.tup p)) (Nat.succ.inj h) hn'.2
    refine .cons ?_ ih
    show putL (upd H a (.tup p)) as ps a = some (.tup p)
    rw [putL_off as ps _ hn'.1, upd_same]
/-- the pairs of a dict with tuple keys: each key's own tuple and the value -/
def PairOf (H : Hp) (kv : List Key × V) (p : List V) : Prop := ∃ q, p = [.ref q, kv.2] ∧ H q = some (.tup (kv.1.map kV))
def rItemsLT : V → Hp → VK → Prop := fun x H Q => ∃ (d : Addr) (kvs : List (List Key × V)), x = .ref d ∧ Rd H d (.dT kvs) ∧
  ∀ (H' : Hp) (p : Addr) (ts : List Addr) (ps : List (List V)), Same H H' → H p = none → H' p = some (.lst (ts.map V.ref)) → Paired (PairOf H) kvs ps → Paired (fun (t : Addr) (q : List V) => H' t = some (.tup q)) ts ps → Q (.ref p) H'
def tListItemsT (te : TE) : TE := fun σ H Q => te σ H fun x H1 => rItemsLT x H1 Q
theorem items_laidT {pins : List (Addr × Obj)} {σ : L2.St} {H : Hp} {s : Shared} {h' : Heap} {tk : Nat} {ps : List (List V)} {es : Array DictEntry} {acc : Array Value} {c : Nat} {as : List Addr} (I : L2.Inv X pins σ H s) (hz : ps.length ≤ sizeLine)
    (hp : ∀ (j : Nat) (p : List V), ps[j]? = some p → ∃ hj : j < es.size, Vals p [es[j].key, es[j].val])
    (hk : ∀ b o, s.heap.get? b = some o → h'.get? b = some o) (hS : h'.get? s.heap.objs.size = some { cls := .type "list", dict := none, data := .seq acc c, slots := #[] }) (hl : as.length = ps.length) (hG : PySem.W.DilG es s.heap.objs.size h' as) (hacc : acc.toList = as.map Value.ref) :
    ∃ H' : Hp, Same H H' ∧ H s.heap.objs.size = none ∧ H' s.heap.objs.size = some (.lst (as.map V.ref)) ∧ Paired (fun (t : Addr) (q : List V) => H' t = some (.tup q)) as ps ∧ L2.Inv X pins σ H' { s with heap := h', toks := tk } := by
  have hSn : s.heap.objs.size ∉ as := fun z => Nat.lt_irrefl _ (hG.above _ z)
  have nd : as.Nodup := List.Pairwise.imp (fun {a b} (h : a < b) => Nat.ne_of_lt h) hG.rise
  have new : ∀ t ∈ as, H t = none := fun t ht => I.hok.fresh (Nat.le_of_lt (hG.above t ht))
  have newS : H s.heap.objs.size = none := I.hok.fresh (Nat.le_refl _)
  have atP := putL_at as ps (upd H s.heap.objs.size (.lst (as.map V.ref))) hl nd
  have off : ∀ b, b ∉ as → b ≠ s.heap.objs.size → putL (upd H s.heap.objs.size (.lst (as.map V.ref))) as ps b = H b := fun b h1 h2 => by rw [putL_off as ps _ h1, upd_ne h2]
  have low : ∀ b o, s.heap.get? b = some o → b ∉ as ∧ b ≠ s.heap.objs.size := fun b o e => ⟨fun z => absurd (Heap.lt_size e) (Nat.not_lt.mpr (Nat.le_of_lt (hG.above b z))), Nat.ne_of_lt (Heap.lt_size e)⟩
  have kp : ∀ b u, H b = some u → (putL (upd H s.heap.objs.size (.lst (as.map V.ref))) as ps) b = some u := fun b u e => by
    rw [off b (fun z => by rw [new b z] at e; cases e) (fun z => by rw [z, newS] at e; cases e)]
    exact e
  have eS : putL (upd H s.heap.objs.size (.lst (as.map V.ref))) as ps s.heap.objs.size = some (.lst (as.map V.ref)) := by rw [putL_off as ps _ hSn, upd_same]
  refine ⟨putL (upd H s.heap.objs.size (.lst (as.map V.ref))) as ps, kp, newS, eS, atP, ?_⟩
  refine I.call' (ch := []) rfl ⟨fun b o q _ _ _ => hk b o q, fun b o q _ _ _ => ⟨o.slots, hk b o q⟩, fun b o q n _ => ?_, fun b o q _ => ⟨o, hk b o q⟩, fun b xs q => kp b _ q, fun b o u q => kp b _ q, fun b ps q => ⟨#[], by rw [kp b _ q]; simp⟩⟩ (fun b u q => ?_) I.bare fun b z => by simp at z
  · obtain ⟨z1, z2⟩ := low b o q
    rw [off b z1 z2]
    exact n
  · by_cases hb : b ∈ as
    · obtain ⟨j, pk, e1, e2, e3⟩ := LiI.paired_ix atP hb
      rw [e3] at q
      cases q
      obtain ⟨hj, f3⟩ := hG.pairs j b e1
      obtain ⟨hj', rv⟩ := hp j pk e2
      exact ⟨by rw [rv.length]; show 2 ≤ sizeLine; decide, [es[j].key, es[j].val], rv, ⟨_, f3, rfl, _, rfl⟩⟩
    · by_cases hb2 : b = s.heap.objs.size
      · rw [hb2] at q ⊢
        rw [eS] at q
        cases q
        refine ⟨by rw [List.length_map]; omega, acc.toList, c, by rw [hacc]; exact vals_refs as, ?_⟩
        rw [Array.toArray_toList]
        exact hS
      · rw [off b hb hb2] at q
        exact (I.hok b u q).stay (fun d v _ y => hk d v y) (fun d y => kp d _ y) fun d xs y => kp d _ y
theorem pairs_ex {H : Hp} : ∀ {kvs : List (List Key × V)} {xs : List (List Key × Addr × Value)}, KT H kvs xs → ∃ ps : List (List V), Paired (PairOf H) kvs ps ∧ Paired (fun (x : List Key × Addr × Value) p => Vals p [.ref x.2.1, x.2.2]) xs ps
  | _, _, .nil => ⟨[], .nil, .nil⟩
  | (k, v) :: _, x :: _, .cons r t => by
    obtain ⟨ps, h1, h2⟩ := pairs_ex t
    exact ⟨[.ref x.2.1, v] :: ps, .cons ⟨x.2.1, rfl, r.2.1⟩ h1, .cons (.cons rfl (.cons r.2.2 .nil)) h2⟩
theorem pe_listItemsT {e : Expr} {te : TE} {p apos cpos pos : Pos} (hc : X.calm = true) (he : PE X e te) (hg : Gl X "list") (hm : X.mg "list" = none) (hv : bootBuiltins "list" = some (.type "list")) (hbase : attributeBase e "items" X.env (eval e X.env) = eval e X.env := by rfl) (hline : (apos.endLine == cpos.line) = true := by rfl)
    (hs : starEach [.Call (.Attribute e "items" apos) [] [] cpos] X.env = (false, eval (.Call (.Attribute e "items" apos) [] [] cpos) X.env) :: starEach [] X.env := by rfl) :
    PE X (.Call (.Name "list" p) [.Call (.Attribute e "items" apos) [] [] cpos] [] pos) (tListItemsT te) := by
  refine ⟨fun pins s σ H Q I hq => ?_⟩
  refine wpAny_Call_Name_kw (ld_blt I hg hm hv ?_)
  refine PyProof.Rows.callWith_type1 ?_ hs rfl
  rw [hs]
  show wpAny _ _ (spliced ((false, eval (.Call (.Attribute e "items" apos) [] [] cpos) X.env) :: backTo pos (starEach [] X.env))) _ _ s
  refine Calls.spliced_cons ?_
  refine wpAny_Call_method (T := "dict") (id := "dict.items") hbase rfl hline F.plainAttrs_dict F.slot_dict_items F.type_dict_items (thn (he.run pins s σ H _ I hq) fun u s1 ⟨x, H1, I1, rx, d, kvs, ex, hd, q⟩ => ?_)
  subst ex
  obtain rfl : u = Value.ref d := rx
  obtain ⟨z, hs0, xs, pr, o, es, ep, ho, hx, hdt, hes, hn⟩ := (show ObjOk X.prog X.w H1 s1.heap d (.dT kvs) from hd.ok I1.hok)
  have l1 : es.size = xs.length := size_of_entries hes
  have l2 : kvs.length = xs.length := Paired.length pr
  have raw : s1.heap.DictRaw d es ep := ⟨o, ho, hx, hdt⟩
  obtain ⟨ps, pp1, pp2⟩ := pairs_ex pr
  have l3 : kvs.length = ps.length := Paired.length pp1
  have I2 : L2.Inv X pins σ H1 { s1 with heap := s1.heap.push { cls := .type "dict_items", data := .fields #[.ref d] } } := I1.kept (t' := s1.toks) fun b ob q => Heap.get?_push_of_some _ q
  refine ⟨raw.typeIs, (fun a e => by cases e; exact ⟨o, ho, hx.2.1⟩), ?_⟩
  show wpAny _ _ (callWith cpos (.builtin "dict.items") [.ref d] [] []) _ X.xe s1
  refine method_meetsIn F.slot_dict_items F.entry_dict_items rfl (PySem.evalArgs_none ⟨rfl, raw.typeIs, F.args_dict_items_1 _, _, meets_dict_items_raw d hs0, ⟨es, ep, raw⟩, ?_⟩)
  refine Calls.spliced_nil ?_
  refine PySem.W.dil_call (I1.ok.hd hc) ⟨_, Heap.get?_push_size _ rfl, rfl, rfl⟩ (raw.push _) (by omega) fun h' tk acc c as hk hS hl hG hacc => ?_
  obtain ⟨H', k1, k2, k3, k4, J⟩ := items_laidT (tk := tk) I2 (ps := ps) (by omega) (fun j p' hp' => by
    obtain ⟨x, hx', rv⟩ : ∃ x, xs[j]? = some x ∧ Vals p' [.ref x.2.1, x.2.2] := by
      have hj : j < xs.length := by
        have := (List.getElem?_eq_some_iff.mp hp').1
        omega
      obtain ⟨p2, e2, rv⟩ := LiI.paired_get pp2 (List.getElem?_eq_getElem hj)
      rw [hp'] at e2
      cases e2
      exact ⟨_, List.getElem?_eq_getElem hj, rv⟩
    have hj : j < es.size := by
      have := (List.getElem?_eq_some_iff.mp hx').1
      omega
    refine ⟨hj, ?_⟩
    have qe := entry_at hes j
    rw [Array.getElem?_eq_getElem hj, hx'] at qe
    rw [Option.some.inj qe]
    exact rv) hk hS (by omega) hG hacc
  exact ⟨.ref _, H', J, rfl, q H' _ as ps k1 k2 k3 pp1 k4⟩
/-! ### dict(pairs) -/
def mergeT (kvs more : List (List Key × V)) : List (List Key × V) := more.foldl (fun acc kv => putK acc kv.1 kv.2) kvs
theorem KT.merge {H : Hp} : ∀ {more : List (List Key × V)} {ms : List (List Key × Addr × Value)} {kvs : List (List Key × V)} {xs : List (List Key × Addr × Value)}, KT H more ms → KT H kvs xs → KT H (mergeT kvs more) (storedAllH xs ms)
  | _, _, _, _, .nil, r => r
  | (k, v) :: more, (k', q, u) :: ms, kvs, xs, .cons m t, r => by
    have m1 : k = k' := m.1
    subst m1
    have := KT.merge t (r.put k m.2.1 m.2.2)
    exact this
theorem length_mergeT : ∀ (more kvs : List (List Key × V)), (mergeT kvs more).length ≤ kvs.length + more.length
  | [], kvs => Nat.le_refl _
  | m :: more, kvs => by
    have h1 := length_mergeT more (putK kvs m.1 m.2)
    have h2 := length_putK kvs m.1 m.2
    show (mergeT (putK kvs m.1 m.2) more).length ≤ _
    rw [List.length_cons]
    omega
/-- the pairs that stand in a list -/
theorem pairs_in {pins : List (Addr × Obj)} {σ : L2.St} {H : Hp} {s : Shared} (I : L2.Inv X pins σ H s) : ∀ {ts : List Addr} {ps : List (List V)} {kvs : List (List Key × V)}, Paired (fun (t : Addr) (q : List V) => H t = some (.tup q)) ts ps → Paired (PairOf H) kvs ps →
    ∃ ms : List (List Key × Addr × Value), KT H kvs ms ∧ Paired (fun (t : Addr) (m : List Key × Addr × Value) => s.heap.IsTuple t #[.ref m.2.1, m.2.2]) ts ms
  | [], [], [], .nil, .nil => ⟨[], .nil, .nil⟩
  | t :: ts, p :: ps, kv :: kvs, .cons r1 t1, .cons r2 t2 => by
    obtain ⟨ms, h1, h2⟩ := pairs_in I t1 t2
    obtain ⟨q, ep, hq⟩ := r2
    subst ep
    obtain ⟨_, its, rv, ht⟩ := I.hok t _ r1
    cases rv with
    | cons r rr =>
      cases rr with
      | cons r' rr =>
        cases rr
        cases r
        exact ⟨(kv.1, q, _) :: ms, .cons ⟨rfl, hq, r'⟩ h1, .cons ht h2⟩
theorem call_dictPT (hcalm : X.calm = true) : CallR X (.type "dict") (fun xs H Q => ∃ (a : Addr) (ts : List Addr) (ps : List (List V)) (kvs : List (List Key × V)), xs = [.ref a] ∧ H a = some (.lst (ts.map V.ref)) ∧ Paired (fun (t : Addr) (q : List V) => H t = some (.tup q)) ts ps ∧ Paired (PairOf H) kvs ps ∧
    X.A.units + 4 < cLine ∧ ∀ p, H p = none → Q (.ref p) (upd H p (.dT (mergeT [] kvs)))) := by
  intro pins s σ H xs us Q I r h
  obtain ⟨a, ts, ps, kvs, ex, ha, hts, hps, hu, q⟩ := h
  subst ex
  obtain ⟨u, eu, rx⟩ := r.one
  subst eu
  cases rx
  obtain ⟨ms, km, tm⟩ := pairs_in I hts hps
  have l1 := Paired.length km
  have l2 := Paired.length tm
  obtain ⟨zl, its, n, rl, el⟩ := I.hok a _ ha
  have eits : its = ts.map Value.ref := refs_at rl
  have zt : ts.length ≤ sizeLine := by simpa using zl
  have keysIs : ∀ x ∈ ms, (tupleKind (mixKind X.prog X.w)).is s.heap x.1 x.2.1 := keysIs_of I.hok km
  have P := PairArg.list (prog := X.prog) (w := X.w) a its.toArray (fun j => ts.getD j 0) (ms.map fun m => (Value.ref m.2.1, m.2.2))
  have lms : (ms.map fun m => (Value.ref m.2.1, m.2.2)).length = ms.length := List.length_map ..
  refine call_dict_pairsH (knd := tupleKind (mixKind X.prog X.w)) (ps := ms) P (I.ok.hd hcalm) (by show X.A.units + 1 + 1 < cLine; omega) ?_ ?_ ?_ ?_ fun h' tk hd' hk => ?_
  · refine ⟨⟨_, n, el, rfl, rfl, rfl⟩, ?_, fun j k v hj => ?_⟩
    · rw [List.size_toArray, eits, List.length_map, List.length_map]; omega
    · rw [List.getElem?_map] at hj
      cases hm : ms[j]? with
      | none => rw [hm] at hj; cases hj
      | some m =>
        rw [hm] at hj
        cases hj
        have hjt : j < ts.length := by
          have := (List.getElem?_eq_some_iff.mp hm).1
          omega
        obtain ⟨m', e', ht⟩ := LiI.paired_get tm (List.getElem?_eq_getElem hjt)
        rw [hm] at e'
        cases e'
        have eg : ts.getD j 0 = ts[j] := by simp [List.getD, List.getElem?_eq_getElem hjt]
        refine ⟨?_, .inl ?_⟩
        · rw [eits]
          simp [List.getElem?_eq_getElem hjt]
        · show s.heap.IsTuple (ts.getD j 0) _
          rw [eg]; exact ht
  · refine ⟨lms.symm, fun i key v hr => ?_⟩
    have hr' : (ms.map fun m => (Value.ref m.2.1, m.2.2))[i]? = some (key, v) := hr
    rw [List.getElem?_map] at hr'
    cases hm : ms[i]? with
    | none => rw [hm] at hr'; cases hr'
    | some m =>
      rw [hm] at hr'
      cases hr'
      exact ⟨m.1, m.2.1, rfl, rfl⟩
  · intro h2 hk x hx
    refine tupleKind_stays.stays (fun b o vs m e ed => ?_) (keysIs x hx)
    exact hk b o (Nat.ne_of_lt (Heap.lt_size e)) (fun z => nomatch z) e
  · rw [lms]; omega
  · have kp : ∀ b u, s.heap.get? b = some u → h'.get? b = some u := fun b u e => hk b u (fun z => nomatch z) e
    have hm : (s.heap.objs.size == sysModules) = false := beq_eq_false_iff_ne.mpr (Nat.ne_of_gt I.big)
    obtain ⟨o, es, ep, h1, h2, h3, h4, h5, h6⟩ := hd'
    refine ⟨.ref s.heap.objs.size, upd H s.heap.objs.size (.dT (mergeT [] kvs)), I.laid (t' := tk) kp (Nat.le_refl _) ?_, rfl, q _ (I.hok.fresh (Nat.le_refl _))⟩
    have hz : (mergeT [] kvs).length ≤ sizeLine := by
      have := length_mergeT kvs []
      simp only [List.length_nil] at this
      omega
    refine ⟨hz, hm, _, KT.keeps (KT.merge km .nil) fun b ys e => ?_, o, es, ep, h1, h2, h3, h4, h6⟩
    rw [upd_ne (ne_of_none e (I.hok.fresh (Nat.le_refl _)))]
    exact e
end
end K24
end
section
set_option Elab.async false
set_option linter.all false
set_option maxRecDepth 100000
set_option maxHeartbeats 1000000
/-! rules of my own over the layer, 7: displays of dicts with tuple keys, tuple times 0 and 1, tuple.index of ints, dict.update -/
namespace K24
open PySem PySem.Spec PyProof.Rows L2
/-! ### displays -/
section
variable {prog : Program} {w : World} {K : Type} [DecidableEq K] {knd : HeapKind prog w K} {A : Around} {E : Value → Shared → Prop} {s : Shared} {env : Env}
theorem wpAny_Dict_walkH {keys : List (Option Expr)} {values : List Expr} {pos : Pos} {Q : Value → Shared → Prop} (hu : knd.room A)
    (hall : keys.all (·.isSome) = true) (hl : keys.length = values.length) (h0 : keys ≠ []) (hlen : keys.length ≤ 15)
    (h : wpAny (model prog w) A (evalPairs (pairTrees keys values env pos)) (fun vs s₁ => ∃ ps, CarriesH knd s₁.heap vs ps ∧ s₁.heap.DictOfH knd s.heap.objs.size [] ∧
      ∀ h' tk, h'.DictOfH knd s.heap.objs.size (storedAllH [] ps) → Heap.SameBut s.heap.objs.size s₁.heap h' → Q (.ref s.heap.objs.size) { s₁ with heap := h', toks := tk }) E
      { s with heap := s.heap.push { cls := .type "dict", data := .dict #[] } }) :
    wpAny (model prog w) A (eval (.Dict keys values pos) env) Q E s := by
  have hn := pairTrees_length keys values env pos hall hl
  have hne : pairTrees keys values env pos ≠ [] := by
    intro he
    rw [he] at hn
    exact h0 (List.length_eq_zero_iff.mp hn.symm)
  rw [arm_eval_Dict, zip_pairTrees keys values env pos hall hl, dictDisplay_pairs _ hne (by omega)]
  exact wpAny_bind (wpAny_standAt (wpAny_bind (wpAny_subDictH (knd := knd) (Q := fun d s' => wpAny (model prog w) A (pure (Value.ref d)) Q E s') hu (by omega)
    (wpAny_mono h (fun vs s₁ h₁ => by obtain ⟨ps, hc, hm, hq⟩ := h₁; exact ⟨ps, hc, hm, fun h' tk a b => wpAny_pure (hq h' tk a b)⟩) fun _ _ e => e))))
end
/-- a pair of a display: the key's tuple and the value -/
def PairIn (H : Hp) (x : V × V) (kv : List Key × V) : Prop := ∃ q, x.1 = .ref q ∧ H q = some (.tup (kv.1.map kV)) ∧ x.2 = kv.2
theorem carriesT {P : Program} {w : World} {H : Hp} {h : Heap} (ok : HOk P w H h) : ∀ {ps : List (V × V)} {kvs : List (List Key × V)} {ws : List (Value × Value)}, Paired (PairIn H) ps kvs → VV ps ws → ∃ ms, CarriesH (tupleKind (mixKind P w)) h ws ms ∧ KT H kvs ms
  | [], _, _, .nil, r => by cases r; exact ⟨[], True.intro, .nil⟩
  | p :: ps, kv :: kvs, _, .cons c t, r => by
    cases r with
    | cons r1 rr =>
      obtain ⟨ms, h1, h2⟩ := carriesT ok t rr
      obtain ⟨q, e1, e2, e3⟩ := c
      rename_i b bs
      obtain ⟨b1, b2⟩ := b
      have f1 : RelV p.1 b1 := r1.1
      have f2 : RelV p.2 b2 := r1.2
      rw [e1] at f1
      rw [e3] at f2
      cases f1
      exact ⟨(kv.1, q, b2) :: ms, ⟨rfl, rfl, key_of ok e2, h1⟩, .cons ⟨rfl, e2, f2⟩ h2⟩
def tDispT (hu : Prop) (trs : List (TE × TE)) : TE := fun σ H Q => ∀ p, H p = none → tPairs trs σ (upd H p (.dT [])) fun ps H2 => H2 p = some (.dT []) ∧ ∃ kvs : List (List Key × V), Paired (PairIn H2) ps kvs ∧ kvs.length ≤ 15 ∧ hu ∧ Q (.ref p) (upd H2 p (.dT (mergeT [] kvs)))
theorem pe_dispT {X : Cx} {pos : Pos} {keys : List (Option Expr)} {values : List Expr} {trs : List (TE × TE)} (hu : X.A.units + 4 < cLine) (h : PPs X pos keys values trs) (hall : keys.all (·.isSome) = true) (hl : keys.length = values.length) (h0 : keys ≠ [])
    (h15 : keys.length ≤ 15) : PE X (.Dict keys values pos) (tDispT True trs) := by
  refine ⟨fun pins s σ H Q I q => ?_⟩
  have hn := I.hok.fresh (Nat.le_refl s.heap.objs.size)
  have I1 := I.laid (a := s.heap.objs.size) (o := .dT []) (h' := s.heap.push { cls := .type "dict", data := .dict #[] }) (t' := s.toks) (fun _ _ q => Heap.get?_push_of_some _ q) (Nat.le_refl _) (dt_empty s.heap I.big)
  refine wpAny_Dict_walkH (knd := tupleKind (mixKind X.prog X.w)) (by show X.A.units < cLine; omega) hall hl h0 h15 (thn (h.run pins _ σ _ _ I1 (q _ hn)) fun ws s2 ⟨ps, H2, I2, rel, e, kvs, pp, lk, _, q2⟩ => ?_)
  obtain ⟨ms, c, km⟩ := carriesT (P := X.prog) (w := X.w) I2.hok pp rel
  obtain ⟨z, hd, xs0, r0, dd⟩ := dt_of I2.hok e
  cases r0
  refine ⟨ms, c, dd, fun h' tk dd' hs => ⟨.ref s.heap.objs.size, upd H2 s.heap.objs.size (.dT (mergeT [] kvs)), ?_, rfl, q2⟩⟩
  have hz : (mergeT [] kvs).length ≤ sizeLine := by
    have h1 := length_mergeT kvs []
    rw [List.length_nil] at h1
    rw [sizeLine_eq]; omega
  obtain ⟨o', es, ep, h1, h2, h3, h4, h5, h6⟩ := dd'
  have new : ObjOk X.prog X.w (upd H2 s.heap.objs.size (.dT (mergeT [] kvs))) h' s.heap.objs.size (.dT (mergeT [] kvs)) := by
    refine ⟨hz, hd, _, (KT.merge km .nil).keeps fun b ys ec => ?_, o', es, ep, h1, h2, h3, h4, h6⟩
    rw [upd_ne (ne_of ec e (fun z => nomatch z))]
    exact ec
  exact d_write I2 (by rw [e]; exact True.intro) hs ⟨o', h1⟩ new
/-! ### tuple * 0, tuple * 1 -/
theorem tuple_mul0 (l : Addr) (items : Array Value) (n : Nat) (dd : Option Addr) (sl : Array (Option Value)) (x : Int) (u : Tok) (c0 : (decide (x < -(2 ^ 63)) || decide (x ≥ 2 ^ 63)) = false) (c1 : (items.isEmpty || x == 1) = false) (c2 : (decide (x ≤ 0) || items.isEmpty) = true) :
    Meets (Builtin.«tuple.__mul__» ⟨[.ref l, .int x u], []⟩) (fun _ R s => s.heap.get? l = some { cls := .type "tuple", dict := dd, data := .seq items n, slots := sl } ∧
      R (.ok (.ret (Value.ref s.heap.objs.size))) { s with heap := s.heap.push { cls := Value.type "tuple", data := Data.seq #[] }, toks := s.toks }) :=
  .of_wp fun prog w A R s h => by
    obtain ⟨hp, g, d, tk, os⟩ := s
    obtain ⟨hl, h⟩ := h
    have f1 := AutoSeq1.idx_int
    wp_walk using wpAny_loadPart' hl
    repeat (first
      | (refine wpAny_ite_false (decide_eq_false (by rw [c0]; exact Bool.false_ne_true)) ?_; wp_walk using wpAny_loadPart' hl)
      | (refine wpAny_ite_false (decide_eq_false (by rw [c1]; exact Bool.false_ne_true)) ?_; wp_walk using wpAny_loadPart' hl)
      | (refine wpAny_ite_true (decide_eq_true c2) ?_; wp_walk using wpAny_loadPart' hl))
    exact ⟨_, rfl, h⟩
theorem tuple_mul1 (l : Addr) (items : Array Value) (n : Nat) (dd : Option Addr) (sl : Array (Option Value)) (u : Tok) :
    Meets (Builtin.«tuple.__mul__» ⟨[.ref l, .int 1 u], []⟩) (fun _ R s => s.heap.get? l = some { cls := .type "tuple", dict := dd, data := .seq items n, slots := sl } ∧ R (.ok (.ret (Value.ref l))) s) :=
  .of_wp fun prog w A R s h => by
    obtain ⟨hp, g, d, tk, os⟩ := s
    obtain ⟨hl, h⟩ := h
    have f1 := AutoSeq1.idx_int
    wp_walk using wpAny_loadPart' hl
    repeat (first
      | (refine wpAny_ite_false (decide_eq_false (by decide)) ?_; wp_walk using wpAny_loadPart' hl)
      | (refine wpAny_ite_true (decide_eq_true (by simp)) ?_; wp_walk using wpAny_loadPart' hl))
    exact ⟨_, rfl, h⟩
section
variable {X : Cx}
def rRepA : R2 := fun x y H Q => ∃ l k xs, x = .ref l ∧ y = .int k ∧ H l = some (.tup xs) ∧ xs ≠ [] ∧ 0 ≤ k ∧ k ≤ 1000 ∧ xs.length ≤ 1000 ∧ ∀ p H', Same H H' → H' p = some (.tup (List.replicate k.toNat xs).flatten) → Q (.ref p) H'
theorem same_upd {H : Hp} {p : Addr} {o : HO} (h : H p = none) : Same H (upd H p o) := fun b u e => by
  rw [upd_ne (ne_of_none e h)]
  exact e
theorem op_repA : OpR X (binaryOp .Mult) rRepA := by
  intro pins s σ H x y v u Q I rx ry h
  obtain ⟨l, k, xs, rfl, rfl, hT, hne, h1, h2, hz, q⟩ := h
  by_cases hk2 : 2 ≤ k
  · exact op_repT pins s σ H _ _ v u Q I rx ry ⟨l, k, xs, rfl, rfl, .inl (.inl hT), hne, hk2, h2, hz, fun p hp => q p _ (same_upd hp) upd_same⟩
  cases rx
  obtain ⟨t, rfl⟩ := ry
  obtain ⟨its, r, ⟨⟨cls, dd, data, sl⟩, ho, hc, n, hd⟩, hs⟩ := I.tuple (show SqT X.K H l xs from .inl (.inl hT))
  simp only at hc hd
  subst hc hd
  have hle : its.length = xs.length := r.length.symm
  have hn : its ≠ [] := fun e => hne (by
    rw [e] at hle
    exact List.eq_nil_of_length_eq_zero hle.symm)
  have hi : its.toArray.isEmpty = false := by
    cases its with
    | nil => exact absurd rfl hn
    | cons a b => rfl
  rcases (show k = 0 ∨ k = 1 by omega) with ek | ek
  · subst ek
    refine wpAny_binaryOp_repeat_ref (T := "tuple") (U := "int") (by decide) ⟨_, ho, rfl⟩ (fun s' => typeIs_int s' 0 t) noFill_tuple_mul F.fills_int_mul F.slot_int_rmul repeat_tuple F.slot_int_index.lookup
      (call_meets F.slot_int_rmul (typeIs_int s 0 t) F.entry_int_rmul (F.args_int_rmul_2 _ _) (int_rmul_tuple 0 t l its.toArray n dd sl)
        ⟨ho, rfl, ⟨_, ho, rfl⟩, call_meets F.slot_tuple_mul ⟨_, ho, rfl⟩ F.entry_tuple_mul (F.args_tuple_mul_2 _ _) (tuple_mul0 l its.toArray n dd sl 0 t (by decide) (by rw [hi]; rfl) (by rfl)) ⟨ho, ?_⟩⟩)
    refine ⟨.ref s.heap.objs.size, upd H s.heap.objs.size (.tup []), I.laid (t' := s.toks) (fun b ob q => Heap.get?_push_of_some _ q) (Nat.le_refl _) ?_, rfl, q _ _ (same_upd (I.hok.fresh (Nat.le_refl _))) (by rw [upd_same]; rfl)⟩
    exact ⟨Nat.zero_le _, [], .nil, IsTup.new _ _⟩
  · subst ek
    refine wpAny_binaryOp_repeat_ref (T := "tuple") (U := "int") (by decide) ⟨_, ho, rfl⟩ (fun s' => typeIs_int s' 1 t) noFill_tuple_mul F.fills_int_mul F.slot_int_rmul repeat_tuple F.slot_int_index.lookup
      (call_meets F.slot_int_rmul (typeIs_int s 1 t) F.entry_int_rmul (F.args_int_rmul_2 _ _) (int_rmul_tuple 1 t l its.toArray n dd sl)
        ⟨ho, rfl, ⟨_, ho, rfl⟩, call_meets F.slot_tuple_mul ⟨_, ho, rfl⟩ F.entry_tuple_mul (F.args_tuple_mul_2 _ _) (tuple_mul1 l its.toArray n dd sl t) ⟨ho, ?_⟩⟩)
    exact ⟨.ref l, H, I, rfl, q _ _ (Same.refl _) (by rw [hT]; simp)⟩
/-! ### t.index of ints -/
theorem flat_intsV (ys : List Int) : (ys.map V.int).all flatV = true := by
  rw [List.all_map]
  exact List.all_eq_true.mpr fun _ _ => rfl
theorem mt_tup_indexI : MtR X "tuple.index" (fun x xs H Q => ∃ p, ∃ ys : List Int, ∃ z j, x = .ref p ∧ xs = [.int z] ∧ SqT X.K H p (ys.map V.int) ∧ ys[j]? = some z ∧ (∀ m, m < j → ys[m]? ≠ some z) ∧ Q (.int (j : Nat)) H) := by
  intro pins s σ H x xs v us Q I rx rs h
  obtain ⟨p, ys, z, j, rfl, rfl, hq, hy, hno, q⟩ := h
  cases rx
  obtain ⟨u, rfl, t, rfl⟩ := vals1 rs
  obtain ⟨its, r, pl, hz⟩ := I.tuple hq
  obtain ⟨⟨cls, dd, dt, sl⟩, ho, hc, n, hd⟩ := pl
  simp only at hc hd
  subst hc
  subst hd
  have hl : its.toArray.size = ys.length := by rw [List.size_toArray, ← r.length, List.length_map]
  have hj : j < its.toArray.size := by rw [hl]; exact (List.getElem?_eq_some_iff.mp hy).1
  have at' : ∀ (m : Nat) (hm : m < its.toArray.size), ∃ y t', ys[m]? = some y ∧ its.toArray[m] = Value.int y t' := fun m hm => by
    have hm' : m < ys.length := by rw [← hl]; exact hm
    obtain ⟨w, hw, t', hw'⟩ := r.get (i := m) (x := .int ys[m]) (by simp [hm'])
    refine ⟨ys[m], t', List.getElem?_eq_getElem hm', ?_⟩
    have e := (List.getElem?_eq_some_iff.mp hw).2
    rw [← hw', ← e]
    simp
  refine call_meets PySem.F.slot_tuple_index ⟨_, ho, rfl⟩ PySem.F.entry_tuple_index (PySem.F.args_tuple_index_2 _ _) (TI.tuple_indexAt p its.toArray n dd sl (.int z t) (eqU (.int z)) j hj ?_ ?_)
    ⟨ho, fun w hw => mem_eqAt (x := .int z) ⟨t, rfl⟩ rfl r (flat_intsV ys) w (by simpa using hw), ⟨.int (j : Nat), H, I.tok _, ⟨_, rfl⟩, q⟩⟩
  · obtain ⟨y, t', h1, h2⟩ := at' j hj
    rw [hy] at h1
    cases h1
    rw [h2]
    show (z == z) = true
    exact beq_self_eq_true z
  · intro m hm hmj
    obtain ⟨y, t', h1, h2⟩ := at' m hm
    rw [h2]
    show (y == z) = false
    exact beq_eq_false_iff_ne.mpr fun e => hno m hmj (e ▸ h1)
/-! ### d.update(o) -/
def rUpdK : V → List V → Hp → VK → Prop := fun x vs H Q => ∃ d o kvs more, x = .ref d ∧ vs = [.ref o] ∧ d ≠ o ∧ H d = some (.dK kvs) ∧ H o = some (.dK more) ∧ kvs.length + more.length ≤ sizeLine ∧ Q .non (upd H d (.dK (mergeK kvs more)))
theorem mt_updateK : MtR X "dict.update" rUpdK := by
  intro pins s σ H x xs v us Q I rx rs h
  obtain ⟨d, o, kvs, more, rfl, rfl, hne, hd, ho, hz, q⟩ := h
  cases rx
  obtain ⟨u, rfl, rfl⟩ := vals1 rs
  obtain ⟨zd, md, vs, rd, dd⟩ := dk_of I.hok hd
  obtain ⟨zo, mo, vo, ro, oo⟩ := dk_of I.hok ho
  have l1 : kvs.length = vs.length := Paired.length rd
  have l2 : more.length = vo.length := Paired.length ro
  refine call_meetsIn PySem.F.slot_dict_update dd.typeIs PySem.F.entry_dict_update (PySem.F.args_dict_update_2 _ _) (meets_dict_update (mixKind X.prog X.w) d o hne mo) ⟨vs, vo, dd, oo, by omega, fun h' dd' oo' hs => ?_⟩
  refine ⟨.non, _, d_write (t' := s.toks) I (by rw [hd]; exact True.intro) hs ?_ (dk_new ?_ md (KV.merge ro rd) dd'), rfl, q⟩
  · obtain ⟨q, _, _, hq, _⟩ := dd'
    exact ⟨q, hq⟩
  · have := length_mergeK more kvs
    omega
end
end K24
end
section
set_option autoImplicit false
set_option Elab.async false
set_option linter.all false
set_option maxRecDepth 100000
set_option maxHeartbeats 1000000
/-! a tuple of which it is known that it has no dict of its own (a method of a tracked tuple asks that) -/
namespace K24
open PySem PySem.Spec PyProof.Rows L2
def TpX (a : Addr) (xs : List V) : HO := .ext fun h => xs.length ≤ sizeLine ∧ ∃ (its : List Value) (o : Obj) (n : Nat), Vals xs its ∧ h.get? a = some o ∧ o.cls = .type "tuple" ∧ o.dict = none ∧ o.data = .seq its.toArray n
section
variable {X : Cx} {pins : List (Addr × Obj)} {σ : L2.St} {H : Hp} {s : Shared} {a : Addr} {xs : List V}
theorem tpx_at (I : L2.Inv X pins σ H s) (h : H a = some (TpX a xs)) : xs.length ≤ sizeLine ∧ ∃ (its : List Value) (o : Obj) (n : Nat), Vals xs its ∧ s.heap.get? a = some o ∧ o.cls = .type "tuple" ∧ o.dict = none ∧ o.data = .seq its.toArray n :=
  (show ObjOk X.prog X.w H s.heap a (TpX a xs) from I.hok a _ h).1
theorem call_tupleX : CallR X (.type "tuple") (fun xs H Q => ∃ p ys, xs = [.ref p] ∧ SqL X.K H p ys ∧ ∀ l, H l = none → Q (.ref l) (upd H l (TpX l ys))) := by
  intro pins s σ H xs us Q I r h
  obtain ⟨p, ys, rfl, hq, q⟩ := h
  obtain ⟨u, rfl, rx⟩ := vals1 r
  cases rx
  obtain ⟨its, r', pl, hz⟩ := I.list hq
  have hlen := r'.length
  refine call_tuple_list pl.isList (fun h' kp => ?_) (by simp only [List.size_toArray] <;> omega)
  have I1 : L2.Inv X pins σ H { s with heap := h' } := I.kept (t' := s.toks) kp
  have e : (h'.push { cls := .type "tuple", data := .seq its.toArray }).get? h'.objs.size = some { cls := .type "tuple", data := .seq its.toArray } := Heap.get?_push_size _ rfl
  have new : ObjOk X.prog X.w (upd H h'.objs.size (TpX h'.objs.size ys)) (h'.push { cls := .type "tuple", data := .seq its.toArray }) h'.objs.size (TpX h'.objs.size ys) :=
    ⟨⟨hz, its, _, _, r', e, rfl, rfl, rfl⟩, ⟨_, e⟩, fun h1 h2 ⟨z, i, o, n, rv, g, c, d, dd⟩ st => ⟨z, i, o, n, rv, st o g, c, d, dd⟩⟩
  exact ⟨.ref h'.objs.size, _, I1.laid (t' := s.toks) (fun b o e => Heap.get?_push_of_some _ e) (Nat.le_refl _) new, rfl, q _ (I1.hok.fresh (Nat.le_refl _))⟩
theorem call_lenX : CallR X (.builtin "len") (fun xs H Q => ∃ p ys, xs = [.ref p] ∧ H p = some (TpX p ys) ∧ Q (.int ys.length) H) := by
  intro pins s σ H xs us Q I r h
  obtain ⟨p, ys, rfl, hq, q⟩ := h
  obtain ⟨u, rfl, rx⟩ := vals1 r
  cases rx
  have hn := line63
  obtain ⟨hz, its, o, n, r', g, c, d, dd⟩ := tpx_at I hq
  have hlen := r'.length
  exact len_tuple ⟨o, g, c, n, dd⟩ (by simp only [List.size_toArray] <;> omega) ⟨.int ys.length, H, I.tok _, ⟨s.toks + 1, by rw [List.size_toArray, hlen]⟩, q⟩
theorem op_inX : OpR X (compareOp .In) (fun x y H Q => ∃ p xs, y = .ref p ∧ H p = some (TpX p xs) ∧ flatV x = true ∧ xs.all flatV = true ∧ Q (.bl (inV x xs)) H) := by
  intro pins s σ H x y v u Q I rx ry h
  obtain ⟨p, xs, rfl, hq, fx, fs, q⟩ := h
  cases ry
  obtain ⟨hz, its, o, n, r, g, c, d, dd⟩ := tpx_at I hq
  refine SeqAt.in_tupleAt (eqU x) (show s.heap.IsTuple p its.toArray from ⟨o, g, c, n, dd⟩) (fun w hw => mem_eqAt rx fx r fs w (by simpa using hw)) ⟨.bl _, H, I, rfl, ?_⟩
  rw [show its.toArray.any (eqU x) = its.any (eqU x) by simp, any_eqU r fs]
  exact q
theorem mt_indexX : MtR X "tuple.index" (fun x xs H Q => ∃ p, ∃ ys : List Int, ∃ z j, x = .ref p ∧ xs = [.int z] ∧ H p = some (TpX p (ys.map V.int)) ∧ ys[j]? = some z ∧ (∀ m, m < j → ys[m]? ≠ some z) ∧ Q (.int (j : Nat)) H) := by
  intro pins s σ H x xs v us Q I rx rs h
  obtain ⟨p, ys, z, j, rfl, rfl, hq, hy, hno, q⟩ := h
  cases rx
  obtain ⟨u, rfl, t, rfl⟩ := vals1 rs
  obtain ⟨hz, its, ⟨cls, dd, dt, sl⟩, n, r, ho, hc, hdd, hd⟩ := tpx_at I hq
  simp only at hc hd
  subst hc
  subst hd
  have hl : its.toArray.size = ys.length := by rw [List.size_toArray, ← r.length, List.length_map]
  have hj : j < its.toArray.size := by rw [hl]; exact (List.getElem?_eq_some_iff.mp hy).1
  have at' : ∀ (m : Nat) (hm : m < its.toArray.size), ∃ y t', ys[m]? = some y ∧ its.toArray[m] = Value.int y t' := fun m hm => by
    have hm' : m < ys.length := by rw [← hl]; exact hm
    obtain ⟨w, hw, t', hw'⟩ := r.get (i := m) (x := .int ys[m]) (by simp [hm'])
    refine ⟨ys[m], t', List.getElem?_eq_getElem hm', ?_⟩
    have e := (List.getElem?_eq_some_iff.mp hw).2
    rw [← hw', ← e]
    simp
  refine call_meets PySem.F.slot_tuple_index ⟨_, ho, rfl⟩ PySem.F.entry_tuple_index (PySem.F.args_tuple_index_2 _ _) (TI.tuple_indexAt p its.toArray n dd sl (.int z t) (eqU (.int z)) j hj ?_ ?_)
    ⟨ho, fun w hw => mem_eqAt (x := .int z) ⟨t, rfl⟩ rfl r (flat_intsV ys) w (by simpa using hw), ⟨.int (j : Nat), H, I.tok _, ⟨_, rfl⟩, q⟩⟩
  · obtain ⟨y, t', h1, h2⟩ := at' j hj
    rw [hy] at h1
    cases h1
    rw [h2]
    show (z == z) = true
    exact beq_self_eq_true z
  · intro m hm hmj
    obtain ⟨y, t', h1, h2⟩ := at' m hm
    rw [h2]
    show (y == z) = false
    exact beq_eq_false_iff_ne.mpr fun e => hno m hmj (e ▸ h1)
def tBMX (r : V → List V → Hp → VK → Prop) (to : TE) (t : TA) : TE := fun σ H Q => to σ H fun x H1 => (∃ p ys, x = .ref p ∧ H1 p = some (TpX p ys)) ∧ t σ H1 fun xs H2 => r x xs H2 Q
theorem pe_bmX {o e : Expr} {es : List Expr} {to : TE} {t : TA} {name : Str} {apos cpos : Pos} {id : String} {r : V → List V → Hp → VK → Prop} (slot : Slot "tuple" name id) (hty : typeOf (.builtin id) = pure (.type "method_descriptor")) (hm : MtR X id r) (ho : PE X o to) (ha : PA X (e :: es) t)
    (hbase : attributeBase o name X.env (eval o X.env) = eval o X.env := by rfl)
    (hfew : ((backTo cpos (starEach (e :: es) X.env)).all (fun x => !x.1) && (backToKw cpos (keywordEach [] X.env)).all (fun x => x.1.isSome)
      && decide ((e :: es).length + ([] : List Keyword).length + (if ([] : List Keyword).isEmpty then 0 else 1) < 30)) = true := by rfl)
    (hline : (apos.endLine == cpos.line) = true := by rfl) (hs : starEach (e :: es) X.env = (false, eval e X.env) :: starEach es X.env := by rfl) (hplain : (backTo cpos (starEach es X.env)).any (·.1) = false := by rfl) :
    PE X (.Call (.Attribute o name apos) (e :: es) [] cpos) (tBMX r to t) := by
  refine ⟨fun pins s σ H Q I h => ?_⟩
  refine wpAny_Call_method_late hbase hfew hline rfl (thn (ho.run pins s σ H _ I h) fun v s1 ⟨x, H1, I1, r1, ⟨p, ys, ex, hp⟩, q1⟩ => ?_)
  subst ex
  cases r1
  obtain ⟨hz, its, ob, n, rv, g, c, d, dd⟩ := tpx_at I1 hp
  refine ⟨"tuple", id, PySem.F.plainAttrs_tuple, slot, hty, ⟨ob, g, c⟩, fun b e => by cases e; exact ⟨ob, g, d⟩, ?_⟩
  have hA := ha.run cpos pins s1 σ H1 _ I1 q1
  rw [hs] at hA ⊢
  refine Calls.callWith_builtin (by show (false || (backTo cpos (starEach es X.env)).any (·.1)) = false; rw [hplain] <;> rfl) (Calls.evalArgs_plain ?_)
  exact thn hA fun us s2 ⟨vs, H2, I2, r2, q2⟩ => hm pins s2 σ H2 (.ref p) vs (.ref p) us Q I2 rfl r2 q2
end
end K24
end
section
set_option linter.all false
set_option autoImplicit false
namespace K24
abbrev Ex := List Int
abbrev Fm := List (Ex × Int)
/-! ### association lists -/
def keys (F : Fm) : List Ex := F.map (·.1)
def val (F : Fm) (k : Ex) : Option Int := (F.find? fun kv => decide (kv.1 = k)).map (·.2)
def co (F : Fm) (k : Ex) : Int := (val F k).getD 0
def put (F : Fm) (k : Ex) (v : Int) : Fm :=
  if (F.any fun kv => decide (kv.1 = k)) = true then F.map (fun kv => if kv.1 = k then (kv.1, v) else kv) else F ++ [(k, v)]

theorem val_nil (k : Ex) : val [] k = none := rfl
theorem val_cons (a : Ex × Int) (F : Fm) (k : Ex) : val (a :: F) k = if a.1 = k then some a.2 else val F k := by
  unfold val
  by_cases h : a.1 = k
  · simp [List.find?_cons, h]
  · simp [List.find?_cons, h]
theorem co_nil (k : Ex) : co [] k = 0 := rfl
theorem co_cons (a : Ex × Int) (F : Fm) (k : Ex) : co (a :: F) k = if a.1 = k then a.2 else co F k := by
  unfold co
  rw [val_cons]
  by_cases h : a.1 = k
  · rw [if_pos h, if_pos h]; rfl
  · rw [if_neg h, if_neg h]
theorem any_iff (F : Fm) (k : Ex) : (F.any fun kv => decide (kv.1 = k)) = true ↔ k ∈ keys F := by
  simp [keys, List.any_eq_true, List.mem_map]
theorem val_none {F : Fm} {k : Ex} (h : k ∉ keys F) : val F k = none := by
  induction F with
  | nil => rfl
  | cons a F ih =>
    have h1 : ¬ a.1 = k := fun e => h (by simp [keys, e])
    have h2 : k ∉ keys F := fun e => h (by simp only [keys, List.map_cons, List.mem_cons]; exact .inr e)
    rw [val_cons, if_neg h1, ih h2]
theorem co_none {F : Fm} {k : Ex} (h : k ∉ keys F) : co F k = 0 := by
  unfold co; rw [val_none h]; rfl
theorem keys_nil : keys [] = [] := rfl
theorem keys_cons (a : Ex × Int) (F : Fm) : keys (a :: F) = a.1 :: keys F := rfl
theorem keys_append (F G : Fm) : keys (F ++ G) = keys F ++ keys G := by simp [keys]
theorem val_append (F G : Fm) (k : Ex) : val (F ++ G) k = (val F k).or (val G k) := by
  induction F with
  | nil => simp [val_nil]
  | cons a F ih =>
    rw [List.cons_append, val_cons, val_cons, ih]
    by_cases h : a.1 = k
    · rw [if_pos h, if_pos h]; rfl
    · rw [if_neg h, if_neg h]
theorem val_repl (F : Fm) (k j : Ex) (v : Int) : val (F.map fun kv => if kv.1 = k then (kv.1, v) else kv) j = (val F j).map fun x => if j = k then v else x := by
  induction F with
  | nil => rfl
  | cons a F ih =>
    rw [List.map_cons, val_cons, val_cons, ih]
    by_cases h : a.1 = k
    · rw [if_pos h]
      by_cases hj : a.1 = j
      · simp only [if_pos hj]
        have : j = k := hj.symm.trans h
        simp [this]
      · simp only [if_neg hj]
    · rw [if_neg h]
      by_cases hj : a.1 = j
      · rw [if_pos hj, if_pos hj]
        have : ¬ j = k := fun e => h (hj.trans e)
        simp [this]
      · rw [if_neg hj, if_neg hj]
theorem val_some_of_mem {F : Fm} {k : Ex} (h : k ∈ keys F) : ∃ v, val F k = some v := by
  induction F with
  | nil => cases h
  | cons a F ih =>
    rw [val_cons]
    by_cases e : a.1 = k
    · exact ⟨a.2, if_pos e⟩
    · rw [if_neg e]
      rw [keys_cons, List.mem_cons] at h
      exact ih (h.resolve_left fun z => e z.symm)
theorem val_put (F : Fm) (k j : Ex) (v : Int) : val (put F k v) j = if j = k then some v else val F j := by
  unfold put
  by_cases h : k ∈ keys F
  · rw [if_pos ((any_iff F k).mpr h), val_repl]
    by_cases e : j = k
    · subst e
      obtain ⟨x, hx⟩ := val_some_of_mem h
      rw [hx]; simp
    · simp only [if_neg e]
      cases val F j <;> rfl
  · rw [if_neg (fun z => h ((any_iff F k).mp z)), val_append, val_cons, val_nil]
    by_cases e : j = k
    · subst e
      rw [val_none h]; simp
    · have e2 : ¬ k = j := fun z => e z.symm
      simp only [if_neg e, if_neg e2]
      cases val F j <;> rfl
theorem co_put (F : Fm) (k j : Ex) (v : Int) : co (put F k v) j = if j = k then v else co F j := by
  unfold co
  rw [val_put]
  by_cases e : j = k
  · rw [if_pos e, if_pos e]; rfl
  · rw [if_neg e, if_neg e]
theorem keys_put (F : Fm) (k : Ex) (v : Int) : keys (put F k v) = if k ∈ keys F then keys F else keys F ++ [k] := by
  unfold put
  by_cases h : k ∈ keys F
  · rw [if_pos ((any_iff F k).mpr h), if_pos h]
    unfold keys
    rw [List.map_map]
    apply List.map_congr_left
    intro a _
    show (if a.1 = k then (a.1, v) else a).1 = a.1
    split <;> rfl
  · rw [if_neg (fun z => h ((any_iff F k).mp z)), if_neg h, keys_append]; rfl
theorem nodup_put {F : Fm} (h : (keys F).Nodup) (k : Ex) (v : Int) : (keys (put F k v)).Nodup := by
  rw [keys_put]
  split
  · exact h
  · rename_i hk
    rw [List.nodup_append]
    refine ⟨h, by simp, fun a ha b hb => ?_⟩
    rw [List.mem_singleton.mp hb]
    exact fun e => hk (e ▸ ha)
theorem mem_keys_put {F : Fm} {k j : Ex} {v : Int} : j ∈ keys (put F k v) ↔ j ∈ keys F ∨ j = k := by
  rw [keys_put]
  by_cases h : k ∈ keys F
  · rw [if_pos h]
    exact ⟨.inl, fun z => z.elim id fun e => e ▸ h⟩
  · rw [if_neg h, List.mem_append, List.mem_singleton]
theorem length_put (F : Fm) (k : Ex) (v : Int) : (put F k v).length ≤ F.length + 1 := by
  have h1 : (put F k v).length = (keys (put F k v)).length := by simp [keys]
  have h2 : F.length = (keys F).length := by simp [keys]
  rw [h1, h2, keys_put]
  split
  · omega
  · simp
theorem put_new {F : Fm} {k : Ex} (v : Int) (h : k ∉ keys F) : put F k v = F ++ [(k, v)] := by
  unfold put
  rw [if_neg (fun z => h ((any_iff F k).mp z))]
theorem mem_val {F : Fm} (h : (keys F).Nodup) {a : Ex × Int} (ha : a ∈ F) : val F a.1 = some a.2 := by
  induction F with
  | nil => cases ha
  | cons b F ih =>
    rw [keys_cons, List.nodup_cons] at h
    rw [val_cons]
    rcases List.mem_cons.mp ha with e | e
    · rw [if_pos (by rw [e]), e]
    · have : ¬ b.1 = a.1 := fun z => h.1 (by rw [z]; exact List.mem_map.mpr ⟨a, e, rfl⟩)
      rw [if_neg this, ih h.2 e]
theorem val_mem {F : Fm} {k : Ex} {v : Int} (h : val F k = some v) : (k, v) ∈ F := by
  induction F with
  | nil => cases h
  | cons b F ih =>
    rw [val_cons] at h
    by_cases e : b.1 = k
    · rw [if_pos e] at h
      have : b.2 = v := Option.some.inj h
      exact List.mem_cons.mpr (.inl (by rw [← e, ← this]))
    · rw [if_neg e] at h
      exact List.mem_cons_of_mem _ (ih h)
theorem mem_co {F : Fm} (h : (keys F).Nodup) {k : Ex} {v : Int} (ha : (k, v) ∈ F) : co F k = v := by
  unfold co; rw [mem_val h ha]; rfl
theorem co_mem {F : Fm} {k : Ex} (h : co F k ≠ 0) : (k, co F k) ∈ F := by
  unfold co at h ⊢
  cases e : val F k with
  | none => rw [e] at h; exact absurd rfl h
  | some v => exact val_mem e
theorem keys_mem {F : Fm} {a : Ex × Int} (h : a ∈ F) : a.1 ∈ keys F := List.mem_map.mpr ⟨a, h, rfl⟩
theorem nodup_of_keys {F : Fm} (h : (keys F).Nodup) : F.Nodup := by
  induction F with
  | nil => exact List.nodup_nil
  | cons b F ih =>
    rw [keys_cons, List.nodup_cons] at h
    exact List.nodup_cons.mpr ⟨fun z => h.1 (keys_mem z), ih h.2⟩
/-- without zeros, a table is told by its numbers -/
def NZ (F : Fm) : Prop := ∀ a ∈ F, a.2 ≠ 0
theorem perm_of_co {F G : Fm} (hF : (keys F).Nodup) (hG : (keys G).Nodup) (zF : NZ F) (zG : NZ G) (h : ∀ k, co F k = co G k) : F.Perm G := by
  rw [List.perm_ext_iff_of_nodup (nodup_of_keys hF) (nodup_of_keys hG)]
  intro a
  obtain ⟨k, v⟩ := a
  constructor
  · intro ha
    have e := mem_co hF ha
    have n := zF _ ha
    have e2 : co G k = v := (h k).symm.trans e
    have := co_mem (F := G) (k := k) (by rw [e2]; exact n)
    rw [e2] at this
    exact this
  · intro ha
    have e := mem_co hG ha
    have n := zG _ ha
    have e2 : co F k = v := (h k).trans e
    have := co_mem (F := F) (k := k) (by rw [e2]; exact n)
    rw [e2] at this
    exact this
theorem perm_keys {F G : Fm} (h : F.Perm G) : (keys F).Perm (keys G) := h.map _
theorem perm_val {F G : Fm} (hF : (keys F).Nodup) (h : F.Perm G) (k : Ex) : val F k = val G k := by
  have hG : (keys G).Nodup := (perm_keys h).nodup hF
  cases e : val F k with
  | some v =>
    have := h.mem_iff.mp (val_mem e)
    exact (mem_val hG this).symm
  | none =>
    cases e2 : val G k with
    | none => rfl
    | some v =>
      have := mem_val hF (h.mem_iff.mpr (val_mem e2))
      rw [e] at this
      cases this
theorem perm_co {F G : Fm} (hF : (keys F).Nodup) (h : F.Perm G) (k : Ex) : co F k = co G k := by
  unfold co; rw [perm_val hF h]

/-! ### sums -/
def tot (L : Fm) (k : Ex) : Int := (L.map fun kv => if kv.1 = k then kv.2 else 0).sum
theorem tot_nil (k : Ex) : tot [] k = 0 := rfl
theorem tot_cons (a : Ex × Int) (L : Fm) (k : Ex) : tot (a :: L) k = (if a.1 = k then a.2 else 0) + tot L k := rfl
theorem tot_append (L M : Fm) (k : Ex) : tot (L ++ M) k = tot L k + tot M k := by
  induction L with
  | nil => rw [List.nil_append, tot_nil, Int.zero_add]
  | cons a L ih => rw [List.cons_append, tot_cons, tot_cons, ih, Int.add_assoc]
theorem tot_perm {L M : Fm} (h : L.Perm M) (k : Ex) : tot L k = tot M k := by
  induction h with
  | nil => rfl
  | cons a _ ih => rw [tot_cons, tot_cons, ih]
  | swap a b l => rw [tot_cons, tot_cons, tot_cons, tot_cons]; omega
  | trans _ _ h1 h2 => exact h1.trans h2
theorem tot_co {F : Fm} (h : (keys F).Nodup) (k : Ex) : tot F k = co F k := by
  induction F with
  | nil => rfl
  | cons a F ih =>
    rw [keys_cons, List.nodup_cons] at h
    rw [tot_cons, co_cons, ih h.2]
    by_cases e : a.1 = k
    · rw [if_pos e, if_pos e, co_none (by rw [← e]; exact h.1), Int.add_zero]
    · rw [if_neg e, if_neg e, Int.zero_add]
/-- one by one put to -/
def addAll (A : Fm) (L : Fm) : Fm := L.foldl (fun acc kv => put acc kv.1 (co acc kv.1 + kv.2)) A
def addAllM (p : Int) (A : Fm) (L : Fm) : Fm := L.foldl (fun acc kv => put acc kv.1 ((co acc kv.1 + kv.2) % p)) A
theorem addAll_cons (A : Fm) (a : Ex × Int) (L : Fm) : addAll A (a :: L) = addAll (put A a.1 (co A a.1 + a.2)) L := rfl
theorem addAllM_cons (p : Int) (A : Fm) (a : Ex × Int) (L : Fm) : addAllM p A (a :: L) = addAllM p (put A a.1 ((co A a.1 + a.2) % p)) L := rfl
theorem co_addAll (L : Fm) : ∀ (A : Fm) (k : Ex), co (addAll A L) k = co A k + tot L k := by
  induction L with
  | nil => intro A k; show co A k = co A k + 0; omega
  | cons a L ih =>
    intro A k
    rw [addAll_cons, ih, co_put, tot_cons]
    by_cases e : k = a.1
    · subst e; rw [if_pos rfl, if_pos rfl]; omega
    · rw [if_neg e, if_neg (fun z => e z.symm)]; omega
theorem nodup_addAll (L : Fm) : ∀ (A : Fm), (keys A).Nodup → (keys (addAll A L)).Nodup := by
  induction L with
  | nil => intro A h; exact h
  | cons a L ih => intro A h; exact ih _ (nodup_put h _ _)
theorem mem_keys_addAll (L : Fm) : ∀ (A : Fm) (k : Ex), k ∈ keys (addAll A L) ↔ k ∈ keys A ∨ k ∈ keys L := by
  induction L with
  | nil => intro A k; simp [addAll, keys]
  | cons a L ih =>
    intro A k
    rw [addAll_cons, ih, mem_keys_put, keys_cons, List.mem_cons, or_assoc]
/-- numbers of the field -/
def InR (p : Int) (F : Fm) : Prop := ∀ a ∈ F, 0 ≤ a.2 ∧ a.2 < p
theorem co_range {p : Int} (hp : 0 < p) {F : Fm} (h : InR p F) (k : Ex) : 0 ≤ co F k ∧ co F k < p := by
  by_cases e : co F k = 0
  · rw [e]; exact ⟨Int.le_refl _, hp⟩
  · exact h _ (co_mem e)
theorem mem_put {F : Fm} {k : Ex} {v : Int} {a : Ex × Int} (h : a ∈ put F k v) : a ∈ F ∨ a = (k, v) := by
  unfold put at h
  split at h
  · obtain ⟨b, hb, e⟩ := List.mem_map.mp h
    by_cases q : b.1 = k
    · rw [if_pos q] at e
      exact .inr (by rw [← e, q])
    · rw [if_neg q] at e
      exact .inl (by rw [← e]; exact hb)
  · rcases List.mem_append.mp h with q | q
    · exact .inl q
    · exact .inr (List.mem_singleton.mp q)
theorem inR_put {p : Int} {F : Fm} {k : Ex} {v : Int} (h : InR p F) (h0 : 0 ≤ v) (h1 : v < p) : InR p (put F k v) := fun a ha => by
  rcases mem_put ha with q | q
  · exact h a q
  · rw [q]; exact ⟨h0, h1⟩
theorem inR_addAllM {p : Int} (hp : 0 < p) (L : Fm) : ∀ (A : Fm), InR p A → InR p (addAllM p A L) := by
  induction L with
  | nil => intro A h; exact h
  | cons a L ih => intro A h; exact ih _ (inR_put h (Int.emod_nonneg _ (by omega)) (Int.emod_lt_of_pos _ hp))
theorem nodup_addAllM (p : Int) (L : Fm) : ∀ (A : Fm), (keys A).Nodup → (keys (addAllM p A L)).Nodup := by
  induction L with
  | nil => intro A h; exact h
  | cons a L ih => intro A h; exact ih _ (nodup_put h _ _)
theorem co_addAllM {p : Int} (hp : 0 < p) (L : Fm) : ∀ (A : Fm), InR p A → ∀ (k : Ex), co (addAllM p A L) k = (co A k + tot L k) % p := by
  induction L with
  | nil =>
    intro A h k
    show co A k = (co A k + 0) % p
    have := co_range hp h k
    rw [Int.add_zero, Int.emod_eq_of_lt this.1 this.2]
  | cons a L ih =>
    intro A h k
    rw [addAllM_cons, ih _ (inR_put h (Int.emod_nonneg _ (by omega)) (Int.emod_lt_of_pos _ hp)), co_put, tot_cons]
    by_cases e : k = a.1
    · subst e
      rw [if_pos rfl, if_pos rfl, Int.emod_add_emod, Int.add_assoc]
    · rw [if_neg e, if_neg (fun z => e z.symm), Int.zero_add]
theorem length_addAll (L : Fm) : ∀ (A : Fm), (addAll A L).length ≤ A.length + L.length := by
  induction L with
  | nil => intro A; exact Nat.le_refl _
  | cons a L ih =>
    intro A
    rw [addAll_cons]
    have h1 := ih (put A a.1 (co A a.1 + a.2))
    have h2 := length_put A a.1 (co A a.1 + a.2)
    rw [List.length_cons]
    omega
theorem length_addAllM (p : Int) (L : Fm) : ∀ (A : Fm), (addAllM p A L).length ≤ A.length + L.length := by
  induction L with
  | nil => intro A; exact Nat.le_refl _
  | cons a L ih =>
    intro A
    rw [addAllM_cons]
    have h1 := ih (put A a.1 ((co A a.1 + a.2) % p))
    have h2 := length_put A a.1 ((co A a.1 + a.2) % p)
    rw [List.length_cons]
    omega

/-! ### the lists' order -/
theorem le_total_ex (a b : Ex) : a ≤ b ∨ b ≤ a := List.le_total a b
theorem le_trans_ex {a b c : Ex} (h : a ≤ b) (h2 : b ≤ c) : a ≤ c := List.le_trans h h2
theorem le_antisymm_ex {a b : Ex} (h : a ≤ b) (h2 : b ≤ a) : a = b := List.le_antisymm h h2
def leE (a b : Ex) : Bool := decide (a ≤ b)
def sortK (l : List Ex) : List Ex := l.mergeSort leE
theorem sortK_perm (l : List Ex) : (sortK l).Perm l := List.mergeSort_perm l leE
theorem sortK_pair (l : List Ex) : (sortK l).Pairwise (fun a b => a ≤ b) := by
  have h := List.pairwise_mergeSort (le := leE) (fun a b c h1 h2 => decide_eq_true (le_trans_ex (of_decide_eq_true h1) (of_decide_eq_true h2)))
    (fun a b => by
      rcases le_total_ex a b with h | h
      · simp [leE, h]
      · simp [leE, h]) l
  exact h.imp fun h => of_decide_eq_true h
theorem sortK_eq {l m : List Ex} (hp : m.Perm l) (hm : m.Pairwise (fun a b => a ≤ b)) : sortK l = m :=
  ((sortK_perm l).trans hp.symm).eq_of_pairwise (fun a b _ _ h1 h2 => le_antisymm_ex h1 h2) (sortK_pair l) hm
theorem sortK_self {l : List Ex} (h : l.Pairwise (fun a b => a ≤ b)) : sortK l = l := sortK_eq (List.Perm.refl _) h

/-! ### the forms -/
/-- an exponent brought down -/
def low (p e : Int) : Int := if e < p then e else (e - 1) % (p - 1) + 1
def addk (p : Int) (i j : Ex) : Ex := List.zipWith (fun a b => low p (a + b)) i j
def cleanC (p : Int) (F : Fm) : Fm := (sortK (keys F)).filterMap fun k => if co F k % p = 0 then none else some (k, co F k % p)
def sumC (p : Int) (F G : Fm) : Fm := cleanC p (addAll F G)
def mapV (f : Int → Int) (F : Fm) : Fm := F.map fun kv => (kv.1, f kv.2)
def scaleC (p : Int) (F : Fm) (c : Int) : Fm := cleanC p (mapV (fun v => c * v) F)
def pairs (p : Int) (F G : Fm) : Fm := F.flatMap fun x => G.map fun y => (addk p x.1 y.1, x.2 * y.2)
def prodC (p : Int) (F G : Fm) : Fm := cleanC p (addAll [] (pairs p F G))
def zeros (n : Nat) : Ex := List.replicate n 0
def constC (p : Int) (n : Nat) (c : Int) : Fm := cleanC p [(zeros n, c)]
def letter (n idx : Nat) : Ex := (List.range n).map fun j => if j = idx then 1 else 0
def letterC (n idx : Nat) : Fm := [(letter n idx, 1)]
def nz (F : Fm) : Fm := F.filter fun kv => decide (kv.2 ≠ 0)
def sumL (p : Int) (F G : Fm) : Fm := nz (addAllM p F G)
def prodL (p : Int) (F G : Fm) : Fm := nz (addAllM p [] (pairs p F G))

theorem keys_cleanC (p : Int) (F : Fm) : keys (cleanC p F) = (sortK (keys F)).filter fun k => !decide (co F k % p = 0) := by
  unfold cleanC keys
  induction (sortK (List.map (fun x => x.fst) F)) with
  | nil => rfl
  | cons k l ih =>
    rw [List.filterMap_cons, List.filter_cons]
    by_cases e : co F k % p = 0
    · simp only [if_pos e]
      rw [ih, if_neg (by simp [e])]
    · simp only [if_neg e]
      rw [List.map_cons, ih, if_pos (by simp [e])]
theorem cleanC_pair (p : Int) (F : Fm) : (keys (cleanC p F)).Pairwise (fun a b => a ≤ b) := by
  rw [keys_cleanC]
  exact (sortK_pair _).filter _
theorem nodup_cleanC (p : Int) {F : Fm} (h : (keys F).Nodup) : (keys (cleanC p F)).Nodup := by
  rw [keys_cleanC]
  exact ((sortK_perm _).symm.nodup h).sublist List.filter_sublist
theorem mem_cleanC {p : Int} {F : Fm} {a : Ex × Int} : a ∈ cleanC p F ↔ a.1 ∈ keys F ∧ a.2 = co F a.1 % p ∧ a.2 ≠ 0 := by
  unfold cleanC
  rw [List.mem_filterMap]
  constructor
  · rintro ⟨k, hk, e⟩
    by_cases z : co F k % p = 0
    · rw [if_pos z] at e; cases e
    · rw [if_neg z] at e
      have e2 := Option.some.inj e
      subst e2
      exact ⟨(sortK_perm _).mem_iff.mp hk, rfl, z⟩
  · rintro ⟨h1, h2, h3⟩
    refine ⟨a.1, (sortK_perm _).mem_iff.mpr h1, ?_⟩
    rw [if_neg (by rw [← h2]; exact h3), ← h2]
theorem co_cleanC {p : Int} {F : Fm} (h : (keys F).Nodup) (k : Ex) : co (cleanC p F) k = co F k % p := by
  by_cases z : co F k % p = 0
  · rw [z]
    refine Decidable.byContradiction fun q => ?_
    have := (mem_cleanC.mp (co_mem q)).2
    exact this.2 (this.1.trans z)
  · have hk : k ∈ keys F := Decidable.byContradiction fun q => z (by rw [co_none q]; exact Int.zero_emod _)
    exact mem_co (nodup_cleanC p h) (mem_cleanC.mpr ⟨hk, rfl, z⟩)
theorem inR_cleanC {p : Int} (hp : 0 < p) (F : Fm) : InR p (cleanC p F) := fun a ha => by
  rw [(mem_cleanC.mp ha).2.1]
  exact ⟨Int.emod_nonneg _ (by omega), Int.emod_lt_of_pos _ hp⟩
theorem nz_cleanC (p : Int) (F : Fm) : NZ (cleanC p F) := fun a ha => (mem_cleanC.mp ha).2.2
theorem keys_nz_sub {F : Fm} {k : Ex} (h : k ∈ keys (nz F)) : k ∈ keys F := by
  obtain ⟨a, ha, e⟩ := List.mem_map.mp h
  exact List.mem_map.mpr ⟨a, (List.mem_filter.mp ha).1, e⟩
theorem nodup_nz {F : Fm} (h : (keys F).Nodup) : (keys (nz F)).Nodup := h.sublist ((List.filter_sublist).map _)
theorem nz_nz (F : Fm) : NZ (nz F) := fun a ha => of_decide_eq_true (List.mem_filter.mp ha).2
theorem co_nz {F : Fm} (h : (keys F).Nodup) (k : Ex) : co (nz F) k = co F k := by
  by_cases z : co F k = 0
  · rw [z]
    refine Decidable.byContradiction fun q => ?_
    have h1 := co_mem q
    have h2 := mem_co h (List.mem_filter.mp h1).1
    exact q (h2.symm.trans z)
  · exact mem_co (nodup_nz h) (List.mem_filter.mpr ⟨co_mem z, decide_eq_true z⟩)
theorem inR_nz {p : Int} {F : Fm} (h : InR p F) : InR p (nz F) := fun a ha => h a (List.mem_filter.mp ha).1

/-- a table of the field, keys once, no zeros -/
structure Tab (p : Int) (F : Fm) : Prop where
  nd : (keys F).Nodup
  nz : NZ F
  rg : InR p F
theorem Tab.clean {p : Int} (hp : 0 < p) {F : Fm} (h : (keys F).Nodup) : Tab p (cleanC p F) := ⟨nodup_cleanC p h, nz_cleanC p F, inR_cleanC hp F⟩
theorem Tab.sumL {p : Int} (hp : 0 < p) {F : Fm} (h : Tab p F) (G : Fm) : Tab p (sumL p F G) :=
  ⟨nodup_nz (nodup_addAllM p G F h.nd), nz_nz _, inR_nz (inR_addAllM hp G F h.rg)⟩
theorem Tab.prodL {p : Int} (hp : 0 < p) (F G : Fm) : Tab p (prodL p F G) :=
  ⟨nodup_nz (nodup_addAllM p _ [] List.nodup_nil), nz_nz _, inR_nz (inR_addAllM hp _ [] fun a ha => nomatch ha)⟩
theorem nd_mapV {f : Int → Int} {F : Fm} (h : (keys F).Nodup) : (keys (mapV f F)).Nodup := by
  have : keys (mapV f F) = keys F := by simp [keys, mapV, Function.comp_def]
  rw [this]; exact h
theorem co_mapV {f : Int → Int} (h0 : f 0 = 0) (F : Fm) (k : Ex) : co (mapV f F) k = f (co F k) := by
  induction F with
  | nil => rw [show mapV f [] = [] from rfl, co_nil, h0]
  | cons a F ih =>
    rw [show mapV f (a :: F) = (a.1, f a.2) :: mapV f F from rfl, co_cons, co_cons, ih]
    by_cases e : a.1 = k
    · rw [if_pos e, if_pos e]
    · rw [if_neg e, if_neg e]
theorem Tab.sumC {p : Int} (hp : 0 < p) {F : Fm} (h : Tab p F) (G : Fm) : Tab p (sumC p F G) := Tab.clean hp (nodup_addAll G F h.nd)
theorem Tab.prodC {p : Int} (hp : 0 < p) (F G : Fm) : Tab p (prodC p F G) := Tab.clean hp (nodup_addAll _ [] List.nodup_nil)
theorem Tab.scaleC {p : Int} (hp : 0 < p) {F : Fm} (h : Tab p F) (c : Int) : Tab p (scaleC p F c) := Tab.clean hp (nd_mapV h.nd)
theorem Tab.constC {p : Int} (hp : 0 < p) (n : Nat) (c : Int) : Tab p (constC p n c) := Tab.clean hp (by simp [keys])
theorem Tab.letterC {p : Int} (hp : 1 < p) (n idx : Nat) : Tab p (letterC n idx) :=
  ⟨by simp [keys, K24.letterC], fun a ha => by rw [List.mem_singleton.mp ha]; exact Int.one_ne_zero, fun a ha => by rw [List.mem_singleton.mp ha]; exact ⟨by show (0:Int) ≤ 1; omega, hp⟩⟩
theorem Tab.perm {p : Int} {F G : Fm} (h : Tab p F) (e : F.Perm G) : Tab p G :=
  ⟨(perm_keys e).nodup h.nd, fun a ha => h.nz a (e.mem_iff.mpr ha), fun a ha => h.rg a (e.mem_iff.mpr ha)⟩

/-! ### the law's forms are the program's -/
theorem sum_perm {p : Int} (hp : 0 < p) {F G L M : Fm} (hF : Tab p F) (hG : Tab p G) (e1 : L.Perm F) (e2 : M.Perm G) : (sumL p L M).Perm (sumC p F G) := by
  have hL : Tab p L := hF.perm e1.symm
  have t1 := Tab.sumL hp hL M
  have t2 := Tab.sumC hp hF G
  refine perm_of_co t1.nd t2.nd t1.nz t2.nz fun k => ?_
  show co (nz (addAllM p L M)) k = co (cleanC p (addAll F G)) k
  rw [co_nz (nodup_addAllM p M L hL.nd), co_addAllM hp M L hL.rg, co_cleanC (nodup_addAll G F hF.nd), co_addAll, perm_co hL.nd e1, tot_perm e2]
theorem pairs_perm (p : Int) {F G L M : Fm} (e1 : L.Perm F) (e2 : M.Perm G) : (pairs p L M).Perm (pairs p F G) := by
  unfold pairs
  refine (List.Perm.flatMap_right _ e1).trans ?_
  clear e1
  induction F with
  | nil => exact List.Perm.refl _
  | cons a F ih => rw [List.flatMap_cons, List.flatMap_cons]; exact (e2.map _).append ih
theorem prod_perm {p : Int} (hp : 0 < p) {F G L M : Fm} (e1 : L.Perm F) (e2 : M.Perm G) : (prodL p L M).Perm (prodC p F G) := by
  have t1 := Tab.prodL hp L M
  have t2 := Tab.prodC hp F G
  refine perm_of_co t1.nd t2.nd t1.nz t2.nz fun k => ?_
  show co (nz (addAllM p [] (pairs p L M))) k = co (cleanC p (addAll [] (pairs p F G))) k
  rw [co_nz (nodup_addAllM p _ [] List.nodup_nil), co_addAllM hp _ [] (fun a ha => nomatch ha), co_cleanC (nodup_addAll _ [] List.nodup_nil), co_addAll, tot_perm (pairs_perm p e1 e2)]
/-- the law's constant -/
def cstL (p : Int) (n : Nat) (c : Int) : Fm := sumL p [] [(zeros n, c % p)]
theorem Tab.nil (p : Int) : Tab p [] := ⟨List.nodup_nil, (fun a ha => nomatch ha), (fun a ha => nomatch ha)⟩
theorem cst_perm {p : Int} (hp : 0 < p) (n : Nat) (c : Int) : (cstL p n c).Perm (constC p n c) := by
  have t1 := Tab.sumL hp (Tab.nil p) [(zeros n, c % p)]
  have t2 := Tab.constC hp n c
  refine perm_of_co t1.nd t2.nd t1.nz t2.nz fun k => ?_
  show co (nz (addAllM p [] [(zeros n, c % p)])) k = co (cleanC p [(zeros n, c)]) k
  rw [co_nz (nodup_addAllM p _ [] List.nodup_nil), co_addAllM hp _ [] (fun a ha => nomatch ha), co_cleanC (by simp [keys]), co_nil, tot_cons, tot_nil, co_cons, co_nil]
  by_cases e : zeros n = k
  · rw [if_pos e, if_pos e]; simp
  · rw [if_neg e, if_neg e]; simp
/-- keys of n exponents from 0 to p - 1 -/
def KeyOk (p : Int) (n : Nat) (F : Fm) : Prop := ∀ k ∈ keys F, k.length = n ∧ ∀ e ∈ k, 0 ≤ e ∧ e < p
theorem addk_zero {p : Int} : ∀ {k : Ex}, (∀ e ∈ k, 0 ≤ e ∧ e < p) → addk p k (zeros k.length) = k
  | [], _ => rfl
  | e :: k, h => by
    have h1 := h e List.mem_cons_self
    have ih := addk_zero (p := p) (k := k) fun x hx => h x (List.mem_cons_of_mem _ hx)
    show low p (e + 0) :: addk p k (zeros k.length) = e :: k
    rw [ih]
    unfold low
    rw [Int.add_zero, if_pos h1.2]
theorem pairs_single (p : Int) (F : Fm) (z : Ex) (c : Int) : pairs p F [(z, c)] = F.map fun x => (addk p x.1 z, x.2 * c) := by
  unfold pairs
  induction F with
  | nil => rfl
  | cons a F ih => rw [List.flatMap_cons, ih]; rfl
theorem pairs_nil (p : Int) (F : Fm) : pairs p F [] = [] := by
  unfold pairs
  induction F with
  | nil => rfl
  | cons a F ih => rw [List.flatMap_cons, ih]; rfl
theorem scale_perm {p : Int} (hp : 0 < p) {n : Nat} {F L : Fm} (hF : Tab p F) (kF : KeyOk p n F) (e : L.Perm F) (c : Int) : (prodL p L (cstL p n c)).Perm (scaleC p F c) := by
  refine (prod_perm hp e (List.Perm.refl _)).trans ?_
  have t1 := Tab.prodC hp F (cstL p n c)
  have t2 := Tab.scaleC hp hF c
  refine perm_of_co t1.nd t2.nd t1.nz t2.nz fun k => ?_
  show co (cleanC p (addAll [] (pairs p F (cstL p n c)))) k = co (cleanC p (mapV (fun v => c * v) F)) k
  rw [co_cleanC (nodup_addAll _ [] List.nodup_nil), co_addAll, co_nil, co_cleanC (nd_mapV hF.nd), co_mapV (by simp)]
  have hz : addAllM p [] [(zeros n, c % p)] = [(zeros n, c % p)] := by
    show put [] (zeros n) ((co [] (zeros n) + c % p) % p) = _
    rw [co_nil, Int.zero_add, Int.emod_emod_of_dvd _ (Int.dvd_refl p)]
    rfl
  have hc : cstL p n c = if c % p = 0 then [] else [(zeros n, c % p)] := by
    show nz (addAllM p [] [(zeros n, c % p)]) = _
    rw [hz]
    unfold nz
    by_cases q : c % p = 0
    · rw [if_pos q]; simp [q]
    · rw [if_neg q]; simp [q]
  rw [hc, Int.zero_add]
  by_cases q : c % p = 0
  · rw [if_pos q, pairs_nil, tot_nil, Int.mul_emod, q]; simp
  · rw [if_neg q, pairs_single]
    have em : (F.map fun x => (addk p x.1 (zeros n), x.2 * (c % p))) = mapV (fun v => v * (c % p)) F := by
      unfold mapV
      refine List.map_congr_left fun a ha => ?_
      obtain ⟨h1, h2⟩ := kF a.1 (keys_mem ha)
      have := addk_zero (p := p) (k := a.1) h2
      rw [h1] at this
      rw [this]
    rw [em, tot_co (nd_mapV hF.nd), co_mapV (by simp), Int.mul_comm c, Int.mul_emod (co F k) (c % p), Int.emod_emod_of_dvd _ (Int.dvd_refl p), ← Int.mul_emod]
end K24
end
section
set_option autoImplicit false
set_option Elab.async false
set_option linter.all false
/-! gates and their forms, plain -/
namespace K24
inductive Gate where
  | inp (h : Int)
  | const (c : Int)
  | sum (i j : Nat)
  | times (i : Nat) (c : Int)
  | prod (i j : Nat)
/-- gate at place n -/
def GateOk (n : Nat) : Gate → Prop
  | .inp h => 1 ≤ h ∧ h ≤ 9
  | .const c => 0 ≤ c ∧ c ≤ 996
  | .sum i j => i < n ∧ j < n
  | .times i c => i < n ∧ 0 ≤ c ∧ c ≤ 996
  | .prod i j => i < n ∧ j < n
def isInp : Gate → Bool
  | .inp _ => true
  | _ => false
def isProd : Gate → Bool
  | .prod _ _ => true
  | _ => false
def looks : Gate → List Nat
  | .sum i j => [i, j]
  | .prod i j => [i, j]
  | .times i _ => [i]
  | _ => []
def nIn (gs : List Gate) : Nat := (gs.filter isInp).length
/-- places of the inputs -/
def places (gs : List Gate) : List Nat := (List.range gs.length).filter fun i => match gs[i]? with
  | some g => isInp g
  | none => false
/-- a valid list of gates -/
structure GsOk (gs : List Gate) : Prop where
  ok : ∀ i g, gs[i]? = some g → GateOk i g
  pos : 1 ≤ gs.length
  few : gs.length ≤ 60
  inps : nIn gs ≤ 8
  prods : (gs.filter isProd).length ≤ 12
def fgate (p : Int) (n idx : Nat) (fs : List Fm) : Gate → Fm
  | .inp _ => letterC n idx
  | .const c => constC p n c
  | .sum i j => sumC p (fs.getD i []) (fs.getD j [])
  | .times i c => scaleC p (fs.getD i []) c
  | .prod i j => prodC p (fs.getD i []) (fs.getD j [])
/-- folding gates: what is made so far, the inputs met -/
def stepG {α : Type} (f : Nat → List α → Gate → α) (st : List α × Nat) (g : Gate) : List α × Nat := (st.1 ++ [f st.2 st.1 g], if isInp g then st.2 + 1 else st.2)
def allG {α : Type} (f : Nat → List α → Gate → α) (gs : List Gate) : List α := (gs.foldl (stepG f) ([], 0)).1
def formsC (p : Int) (gs : List Gate) : List Fm := allG (fun idx fs g => fgate p (nIn gs) idx fs g) gs
section
variable {α : Type} {f : Nat → List α → Gate → α}
theorem stepG_len (gs : List Gate) : ∀ st : List α × Nat, (gs.foldl (stepG f) st).1.length = st.1.length + gs.length ∧ (gs.foldl (stepG f) st).2 = st.2 + nIn gs := by
  induction gs with
  | nil => intro st; exact ⟨rfl, rfl⟩
  | cons g gs ih =>
    intro st
    rw [List.foldl_cons]
    obtain ⟨h1, h2⟩ := ih (stepG f st g)
    rw [h1, h2]
    unfold stepG nIn
    rw [List.filter_cons]
    constructor
    · simp; omega
    · cases isInp g <;> simp <;> omega
theorem allG_len (gs : List Gate) : (allG f gs).length = gs.length := by
  have := (stepG_len (f := f) gs ([], 0)).1
  unfold allG
  simpa using this
theorem stepG_app (gs : List Gate) : ∀ st : List α × Nat, ∃ t, (gs.foldl (stepG f) st).1 = st.1 ++ t := by
  induction gs with
  | nil => intro st; exact ⟨[], by simp⟩
  | cons g gs ih =>
    intro st
    rw [List.foldl_cons]
    obtain ⟨t, h⟩ := ih (stepG f st g)
    exact ⟨f st.2 st.1 g :: t, by rw [h]; unfold stepG; simp⟩
theorem allG_take (gs : List Gate) {i : Nat} (hi : i ≤ gs.length) : allG f (gs.take i) = (allG f gs).take i := by
  have e : gs = gs.take i ++ gs.drop i := (List.take_append_drop i gs).symm
  obtain ⟨t, h⟩ := stepG_app (f := f) (gs.drop i) ((gs.take i).foldl (stepG f) ([], 0))
  have h2 : allG f gs = allG f (gs.take i) ++ t := by
    unfold allG
    conv => lhs; rw [e, List.foldl_append]
    exact h
  have hl : (allG f (gs.take i)).length = i := by rw [allG_len, List.length_take]; omega
  have h3 : List.take i (allG f (gs.take i) ++ t) = allG f (gs.take i) := by
    rw [List.take_append_of_le_length (by omega)]
    exact List.take_of_length_le (by omega)
  rw [← h2] at h3
  exact h3.symm
/-- the value of the i-th gate -/
theorem allG_get (gs : List Gate) {i : Nat} {g : Gate} (h : gs[i]? = some g) : (allG f gs)[i]? = some (f (nIn (gs.take i)) ((allG f gs).take i) g) := by
  have hi : i < gs.length := (List.getElem?_eq_some_iff.mp h).1
  have h1 := allG_take (f := f) gs (i := i + 1) hi
  have e : gs.take (i + 1) = gs.take i ++ [g] := by rw [List.take_succ, h]; rfl
  have h2 : allG f (gs.take (i + 1)) = allG f (gs.take i) ++ [f (nIn (gs.take i)) (allG f (gs.take i)) g] := by
    have := (stepG_len (f := f) (gs.take i) ([], 0)).2
    unfold allG
    rw [e, List.foldl_append]
    show ((List.foldl (stepG f) ([], 0) (List.take i gs)).1 ++ [f (List.foldl (stepG f) ([], 0) (List.take i gs)).2 _ g]) = _
    rw [this, Nat.zero_add]
  rw [h1, allG_take gs (Nat.le_of_lt hi)] at h2
  have hl : ((allG f gs).take i).length = i := by rw [List.length_take, allG_len]; omega
  have h3 : ((allG f gs).take (i + 1))[i]? = some (f (nIn (gs.take i)) ((allG f gs).take i) g) := by
    rw [h2, List.getElem?_append_right (by omega), hl]
    simp
  rw [List.getElem?_take] at h3
  simpa using h3
end
theorem fgate_take {p : Int} {n idx i : Nat} {fs : List Fm} {g : Gate} (h : GateOk i g) : fgate p n idx (fs.take i) g = fgate p n idx fs g := by
  have t : ∀ j, j < i → (fs.take i).getD j [] = fs.getD j [] := fun j hj => by
    unfold List.getD
    rw [List.getElem?_take, if_pos hj]
  cases g with
  | inp h => rfl
  | const c => rfl
  | sum a b =>
    obtain ⟨h1, h2⟩ := h
    show sumC p _ _ = sumC p _ _
    rw [t a h1, t b h2]
  | times a c =>
    obtain ⟨h1, _⟩ := h
    show scaleC p _ _ = scaleC p _ _
    rw [t a h1]
  | prod a b =>
    obtain ⟨h1, h2⟩ := h
    show prodC p _ _ = prodC p _ _
    rw [t a h1, t b h2]
theorem formsC_len (p : Int) (gs : List Gate) : (formsC p gs).length = gs.length := allG_len gs
theorem formsC_get {p : Int} {gs : List Gate} (G : GsOk gs) {i : Nat} {g : Gate} (h : gs[i]? = some g) : (formsC p gs)[i]? = some (fgate p (nIn gs) (nIn (gs.take i)) (formsC p gs) g) := by
  have := allG_get (f := fun idx fs g => fgate p (nIn gs) idx fs g) gs h
  unfold formsC
  rw [this, fgate_take (G.ok i g h)]
/-- one gate more -/
theorem allG_succ {α : Type} {f : Nat → List α → Gate → α} (gs : List Gate) {i : Nat} {g : Gate} (h : gs[i]? = some g) : allG f (gs.take (i + 1)) = allG f (gs.take i) ++ [f (nIn (gs.take i)) (allG f (gs.take i)) g] := by
  have e : gs.take (i + 1) = gs.take i ++ [g] := by rw [List.take_succ, h]; rfl
  have := (stepG_len (f := f) (gs.take i) ([], 0)).2
  unfold allG
  rw [e, List.foldl_append]
  show ((List.foldl (stepG f) ([], 0) (List.take i gs)).1 ++ [f (List.foldl (stepG f) ([], 0) (List.take i gs)).2 _ g]) = _
  rw [this, Nat.zero_add]
theorem nIn_succ {gs : List Gate} {i : Nat} {g : Gate} (h : gs[i]? = some g) : nIn (gs.take (i + 1)) = nIn (gs.take i) + if isInp g then 1 else 0 := by
  have e : gs.take (i + 1) = gs.take i ++ [g] := by rw [List.take_succ, h]; rfl
  unfold nIn
  rw [e, List.filter_append, List.length_append, List.filter_cons]
  cases isInp g <;> rfl
theorem nIn_take_le (gs : List Gate) (i : Nat) : nIn (gs.take i) ≤ nIn gs := by
  have e : gs = gs.take i ++ gs.drop i := (List.take_append_drop i gs).symm
  unfold nIn
  conv => rhs; rw [e, List.filter_append, List.length_append]
  omega
theorem allG_all {α : Type} {f : Nat → List α → Gate → α} {R : α → Prop} {gs : List Gate} (h : ∀ (i : Nat) (g : Gate), gs[i]? = some g → (∀ v ∈ allG f (gs.take i), R v) → R (f (nIn (gs.take i)) (allG f (gs.take i)) g)) :
    ∀ i, i ≤ gs.length → ∀ v ∈ allG f (gs.take i), R v := by
  intro i
  induction i with
  | zero => intro _ v hv; simp [allG] at hv
  | succ i ih =>
    intro hi v hv
    obtain ⟨g, hg⟩ : ∃ g, gs[i]? = some g := ⟨_, List.getElem?_eq_getElem (by omega)⟩
    rw [allG_succ gs hg] at hv
    rcases List.mem_append.mp hv with hv | hv
    · exact ih (by omega) v hv
    · rw [List.mem_singleton.mp hv]
      exact h i g hg (ih (by omega))
/-! ### what the gates give -/
def fmean (p : Int) (nums : List Int) (idx : Nat) (fs : List Int) : Gate → Int
  | .inp _ => nums.getD idx 0
  | .const c => c % p
  | .sum i j => (fs.getD i 0 + fs.getD j 0) % p
  | .times i c => fs.getD i 0 * c % p
  | .prod i j => fs.getD i 0 * fs.getD j 0 % p
def meanC (p : Int) (nums : List Int) (gs : List Gate) : List Int := allG (fmean p nums) gs
theorem meanC_range {p : Int} (hp : 0 < p) {nums : List Int} (hn : ∀ x ∈ nums, 0 ≤ x ∧ x < p) (gs : List Gate) {i : Nat} (hi : i ≤ gs.length) : ∀ v ∈ meanC p nums (gs.take i), 0 ≤ v ∧ v < p := by
  refine allG_all (R := fun v => 0 ≤ v ∧ v < p) (fun i g hg _ => ?_) i hi
  cases g with
  | inp h =>
    show 0 ≤ nums.getD _ 0 ∧ nums.getD _ 0 < p
    unfold List.getD
    cases q : nums[nIn (gs.take i)]? with
    | none => exact ⟨Int.le_refl _, hp⟩
    | some x => exact hn x (List.mem_of_getElem? q)
  | _ => exact ⟨Int.emod_nonneg _ (by omega), Int.emod_lt_of_pos _ hp⟩
/-! ### what the law draws -/
structure Shape (ins mid last : List Gate) : Prop where
  i1 : 1 ≤ ins.length
  i3 : ins.length ≤ 3
  ii : ∀ g ∈ ins, isInp g = true
  m12 : mid.length ≤ 12
  mi : ∀ g ∈ mid, isInp g = false
  mp : (mid.filter isProd).length ≤ 4
  l1 : last.length ≤ 1
  li : ∀ g ∈ last, isInp g = true
structure Drawn (gs : List Gate) : Prop where
  ok : ∀ i g, gs[i]? = some g → GateOk i g
  sh : ∃ ins mid last, gs = ins ++ mid ++ last ∧ Shape ins mid last
theorem ok_app {gs : List Gate} {g : Gate} (h : ∀ i g, gs[i]? = some g → GateOk i g) (hg : GateOk gs.length g) : ∀ i g', (gs ++ [g])[i]? = some g' → GateOk i g' := by
  intro i g' e
  rcases Nat.lt_or_ge i gs.length with hi | hi
  · rw [List.getElem?_append_left hi] at e
    exact h i g' e
  · rw [List.getElem?_append_right hi] at e
    have : i - gs.length = 0 := by
      rcases Nat.eq_zero_or_pos (i - gs.length) with z | z
      · exact z
      · rw [List.getElem?_eq_none (by simp; omega)] at e
        cases e
    rw [this] at e
    have e2 : g = g' := by simpa using e
    have : i = gs.length := by omega
    rw [this, ← e2]
    exact hg
theorem filt_none {P : Gate → Bool} {l : List Gate} (h : ∀ g ∈ l, P g = false) : l.filter P = [] := by
  rw [List.filter_eq_nil_iff]
  intro g hg
  rw [h g hg]
  decide
theorem prod_not_inp {g : Gate} (h : isInp g = true) : isProd g = false := by
  cases g <;> first | rfl | cases h
theorem filt_le {P : Gate → Bool} (l : List Gate) : (l.filter P).length ≤ l.length := List.length_filter_le _ _
theorem Drawn.gsok {gs : List Gate} (h : Drawn gs) : GsOk gs := by
  obtain ⟨ins, mid, last, rfl, S⟩ := h.sh
  have h1 := S.i1
  have h3 := S.i3
  have h4 := S.m12
  have h5 := S.l1
  have h6 := S.mp
  refine ⟨h.ok, ?_, ?_, ?_, ?_⟩
  · simp only [List.length_append]; omega
  · simp only [List.length_append]; omega
  · unfold nIn
    rw [List.filter_append, List.filter_append, List.length_append, List.length_append, filt_none S.mi]
    have a := filt_le (P := isInp) ins
    have b := filt_le (P := isInp) last
    simp only [List.length_nil]
    omega
  · rw [List.filter_append, List.filter_append, List.length_append, List.length_append, filt_none fun g hg => prod_not_inp (S.ii g hg), filt_none fun g hg => prod_not_inp (S.li g hg)]
    simp only [List.length_nil]
    omega
/-! ### the law's own forms and values -/
def fgateL (p : Int) (n idx : Nat) (fs : List Fm) : Gate → Fm
  | .inp _ => letterC n idx
  | .const c => cstL p n c
  | .sum i j => sumL p (fs.getD i []) (fs.getD j [])
  | .times i c => prodL p (fs.getD i []) (cstL p n c)
  | .prod i j => prodL p (fs.getD i []) (fs.getD j [])
def formsL (p : Int) (gs : List Gate) : List Fm := allG (fun idx fs g => fgateL p (nIn gs) idx fs g) gs
def madeL (p c : Int) (e : Ex) (nums : List Int) : Int := (e.zip nums).foldl (fun m en => m * en.2 ^ en.1.toNat % p) c
def valL (p : Int) (F : Fm) (nums : List Int) : Int := F.foldl (fun acc kv => (acc + madeL p kv.2 kv.1 nums) % p) 0
theorem fgateL_take {p : Int} {n idx i : Nat} {fs : List Fm} {g : Gate} (h : GateOk i g) : fgateL p n idx (fs.take i) g = fgateL p n idx fs g := by
  have t : ∀ j, j < i → (fs.take i).getD j [] = fs.getD j [] := fun j hj => by
    unfold List.getD
    rw [List.getElem?_take, if_pos hj]
  cases g with
  | inp h => rfl
  | const c => rfl
  | sum a b =>
    obtain ⟨h1, h2⟩ := h
    show sumL p _ _ = sumL p _ _
    rw [t a h1, t b h2]
  | times a c =>
    obtain ⟨h1, _⟩ := h
    show prodL p _ _ = prodL p _ _
    rw [t a h1]
  | prod a b =>
    obtain ⟨h1, h2⟩ := h
    show prodL p _ _ = prodL p _ _
    rw [t a h1, t b h2]
theorem formsL_len (p : Int) (gs : List Gate) : (formsL p gs).length = gs.length := allG_len gs
theorem formsL_get {p : Int} {gs : List Gate} (G : GsOk gs) {i : Nat} {g : Gate} (h : gs[i]? = some g) : (formsL p gs)[i]? = some (fgateL p (nIn gs) (nIn (gs.take i)) (formsL p gs) g) := by
  have := allG_get (f := fun idx fs g => fgateL p (nIn gs) idx fs g) gs h
  unfold formsL
  rw [this, fgateL_take (G.ok i g h)]
/-- what the law's makers ask -/
def GOKL (p : Int) (n : Nat) (fs : List Fm) : Gate → Prop
  | .inp _ => True
  | .const _ => True
  | .sum i j => (keys (fs.getD i [])).Nodup ∧ (keys (fs.getD j [])).Nodup ∧ (fs.getD i []).length ≤ 5000 ∧ (fs.getD j []).length ≤ 5000
  | .times i c => (keys (fs.getD i [])).Nodup ∧ (keys (cstL p n c)).Nodup ∧ (∀ x ∈ fs.getD i [], -(2 ^ 64) < x.2 ∧ x.2 < 2 ^ 64) ∧ (∀ k ∈ keys (fs.getD i []), k.length ≤ 100) ∧ (fs.getD i []).length ≤ 2000 ∧ (cstL p n c).length ≤ 2000 ∧ (pairs p (fs.getD i []) (cstL p n c)).length ≤ 1000000
  | .prod i j => (keys (fs.getD i [])).Nodup ∧ (keys (fs.getD j [])).Nodup ∧ (∀ x ∈ fs.getD i [], -(2 ^ 64) < x.2 ∧ x.2 < 2 ^ 64) ∧ (∀ k ∈ keys (fs.getD i []), k.length ≤ 100) ∧ (fs.getD i []).length ≤ 2000 ∧ (fs.getD j []).length ≤ 2000 ∧ (pairs p (fs.getD i []) (fs.getD j [])).length ≤ 1000000
end K24
end
section
set_option Elab.async false
set_option linter.all false
set_option maxRecDepth 100000
namespace K24
open PySem
/-- the hash of a key -/
def hashK (k : List Int) : Int := reduceHash (Builtin.Tuple.tupleHashOf (k.map hashInt))
theorem hashK_eq (prog : Program) (w : World) (k : List Int) : (tupleKind (L2.mixKind prog w)).hash (k.map Sum.inl) = hashK k := by
  show reduceHash (Builtin.Tuple.tupleHashOf ((k.map Sum.inl).map (L2.keyH w))) = _
  rw [List.map_map]
  rfl
/-- the exponents of three letters, in sum at most 16 -/
def trips : List (Nat × Nat × Nat) := (List.range 17).flatMap fun a => (List.range (17 - a)).flatMap fun b => (List.range (17 - a - b)).map fun c => (a, b, c)
def frN {α : Type} (n : Nat) (k : Nat → α) : α := match n with
  | 0 => k 0
  | m + 1 => k (m + 1)
theorem frN_eq {α : Type} (n : Nat) (k : Nat → α) : frN n k = k n := by cases n <;> rfl
/-- no two alike, by a mask of the rests -/
def chk {α : Type} (f : α → Nat) : List α → Nat → Bool
  | [], _ => true
  | k :: r, acc => frN (f k) fun x => match Nat.testBit acc x with
    | true => false
    | false => frN (acc ||| 1 <<< x) fun a => chk f r a
theorem chk_ok {α : Type} (f : α → Nat) : ∀ (l : List α) (acc : Nat), chk f l acc = true → (l.map f).Nodup ∧ ∀ x ∈ l.map f, Nat.testBit acc x = false
  | [], _, _ => ⟨List.nodup_nil, fun x hx => nomatch hx⟩
  | k :: r, acc, h => by
    have h1 : (frN (f k) fun x => match Nat.testBit acc x with
      | true => false
      | false => frN (acc ||| 1 <<< x) fun a => chk f r a) = true := h
    rw [frN_eq] at h1
    cases e : Nat.testBit acc (f k) with
    | true => rw [e] at h1; cases h1
    | false =>
      rw [e] at h1
      have h2 : (frN (acc ||| 1 <<< (f k)) fun a => chk f r a) = true := h1
      rw [frN_eq] at h2
      obtain ⟨n, b⟩ := chk_ok f r _ h2
      have tb : ∀ y, Nat.testBit (acc ||| 1 <<< (f k)) y = (Nat.testBit acc y || decide (f k = y)) := fun y => by
        rw [Nat.testBit_or, Nat.one_shiftLeft, Nat.testBit_two_pow]
      refine ⟨List.nodup_cons.mpr ⟨fun hx => ?_, n⟩, fun x hx => ?_⟩
      · have := b _ hx
        rw [tb] at this
        simp at this
      · rcases List.mem_cons.mp hx with z | z
        · rw [z]; exact e
        · have := b _ z
          rw [tb] at this
          simp at this
          exact this.1
def codeH (M : Nat) (k : List Int) : Nat := (hashK k + 9223372036854775808).toNat % M
theorem nodup_hash {α : Type} {M : Nat} {f : α → List Int} {l : List α} (h : chk (fun t => codeH M (f t)) l 0 = true) : (l.map fun t => hashK (f t)).Nodup := by
  have h1 := (chk_ok _ l 0 h).1
  refine List.Nodup.sublist (List.Sublist.refl _) ?_
  rw [List.nodup_iff_pairwise_ne, List.pairwise_map] at h1 ⊢
  exact h1.imp fun hne e => hne (by show codeH M _ = codeH M _; unfold codeH; rw [e])
theorem trips_length : trips.length = 969 := by decide +kernel
theorem hash3 : chk (fun t : Nat × Nat × Nat => codeH 17363 [(t.1 : Int), (t.2.1 : Int), (t.2.2 : Int)]) trips 0 = true := by decide +kernel
theorem hash4 : chk (fun t : Nat × Nat × Nat => codeH 29736 [(t.1 : Int), (t.2.1 : Int), (t.2.2 : Int), 0]) trips 0 = true := by decide +kernel
end K24
end
section
set_option Elab.async false
set_option linter.all false
set_option maxRecDepth 100000
set_option maxHeartbeats 1000000
/-! rules of my own over the layer, 1: match, enumerate of a tuple, items of a dict with tuple keys -/
namespace K24
open PySem PySem.Spec PyProof.Rows L2
section
variable {X : Cx}
/-! ### match of a text against written texts -/
structure MC (X : Cx) (cs : List MatchCase) (t : Str → TS) : Prop where
  run : ∀ (first : Bool) (z : Str) (k : Tok) (pins : List (Addr × Obj)) (s : Shared) (σ : L2.St) (H : Hp) (D : Ends), Inv X pins σ H s → t z D σ H → wpAny (model X.prog X.w) X.A (matchCases cs X.env (.str z k) first) (SP X pins D) X.xe s
theorem mc_nil : MC X [] (fun _ => tNext) := ⟨fun _ z k pins s σ H D I h => wpAny_matchCases_nil ⟨σ, H, I, h⟩⟩
theorem mc_str {u : Str} {j p1 p2} {body : List Stmt} {rest : List MatchCase} {tb : TS} {tr : Str → TS} (hb : PSs X body tb) (hr : MC X rest tr) :
    MC X (⟨.MatchValue (.Constant (.str u) j p1) p2, none, body⟩ :: rest) (fun z => if z = u then tb else tr z) := by
  refine ⟨fun first z k pins s σ H D I h => ?_⟩
  refine wpAny_matchCases_cons (wpAny_matchPattern_Value (Calls.Constant_str (eq_str (wpAny_truthy_bool ?_))))
  by_cases e : z = u
  · rw [if_pos e] at h
    rw [show (z == u) = true by rw [e]; exact beq_self_eq_true _]
    simp only [if_true]
    exact wpAny_assignInOrder_none (hb.run pins _ σ H D (I.tok _) h)
  · rw [if_neg e] at h
    rw [show (z == u) = false from beq_eq_false_iff_ne.mpr e]
    simp only [Bool.false_eq_true, if_false]
    exact hr.run false z k pins _ σ H D (I.tok _) h
theorem mc_any {p : Pos} {body : List Stmt} {rest : List MatchCase} {tb : TS} (hb : PSs X body tb) : MC X (⟨.MatchAs none none p, none, body⟩ :: rest) (fun _ => tb) := by
  refine ⟨fun first z k pins s σ H D I h => ?_⟩
  refine wpAny_matchCases_cons (wpAny_matchPattern_Capture ?_)
  exact wpAny_assignInOrder_none (hb.run pins s σ H D I h)
def tMatch (te : TE) (t : Str → TS) : TS := fun D σ H => te σ H fun x H1 => ∃ z, x = .str z ∧ t z D σ H1
theorem ps_match {e : Expr} {cs : List MatchCase} {te : TE} {t : Str → TS} {pos : Pos} (he : PE X e te) (hc : MC X cs t) : PS X (.Match e cs pos) (tMatch te t) := by
  refine ⟨fun pins s σ H D I h => ?_⟩
  refine wpAny_Match (thn (he.run pins s σ H _ I h) fun v s1 ⟨x, H1, I1, r1, z, ex, q⟩ => ?_)
  subst ex
  obtain ⟨k, rfl⟩ := r1
  exact hc.run true z k pins s1 σ H1 D I1 q

/-! ### enumerate of a tuple -/
def IteT (K : PySem.W.Frag) (a : Addr) : It :=
  ⟨fun i H => ∃ (xs : List V) (x : V), SqT K H a xs ∧ xs[i]? = some x, fun i H v H' => ∃ T x, v = .ref T ∧ H T = none ∧ H' = upd H T (.tup [.int (i : Nat), x]) ∧ ∀ xs, SqT K H a xs → xs[i]? = some x, fun i H => ∃ xs : List V, SqT K H a xs ∧ xs.length = i⟩
theorem meets_enumerate_newT (l : Addr) (o : Obj) (items : Array Value) :
    Meets (Builtin.«enumerate.__new__» ⟨[.type "enumerate", .ref l], []⟩) (fun _ R s => s.heap.get? l = some o ∧ s.heap.IsTuple l items ∧
      R (.ok (.ret (.ref (s.heap.push { cls := .type "tuple_iterator", data := .fields #[.ref l, .int 0 0] }).objs.size)))
        { s with heap := (s.heap.push { cls := .type "tuple_iterator", data := .fields #[.ref l, .int 0 0] }).push { cls := .type "enumerate", data := .fields #[.none, .bool false, .ref s.heap.objs.size, rawInt 0, .none, .none] } }) :=
  .of_wp fun prog w A R s h => by
    obtain ⟨hp, g, d, tk, os⟩ := s; obtain ⟨hl, hL, h⟩ := h
    have hsub := sub_enumerate
    wp_walk using AutoSeq1.wpAny_loadPart' hl
    refine wpAny_stack_any fun st => wpAny_pure ?_
    split
    · rename_i c _ _ _ _ _
      cases (c == Value.type "enumerate")
      · wp_walk using AutoSeq1.wpAny_loadPart' hl, wpAny_pyIter_tuple hL
        exact ⟨_, rfl, h⟩
      · wp_walk using AutoSeq1.wpAny_loadPart' hl, wpAny_pyIter_tuple hL
        exact ⟨_, rfl, h⟩
    · wp_walk using AutoSeq1.wpAny_loadPart' hl, wpAny_pyIter_tuple hL
      exact ⟨_, rfl, h⟩
theorem call_enumerate_tuple {prog : Program} {w : World} {A : Around} {E : Value → Shared → Prop} {s : Shared} {l : Addr} {items : Array Value} {Q : Value → Shared → Prop} (hL : s.heap.IsTuple l items)
    (h : ∀ h', IsEnum h' (s.heap.objs.size + 1) s.heap.objs.size 0 .none → h'.IsTupleIter s.heap.objs.size l 0 → h'.objs.size = s.heap.objs.size + 2 →
      (∀ b o, s.heap.get? b = some o → h'.get? b = some o) → Q (.ref (s.heap.objs.size + 1)) { s with heap := h' }) :
    wpAny (model prog w) A (call (.type "enumerate") [.ref l]) Q E s := by
  obtain ⟨o, hl, r⟩ := id hL
  refine callType_new F.called_enumerate (by decide) (F.typeCall_enumerate_1 _) (F.newCall_enumerate_1 _) (fun obj => F.args_object_init_2 obj _) F.entry_enumerate_new
    (meets_enumerate_newT l o items) ⟨hl, hL, ?_⟩
  have hz : (s.heap.push { cls := .type "tuple_iterator", data := .fields #[.ref l, .int 0 0] }).objs.size = s.heap.objs.size + 1 := Heap.size_push ..
  show _ ∧ _
  rw [hz]
  have he : IsEnum ((s.heap.push { cls := .type "tuple_iterator", data := .fields #[.ref l, .int 0 0] }).push { cls := .type "enumerate", data := .fields #[.none, .bool false, .ref s.heap.objs.size, rawInt 0, .none, .none] }) (s.heap.objs.size + 1) s.heap.objs.size 0 .none := by
    have := Heap.get?_push_size (s.heap.push { cls := .type "tuple_iterator", data := .fields #[.ref l, .int 0 0] }) (o := { cls := .type "enumerate", data := .fields #[.none, .bool false, .ref s.heap.objs.size, rawInt 0, .none, .none] }) rfl
    rw [hz] at this; exact this
  refine ⟨⟨_, he, rfl⟩, h _ he ⟨_, Heap.get?_push_of_some _ (Heap.get?_push_size _ rfl), rfl, rfl⟩ (by rw [Heap.size_push, hz]) fun b o x => Heap.get?_push_of_some _ (Heap.get?_push_of_some _ x)⟩
theorem turn_enumT {P : Program} {w : World} {K : PySem.W.Frag} {elts : List Expr} {kk : Nat} {tpos : Pos} (a e it : Addr) :
    Turn P w K (.Tuple elts kk tpos) (IteT K a) [e, it] e (fun i h => (∃ old, IsEnum h e it ((i : Nat) : Int) old) ∧ h.IsTupleIter it a i ∧ e ≠ it ∧ e ≠ a ∧ a ≠ it) where
  mem := by simp
  obj := fun i h st b hb => by
    obtain ⟨⟨old, he⟩, ⟨o, ho, hc, hd⟩, _⟩ := st
    have e' : b = e ∨ b = it := by simpa using hb
    rcases e' with z | z
    · rw [z]; exact ⟨_, he, fun v q => nomatch q⟩
    · rw [z]; exact ⟨o, ho, fun v q => by rw [hd] at q; cases q⟩
  keep := fun i h h' st k => let ⟨⟨old, he⟩, hi, hne⟩ := st; ⟨⟨old, k e (by simp) _ he⟩, hi.at fun o q => k it (by simp) o q, hne⟩
  item := by
    intro X hP hw hK hc i pins s σ H E I hf st hg
    subst hP hw hK
    obtain ⟨⟨old, he⟩, hit, hne, hea, hai⟩ := st
    obtain ⟨xs, x, hq, hx⟩ := hg
    obtain ⟨its, rv, p, hz⟩ := I.tuple hq
    obtain ⟨u, hu, ru⟩ := rv.get hx
    have hel : e < s.heap.objs.size := Heap.lt_size he
    have hil : it < s.heap.objs.size := by obtain ⟨_, q, _⟩ := hit; exact Heap.lt_size q
    have D := Draws.tuple (prog := X.prog) (w := X.w) (A := X.A.in1) (I.ok.hd hc) it a hai its.toArray
    have hlt : i < its.toArray.size := by
      rw [List.size_toArray]
      exact (List.getElem?_eq_some_iff.mp hu).1
    refine wpAny_pyNext_enum_itemC D he ⟨hit, show s.heap.IsTuple a its.toArray from p⟩ hlt hne (by simp [hne, hea]) fun u' h' tk hu' ho hst' hT hsz hk => ?_
    have eu : u' = u := by
      have h1 : its[i]? = some u' := by simpa using hu'
      rw [hu] at h1
      exact (Option.some.inj h1).symm
    subst eu
    refine ⟨_, rfl, wpAny_letOwnedTupleGo_enum (s := { s with heap := h', toks := tk + 1 }) ho fun h'' he' sb => ?_⟩
    have hT2 : h''.get? s.heap.objs.size = some { cls := .type "tuple", data := .seq #[.int i tk, u'] } := (sb.2 _ (Nat.ne_of_gt hel)).trans hT
    have new : ObjOk X.prog X.w (upd H s.heap.objs.size (.tup [.int (i : Nat), x])) h'' s.heap.objs.size (.tup [.int (i : Nat), x]) :=
      ⟨by show 2 ≤ sizeLine; decide, [.int i tk, u'], .cons ⟨_, rfl⟩ (.cons ru .nil), ⟨_, hT2, rfl, _, rfl⟩⟩
    have I1 : Inv X pins σ (upd H s.heap.objs.size (.tup [.int (i : Nat), x])) { s with heap := h'', toks := tk + 1 } :=
      I.turnedNew (ch := [e, it]) (fun b ob hb q => (sb.2 b (fun z => hb (by simp [z]))).trans (hk b ob (fun z => hb (by simp [z])) (fun z => hb (by simp [z])) q)) hf (Nat.le_refl _) new
    refine ⟨.ref s.heap.objs.size, _, I1, rfl, ⟨_, x, rfl, I.hok.fresh (Nat.le_refl _), rfl, fun ys hy => by rw [I.tuple_inj hy hq]; exact hx⟩, ⟨⟨u', ?_⟩, hst'.1.at fun o q => (sb.2 it (Ne.symm hne)).trans q, hne, hea, hai⟩, fun b hb => ?_⟩
    · have e1 : ((i + 1 : Nat) : Int) = (i : Int) + 1 := by omega
      rw [e1]; exact he'
    · have hb' : b < s.heap.objs.size := by
        have e' : b = e ∨ b = it := by simpa using hb
        rcases e' with z | z
        · rw [z]; exact hel
        · rw [z]; exact hil
      rw [upd_ne (Nat.ne_of_lt hb')]
      exact (hf b hb).1
  done := by
    intro X hP hw hK hc i pins s σ H E I hf st hg
    subst hP hw hK
    obtain ⟨⟨old, he⟩, hit, hne, hea, hai⟩ := st
    obtain ⟨xs, hq, hx⟩ := hg
    obtain ⟨its, rv, p, hz⟩ := I.tuple hq
    obtain ⟨f0, f1, f2, f3, f4, f5⟩ := hf it (by simp)
    have hl := rv.length
    have D := Draws.tuple (prog := X.prog) (w := X.w) (A := X.A.in1) (I.ok.hd hc) it a hai its.toArray
    have ei : i = its.toArray.size := by rw [List.size_toArray]; omega
    rw [ei] at hit he
    exact wpAny_pyNext_enum_endD D he ⟨hit, show s.heap.IsTuple a its.toArray from p⟩ fun h' eb => ⟨rfl, I.turned (t' := s.toks) (fun b o hb q => eb b o hb q) f0 f1 f3 f4 f5⟩
  self := fun A i s Q E st h => let ⟨⟨_, he⟩, _⟩ := st; wpAny_pyIter_enum he h
def iEnumT (K : PySem.W.Frag) (ta : TA) : TI := fun σ H R => ta σ H fun vs H1 => ∃ a xs, vs = [.ref a] ∧ SqT K H1 a xs ∧ R (IteT K a) H1
theorem pi_enumT {e : Expr} {ta : TA} {p pos tpos : Pos} {elts : List Expr} {kk : Nat} (hg : Gl X "enumerate") (hm : X.mg "enumerate" = none) (ha : PA X [e] ta) (hs : starEach [e] X.env = [(false, eval e X.env)] := by rfl) :
    PI X (.Tuple elts kk tpos) (.Call (.Name "enumerate" p) [e] [] pos) (iEnumT X.K ta) := by
  refine ⟨fun pins s σ H R I h => ?_⟩
  refine Call_ (ld_blt I hg hm boot_enumerate (PyProof.Rows.callWith_type1 (thn (ha.run pos pins s σ H _ I h) fun us s1 ⟨vs, H1, I1, r1, q1⟩ => ?_) hs rfl))
  obtain ⟨a, xs, ex, hq, q⟩ := q1
  subst ex
  cases r1 with
  | cons r rr =>
    cases rr
    cases r
    obtain ⟨its, rv, p', hz⟩ := I1.tuple hq
    have hal : a < s1.heap.objs.size := by obtain ⟨_, q, _⟩ := p'; exact Heap.lt_size q
    refine call_enumerate_tuple (show s1.heap.IsTuple a its.toArray from p') fun h' he hit hsz hk => wpAny_pyIter_enum he ?_
    have I2 : Inv X pins σ H1 { s1 with heap := h' } := I1.kept (t' := s1.toks) hk
    refine ⟨s1.heap.objs.size + 1, [s1.heap.objs.size + 1, s1.heap.objs.size], _, _, H1, rfl, I2, turn_enumT a (s1.heap.objs.size + 1) s1.heap.objs.size, ⟨⟨.none, he⟩, hit, Nat.succ_ne_self _, Nat.ne_of_gt (Nat.lt_succ_of_lt hal), Nat.ne_of_lt hal⟩, fun b hb => ?_, q⟩
    have e' : b = s1.heap.objs.size + 1 ∨ b = s1.heap.objs.size := by simpa using hb
    have hle : s1.heap.objs.size ≤ b := by
      rcases e' with z | z
      · rw [z]; exact Nat.le_add_right _ _
      · rw [z]; exact Nat.le_refl _
    exact I1.fpOk hle (I1.hok.fresh hle)
theorem walk_enumT {K : PySem.W.Frag} {a : Addr} {xs : List V} : Walk (IteT K a) xs.length (fun H => SqT K H a xs) (fun i H v H' => ∃ T x, v = .ref T ∧ H T = none ∧ H' = upd H T (.tup [.int (i : Nat), x]) ∧ xs[i]? = some x) :=
  ⟨fun i H hi hG => ⟨xs, xs[i], hG, List.getElem?_eq_getElem hi⟩, fun H hG => ⟨xs, hG, rfl⟩, fun i H v H' hi hG hy => let ⟨T, x, e, n, u, f⟩ := hy; ⟨T, x, e, n, u, f xs hG⟩⟩
end
end K24
end
section
set_option Elab.async false
set_option linter.all false
set_option maxRecDepth 100000
set_option maxHeartbeats 1000000
/-! rules of my own over the layer, 2: items of a dict with tuple keys -/
namespace K24
open PySem PySem.Spec PyProof.Rows L2
/-- the pairs of the locked dict at d, whose keys are tuples: each a new pair of the key's own tuple and the value -/
def ItiT (d : Addr) (o : Obj) (kvs : List (List Key × V)) : It :=
  ⟨fun i H => H d = some (.frz o (.dT kvs)) ∧ i < kvs.length, fun i H x H' => ∃ T q k v, kvs[i]? = some (k, v) ∧ H q = some (.tup (k.map kV)) ∧ x = .ref T ∧ H T = none ∧ H' = upd H T (.tup [.ref q, v]), fun i H => H d = some (.frz o (.dT kvs)) ∧ kvs.length ≤ i⟩
section
variable {X : Cx} {pins : List (Addr × Obj)} {σ : L2.St} {H : Hp} {s : Shared} {d : Addr} {o : Obj}
theorem Inv.frzT2 {kvs : List (List Key × V)} (I : L2.Inv X pins σ H s) (h : H d = some (.frz o (.dT kvs))) :
    (d == sysModules) = false ∧ s.heap.get? d = some o ∧ o.ExactDict ∧ ∃ (es : Array DictEntry) (ep : Nat), o.data = .dict es ep ∧ es.size = kvs.length ∧
      ∀ (i : Nat) (k : List Key) (v : V), kvs[i]? = some (k, v) → ∃ (en : DictEntry) (q : Addr), es[i]? = some en ∧ en.key = .ref q ∧ H q = some (.tup (k.map kV)) ∧ RelV v en.val := by
  obtain ⟨hd, z, hs, xs, pr, o', es, ep, ho, hx, hdt, he, _⟩ := I.hok d _ h
  rw [hd] at ho
  cases ho
  refine ⟨hs, hd, hx, es, ep, hdt, ?_, fun i k v e => ?_⟩
  · have l1 : es.size = xs.length := size_of_entries he
    have l2 : kvs.length = xs.length := Paired.length pr
    omega
  · obtain ⟨b, hb, e1, e2, e3⟩ := paired_get pr e
    have q := entry_at he i
    rw [hb] at q
    exact ⟨_, b.2.1, q, rfl, e2, e3⟩
end
theorem turn_itemsT {P : Program} {w : World} {K : PySem.W.Frag} {d : Addr} {o : Obj} {es : Array DictEntry} {ep : Nat} {kvs : List (List Key × V)} {elts : List Expr} {kk : Nat} {tpos : Pos} (it : Addr) (hod : o.data = .dict es ep) :
    Turn P w K (.Tuple elts kk tpos) (ItiT d o kvs) [it] it (fun i h => ∃ ok ov, IsItemIter h it d i kvs.length ep ok ov) where
  mem := by simp
  obj := fun i h st b hb => by
    have e : b = it := by simpa using hb
    subst e
    obtain ⟨ok, ov, e⟩ := st
    exact ⟨_, e, fun v z => nomatch z⟩
  keep := fun i h h' st k => let ⟨ok, ov, e⟩ := st; ⟨ok, ov, k it (by simp) _ e⟩
  item := by
    intro X hP hw hK hc i pins s σ H E I hf st hg
    subst hP hw hK
    obtain ⟨hd, hi⟩ := hg
    obtain ⟨hs, hgd, hx, es', ep', hdt, hsz, ent⟩ := Inv.frzT2 I hd
    obtain ⟨rfl, rfl⟩ := dict_ep hod hdt
    obtain ⟨⟨k, v⟩, hkv⟩ : ∃ p, kvs[i]? = some p := ⟨kvs[i], List.getElem?_eq_getElem hi⟩
    obtain ⟨en, q, hen, hkey, hq, rv⟩ := ent i k v hkv
    obtain ⟨ok, ov, he⟩ := st
    rw [← hsz] at he
    have hlt : it < s.heap.objs.size := Heap.lt_size he
    have hie : i < es'.size := by omega
    have ee : es'[i] = en := by
      rw [Array.getElem?_eq_getElem hie] at hen
      exact Option.some.inj hen
    refine wpAny_pyNext_items_item_raw he ⟨o, hgd, hx, hdt⟩ hie fun h' ho hT hz hk => ?_
    rw [ee] at ho hT
    rw [hkey] at ho hT
    refine ⟨_, rfl, wpAny_letOwnedTupleGo_items (s := { s with heap := h' }) ho fun h'' he' sb => ?_⟩
    have hT2 : h''.get? s.heap.objs.size = some { cls := .type "tuple", data := .seq #[.ref q, en.val] } := (sb.2 _ (Nat.ne_of_gt hlt)).trans hT
    have new : ObjOk X.prog X.w (upd H s.heap.objs.size (.tup [.ref q, v])) h'' s.heap.objs.size (.tup [.ref q, v]) :=
      ⟨by show 2 ≤ sizeLine; decide, [.ref q, en.val], .cons rfl (.cons rv .nil), ⟨_, hT2, rfl, _, rfl⟩⟩
    have I1 : L2.Inv X pins σ (upd H s.heap.objs.size (.tup [.ref q, v])) { s with heap := h'' } :=
      I.turnedNew (t' := s.toks) (ch := [it]) (fun b ob hb e => (sb.2 b (by simpa using hb)).trans (hk b ob (by simpa using hb) e)) hf (Nat.le_refl _) new
    refine ⟨.ref s.heap.objs.size, _, I1, rfl, ⟨_, q, k, v, hkv, hq, rfl, I.hok.fresh (Nat.le_refl _), rfl⟩, ⟨_, _, by rw [← hsz]; exact he'⟩, fun b hb => ?_⟩
    have e : b = it := by simpa using hb
    rw [e, upd_ne (Nat.ne_of_lt hlt)]
    exact (hf it (by simp)).1
  done := by
    intro X hP hw hK hc i pins s σ H E I hf st hg
    subst hP hw hK
    obtain ⟨hd, hi⟩ := hg
    obtain ⟨f0, f1, f2, f3, f4, f5⟩ := hf it (by simp)
    obtain ⟨hs, hgd, hx, es', ep', hdt, hsz, ent⟩ := Inv.frzT2 I hd
    obtain ⟨rfl, rfl⟩ := dict_ep hod hdt
    obtain ⟨ok, ov, he⟩ := st
    rw [← hsz] at he
    exact wpAny_pyNext_items_end_raw (I.ok.hd hc) he ⟨o, hgd, hx, hdt⟩ (by omega) fun h' eb => ⟨rfl, I.turned (t' := s.toks) (fun b ob hb e => eb b ob hb e) f0 f1 f3 f4 f5⟩
  self := fun A i s Q E st h => let ⟨_, _, e⟩ := st; PySem.W.kcp_self e h
def iItemsT (td : TE) : TI := fun σ H R => td σ H fun x H1 => ∃ d o kvs, x = .ref d ∧ H1 d = some (.frz o (.dT kvs)) ∧ R (ItiT d o kvs) H1
theorem pi_itemsT {X : Cx} {e : Expr} {td : TE} {apos cpos : Pos} {elts : List Expr} {kk : Nat} {tpos : Pos} (he : PE X e td) (hbase : attributeBase e "items" X.env (eval e X.env) = eval e X.env := by rfl) (hline : (apos.endLine == cpos.line) = true := by rfl) :
    PI X (.Tuple elts kk tpos) (.Call (.Attribute e "items" apos) [] [] cpos) (iItemsT td) := by
  refine ⟨fun pins s σ H R I h => ?_⟩
  refine wpAny_Call_method (T := "dict") (id := "dict.items") hbase rfl hline F.plainAttrs_dict F.slot_dict_items F.type_dict_items (thn (he.run pins s σ H _ I h) fun u s1 ⟨x, H1, I1, rx, d, o, kvs, ex, hd, q⟩ => ?_)
  subst ex
  obtain rfl : u = Value.ref d := rx
  obtain ⟨hs, hgd, hx, es, ep, hdt, hsz, ent⟩ := Inv.frzT2 I1 hd
  have raw : s1.heap.DictRaw d es ep := ⟨o, hgd, hx, hdt⟩
  refine ⟨raw.typeIs, (fun a e => by cases e; exact ⟨o, hgd, hx.2.1⟩), ?_⟩
  have I2 : L2.Inv X pins σ H1 { s1 with heap := s1.heap.push { cls := .type "dict_items", data := .fields #[.ref d] } } := I1.kept (t' := s1.toks) fun b ob q => Heap.get?_push_of_some _ q
  have fin : wpAny (model X.prog X.w) X.A (pyIter (.ref s1.heap.objs.size)) (PIE X pins σ (.Tuple elts kk tpos) R) X.xe { s1 with heap := s1.heap.push { cls := .type "dict_items", data := .fields #[.ref d] } } := by
    refine wpAny_pyIter_items_raw (d := d) ⟨_, Heap.get?_push_size _ rfl, rfl, rfl⟩ (raw.push _) (pi_one (tk := s1.toks) I2 _ (turn_itemsT _ hdt) ⟨.none, .none, ?_⟩ q)
    rw [← hsz]
    exact Heap.get?_push_size _ rfl
  show wpAny _ _ (callWith cpos (.builtin "dict.items") [.ref d] [] []) _ X.xe s1
  exact method_meetsIn F.slot_dict_items F.entry_dict_items rfl (PySem.evalArgs_none ⟨rfl, raw.typeIs, F.args_dict_items_1 _, _, meets_dict_items_raw d hs, ⟨es, ep, raw⟩, fin⟩)
theorem walk_itemsT {d : Addr} {o : Obj} {kvs : List (List Key × V)} : Walk (ItiT d o kvs) kvs.length (fun H => H d = some (.frz o (.dT kvs)))
    (fun i H x H' => ∃ T q k v, kvs[i]? = some (k, v) ∧ H q = some (.tup (k.map kV)) ∧ x = .ref T ∧ H T = none ∧ H' = upd H T (.tup [.ref q, v])) :=
  ⟨fun i H hi hG => ⟨hG, hi⟩, fun H hG => ⟨hG, Nat.le_refl _⟩, fun i H x H' hi hG hy => hy⟩
end K24
end
section
set_option Elab.async false
set_option linter.all false
set_option maxRecDepth 100000
set_option maxHeartbeats 1000000
/-! rules of my own over the layer, 3: sorted of a dict with tuple keys, any length -/
namespace K24
open PySem PySem.Spec PyProof.Rows L2
/-- a key of ints as the datum of a tuple -/
def encK (k : List Int) : PyData := .tuple (k.map .int)
theorem readsAll_ints {h : Heap} : ∀ {k : List Int} {us : List Value}, Vals (k.map V.int) us → ReadsAll h us (k.map .int) []
  | [], _, r => by cases r; exact .nil
  | i :: k, _, r => by
    cases r with
    | cons r1 r2 =>
      obtain ⟨t, rfl⟩ := r1
      exact ReadsAll.cons (as := []) (bs := []) (.int i t) (readsAll_ints r2)
theorem reads_key {P : Program} {w : World} {H : Hp} {h : Heap} {q : Addr} {k : List Int} (ok : HOk P w H h) (e : H q = some (.tup (k.map V.int))) : Reads h (.ref q) (encK k) [] := by
  obtain ⟨_, its, rv, o, ho, hc, n, hd⟩ := ok q _ e
  exact .tuple ho hc hd (by simpa using readsAll_ints rv)
theorem alike_key (k j : List Int) : PySem.W.alike (encK k) (encK j) = true := by
  unfold encK
  simp only [PySem.W.alike]
  exact PySem.W.alike_ints k j
theorem depth_key (k : List Int) : (encK k).depth ≤ 1 := by
  unfold encK
  simp only [PyData.depth]
  have := PySem.W.depth_ints k
  omega
theorem dataLe_key : PySem.W.dataLe false encK = leE := by
  have := PySem.W.dataLe_rows (fun k : List Int => k)
  exact this
theorem sorts_key {prog : Program} {w : World} {A : Around} {s : Shared} {vs : List Value} {ks : List (List Int)} (e : PySem.W.EachIs (fun v k => ∃ as, Reads s.heap v (encK k) as) vs ks) (h : ks.length ≤ 1 ∨ ∀ k ∈ ks, k ≠ []) (hu : A.units + 1 < cLine) :
    PySem.W.SortsAt prog w A s (PySem.W.dataKind s.heap (ks.map encK)) vs := by
  have hal : PySem.W.AllAlike (ks.map encK) := PySem.W.AllAlike.of alike_key
  by_cases hne : ∀ k ∈ ks, k ≠ []
  · refine PySem.W.SortsAt.data (PySem.W.each_map (R := fun v d => ∃ as, Reads s.heap v d as) encK e) hal (.inl fun d hd => ?_) fun d hd => ?_
    · obtain ⟨k, hk, rfl⟩ := List.mem_map.mp hd
      cases k with
      | nil => exact absurd rfl (hne _ hk)
      | cons i k => exact ⟨_, _, rfl⟩
    · obtain ⟨k, hk, rfl⟩ := List.mem_map.mp hd
      have := depth_key k
      omega
  · have h1 : ks.length ≤ 1 := h.resolve_right hne
    refine ⟨fun v hv => ?_, general', fun E x y a b Q ha hb hq => ?_, fun h2 => absurd h2 (by rw [e.length]; omega)⟩
    · obtain ⟨d, hd, as, r⟩ := (PySem.W.each_map (R := fun v d => ∃ as, Reads s.heap v d as) encK e).left v hv
      exact ⟨_, PySem.W.dataKind_some hal hd r⟩
    · obtain ⟨d, as, hd, ra, rfl⟩ := PySem.W.dataKind_inv ha
      obtain ⟨d', as', hd', rb, rfl⟩ := PySem.W.dataKind_inv hb
      obtain ⟨k, hk, rfl⟩ := List.mem_map.mp hd
      show wpAny (model prog w) A (oneLt' false x y) Q E s
      refine PySem.W.oneLt_alike (fun z => nomatch z) ra rb (hal _ hd _ hd') (fun z => nomatch z) ?_ hq
      have := depth_key k
      have := Nat.min_le_left (encK k).depth d'.depth
      omega
theorem each_addrs {H : Hp} : ∀ {vs : List Value} {ks : List (List Int)}, PySem.W.EachIs (fun v k => ∃ b, v = .ref b ∧ H b = some (.tup (k.map V.int))) vs ks →
    ∃ bs : List Addr, vs = bs.map Value.ref ∧ Paired (fun k b => H b = some (.tup (k.map V.int))) ks bs
  | _, _, .nil => ⟨[], rfl, .nil⟩
  | _, _, .cons ⟨b, e, h⟩ t => by
    obtain ⟨bs, e2, p⟩ := each_addrs t
    exact ⟨b :: bs, by rw [e, e2]; rfl, .cons h p⟩
theorem addrs_each {H : Hp} : ∀ {bs : List Addr} {ks : List (List Int)}, Paired (fun k b => H b = some (.tup (k.map V.int))) ks bs → PySem.W.EachIs (fun v k => ∃ b, v = .ref b ∧ H b = some (.tup (k.map V.int))) (bs.map Value.ref) ks
  | _, _, .nil => .nil
  | _, _, .cons h t => .cons ⟨_, rfl, h⟩ (addrs_each t)
theorem kV_ints (k : List Int) : (k.map Sum.inl).map kV = k.map V.int := by
  rw [List.map_map]; rfl
theorem keys_paired {H : Hp} : ∀ {kvs : List (List Key × V)} {xs : List (List Key × Addr × Value)} {ks : List (List Int)}, KT H kvs xs → kvs.map (·.1) = ks.map (List.map Sum.inl) → Paired (fun k b => H b = some (.tup (k.map V.int))) ks (xs.map fun x => x.2.1)
  | _, _, [], .nil, _ => .nil
  | _, _, _ :: _, .nil, e => by simp at e
  | _, _, [], .cons _ _, e => by simp at e
  | _, _, k :: ks, .cons r t, e => by
    rw [List.map_cons, List.map_cons, List.cons.injEq] at e
    refine .cons ?_ (keys_paired t e.2)
    have := r.2.1
    rw [e.1, kV_ints] at this
    exact this
def rSortedK : List V → Hp → VK → Prop := fun xs H Q => ∃ (a : Addr) (kvs : List (List Key × V)) (ks : List (List Int)), xs = [.ref a] ∧ Rd H a (.dT kvs) ∧ kvs.map (·.1) = ks.map (List.map Sum.inl) ∧ (ks.length ≤ 1 ∨ ∀ k ∈ ks, k ≠ []) ∧
  ∀ (bs : List Addr) (p : Addr), Paired (fun k b => H b = some (.tup (k.map V.int))) (sortK ks) bs → H p = none → Q (.ref p) (upd H p (.lst (bs.map V.ref)))
theorem call_sortedK {X : Cx} (hcalm : X.calm = true) (hu : X.A.units + 64 < cLine) : CallR X (.builtin "sorted") rSortedK := by
  intro pins s σ H xs us Q I r q
  obtain ⟨a, kvs, ks, ex, hd, hks, hne, q⟩ := q
  subst ex
  obtain ⟨u, eu, rx⟩ := r.one
  subst eu
  cases rx
  obtain ⟨z, hs, xs, pr, o, es, ep, ho, hx, hdt, he, hn⟩ := (show ObjOk X.prog X.w H s.heap a (.dT kvs) from hd.ok I.hok)
  have l1 : es.size = xs.length := size_of_entries he
  have l2 : kvs.length = xs.length := Paired.length pr
  have l3 : ks.length = xs.length := by
    have e := congrArg List.length hks
    rw [List.length_map, List.length_map] at e
    omega
  have pk := keys_paired pr hks
  refine Calls.call_function_entry PyProof.Rows.kind_sorted PyProof.Rows.plain_sorted PyProof.Rows.entry_sorted (PyProof.Rows.args_sorted1 _) ?_
  unfold Builtin.«sorted»
  refine wpAny_bind (m := checkCount "sorted" 1 1 _) (wpAny_pure ?_)
  refine wpAny_bind (PySem.W.kdu_collect (A := X.A.in1) (kdl_raw hs hx hdt) (I.ok.hd hcalm) ho (by omega) fun h' tk acc hk it => ?_)
  have ea : acc.toList = (xs.map fun x => x.2.1).map Value.ref := by
    rw [List.map_map]
    have hl : acc.toList.length = xs.length := by rw [Array.length_toList, it.1]; exact l1
    apply List.ext_getElem?
    intro j
    rw [List.getElem?_map]
    cases hj : acc.toList[j]? with
    | none =>
      have h1 := List.getElem?_eq_none_iff.mp hj
      rw [List.getElem?_eq_none (by omega)]
      all_goals rfl
    | some v =>
      obtain ⟨en, hen, hv⟩ := it.2 j v (by rw [← Array.getElem?_toList]; exact hj)
      have qe := entry_at he j
      rw [hen] at qe
      cases hb : xs[j]? with
      | none =>
        rw [hb] at qe
        exact nomatch (show some en = none from qe)
      | some b =>
        rw [hb] at qe
        have e2 : en = entryOfKey (tupleKind (mixKind X.prog X.w)) b := Option.some.inj qe
        rw [hv, e2]
        all_goals rfl
  have I1 : L2.Inv X pins σ H { s with heap := h', toks := tk } := I.kept hk
  have hal : acc.toList.length = xs.length := by rw [ea, List.length_map, List.length_map]
  refine wpAny_bind (wpAny_newList ?_ (by rw [hal]; omega))
  have hoL : (h'.push (seqObj "list" acc.toList.toArray 0)).get? h'.objs.size = some (seqObj "list" acc.toList.toArray 0) := Heap.get?_push_size _ rfl
  show wpAny _ _ _ _ _ { s with heap := h'.push (seqObj "list" acc.toList.toArray 0), toks := tk }
  have eR : PySem.W.EachIs (fun v k => ∃ b, v = .ref b ∧ H b = some (.tup (k.map V.int))) acc.toList ks := by
    rw [ea]
    exact addrs_each pk
  have I2 : HOk X.prog X.w H (h'.push (seqObj "list" acc.toList.toArray 0)) := I1.hok.kept fun b o e => Heap.get?_push_of_some _ e
  have fresh : H h'.objs.size = none := I1.hok.fresh (Nat.le_refl _)
  have er : PySem.W.EachIs (fun v k => ∃ as, Reads (PySem.W.sortingHeap (h'.push (seqObj "list" acc.toList.toArray 0)) h'.objs.size acc.toList) v (encK k) as) acc.toList ks :=
    eR.mono fun v k ⟨b, eb, hb⟩ => by
      subst eb
      have hlt : b < h'.objs.size := I1.hok.lt hb
      obtain ⟨_, its, rv, ob, ho, hc, n, hdd⟩ := I2 b _ hb
      exact ⟨_, .tuple (PySem.W.sortingHeap_old (Nat.ne_of_lt hlt) ho) hc hdd (by simpa using readsAll_ints rv)⟩
  refine wpAny_bind (wpAny_holding (wpAny_call_entry PyProof.Rows.slot_list_sort ⟨_, hoL, rfl⟩ PyProof.Rows.entry_list_sort
    (PySem.W.list_sort_vals (κ := PySem.W.dataKind (PySem.W.sortingHeap (h'.push (seqObj "list" acc.toList.toArray 0)) h'.objs.size acc.toList) (ks.map encK)) (s := { s with heap := h'.push (seqObj "list" acc.toList.toArray 0), toks := tk }) hoL
      (sorts_key (s := { s with heap := PySem.W.sortingHeap (h'.push (seqObj "list" acc.toList.toArray 0)) h'.objs.size acc.toList, toks := tk }) er hne (by show X.A.units + 1 + 1 + 1 < cLine; omega)) (by rw [hal]; omega) ⟨_, rfl, ?_⟩) (PyProof.Rows.args_list_sort _)))
  have eo := PySem.W.sortVals_data (h' := PySem.W.sortingHeap (h'.push (seqObj "list" acc.toList.toArray 0)) h'.objs.size acc.toList) (R := fun v k => ∃ b, v = .ref b ∧ H b = some (.tup (k.map V.int))) (enc := encK) false eR er (PySem.W.AllAlike.of alike_key)
  rw [dataLe_key] at eo
  obtain ⟨bs, eb, pb⟩ := each_addrs eo
  obtain ⟨e', he'⟩ := PyProof.Rows.sortedHeap_at (vs := acc.toList) (out := (bs.map Value.ref).toArray) hoL
  rw [eb]
  have hlen : (bs.map V.ref).length ≤ sizeLine := by
    have h1 := Paired.length pb
    rw [List.length_mergeSort] at h1
    rw [List.length_map]
    omega
  refine wpAny_pure ⟨_, rfl, .ref h'.objs.size, upd H h'.objs.size (.lst (bs.map V.ref)), I1.laid (t' := tk) (fun b u e => ?_) (Nat.le_refl _)
    (show ObjOk X.prog X.w _ _ _ (.lst (bs.map V.ref)) from ⟨hlen, bs.map Value.ref, e', vals_refs bs, he'⟩), rfl, q bs _ pb fresh⟩
  have hb : b < h'.objs.size := Heap.lt_size e
  rw [PyProof.Rows.sortedHeap_old (Nat.ne_of_lt hb) (by rw [size_push']; exact Nat.lt_succ_of_lt hb)]
  exact Heap.get?_push_of_some _ e
end K24
end
section
set_option Elab.async false
set_option linter.all false
set_option maxRecDepth 100000
set_option maxHeartbeats 1000000
/-! rules of my own over the layer, 5: dict comprehensions whose keys are tuples -/
namespace K24
open PySem PySem.Spec PyProof.Rows L2
theorem d_dictSetT {X : Cx} {pins : List (Addr × Obj)} {σ : L2.St} {H : Hp} {s : Shared} {E : Value → Shared → Prop} {D q : Addr} {kvs : List (List Key × V)} {k : List Key} {v : V} {r : Value} {Q : Unit → Shared → Prop} (I : L2.Inv X pins σ H s) (hD : H D = some (.dT kvs)) (hz : kvs.length < sizeLine)
    (hq : H q = some (.tup (k.map kV))) (hu : X.A.units + 2 < cLine) (rv : RelV v r) (h : ∀ s', L2.Inv X pins σ (upd H D (.dT (putK kvs k v))) s' → Q () s') : wpAny (model X.prog X.w) X.A (dictSet D (.ref q) r) Q E s := by
  obtain ⟨z, hd, xs, rel, dd⟩ := dt_of I.hok hD
  have hzx : xs.length ≤ sizeLine := by rw [← Paired.length rel]; exact z
  have hl : (putK kvs k v).length ≤ sizeLine := by have := length_putK kvs k v; omega
  refine wpAny_dictSet_heap (knd := tupleKind (mixKind X.prog X.w)) (hsz := hzx) (by show X.A.units < cLine; omega) (key_of I.hok hq) dd fun h' dd' hs => h _ ?_
  obtain ⟨o', es, ep, ho', h2, h3, h4, _, h5⟩ := dd'
  refine d_write I (by rw [hD]; exact True.intro) hs ⟨o', ho'⟩ ⟨hl, hd, _, (rel.put k hq rv).keeps fun c ys ec => ?_, o', es, ep, ho', h2, h3, h4, h5⟩
  rw [upd_ne (ne_of ec hD (fun z => nomatch z))]
  exact ec
section
variable {X : Cx}
/-- {k: v for target in iter if ..}, keys tuples: D the new dict -/
def tDcT (hu : Prop) (wi : TI) (g : TG) (tt : TT) (tk tv : TE) (vs : List Nat) : TE := fun σ H Q => wi σ H fun J H1 => ∀ D, H1 D = none → ∃ W : Nat → Nat → Hp → Prop, (∃ m, W 0 m (upd H1 D (.dT []))) ∧ ∀ i m H, W i m H →
  (J.stop i H ∧ Q (.ref D) H) ∨ (J.go i H ∧ ∃ Nx : Hp → Prop, (∀ H', Nx H' → ∃ m', m' < m ∧ W (i + 1) m' H') ∧ ∀ x H', J.yld i H x H' → g x (wipe σ vs) H' fun σ2 H2 => wipe σ2 vs = wipe σ vs ∧ tt σ2 H2 fun b H3 =>
    if b = true then tk σ2 H3 fun y H4 => tv σ2 H4 fun z H5 => ∃ kvs k q, y = .ref q ∧ H5 q = some (.tup (k.map kV)) ∧ H5 D = some (.dT kvs) ∧ kvs.length < sizeLine ∧ hu ∧ Nx (upd H5 D (.dT (putK kvs k z))) else Nx H3)
theorem dc_coreT {pins : List (Addr × Obj)} {s : Shared} {σ : L2.St} {H : Hp} {Q : VK} {kx vx tg iter : Expr} {ifs : List Expr} {scope : Scope} {own : List (Str × Nat)} {pos pos' : Pos} {wi : TI} {g : TG} {tt : TT} {tk tv : TE} {use : Option (Value → Sem Unit)} {Qf : Value → Shared → Prop}
    (hc : X.calm = true) (hN : X.N.Nodup) (I : L2.Inv X pins σ H s) (hi : PI X tg iter wi) (ok : BlkOk X.N X.env.scope scope own)
    (hg : ∀ (s : Shared) (H : Hp) (C : Addr) (cl : List (Str × Addr)) (fp : List Addr), PG (X.blk s H scope (compEnvC scope cl C X.env) fp) tg g) (ht : ∀ (s : Shared) (H : Hp) (C : Addr) (cl : List (Str × Addr)) (fp : List Addr), PTs (X.blk s H scope (compEnvC scope cl C X.env) fp) ifs tt)
    (hk : ∀ (s : Shared) (H : Hp) (C : Addr) (cl : List (Str × Addr)) (fp : List Addr), PE (X.blk s H scope (compEnvC scope cl C X.env) fp) kx tk)
    (he : ∀ (s : Shared) (H : Hp) (C : Addr) (cl : List (Str × Addr)) (fp : List Addr), PE (X.blk s H scope (compEnvC scope cl C X.env) fp) vx tv) (hs : ∀ x, foldedSetIterable iter X.env x = pure x)
    (h : tDcT (X.A.units + 2 < cLine) wi g tt tk tv (own.map (·.2)) σ H Q)
    (hRR : ∀ D C s' m H', L2.Inv X pins σ H' s' → Q (.ref D) H' → s'.heap.Ns C m → FpOk X pins H' C → compPost (model X.prog X.w) X.A X.xe use Qf (.ref D) C (.ok .next) s') :
    wpAny (model X.prog X.w) X.A (comprehension (.DictComp kx vx [⟨tg, iter, ifs, 0⟩] scope pos) scope X.env pos' newDict false (eval iter X.env) use) Qf X.xe s := by
  have hfree : ∀ y ∈ scope.names, y.2 = .free → ∃ c, X.env.cells.lookup y.1 = some c := fun y hy e => by
    rcases ok.free y hy e with k | k
    · exact I.ok.has _ (.inl k)
    · exact I.ok.has _ (.inr k)
  refine wpAny_comprehension_free (use := use) rfl hs (closure_ok hfree) ok.kind (fun y hy e => by rw [ok.uniq y hy, e])
    (thn (hi.run pins s σ H _ I h) fun xv s1 hx => thn hx fun itv s2 h2 => ?_)
  obtain ⟨it, fp, tn, J, H2, e, I2, T, st2, f2, q⟩ := h2
  subst e
  refine wpAny_newObj_type (newEnv_comp ?_)
  generalize hD : s2.heap.objs.size = D
  have hDn : H2 D = none := I2.hok.fresh (Nat.le_of_eq hD)
  obtain ⟨W, ⟨m0, w0⟩, turn⟩ := q D hDn
  -- the new list
  generalize hs3 : ({ s2 with heap := s2.heap.push { cls := .type "dict", data := .dict #[] } } : Shared) = s3
  have I3 : L2.Inv X pins σ (upd H2 D (.dT [])) s3 := by
    rw [← hs3]
    refine I2.laid (t' := s2.toks) (fun b o e => Heap.get?_push_of_some _ e) (Nat.le_of_eq hD) ?_
    rw [← hD]
    exact dt_empty s2.heap I2.big
  have h3 : s3.heap = s2.heap.push { cls := .type "dict", data := .dict #[] } := by rw [← hs3]
  have sz : ∀ b ∈ fp, b < s2.heap.objs.size := fun b hb => by
    obtain ⟨o, e, _⟩ := T.obj _ _ st2 b hb
    exact Heap.lt_size e
  have f3 : ∀ b ∈ fp, FpOk X pins (upd H2 D (.dT [])) b ∧ b < s3.heap.objs.size := fun b hb => by
    have hlt := sz b hb
    refine ⟨⟨?_, (f2 b hb).2⟩, by rw [h3, Heap.size_push]; exact Nat.lt_succ_of_lt hlt⟩
    rw [upd_ne (by rw [← hD]; exact Nat.ne_of_lt hlt)]
    exact (f2 b hb).1
  have st3 : tn 0 s3.heap := T.keep _ _ _ st2 fun b _ o e => by rw [h3]; exact Heap.get?_push_of_some _ e
  have I4 := block_start I3 ok hN f3
  have pg := hg s3 (upd H2 D (.dT [])) s3.heap.objs.size (cellsFrom (s3.heap.objs.size + 1) scope.names (cloFrom X.env.cells scope.names [])) fp
  have pt := ht s3 (upd H2 D (.dT [])) s3.heap.objs.size (cellsFrom (s3.heap.objs.size + 1) scope.names (cloFrom X.env.cells scope.names [])) fp
  have pk := hk s3 (upd H2 D (.dT [])) s3.heap.objs.size (cellsFrom (s3.heap.objs.size + 1) scope.names (cloFrom X.env.cells scope.names [])) fp
  have pe := he s3 (upd H2 D (.dT [])) s3.heap.objs.size (cellsFrom (s3.heap.objs.size + 1) scope.names (cloFrom X.env.cells scope.names [])) fp
  show codeAny _ _ (.compStart (.DictComp kx vx [⟨tg, iter, ifs, 0⟩] scope pos) 0 (.ref it) (.ref D) (compEnvC scope (cellsFrom (s3.heap.objs.size + 1) scope.names (cloFrom X.env.cells scope.names [])) s3.heap.objs.size X.env)) (compPost (model X.prog X.w) X.A X.xe use Qf (.ref D) s3.heap.objs.size) { s3 with heap := pushCells (s3.heap.push { cls := .type "dict", data := .dict #[] }) scope.names }
  have nfp : ∀ b ∈ fp, (upd H2 D (.dT [])) b = none := fun b hb => (f3 b hb).1.1
  generalize hce : compEnvC scope (cellsFrom (s3.heap.objs.size + 1) scope.names (cloFrom X.env.cells scope.names [])) s3.heap.objs.size X.env = ce at I4 pg pt pk pe ⊢
  have cL : ce.locals = s3.heap.objs.size := by subst hce; rfl
  generalize hH3 : upd H2 D (.dT []) = H3 at I3 I4 pg pt pk pe w0 nfp f3
  generalize hs4 : ({ s3 with heap := pushCells (s3.heap.push { cls := .type "dict", data := .dict #[] }) scope.names } : Shared) = s4 at I4 ⊢
  have st4 : tn 0 s4.heap := T.keep _ _ _ st3 fun b _ o e => by rw [← hs4]; exact pushCells_keeps _ _ _ _ (Heap.get?_push_of_some _ e)
  have stat : ∀ {σ' : L2.St} {H' : Hp} {s' : Shared}, L2.Inv (X.blk s3 H3 scope ce fp) [] σ' H' s' → (∀ b ∈ fp, H' b = none) → ∀ b ∈ fp, FpOk (X.blk s3 H3 scope ce fp) [] H' b := fun {σ' H' s'} I' hn b hb =>
    ⟨hn b hb, (I'.ok.exf b hb).1, I'.ok.exfs b hb, .inl hb, fun x c e => (I'.ok.exf b hb).2 x c e, fun p hp => absurd (show p ∈ ([] : List (Addr × Obj)) ++ [] from hp) (by simp)⟩
  have loop : codeAny (model X.prog X.w) X.A (.compLoop (.DictComp kx vx [⟨tg, iter, ifs, 0⟩] scope pos) 0 (.ref it) (.ref D) ce) (compPost (model X.prog X.w) X.A X.xe use Qf (.ref D) s3.heap.objs.size) s4 := by
    refine compLoop_anyD (fun n s' => ∃ i H', L2.Inv (X.blk s3 H3 scope ce fp) [] (wipe σ (own.map (·.2))) H' s' ∧ tn i s'.heap ∧ (∀ b ∈ fp, H' b = none) ∧ W i n H') ?_ m0 ⟨0, H3, I4, st4, nfp, w0⟩
    rintro n s5 ⟨i, H5, I5, st5, n5, w5⟩
    rcases turn i n H5 w5 with ⟨stop, qq⟩ | ⟨go, Nx, hNx, step⟩
    · have td := T.done (X.blk s3 H3 scope ce fp) rfl rfl rfl hc i [] s5 _ H5 (fun _ _ => False) I5 (stat I5 n5) st5 stop
      refine thnF td fun r s6 ⟨hr, I6⟩ => ?_
      subst hr
      -- back in the def's context
      have I7 : L2.Inv X pins σ H5 s6 := I3.call' (ch := fp) I6.os I6.base I6.hok I6.bare fun b hb => ⟨(f3 b hb).1.2.2.2.1, (f3 b hb).1.2.1, (f3 b hb).1.2.2.2.2.1, (f3 b hb).1.2.2.2.2.2⟩
      have nC : H5 s3.heap.objs.size = none := by
        have z : H5 ce.locals = none := I6.free
        rw [cL] at z
        exact z
      obtain ⟨m, hn, _⟩ := I6.loc
      have hn : s6.heap.Ns ce.locals m := hn
      rw [cL] at hn
      exact hRR D s3.heap.objs.size s6 m H5 I7 qq hn (I3.fpOk (Nat.le_refl _) nC)
    · have ti := T.item (X.blk s3 H3 scope ce fp) rfl rfl rfl hc i [] s5 _ H5 (fun _ _ => False) I5 (stat I5 n5) st5 go
      refine thnF ti fun r s6 ⟨u, hr, h6⟩ => ?_
      subst hr
      refine thnF h6 fun _ s7 ⟨x, H7, I7, r7, y7, st7, n7⟩ => ?_
      have I7' := I7.pinned (stat I7 n7) (T.obj _ _ st7)
      refine thnF (pg.run _ s7 _ H7 x u _ I7' r7 (step x H7 y7)) fun _ s8 ⟨σ8, H8, I8, hw8, q8⟩ => ?_
      refine thnF (pt.run _ s8 σ8 H8 _ I8 q8) fun b s9 ⟨H9, I9, q9⟩ => ?_
      -- the turn's end
      have fin : ∀ {s' : Shared} {H' : Hp}, L2.Inv (X.blk s3 H3 scope ce fp) ([] ++ pinsAt fp s7.heap) σ8 H' s' → Nx H' → ∃ m, m < n ∧ ∃ i H', L2.Inv (X.blk s3 H3 scope ce fp) [] (wipe σ (own.map (·.2))) H' s' ∧ tn i s'.heap ∧ (∀ b ∈ fp, H' b = none) ∧ W i m H' := fun {s' H'} I' nx => by
        obtain ⟨m', hm, w'⟩ := hNx H' nx
        have pin' : ∀ b ∈ fp, ∀ o, s7.heap.get? b = some o → s'.heap.get? b = some o ∧ H' b = none := fun b hb o e =>
          let z := I'.pin (b, o) (List.mem_append_right _ (List.mem_append_right _ (mem_pinsAt hb e)))
          ⟨z.1, z.2.1⟩
        have hl : (wipe σ (own.map (·.2))).length = σ8.length := by rw [← hw8, wipe_length]
        refine ⟨m', hm, i + 1, H', (I'.unpinned (pins := [])).weak hl (fun j v e => ?_), T.keep _ _ _ st7 fun b hb o e => (pin' b hb o e).1, fun b hb => ?_, w'⟩
        · rw [← hw8] at e
          exact (wipe_some e).1
        · obtain ⟨o, e, _⟩ := T.obj _ _ st7 b hb
          exact (pin' b hb o e).2
      cases b with
      | false =>
        simp only [Bool.false_eq_true, if_false] at q9 ⊢
        exact fin I9 q9
      | true =>
        simp only [if_true] at q9 ⊢
        refine thnF (pk.run _ s9 σ8 H9 _ I9 q9) fun z s10 ⟨yk, H10, I10, r10, q10⟩ => ?_
        refine thnF (pe.run _ s10 σ8 H10 _ I10 q10) fun z2 s11 ⟨yv, H11, I11, r11, kvs, k, qa, ek, hq, hD11, hz11, hun, nx⟩ => ?_
        subst ek
        cases (show z = Value.ref qa from r10)
        exact d_dictSetT (X := X.blk s3 H3 scope ce fp) I11 hD11 hz11 hq hun r11 fun s12 I12 => fin I12 nx
  exact codeAny_compStart_dict loop (T.self X.A 0 _ _ _ st4 loop)
/-- as a value -/
theorem pe_dcT {kx vx tg iter : Expr} {ifs : List Expr} {scope : Scope} {own : List (Str × Nat)} {pos : Pos} {wi : TI} {g : TG} {tt : TT} {tk tv : TE} (hc : X.calm = true) (hN : X.N.Nodup) (hi : PI X tg iter wi) (ok : BlkOk X.N X.env.scope scope own)
    (hg : ∀ (s : Shared) (H : Hp) (C : Addr) (cl : List (Str × Addr)) (fp : List Addr), PG (X.blk s H scope (compEnvC scope cl C X.env) fp) tg g) (ht : ∀ (s : Shared) (H : Hp) (C : Addr) (cl : List (Str × Addr)) (fp : List Addr), PTs (X.blk s H scope (compEnvC scope cl C X.env) fp) ifs tt)
    (hk : ∀ (s : Shared) (H : Hp) (C : Addr) (cl : List (Str × Addr)) (fp : List Addr), PE (X.blk s H scope (compEnvC scope cl C X.env) fp) kx tk)
    (he : ∀ (s : Shared) (H : Hp) (C : Addr) (cl : List (Str × Addr)) (fp : List Addr), PE (X.blk s H scope (compEnvC scope cl C X.env) fp) vx tv) (hs : ∀ x, foldedSetIterable iter X.env x = pure x := by intro _; rfl) :
    PE X (.DictComp kx vx [⟨tg, iter, ifs, 0⟩] scope pos) (tDcT (X.A.units + 2 < cLine) wi g tt tk tv (own.map (·.2))) := by
  refine ⟨fun pins s σ H Q I h => ?_⟩
  rw [arm_eval_DictComp]
  refine dc_coreT hc hN I hi ok hg ht hk he hs h fun D C s' m H' I' q hn f => ⟨m, hn, fun h'' sb => ?_⟩
  obtain ⟨f0, f1, f2, f3, f4, f5⟩ := f
  exact ⟨.ref D, H', I'.turned (t' := s'.toks) (fun b o hb e => (sb.2 b hb).trans e) f0 f1 f3 f4 f5, rfl, q⟩
/-- over anything that walks -/
theorem dcT_it {J : It} {n : Nat} {G : Hp → Prop} {Y : Nat → Hp → V → Hp → Prop} (w : Walk J n G Y) {hu : Prop} {g : TG} {tt : TT} {tk tv : TE} {vs : List Nat} {σ : L2.St} {H1 : Hp} {D : Addr} {Qd : Hp → Prop} (Pv : Nat → Hp → Prop) (h0 : Pv 0 (upd H1 D (.dT []))) (hG : ∀ i H, i ≤ n → Pv i H → G H)
    (hs : ∀ i x H H', i < n → Pv i H → Y i H x H' → g x (wipe σ vs) H' fun σ2 H2 => wipe σ2 vs = wipe σ vs ∧ tt σ2 H2 fun b H3 =>
      if b = true then tk σ2 H3 fun y H4 => tv σ2 H4 fun z H5 => ∃ kvs k q, y = .ref q ∧ H5 q = some (.tup (k.map kV)) ∧ H5 D = some (.dT kvs) ∧ kvs.length < sizeLine ∧ hu ∧ Pv (i + 1) (upd H5 D (.dT (putK kvs k z))) else Pv (i + 1) H3) (hd : ∀ H, Pv n H → Qd H) :
    ∃ W : Nat → Nat → Hp → Prop, (∃ m, W 0 m (upd H1 D (.dT []))) ∧ ∀ i m H, W i m H →
      (J.stop i H ∧ Qd H) ∨ (J.go i H ∧ ∃ Nx : Hp → Prop, (∀ H', Nx H' → ∃ m', m' < m ∧ W (i + 1) m' H') ∧ ∀ x H', J.yld i H x H' → g x (wipe σ vs) H' fun σ2 H2 => wipe σ2 vs = wipe σ vs ∧ tt σ2 H2 fun b H3 =>
        if b = true then tk σ2 H3 fun y H4 => tv σ2 H4 fun z H5 => ∃ kvs k q, y = .ref q ∧ H5 q = some (.tup (k.map kV)) ∧ H5 D = some (.dT kvs) ∧ kvs.length < sizeLine ∧ hu ∧ Nx (upd H5 D (.dT (putK kvs k z))) else Nx H3) := by
  refine ⟨fun i m H => m = n - i ∧ i ≤ n ∧ Pv i H, ⟨n, by simp, Nat.zero_le _, h0⟩, ?_⟩
  rintro i m H ⟨rfl, hi, p⟩
  by_cases hlt : i < n
  · exact .inr ⟨w.goes i H hlt (hG i H hi p), Pv (i + 1), fun H' p' => ⟨n - (i + 1), by omega, rfl, hlt, p'⟩, fun x H' y => hs i x H H' hlt p (w.yields i H x H' hlt (hG i H hi p) y)⟩
  · have e : i = n := by omega
    subst e
    exact .inl ⟨w.stops H (hG _ H (Nat.le_refl _) p), hd H p⟩
end
end K24
end
section
set_option Elab.async false
set_option linter.all false
set_option maxRecDepth 100000
set_option maxHeartbeats 1000000
/-! rules of my own over the layer, 6: == and != of dicts with tuple keys -/
namespace K24
open PySem PySem.Spec PyProof.Rows L2
section
variable {prog : Program} {w : World} {K : Type} [DecidableEq K] {knd : HeapKind prog w K} {A : Around} {E : Value → Shared → Prop} {s : Shared}
inductive HitsH {K : Type} [DecidableEq K] (prog : Program) (w : World) (A : Around) (s : Shared) (xb : List (K × Addr × Value)) : List (K × Addr × Value) → Bool → Prop
  | nil : HitsH prog w A s xb [] true
  | miss {x : K × Addr × Value} {r : List (K × Addr × Value)} : (∀ p ∈ xb, p.1 ≠ x.1) → HitsH prog w A s xb (x :: r) false
  | hit {x : K × Addr × Value} {p : Addr × Value} {r : List (K × Addr × Value)} {e b : Bool} : (x.1, p) ∈ xb → SeqAt.EqP prog w A s x.2.2 p.2 e → HitsH prog w A s xb r b → HitsH prog w A s xb (x :: r) (e && b)
theorem HitsH.inv {xb : List (K × Addr × Value)} {x : K × Addr × Value} {r : List (K × Addr × Value)} {b : Bool} (h : HitsH prog w A s xb (x :: r) b) :
    ((∀ p ∈ xb, p.1 ≠ x.1) ∧ b = false) ∨ ∃ p e b', (x.1, p) ∈ xb ∧ SeqAt.EqP prog w A s x.2.2 p.2 e ∧ HitsH prog w A s xb r b' ∧ b = (e && b') := by
  cases h with
  | miss hn => exact .inl ⟨hn, rfl⟩
  | hit hy he hr => exact .inr ⟨_, _, _, hy, he, hr, rfl⟩
theorem nodup_at {xb : List (K × Addr × Value)} (hn : (xb.map (·.1)).Nodup) {i j : Nat} {k : K} {p q : Addr × Value} (h1 : xb[i]? = some (k, p)) (h2 : xb[j]? = some (k, q)) : p = q := by
  have e1 : (xb.map (·.1))[i]? = some k := by rw [List.getElem?_map, h1]; rfl
  have e2 : (xb.map (·.1))[j]? = some k := by rw [List.getElem?_map, h2]; rfl
  have hi : i < (xb.map (·.1)).length := (List.getElem?_eq_some_iff.mp e1).1
  have : i = j := (List.getElem?_inj hi hn).mp (e1.trans e2.symm)
  subst this
  rw [h1] at h2
  exact (Prod.mk.inj (Option.some.inj h2)).2
theorem samePairsH {nm : String} {a b : Addr} {xa xb : List (K × Addr × Value)} {r : Bool} {Q : Bool → Shared → Prop} (hu : knd.room A) (ha : (a == sysModules) = false) (hb : (b == sysModules) = false)
    (da : s.heap.DictOfH knd a xa) (db : s.heap.DictOfH knd b xb) (hits : xa.length = xb.length → HitsH prog w A s xb xa r) (h : Q (xa.length == xb.length && r) s) :
    wpAny (model prog w) A (Builtin.Dict.samePairs nm a b) Q E s := by
  obtain ⟨oa, es, ep, hoa, _, hda, hea, hisa, hna⟩ := da
  obtain ⟨ob, es', ep', hob, _, hdb, heb, hisb, hnb⟩ := db
  have hla : xa.length = es.size := (size_of_entries hea).symm
  have hlb : xb.length = es'.size := (size_of_entries heb).symm
  rw [hla, hlb] at h
  unfold Builtin.Dict.samePairs Builtin.Dict.showsAll
  rw [if_neg (show ¬ (a == sysModules) = true by rw [ha]; exact Bool.false_ne_true), if_neg (show ¬ (b == sysModules) = true by rw [hb]; exact Bool.false_ne_true)]
  refine wpAny_bind (wpAny_pure (wpAny_bind (wpAny_pure ?_)))
  refine wpAny_bind (wpAny_dictEntries hoa hda ?_)
  dsimp only
  refine wpAny_bind (wpAny_dictEntries hob hdb ?_)
  by_cases hsz : es.size = es'.size
  case neg =>
    rw [if_pos (by simpa using hsz)]
    have hbf : (es.size == es'.size) = false := by simpa using hsz
    rw [hbf, Bool.false_and] at h
    exact wpAny_bind (wpAny_rule (wpAny_pure h))
  case pos =>
    have h' : Q r s := by simpa [hsz] using h
    have hits' := hits (by rw [hla, hlb]; exact hsz)
    rw [if_neg (by rw [hsz]; simp)]
    refine wpAny_bind (wpAny_dictEpoch hoa hda ?_)
    refine wpAny_bind ?_
    rw [Std.Legacy.Range.forIn_eq_forIn_range']
    simp only [Std.Legacy.Range.size, Nat.sub_zero, Nat.add_sub_cancel, Nat.div_one]
    refine wpAny_forIn_list _
      (fun rest q s' => s' = s ∧ q = (none, ()) ∧ ∃ i, rest = List.range' i (es.size - i) ∧ i ≤ es.size ∧ HitsH prog w A s xb (xa.drop i) r)
      _ ?_ ?_ _ _ ⟨rfl, rfl, 0, by simp, Nat.zero_le _, hits'⟩
    · rintro x rest q s' ⟨rfl, rfl, i, hr, hi, hpre⟩
      have hlt : i < es.size := by
        rcases Nat.lt_or_ge i es.size with h | h
        · exact h
        · rw [Nat.sub_eq_zero_of_le h] at hr; simp at hr
      obtain ⟨rfl, hrest⟩ : x = i ∧ rest = List.range' (i + 1) (es.size - (i + 1)) := by
        have e : es.size - i = (es.size - (i + 1)) + 1 := by omega
        rw [e, List.range'_succ] at hr
        injection hr with h1 h2
        exact ⟨h1, h2⟩
      refine wpAny_bind (wpAny_dictEntries hoa hda ?_)
      have hlt' : x < xa.length := by rw [hla]; exact hlt
      obtain ⟨y, hy⟩ : ∃ y, xa[x]? = some y := ⟨_, List.getElem?_eq_getElem hlt'⟩
      have ex : es[x]? = some (entryOfKey knd y) := by rw [entry_at hea x, hy]; rfl
      rw [ex]
      have hdrop : xa.drop x = y :: xa.drop (x + 1) := by
        have := List.drop_eq_getElem_cons hlt'
        rw [List.getElem?_eq_getElem hlt'] at hy
        rw [this, Option.some.inj hy]
      rw [hdrop] at hpre
      have hky : knd.is s'.heap y.1 y.2.1 := hisa y (List.mem_of_getElem? hy)
      show wpAny _ _ (holding [.ref y.2.1, y.2.2] _ >>= _) _ _ _
      refine wpAny_bind (wpAny_holding (wpAny_bind (wpAny_dictFind_heap (k := y.1) hu hky hob hdb heb hisb hnb (fun hnone => ?_) fun j p hj => ?_)))
      · rcases hpre.inv with ⟨_, er⟩ | ⟨p, _, _, hm, _⟩
        · rw [er] at h'
          refine wpAny_pure ?_
          show wpAny _ _ (if (!false) = true then _ else _) _ _ _
          rw [if_pos (by decide)]
          exact wpAny_pure (wpAny_pure h')
        · obtain ⟨j, hj⟩ := List.getElem?_of_mem hm
          exact absurd hj (hnone j p)
      · have hej : es'[j]? = some (entryOfKey knd (y.1, p)) := by rw [entry_at heb j, hj]; rfl
        refine wpAny_bind (wpAny_dictEntries hob hdb ?_)
        rw [hej]
        rcases hpre.inv with ⟨hn, _⟩ | ⟨p', e, b', hm, he, hrr, er⟩
        · exact absurd rfl (hn (y.1, p) (List.mem_of_getElem? hj))
        · obtain ⟨j', hj'⟩ := List.getElem?_of_mem hm
          have ep : p = p' := nodup_at hnb hj hj'
          subst ep
          refine wpAny_holding (he _ _ ?_)
          cases e with
          | false =>
            rw [er, Bool.false_and] at h'
            show wpAny _ _ (if (!false) = true then _ else _) _ _ _
            rw [if_pos (by decide)]
            exact wpAny_pure (wpAny_pure h')
          | true =>
            rw [Bool.true_and] at er
            rw [← er] at hrr
            show wpAny _ _ (if (!true) = true then _ else _) _ _ _
            rw [if_neg (by decide)]
            refine wpAny_bind (wpAny_dictEpoch hoa hda ?_)
            rw [if_neg (by simp)]
            exact wpAny_pure ⟨rfl, rfl, x + 1, hrest, hlt, hrr⟩
    · rintro q s' ⟨rfl, rfl, i, hr, hi, hpre⟩
      have hin : i = es.size := by
        rcases Nat.lt_or_ge i es.size with h | h
        · have e : es.size - i = (es.size - (i + 1)) + 1 := by omega
          rw [e, List.range'_succ] at hr; exact nomatch hr
        · exact Nat.le_antisymm hi h
      refine wpAny_pure ?_
      rw [hin, ← hla, List.drop_length] at hpre
      cases hpre
      exact h'
theorem rcH_dicts {a b : Addr} {xa xb : List (K × Addr × Value)} {r : Bool} (hr : knd.room A.in1) (ha : (a == sysModules) = false) (hb : (b == sysModules) = false)
    (da : s.heap.DictOfH knd a xa) (db : s.heap.DictOfH knd b xb) (hu : A.units < cLine) (hits : xa.length = xb.length → HitsH prog w A.in1 s xb xa r) (E Q : Value → Shared → Prop) (h : Q (.bool (xa.length == xb.length && r)) s) : wpAny (model prog w) A (richCompare .Eq (.ref a) (.ref b)) Q E s := by
  refine wpAny_richCompare_same_room (op := .Eq) da.typeIs db.typeIs PySem.F.slot_dict_eq (wpAny_call_entry PySem.F.slot_dict_eq da.typeIs PySem.F.entry_dict_eq ?_ (PySem.F.args_dict_eq_2 _ _)) hu
  show wpAny _ _ (Builtin.Dict.dictSlotArgs "__eq__" ⟨[.ref a, .ref b], []⟩ >>= _) _ _ s
  refine wpAny_bind ?_
  unfold Builtin.Dict.dictSlotArgs
  refine wpAny_bind (wpAny_notOrdered_dict da.typeIs ?_)
  show wpAny _ _ (pure (Value.ref a, Value.ref b)) _ _ s
  refine wpAny_pure ?_
  refine wpAny_bind (wpAny_isInstance (T := "dict") db.typeIs PySem.F.sub_dict_dict ?_)
  simp only [Bool.not_true, Bool.false_eq_true, if_false]
  refine wpAny_bind (wpAny_pure (wpAny_bind (wpAny_pure ?_)))
  refine wpAny_bind (samePairsH hr ha hb da db hits ?_)
  refine wpAny_pure ⟨_, rfl, ?_, ?_⟩
  · exact fun x => nomatch x
  · simpa using h
theorem rcH_ne {a b : Addr} {xa xb : List (K × Addr × Value)} {r : Bool} (hr : knd.room A.in1) (ha : (a == sysModules) = false) (hb : (b == sysModules) = false)
    (da : s.heap.DictOfH knd a xa) (db : s.heap.DictOfH knd b xb) (hu : A.units < cLine) (hits : xa.length = xb.length → HitsH prog w A.in1 s xb xa r) (E Q : Value → Shared → Prop) (h : Q (.bool (!(xa.length == xb.length && r))) s) : wpAny (model prog w) A (compareOp .NotEq (.ref a) (.ref b)) Q E s := by
  refine wpAny_richCompare_same_room (op := .NotEq) da.typeIs db.typeIs PySem.F.slot_dict_ne (wpAny_call_entry PySem.F.slot_dict_ne da.typeIs PySem.F.entry_dict_ne ?_ (PySem.F.args_dict_ne_2 _ _)) hu
  show wpAny _ _ (Builtin.Dict.dictSlotArgs "__ne__" ⟨[.ref a, .ref b], []⟩ >>= _) _ _ s
  refine wpAny_bind ?_
  unfold Builtin.Dict.dictSlotArgs
  refine wpAny_bind (wpAny_notOrdered_dict da.typeIs ?_)
  show wpAny _ _ (pure (Value.ref a, Value.ref b)) _ _ s
  refine wpAny_pure ?_
  refine wpAny_bind (wpAny_isInstance (T := "dict") db.typeIs PySem.F.sub_dict_dict ?_)
  simp only [Bool.not_true, Bool.false_eq_true, if_false]
  refine wpAny_bind (wpAny_pure (wpAny_bind (wpAny_pure ?_)))
  refine wpAny_bind (samePairsH hr ha hb da db hits ?_)
  refine wpAny_pure ⟨_, rfl, ?_, ?_⟩
  · exact fun x => nomatch x
  · simpa using h
end
/-! ### dicts of tuple keys, values ints -/
def intsT (kvs : List (List Key × V)) : Prop := ∀ p ∈ kvs, ∃ c : Int, p.2 = .int c
def keysT (kvs : List (List Key × V)) : List (List Key) := kvs.map (·.1)
theorem KT.keys {H : Hp} : ∀ {kvs : List (List Key × V)} {xs : List (List Key × Addr × Value)}, KT H kvs xs → xs.map (·.1) = keysT kvs
  | _, _, .nil => rfl
  | _, _, .cons r t => by
    rename_i a b l1 l2
    show b.1 :: l2.map (·.1) = a.1 :: keysT l1
    rw [KT.keys t, r.1]
theorem KT.mem {H : Hp} : ∀ {kvs : List (List Key × V)} {xs : List (List Key × Addr × Value)}, KT H kvs xs → ∀ {k : List Key} {v : V}, (k, v) ∈ kvs → ∃ q u, (k, q, u) ∈ xs ∧ RelV v u
  | _, _, .nil, _, _, h => nomatch h
  | kv :: kvs, x :: xs, .cons r t, k, v, h => by
    rcases List.mem_cons.mp h with e | e
    · cases e
      obtain ⟨k', q, u⟩ := x
      have e1 : k = k' := r.1
      subst e1
      exact ⟨q, u, List.mem_cons_self, r.2.2⟩
    · obtain ⟨q, u, h1, h2⟩ := KT.mem t e
      exact ⟨q, u, List.mem_cons_of_mem _ h1, h2⟩
theorem hits_true {P : Program} {w : World} {A : Around} {s : Shared} {H : Hp} {kb : List (List Key × V)} {xb : List (List Key × Addr × Value)} (rb : KT H kb xb) : ∀ {ka : List (List Key × V)} {xa : List (List Key × Addr × Value)}, KT H ka xa → intsT ka → (∀ p ∈ ka, p ∈ kb) → HitsH P w A s xb xa true
  | _, _, .nil, _, _ => .nil
  | (k, v) :: ka, (k', q, u) :: xa, .cons r t, hi, hs => by
    have e1 : k = k' := r.1
    subst e1
    obtain ⟨c, ec⟩ := hi (k, v) List.mem_cons_self
    have ec' : v = .int c := ec
    subst ec'
    obtain ⟨q', u', h1, h2⟩ := KT.mem rb (hs (k, .int c) List.mem_cons_self)
    have := hits_true (P := P) (w := w) (A := A) (s := s) rb t (fun p hp => hi p (List.mem_cons_of_mem _ hp)) fun p hp => hs p (List.mem_cons_of_mem _ hp)
    refine HitsH.hit (e := true) (b := true) (p := (q', u')) h1 ?_ this
    obtain ⟨t1, e1⟩ : ∃ t, u = .int c t := r.2.2
    obtain ⟨t2, e2⟩ : ∃ t, u' = .int c t := h2
    show SeqAt.EqP P w A s u u' true
    rw [e1, e2]
    have := (SeqAt.EqAt.int_int (A := A) (s := s) c t1 c t2).eqP (prog := P) (w := w)
    simpa using this
section
variable {X : Cx}
def SameT (ka kb : List (List Key × V)) : Prop := ka.length = kb.length ∧ (∀ p ∈ ka, p ∈ kb) ∧ intsT ka
theorem SameT.perm {ka kb : List (List Key × V)} (h : ka.Perm kb) (hi : intsT ka) : SameT ka kb := ⟨h.length_eq, fun p hp => h.mem_iff.mp hp, hi⟩
def rEqT : R2 := fun x y H Q => ∃ a b ka kb, x = .ref a ∧ y = .ref b ∧ Rd H a (.dT ka) ∧ Rd H b (.dT kb) ∧ SameT ka kb ∧ Q (.bl true) H
def rNeT : R2 := fun x y H Q => ∃ a b ka kb, x = .ref a ∧ y = .ref b ∧ Rd H a (.dT ka) ∧ Rd H b (.dT kb) ∧ SameT ka kb ∧ Q (.bl false) H
theorem op_neT (hu : X.A.units + 4 < cLine) : OpR X (compareOp .NotEq) rNeT := by
  intro pins s σ H x y v u Q I rx ry h
  obtain ⟨a, b, ka, kb, rfl, rfl, ha, hb, hs, q⟩ := h
  cases rx
  cases ry
  obtain ⟨za, ma, xa, pa, da⟩ := dt_rd I.hok ha
  obtain ⟨zb, mb, xb, pb, db⟩ := dt_rd I.hok hb
  have la : ka.length = xa.length := Paired.length pa
  have lb : kb.length = xb.length := Paired.length pb
  have he : (xa.length == xb.length && true) = true := by rw [← la, ← lb, hs.1]; simp
  refine rcH_ne (knd := tupleKind (mixKind X.prog X.w)) (r := true) (by show X.A.units + 1 < cLine; omega) ma mb da db (by omega) (fun _ => hits_true pb pa hs.2.2 hs.2.1) _ _ ?_
  rw [he]
  exact ⟨.bl false, H, I, rfl, q⟩
theorem op_eqT (hu : X.A.units + 4 < cLine) : OpR X (compareOp .Eq) rEqT := by
  intro pins s σ H x y v u Q I rx ry h
  obtain ⟨a, b, ka, kb, rfl, rfl, ha, hb, hs, q⟩ := h
  cases rx
  cases ry
  obtain ⟨za, ma, xa, pa, da⟩ := dt_rd I.hok ha
  obtain ⟨zb, mb, xb, pb, db⟩ := dt_rd I.hok hb
  have la : ka.length = xa.length := Paired.length pa
  have lb : kb.length = xb.length := Paired.length pb
  have he : (xa.length == xb.length && true) = true := by rw [← la, ← lb, hs.1]; simp
  refine rcH_dicts (knd := tupleKind (mixKind X.prog X.w)) (r := true) (by show X.A.units + 1 < cLine; omega) ma mb da db (by omega) (fun _ => hits_true pb pa hs.2.2 hs.2.1) _ _ ?_
  rw [he]
  exact ⟨.bl true, H, I, rfl, q⟩
/-- lists of such dicts -/
def DTs (H : Hp) : List Addr → List (List (List Key × V)) → Prop := Paired fun a k => Rd H a (.dT k)
def rEqLT : R2 := fun x y H Q => ∃ a b as bs kas kbs, x = .ref a ∧ y = .ref b ∧ H a = some (.lst (as.map V.ref)) ∧ H b = some (.lst (bs.map V.ref)) ∧ DTs H as kas ∧ DTs H bs kbs ∧ Paired SameT kas kbs ∧ (∀ c ∈ as, ∀ d ∈ bs, c ≠ d) ∧ Q (.bl true) H
theorem op_eqLT (hu : X.A.units + 4 < cLine) : OpR X (compareOp .Eq) rEqLT := by
  intro pins s σ H x y v u Q I rx ry h
  obtain ⟨a, b, as, bs, kas, kbs, rfl, rfl, ha, hb, da, db, hs, hne, q⟩ := h
  cases rx
  cases ry
  obtain ⟨zl, its, n, rl, el⟩ := I.hok a _ ha
  obtain ⟨zl2, its2, n2, rl2, el2⟩ := I.hok b _ hb
  have e1 : its = as.map Value.ref := refs_at rl
  have e2 : its2 = bs.map Value.ref := refs_at rl2
  subst e1 e2
  have l1 := Paired.length da
  have l2 := Paired.length db
  have l3 := Paired.length hs
  have hsz : (as.map Value.ref).toArray.size = (bs.map Value.ref).toArray.size := by
    simp only [List.size_toArray, List.length_map]; omega
  refine SeqAt.rcP_lists (e := fun _ => true) ⟨_, el, rfl, n, rfl⟩ ⟨_, el2, rfl, n2, rfl⟩ hsz (by omega) (fun j h1 h2 => ?_) _ _ ?_
  · have hj1 : j < as.length := by simpa using h1
    have hj2 : j < bs.length := by simpa using h2
    have f1 : (as.map Value.ref).toArray[j] = .ref as[j] := by simp
    have f2 : (bs.map Value.ref).toArray[j] = .ref bs[j] := by simp
    rw [f1, f2]
    obtain ⟨ka, ek, ra⟩ := LiI.paired_get da (List.getElem?_eq_getElem hj1)
    obtain ⟨kb, ek2, rb⟩ := LiI.paired_get db (List.getElem?_eq_getElem hj2)
    obtain ⟨kb', ek3, sm⟩ := LiI.paired_get hs ek
    rw [ek2] at ek3
    cases ek3
    refine SeqAt.eqP_refs (hne _ (List.getElem_mem hj1) _ (List.getElem_mem hj2)) fun E Q hq => ?_
    obtain ⟨za, ma, xa, pa, da⟩ := dt_rd I.hok ra
    obtain ⟨zb, mb, xb, pb, db⟩ := dt_rd I.hok rb
    have la : ka.length = xa.length := Paired.length pa
    have lb : kb.length = xb.length := Paired.length pb
    have he : (xa.length == xb.length && true) = true := by rw [← la, ← lb, sm.1]; simp
    refine rcH_dicts (knd := tupleKind (mixKind X.prog X.w)) (r := true) (by show X.A.units + 1 + 1 < cLine; omega) ma mb da db (by show X.A.units + 1 < cLine; omega) (fun _ => hits_true pb pa sm.2.2 sm.2.1) _ _ ?_
    rw [he]
    exact hq
  · have : (List.range (as.map Value.ref).toArray.size).all (fun _ => true) = true := by simp
    rw [this]
    exact ⟨.bl true, H, I, rfl, q⟩
end
end K24
end
section
set_option Elab.async false
set_option linter.all false
set_option maxRecDepth 100000
set_option maxHeartbeats 1000000
/-! invariants of comprehensions that only add objects -/
namespace K24
open PySem PySem.Spec PyProof.Rows L2
/-- the list at D holds acc i, all of H1 stands -/
def LcI (H1 : Hp) (D : Addr) (acc : Nat → List V) (i : Nat) (H : Hp) : Prop := Same H1 H ∧ H D = some (.lst (acc i))
section
variable {H1 H H4 : Hp} {D : Addr} {acc : Nat → List V} {i : Nat} {y : V}
theorem same_set {o : HO} (hD : H1 D = none) (s : Same H1 H) : Same H1 (upd H D o) := fun b u e => by
  rw [upd_ne (ne_of_none e hD)]
  exact s b u e
theorem lcI0 (hD : H1 D = none) (h0 : acc 0 = []) : LcI H1 D acc 0 (upd H1 D (.lst [])) := ⟨same_set hD (Same.refl _), by rw [upd_same, h0]⟩
theorem lcPut (hD : H1 D = none) (p : LcI H1 D acc i H) (s4 : Same H H4) (z : (acc i).length < sizeLine) (ea : acc (i + 1) = acc i ++ [y]) :
    ∃ a, H4 D = some (.lst a) ∧ a.length < sizeLine ∧ LcI H1 D acc (i + 1) (upd H4 D (.lst (a ++ [y]))) :=
  ⟨acc i, s4 D _ p.2, z, same_set hD (p.1.trans s4), by rw [upd_same, ea]⟩
theorem lcSkip (p : LcI H1 D acc i H) (s4 : Same H H4) (ea : acc (i + 1) = acc i) : LcI H1 D acc (i + 1) H4 := ⟨p.1.trans s4, by rw [ea]; exact s4 D _ p.2⟩
end
/-- the dict at D holds acc i, all of H1 stands -/
def DcI (H1 : Hp) (D : Addr) (acc : Nat → List (List Key × V)) (i : Nat) (H : Hp) : Prop := Same H1 H ∧ H D = some (.dT (acc i))
section
variable {H1 H H4 : Hp} {D q : Addr} {acc : Nat → List (List Key × V)} {i : Nat} {k : List Key} {y : V} {hu : Prop}
theorem dcI0 (hD : H1 D = none) (h0 : acc 0 = []) : DcI H1 D acc 0 (upd H1 D (.dT [])) := ⟨same_set hD (Same.refl _), by rw [upd_same, h0]⟩
theorem dcPut (hD : H1 D = none) (p : DcI H1 D acc i H) (s4 : Same H H4) (z : (acc i).length < sizeLine) (hk : H4 q = some (.tup (k.map kV))) (u : hu) (ea : acc (i + 1) = putK (acc i) k y) :
    ∃ kvs k' q', V.ref q = .ref q' ∧ H4 q' = some (.tup (List.map kV k')) ∧ H4 D = some (.dT kvs) ∧ kvs.length < sizeLine ∧ hu ∧ DcI H1 D acc (i + 1) (upd H4 D (.dT (putK kvs k' y))) :=
  ⟨acc i, k, q, rfl, hk, s4 D _ p.2, z, u, same_set hD (p.1.trans s4), by rw [upd_same, ea]⟩
theorem dcSkip (p : DcI H1 D acc i H) (s4 : Same H H4) (ea : acc (i + 1) = acc i) : DcI H1 D acc (i + 1) H4 := ⟨p.1.trans s4, by rw [ea]; exact s4 D _ p.2⟩
end
/-- a fold, by turns -/
def accL {α β : Type} (f : β → α → β) (b : β) (xs : List α) (i : Nat) : β := (xs.take i).foldl f b
theorem accL_zero {α β : Type} (f : β → α → β) (b : β) (xs : List α) : accL f b xs 0 = b := rfl
theorem accL_succ {α β : Type} (f : β → α → β) (b : β) (xs : List α) {i : Nat} {x : α} (h : xs[i]? = some x) : accL f b xs (i + 1) = f (accL f b xs i) x := by
  unfold accL
  rw [List.take_succ, h, List.foldl_append]
  rfl
theorem accL_all {α β : Type} (f : β → α → β) (b : β) (xs : List α) : accL f b xs xs.length = xs.foldl f b := by
  unfold accL
  rw [List.take_length]
theorem foldl_snoc {α β : Type} (g : α → β) : ∀ (xs : List α) (b : List β), xs.foldl (fun acc x => acc ++ [g x]) b = b ++ xs.map g
  | [], b => by simp
  | x :: xs, b => by rw [List.foldl_cons, foldl_snoc g xs, List.map_cons, List.append_assoc]; rfl
theorem foldl_filt {α β : Type} (t : α → Bool) (g : α → β) : ∀ (xs : List α) (b : List β), xs.foldl (fun acc x => if t x then acc ++ [g x] else acc) b = b ++ (xs.filter t).map g
  | [], b => by simp
  | x :: xs, b => by
    rw [List.foldl_cons, foldl_filt t g xs, List.filter_cons]
    cases t x <;> simp
theorem accL_len {α β : Type} (f : List β → α → List β) (hf : ∀ b x, (f b x).length ≤ b.length + 1) : ∀ (xs : List α) (b : List β), (xs.foldl f b).length ≤ b.length + xs.length
  | [], b => Nat.le_refl _
  | x :: xs, b => by
    have := accL_len f hf xs (f b x)
    have := hf b x
    rw [List.foldl_cons, List.length_cons]; omega
theorem accL_le {α β : Type} {f : List β → α → List β} (hf : ∀ b x, (f b x).length ≤ b.length + 1) (xs : List α) (i : Nat) : (accL f [] xs i).length ≤ xs.length := by
  have h := accL_len f hf (xs.take i) []
  have : (xs.take i).length ≤ xs.length := by rw [List.length_take]; omega
  unfold accL
  simp at h ⊢; omega
theorem ite_yes {a b : Prop} (h : a) : if (true : Bool) = true then a else b := by rw [if_pos rfl]; exact h
theorem ite_no {a b : Prop} (h : b) : if (false : Bool) = true then a else b := by rw [if_neg (by decide)]; exact h
theorem ite_dec {c : Prop} [Decidable c] {a b : Prop} (h1 : c → a) (h2 : ¬ c → b) : if (decide c) = true then a else b := by
  by_cases h : c
  · rw [if_pos (decide_eq_true h)]; exact h1 h
  · rw [if_neg (by simpa using h)]; exact h2 h
end K24
end
section
set_option Elab.async false
set_option linter.all false
set_option maxRecDepth 100000
set_option maxHeartbeats 1000000
/-! forms as dicts with tuple keys -/
namespace K24
open PySem PySem.Spec PyProof.Rows L2
def inK (k : Ex) : List Key := k.map Sum.inl
def enF (F : Fm) : List (List Key × V) := F.map fun kv => (inK kv.1, V.int kv.2)
theorem inK_inj {a b : Ex} (h : inK a = inK b) : a = b := by
  have e := congrArg (List.map fun x : Key => match x with | .inl i => i | .inr _ => 0) h
  unfold inK at e
  rw [List.map_map, List.map_map] at e
  simpa [Function.comp_def] using e
theorem kV_inK (k : Ex) : (inK k).map kV = k.map V.int := kV_ints k
theorem enF_keys (F : Fm) : (enF F).map (·.1) = (keys F).map (List.map Sum.inl) := by
  unfold enF keys
  rw [List.map_map, List.map_map]
  rfl
theorem enF_len (F : Fm) : (enF F).length = F.length := by unfold enF; rw [List.length_map]
theorem enF_get {F : Fm} {i : Nat} {k : List Key} {v : V} (h : (enF F)[i]? = some (k, v)) : ∃ e c, F[i]? = some (e, c) ∧ k = inK e ∧ v = .int c := by
  unfold enF at h
  rw [List.getElem?_map] at h
  cases q : F[i]? with
  | none => rw [q] at h; cases h
  | some kv =>
    rw [q] at h
    cases h
    exact ⟨kv.1, kv.2, rfl, rfl, rfl⟩
theorem valV_enF (F : Fm) (k : Ex) : valV (enF F) (inK k) = (val F k).map V.int := by
  induction F with
  | nil => rfl
  | cons a F ih =>
    rw [val_cons]
    show ((List.find? _ ((inK a.1, V.int a.2) :: enF F)).map _) = _
    rw [List.find?_cons]
    by_cases e : a.1 = k
    · rw [if_pos e]
      have : decide (inK a.1 = inK k) = true := decide_eq_true (by rw [e])
      rw [this]
      rfl
    · rw [if_neg e]
      have : decide (inK a.1 = inK k) = false := decide_eq_false fun z => e (inK_inj z)
      rw [this]
      exact ih
theorem any_enF (F : Fm) (k : Ex) : ((enF F).any fun kv => decide (kv.1 = inK k)) = F.any fun kv => decide (kv.1 = k) := by
  unfold enF
  rw [List.any_map]
  congr 1
  funext kv
  show decide (inK kv.1 = inK k) = _
  by_cases e : kv.1 = k
  · rw [decide_eq_true e, decide_eq_true (by rw [e])]
  · rw [decide_eq_false e, decide_eq_false fun z => e (inK_inj z)]
theorem putK_enF (F : Fm) (k : Ex) (v : Int) : putK (enF F) (inK k) (.int v) = enF (put F k v) := by
  unfold putK put
  rw [any_enF]
  cases hb : F.any fun kv => decide (kv.1 = k) with
  | true =>
    simp only [if_true]
    unfold enF
    rw [List.map_map, List.map_map]
    refine List.map_congr_left fun kv _ => ?_
    show (if inK kv.1 = inK k then (inK kv.1, V.int v) else (inK kv.1, V.int kv.2)) = _
    by_cases e : kv.1 = k
    · rw [if_pos (by rw [e])]
      show _ = (inK (if kv.1 = k then (kv.1, v) else kv).1, V.int (if kv.1 = k then (kv.1, v) else kv).2)
      rw [if_pos e]
    · rw [if_neg fun z => e (inK_inj z)]
      show _ = (inK (if kv.1 = k then (kv.1, v) else kv).1, V.int (if kv.1 = k then (kv.1, v) else kv).2)
      rw [if_neg e]
  | false =>
    simp only [Bool.false_eq_true, if_false]
    unfold enF
    rw [List.map_append]
    rfl
theorem mergeT_enF (G : Fm) : ∀ F : Fm, mergeT (enF F) (enF G) = enF (G.foldl (fun acc kv => put acc kv.1 kv.2) F) := by
  induction G with
  | nil => intro F; rfl
  | cons a G ih =>
    intro F
    show mergeT (putK (enF F) (inK a.1) (.int a.2)) (enF G) = _
    rw [putK_enF, ih]
    rfl
theorem foldl_put_nodup : ∀ (G F : Fm), (keys (F ++ G)).Nodup → G.foldl (fun acc kv => put acc kv.1 kv.2) F = F ++ G
  | [], F, _ => by simp
  | a :: G, F, h => by
    have hn : a.1 ∉ keys F := by
      rw [keys_append, keys_cons, List.nodup_append] at h
      intro z
      exact h.2.2 a.1 z a.1 List.mem_cons_self rfl
    rw [List.foldl_cons, put_new _ hn, foldl_put_nodup G (F ++ [(a.1, a.2)]) (by simpa using h)]
    simp
theorem mergeT_nil {G : Fm} (h : (keys G).Nodup) : mergeT [] (enF G) = enF G := by
  have := mergeT_enF G []
  rw [foldl_put_nodup G [] (by simpa using h)] at this
  exact this
section
variable {H : Hp} {a q : Addr} {F : Fm} {k : Ex}
theorem dget_enF (h : Rd H a (.dT (enF F))) (hq : H q = some (.tup (k.map V.int))) : DGet H a (.ref q) ((val F k).map V.int) :=
  .inr ⟨enF F, inK k, q, h, rfl, by rw [kV_inK]; exact hq, by rw [valV_enF]⟩
theorem getD_co (F : Fm) (k : Ex) : ((val F k).map V.int).getD (.int 0) = .int (co F k) := by
  unfold co
  cases val F k <;> rfl
theorem dget_mem (h : Rd H a (.dT (enF F))) (hq : H q = some (.tup (k.map V.int))) (hk : k ∈ keys F) : DGet H a (.ref q) (some (.int (co F k))) := by
  obtain ⟨v, e⟩ := val_some_of_mem hk
  have := dget_enF h hq
  rw [e] at this
  have e2 : co F k = v := by unfold co; rw [e]; rfl
  rw [e2]; exact this
end
/-- a locked thing let go -/
theorem same_unlock {H H' : Hp} {d : Addr} {o : Obj} {u : HO} (hd : H d = some u) (s : Same (upd H d (.frz o u)) H') : Same H (upd H' d u) := fun b v e => by
  by_cases h : b = d
  · subst h
    rw [hd] at e
    cases e
    exact upd_same
  · rw [upd_ne h]
    exact s b v (by rw [upd_ne h]; exact e)
/-- the room for sorted by tuples -/
theorem hu64 {A : Around} {k : Nat} (hr : Room k A) : A.units + 64 < cLine := hr.units
end K24
end
section
set_option Elab.async false
set_option linter.all false
set_option maxRecDepth 100000
set_option maxHeartbeats 1000000
/-! the texts of the defs, what their promises speak of -/
namespace K24
open PySem PySem.Spec PyProof.Rows L2
def top (i : Nat) : Stmt := PySem.Challenge.pw_evencoins_k24_whole_forms_of_gates.main.body.getD i (.Pass ⟨0, 0, 0, 0⟩)
def clsBody : Stmt → List Stmt
  | .ClassDef _ _ _ b _ _ _ _ _ _ _ => b
  | _ => []
def topC (i j : Nat) : Stmt := (clsBody (top i)).getD j (.Pass ⟨0, 0, 0, 0⟩)
abbrev s_is_integer : Stmt := top 11
abbrev s_is_within : Stmt := top 12
abbrev s_require_field_field : Stmt := top 13
abbrev s_is_field : Stmt := top 15
abbrev s_is_number : Stmt := top 16
abbrev s_lowered : Stmt := top 18
abbrev s_cleaned : Stmt := top 19
abbrev s_constant_form : Stmt := top 20
abbrev s_letter_form : Stmt := top 21
abbrev s_form_sum : Stmt := top 22
abbrev s_form_scaled : Stmt := top 23
abbrev s_form_product : Stmt := top 24
abbrev s_is_from : Stmt := top 38
abbrev s_is_gate : Stmt := top 39
abbrev s_are_houses : Stmt := top 40
abbrev s_is_output : Stmt := top 41
abbrev s_many_of : Stmt := top 42
abbrev s_are_gates : Stmt := top 43
abbrev s_are_outputs : Stmt := top 44
abbrev s_C_init : Stmt := topC 45 1
abbrev s_C_inputs : Stmt := topC 45 4
abbrev s_C_meaning : Stmt := topC 45 8
abbrev s_meaning_in : Stmt := top 46
abbrev s_looks_of : Stmt := top 47
abbrev s_hanging : Stmt := top 48
abbrev s_gate_form : Stmt := top 49
abbrev s_forms_to : Stmt := top 50
abbrev s_require_field_circuits : Stmt := top 51
abbrev s_require_circuit : Stmt := top 53
abbrev s_are_numbers : Stmt := top 54
abbrev s_require_numbers : Stmt := top 55
abbrev s_form_of : Stmt := top 56
abbrev s_law_dice : Stmt := top 58
abbrev s_law_roll : Stmt := top 59
abbrev s_law_pick : Stmt := top 60
abbrev s_law_dr_gate : Stmt := top 61
abbrev s_law_dr_gates : Stmt := top 62
abbrev s_law_dr_numbers : Stmt := top 63
abbrev s_law_dr_inputs : Stmt := top 64
abbrev s_law_fd_times : Stmt := top 65
abbrev s_law_ci_inputs : Stmt := top 66
abbrev s_law_lowered : Stmt := top 67
abbrev s_law_form_sum : Stmt := top 68
abbrev s_law_form_product : Stmt := top 69
abbrev s_law_forms : Stmt := top 70
abbrev s_law_form_value : Stmt := top 71
abbrev s_law_gates_drawn : Stmt := top 72
abbrev s_law_right : Stmt := top 73
abbrev s_law : Stmt := top 74
/-- a def of the module: its module's name, its own name -/
def DefM (K : PySem.W.Frag) (mg : Str → Option Value) (g x : Str) (st : Stmt) : Prop := ∃ (f : Addr) (fd : FuncData), L2.Fun K x x st f fd ∧ mg g = some (.ref f)
theorem calM {P : Program} {w : World} {K : PySem.W.Frag} {mg : Str → Option Value} {base : Heap} {g x : Str} {st : Stmt} {N ps : List Str} {k : Nat} {sp : Sp} (D : DefM K mg g x st) (S : FnScope N ps (defScope st)) (len : ∀ vs H Q E, sp vs H Q E → vs.length = ps.length)
    (hb : ∀ (kV doc pm : Value) (an : Option Addr) (cdv ct : Value) (us : List Value), us.length = ps.length → bindArgs (PySem.W.fnOf x x (defArgs st) (defBody st) (defScope st) .none kV doc pm an cdv ct) ⟨us, []⟩ = pure (ps.zip us))
    (hbody : ∀ (f : Addr) (cdv : Value) (A : Around) (outer : List Env) (s : Shared) (H : Hp) (vs : List V) (Q : VK) (E : XK), Room k (A.deeper (envOfC x (defScope st) s.heap.objs.size f cdv)) → sp vs H Q E →
      ∃ t, PSs (cxOf CX0 P w K mg base N x (defScope st) f cdv A outer s H E).nox (defBody st) t ∧ t { nx := fun _ H' => Q .non H', rt := Q } (start N vs) H) : C8.Cal P w K mg base (k + 1) g sp [] := by
  obtain ⟨f, fd, F, hm⟩ := D
  exact ⟨f, fd, ps, [], F.ok S len (hbody f), hm, F.kp, F.binds hb, .nil⟩
/-- the module's names that are the built-ins still -/
structure GB (mg : Str → Option Value) : Prop where
  isinstance : mg "isinstance" = none
  int : mg "int" = none
  bool : mg "bool" = none
  all : mg "all" = none
  range : mg "range" = none
  min : mg "min" = none
  max : mg "max" = none
  abs : mg "abs" = none
  tuple : mg "tuple" = none
  str : mg "str" = none
  sorted : mg "sorted" = none
  zip : mg "zip" = none
  dict : mg "dict" = none
  len : mg "len" = none
  enumerate : mg "enumerate" = none
  list : mg "list" = none
/-- a module's constant -/
def Con (mg : Str → Option Value) (x : Str) (v : V) : Prop := ∃ u, mg x = some u ∧ RelV v u
structure GC (mg : Str → Option Value) : Prop where
  b : GB mg
  lf : Con mg "LEAST_FIELD" (.int 5)
  mf : Con mg "MAX_FIELD" (.int 997)
  mp : Con mg "MOST_PART" (.int 32)
  mG : Con mg "MAX_GATES" (.int 60)
  mP : Con mg "MAX_PRODUCTS" (.int 12)
  mI : Con mg "MAX_INPUTS" (.int 8)
  mO : Con mg "MAX_OUTPUTS" (.int 6)
  mT : Con mg "MAX_TERMS" (.int 2000)
  mN : Con mg "MOST_NUMBER" (.int 996)
  mH : Con mg "MOST_HOUSE" (.int 9)
  cI : Con mg "INPUT" (.str "input")
  cC : Con mg "CONSTANT" (.str "constant")
  cS : Con mg "SUM" (.str "sum")
  cM : Con mg "MULTIPLE" (.str "times")
  cP : Con mg "PRODUCT" (.str "product")
theorem Same.upd' {H : Hp} {p : Addr} {o : HO} (h : H p = none) : Same H (upd H p o) := same_upd h
theorem Same.then {H H1 : Hp} {p : Addr} {o : HO} (h : Same H H1) (n : H1 p = none) : Same H (upd H1 p o) := h.trans (same_upd n)
end K24
end
section
set_option Elab.async false
set_option linter.all false
set_option maxRecDepth 100000
set_option maxHeartbeats 1000000
/-! defs of base.field -/
namespace K24
open PySem PySem.Spec PyProof.Rows L2
section
variable {P : Program} {w : World} {K : PySem.W.Frag} {mg : Str → Option Value} {base : Heap}
/-! ### is_integer -/
theorem sc_is_integer : FnScope ["value"] ["value"] (defScope s_is_integer) := ⟨rfl, rfl, rfl, by decide +kernel, rfl, by decide +kernel, by decide +kernel⟩
def sp_is_integer : Sp := fun vs H Q _ => ∃ i, vs = [.int i] ∧ Q (.bl true) H
theorem cal_is_integer (D : DefM K mg "is_integer" "is_integer" s_is_integer) (g : GB mg) : C8.Cal P w K mg base 1 "is_integer" sp_is_integer [] := by
  refine calM D sc_is_integer (fun vs H Q E h => by obtain ⟨i, rfl, _⟩ := h; rfl) (fun _ _ _ _ _ _ us hl => match us, hl with | [_], _ => rfl) fun f cdv A outer s H vs Q E hr h => ?_
  refine ⟨_, pss_one (ps_ret (pe_and (pe_callB call_isi (by rfl) g.isinstance (by decide +kernel) (pa_cons (pv 0) (pa_cons (pe_bltn (v := .ty "int") (by rfl) g.int (by decide +kernel) rfl) pa_nil)))
    (pe_one (pe_not (pe_callB call_isi (by rfl) g.isinstance (by decide +kernel) (pa_cons (pv 0) (pa_cons (pe_bltn (v := .ty "bool") (by rfl) g.bool (by decide +kernel) rfl) pa_nil))))))), ?_⟩
  obtain ⟨i, rfl, q⟩ := h
  refine ⟨_, rfl, _, _, _, _, true, rfl, .ty "int", .base (.int i), kit_ty (by decide +kernel), _, rfl, ?_⟩
  rw [if_pos rfl]
  exact ⟨_, rfl, _, _, _, _, false, rfl, .ty "bool", .base (.int i), kit_ty (by decide +kernel), _, rfl, q⟩
/-! ### is_within -/
theorem sc_is_within : FnScope ["value", "least", "most"] ["value", "least", "most"] (defScope s_is_within) := ⟨rfl, rfl, rfl, by decide +kernel, rfl, by decide +kernel, by decide +kernel⟩
def sp_is_within : Sp := fun vs H Q _ => ∃ i a b, vs = [.int i, .int a, .int b] ∧ Q (.bl (decide (a ≤ i ∧ i ≤ b))) H
theorem cal_is_within (D : DefM K mg "is_within" "is_within" s_is_within) (c : C8.Cal P w K mg base 1 "is_integer" sp_is_integer []) : C8.Cal P w K mg base 2 "is_within" sp_is_within [] := by
  refine calM D sc_is_within (fun vs H Q E h => by obtain ⟨i, _, _, rfl, _⟩ := h; rfl) (fun _ _ _ _ _ _ us hl => match us, hl with | [_, _, _], _ => rfl) fun f cdv A outer s H vs Q E hr h => ?_
  refine ⟨_, pss_one (ps_ret (pe_and (C8.pe_c c hr (by decide) (by rfl) (pa_cons (pv 0) pa_nil)) (pe_one (pe_chain op_le op_le (pv 1) (pv 0) (pv 2))))), ?_⟩
  obtain ⟨i, a, b, rfl, q⟩ := h
  refine ⟨_, rfl, _, rfl, _, rfl, ?_⟩
  rw [if_pos rfl]
  refine ⟨_, rfl, _, rfl, _, _, rfl, rfl, _, rfl, ?_⟩
  by_cases h1 : a ≤ i
  · rw [if_pos (decide_eq_true h1)]
    refine ⟨_, rfl, _, _, rfl, rfl, ?_⟩
    have e : decide (a ≤ i ∧ i ≤ b) = decide (i ≤ b) := by simp [h1]
    show Q (.bl (decide (i ≤ b))) H
    rw [← e]; exact q
  · rw [if_neg (by simpa using h1)]
    have e : decide (a ≤ i ∧ i ≤ b) = false := by simp [h1]
    show Q (.bl false) H
    rw [← e]; exact q
/-! ### is_field -/
def FieldOk (p : Int) : Prop := 5 ≤ p ∧ p ≤ 997 ∧ ∀ k : Int, 2 ≤ k → k < p → k < 32 → p % k ≠ 0
theorem sc_is_field : FnScope ["value", "part"] ["value"] (defScope s_is_field) := ⟨rfl, rfl, rfl, by decide +kernel, rfl, by decide +kernel, by decide +kernel⟩
def sp_is_field : Sp := fun vs H Q _ => ∃ p, vs = [.int p] ∧ FieldOk p ∧ ∀ H', Same H H' → Q (.bl true) H'
theorem cal_is_field (D : DefM K mg "is_field" "is_field" s_is_field) (G : GC mg) (c : C8.Cal P w K mg base 2 "is_within" sp_is_within []) : C8.Cal P w K mg base 3 "is_field" sp_is_field [] := by
  refine calM D sc_is_field (fun vs H Q E h => by obtain ⟨i, rfl, _⟩ := h; rfl) (fun _ _ _ _ _ _ us hl => match us, hl with | [_], _ => rfl) fun f cdv A outer s H vs Q E hr h => ?_
  refine ⟨_, pss_cons (ps_if (pt_not (pt_val (C8.pe_c c hr (by decide) (by rfl) (pa_cons (pv 0) (pa_cons (C8.pe_gc (by rfl) G.lf) (pa_cons (C8.pe_gc (by rfl) G.mf) pa_nil)))))) (pss_one (ps_ret pe_bl)) pss_nil)
    (pss_one (ps_ret (pe_callB (cr_all rfl) (by rfl) G.b.all (by decide +kernel) (pa_cons (pe_lc (own := [("part", 1)]) (g := gName 1) (tt := tYes) rfl sc_is_field.nd
      (pi_range2 (by rfl) G.b.range (pa_cons pe_int (pa_cons (pe_callB (call_min2 rfl) (by rfl) G.b.min (by decide +kernel) (pa_cons (pv 0) (pa_cons (C8.pe_gc (by rfl) G.mp) pa_nil))) pa_nil)))
      (blkOk_by (N := ["value", "part"]) (sc := defScope s_is_field) (by decide +kernel)) (fun _ _ _ _ _ => pg_name (i := 1) sc_is_field.nd rfl (Or.inl rfl)) (fun _ _ _ _ _ => pts_nil)
      (fun _ _ _ _ _ => pe_cmpR op_ne (pe_op op_mod (pv 0) (pv 1)) pe_int (nomark _))) pa_nil)))), ?_⟩
  obtain ⟨p, rfl, ⟨h5, h997, hf⟩, q⟩ := h
  refine ⟨_, rfl, _, _, _, rfl, ?_⟩
  refine ⟨_, rfl, ?_⟩
  have e : decide ((5 : Int) ≤ p ∧ p ≤ 997) = true := decide_eq_true ⟨h5, h997⟩
  rw [e]
  refine ⟨_, rfl, _, _, rfl, ?_⟩
  obtain ⟨m, em, hm⟩ : ∃ m : Int, (if (32 : Int) < p then (32 : Int) else p) = m ∧ (2 ≤ m ∧ m ≤ p ∧ m ≤ 32) := ⟨_, rfl, by split <;> omega⟩
  rw [em]
  refine ⟨_, _, rfl, ⟨by decide, by decide, by omega, by omega⟩, fun Dl hD => ?_⟩
  refine lc_it walk_range (LcI H Dl fun i => List.replicate i (.bl true)) (lcI0 hD rfl) (fun _ _ _ _ => True.intro) (fun i x H1 H2 hi p1 y => ?_) (fun H1 p1 => ?_)
  · obtain ⟨rfl, rfl⟩ := y
    refine ⟨rfl, ?_⟩
    refine ⟨_, rfl, _, rfl, _, _, rfl, rfl, ?_, ?_⟩
    · show (0 : Int) < 2 + (i : Int)
      omega
    · refine ⟨rfl, ?_⟩
      have hne : p % (2 + (i : Int)) ≠ 0 := hf _ (by omega) (by omega) (by omega)
      have e2 : decide (V.int (p % (2 + (i : Int))) = V.int 0) = false := decide_eq_false fun z => hne (V.int.inj z)
      rw [e2]
      exact lcPut hD p1 (Same.refl _) (by rw [List.length_replicate]; exact small1000 (by omega)) (by rw [List.replicate_succ'] <;> rfl)
  · refine ⟨Dl, List.replicate (m - 2).toNat true, rfl, .inl (.inl (by rw [List.map_replicate]; exact p1.2)), ?_⟩
    have e3 : (List.replicate (m - 2).toNat true).all id = true := by simp
    rw [e3]
    exact q _ p1.1
/-! ### require_field -/
theorem sc_require_field_field : FnScope ["value"] ["value"] (defScope s_require_field_field) := ⟨rfl, rfl, rfl, by decide +kernel, rfl, by decide +kernel, by decide +kernel⟩
theorem sc_require_field_circuits : FnScope ["value"] ["value"] (defScope s_require_field_circuits) := ⟨rfl, rfl, rfl, by decide +kernel, rfl, by decide +kernel, by decide +kernel⟩
def sp_require_field : Sp := fun vs H Q _ => ∃ p, vs = [.int p] ∧ FieldOk p ∧ ∀ H', Same H H' → Q .non H'
theorem cal_require_field_field (D : DefM K mg "require_field_field" "require_field" s_require_field_field) (c : C8.Cal P w K mg base 3 "is_field" sp_is_field []) : C8.Cal P w K mg base 4 "require_field_field" sp_require_field [] := by
  refine calM D sc_require_field_field (fun vs H Q E h => by obtain ⟨i, rfl, _⟩ := h; rfl) (fun _ _ _ _ _ _ us hl => match us, hl with | [_], _ => rfl) fun f cdv A outer s H vs Q E hr h => ?_
  refine ⟨_, pss_one (ps_if (pt_not (pt_val (C8.pe_c c hr (by decide) (by rfl) (pa_cons (pv 0) pa_nil)))) (pss_one ps_never) pss_nil), ?_⟩
  obtain ⟨p, rfl, hp, q⟩ := h
  refine ⟨_, rfl, _, rfl, hp, fun H1 s1 => ⟨_, rfl, ?_⟩⟩
  exact q _ s1
theorem cal_require_field_circuits (D : DefM K mg "require_field_circuits" "require_field" s_require_field_circuits) (c : C8.Cal P w K mg base 3 "is_field" sp_is_field []) : C8.Cal P w K mg base 4 "require_field_circuits" sp_require_field [] := by
  refine calM D sc_require_field_circuits (fun vs H Q E h => by obtain ⟨i, rfl, _⟩ := h; rfl) (fun _ _ _ _ _ _ us hl => match us, hl with | [_], _ => rfl) fun f cdv A outer s H vs Q E hr h => ?_
  refine ⟨_, pss_one (ps_if (pt_not (pt_val (C8.pe_c c hr (by decide) (by rfl) (pa_cons (pv 0) pa_nil)))) (pss_one ps_never) pss_nil), ?_⟩
  obtain ⟨p, rfl, hp, q⟩ := h
  refine ⟨_, rfl, _, rfl, hp, fun H1 s1 => ⟨_, rfl, ?_⟩⟩
  exact q _ s1
/-! ### is_number -/
theorem sc_is_number : FnScope ["field", "value"] ["field", "value"] (defScope s_is_number) := ⟨rfl, rfl, rfl, by decide +kernel, rfl, by decide +kernel, by decide +kernel⟩
def sp_is_number : Sp := fun vs H Q _ => ∃ p i, vs = [.int p, .int i] ∧ FieldOk p ∧ ∀ H', Same H H' → Q (.bl (decide (0 ≤ i ∧ i ≤ p - 1))) H'
theorem cal_is_number (D : DefM K mg "is_number" "is_number" s_is_number) (c : C8.Cal P w K mg base 4 "require_field_field" sp_require_field []) (c2 : C8.Cal P w K mg base 2 "is_within" sp_is_within []) : C8.Cal P w K mg base 5 "is_number" sp_is_number [] := by
  refine calM D sc_is_number (fun vs H Q E h => by obtain ⟨_, i, rfl, _⟩ := h; rfl) (fun _ _ _ _ _ _ us hl => match us, hl with | [_, _], _ => rfl) fun f cdv A outer s H vs Q E hr h => ?_
  refine ⟨_, pss_cons (ps_expr (C8.pe_c c hr (by decide) (by rfl) (pa_cons (pv 0) pa_nil))) (pss_one (ps_ret (C8.pe_c c2 hr (by decide) (by rfl) (pa_cons (pv 1) (pa_cons pe_int (pa_cons (pe_op op_sub (pv 0) pe_int) pa_nil)))))), ?_⟩
  obtain ⟨p, i, rfl, hp, q⟩ := h
  refine ⟨_, rfl, _, rfl, hp, fun H1 s1 => ?_⟩
  refine ⟨_, rfl, _, rfl, _, _, rfl, rfl, _, _, _, rfl, ?_⟩
  exact q _ s1
/-! ### lowered -/
theorem sc_lowered : FnScope ["field", "exponent"] ["field", "exponent"] (defScope s_lowered) := ⟨rfl, rfl, rfl, by decide +kernel, rfl, by decide +kernel, by decide +kernel⟩
def sp_lowered : Sp := fun vs H Q _ => ∃ p e, vs = [.int p, .int e] ∧ 1 < p ∧ Q (.int (low p e)) H
theorem cal_lowered (D : DefM K mg "lowered" "lowered" s_lowered) : C8.Cal P w K mg base 1 "lowered" sp_lowered [] := by
  refine calM D sc_lowered (fun vs H Q E h => by obtain ⟨_, i, rfl, _⟩ := h; rfl) (fun _ _ _ _ _ _ us hl => match us, hl with | [_, _], _ => rfl) fun f cdv A outer s H vs Q E hr h => ?_
  refine ⟨_, pss_one (ps_ret (pe_ifExp (pt_cmpR op_lt (pv 1) (pv 0) (nomark _)) (pv 1) (pe_op op_add (pe_op op_mod (pe_op op_sub (pv 1) pe_int) (pe_op op_sub (pv 0) pe_int)) pe_int))), ?_⟩
  obtain ⟨p, e, rfl, hp, q⟩ := h
  refine ⟨_, rfl, _, rfl, _, _, rfl, rfl, _, rfl, ?_⟩
  refine ite_dec (fun h => ⟨_, rfl, ?_⟩) (fun h => ⟨_, rfl, _, _, rfl, rfl, _, rfl, _, _, rfl, rfl, _, _, rfl, rfl, ?_, _, _, rfl, rfl, ?_⟩)
  · have e1 : low p e = e := if_pos h
    show Q (.int e) H
    rw [← e1]; exact q
  · show (0 : Int) < p - 1
    omega
  · have e1 : low p e = (e - 1) % (p - 1) + 1 := if_neg h
    show Q (.int ((e - 1) % (p - 1) + 1)) H
    rw [← e1]; exact q
end
end K24
end
section
set_option Elab.async false
set_option linter.all false
set_option maxRecDepth 100000
set_option maxHeartbeats 1000000
/-! defs of plan.forms -/
namespace K24
open PySem PySem.Spec PyProof.Rows L2
theorem fold_put (g : Ex → Int) (c : Ex → Prop) [DecidablePred c] : ∀ (l : List Ex) (A : Fm), (∀ k ∈ l, k ∉ keys A) → l.Nodup → l.foldl (fun A k => if c k then A else put A k (g k)) A = A ++ l.filterMap fun k => if c k then none else some (k, g k)
  | [], A, _, _ => by simp
  | k :: l, A, h, nd => by
    have nd' := List.nodup_cons.mp nd
    rw [List.foldl_cons, List.filterMap_cons]
    by_cases e : c k
    · rw [if_pos e, if_pos e]
      exact fold_put g c l A (fun j hj => h j (List.mem_cons_of_mem _ hj)) nd'.2
    · rw [if_neg e, if_neg e, put_new _ (h k List.mem_cons_self)]
      rw [fold_put g c l (A ++ [(k, g k)]) (fun j hj z => ?_) nd'.2]
      · simp
      · rw [keys_append] at z
        rcases List.mem_append.mp z with z | z
        · exact h j (List.mem_cons_of_mem _ hj) z
        · have : j = k := by simpa [keys] using z
          exact nd'.1 (this ▸ hj)
/-- the fold of cleaned -/
def clF (p : Int) (F : Fm) (A : Fm) (k : Ex) : Fm := if co F k % p = 0 then A else put A k (co F k % p)
theorem clF_all {p : Int} {F : Fm} (h : (keys F).Nodup) : (sortK (keys F)).foldl (clF p F) [] = cleanC p F := by
  have := fold_put (fun k => co F k % p) (fun k => co F k % p = 0) (sortK (keys F)) [] (fun _ _ z => nomatch z) ((sortK_perm _).symm.nodup h)
  exact this
theorem clF_len (p : Int) (F : Fm) (A : Fm) (k : Ex) : (clF p F A k).length ≤ A.length + 1 := by
  unfold clF
  split
  · omega
  · exact length_put ..
def SK (F : Fm) : Prop := (keys F).length ≤ 1 ∨ ∀ k ∈ keys F, k ≠ []
section
variable {P : Program} {w : World} {K : PySem.W.Frag} {mg : Str → Option Value} {base : Heap}
/-! ### cleaned -/
theorem sc_cleaned : FnScope ["field", "found", "key"] ["field", "found"] (defScope s_cleaned) := ⟨rfl, rfl, rfl, by decide +kernel, rfl, by decide +kernel, by decide +kernel⟩
def sp_cleaned : Sp := fun vs H Q _ => ∃ p a F, vs = [.int p, .ref a] ∧ 0 < p ∧ Rd H a (.dT (enF F)) ∧ (keys F).Nodup ∧ SK F ∧ F.length < sizeLine ∧ ∀ H' r, Same H H' → H' r = some (.dT (enF (cleanC p F))) → Q (.ref r) H'
theorem Same.rd {H H' : Hp} (s : Same H H') {a : Addr} {u : HO} (h : Rd H a u) : Rd H' a u := by
  rcases h with h | ⟨o, h⟩
  · exact .inl (s _ _ h)
  · exact .inr ⟨o, s _ _ h⟩
theorem cal_cleaned (D : DefM K mg "cleaned" "cleaned" s_cleaned) (g : GB mg) : C8.Cal P w K mg base 1 "cleaned" sp_cleaned [] := by
  refine calM D sc_cleaned (fun vs H Q E h => by obtain ⟨_, _, _, rfl, _⟩ := h; rfl) (fun _ _ _ _ _ _ us hl => match us, hl with | [_, _], _ => rfl) fun f cdv A outer s H vs Q E hr h => ?_
  refine ⟨_, pss_one (ps_ret (pe_dcT (own := [("key", 2)]) (g := gName 2) rfl sc_cleaned.nd
    (pi_list (pe_callB (call_sortedK rfl (hu64 hr)) (by rfl) g.sorted (by decide +kernel) (pa_cons (pv 1) pa_nil)))
    (blkOk_by (N := ["field", "found", "key"]) (sc := defScope s_cleaned) (by decide +kernel)) (fun _ _ _ _ _ => pg_name (i := 2) sc_cleaned.nd rfl (Or.inl rfl))
    (fun _ _ _ _ _ => pts_one (pt_cmpR op_ne (pe_op op_mod (pe_dget (hu_of hr) (pv 1) (pv 2) (fun _ _ => rfl)) (pv 0)) pe_int (nomark _)))
    (fun _ _ _ _ _ => pv 2) (fun _ _ _ _ _ => pe_op op_mod (pe_dget (hu_of hr) (pv 1) (pv 2) (fun _ _ => rfl)) (pv 0)))), ?_⟩
  obtain ⟨p, a, F, rfl, hp, ha, nd, sk, hz, q⟩ := h
  refine ⟨_, rfl, a, enF F, keys F, rfl, ha, enF_keys F, sk, fun bs L hbs hL => ?_⟩
  refine ⟨L, rfl, ⟨_, .inl (.inl upd_same)⟩, fun Dd hD => ?_⟩
  have lbs : bs.length = (sortK (keys F)).length := (Paired.length hbs).symm
  have lks : (sortK (keys F)).length = F.length := by rw [(sortK_perm _).length_eq]; unfold keys; rw [List.length_map]
  have sL : Same H (upd H L (.lst (bs.map V.ref))) := same_upd hL
  refine dcT_it (walk_list (xs := bs.map V.ref)) (DcI (upd H L (.lst (bs.map V.ref))) Dd fun i => enF (accL (clF p F) [] (sortK (keys F)) i)) (dcI0 hD rfl) (fun i H1 hi p1 => .inl (.inl (p1.1 _ _ upd_same))) (fun i x H1 H2 hi p1 y => ?_) (fun H1 p1 => ?_)
  · obtain ⟨rfl, hx⟩ := y
    have hi' : i < (sortK (keys F)).length := by rw [List.length_map] at hi; omega
    obtain ⟨k, hk⟩ : ∃ k, (sortK (keys F))[i]? = some k := ⟨_, List.getElem?_eq_getElem hi'⟩
    obtain ⟨b, hb, hkb⟩ := LiI.paired_get hbs hk
    have ex : x = .ref b := by
      rw [List.getElem?_map, hb] at hx
      exact (Option.some.inj hx).symm
    subst ex
    have s2 : Same H H2 := sL.trans p1.1
    have hb2 := s2 _ _ hkb
    have ha2 := Same.rd s2 ha
    have kin : k ∈ keys F := (sortK_perm _).mem_iff.mp (List.mem_of_getElem? hk)
    have dg : DGet H2 a (.ref b) (some (.int (co F k))) := dget_mem ha2 hb2 kin
    refine ⟨rfl, ?_⟩
    refine ⟨_, rfl, _, rfl, a, _, rfl, dg, _, rfl, _, _, rfl, rfl, hp, rfl, _, rfl, ?_⟩
    by_cases z : co F k % p = 0
    · have e2 : decide (V.int (co F k % p) = V.int 0) = true := decide_eq_true (by rw [z])
      rw [e2]
      exact dcSkip p1 (Same.refl _) (by rw [accL_succ _ _ _ hk]; unfold clF; rw [if_pos z])
    · have e2 : decide (V.int (co F k % p) = V.int 0) = false := decide_eq_false fun y => z (V.int.inj y)
      rw [e2]
      refine ⟨_, rfl, _, rfl, _, rfl, a, _, rfl, dg, _, rfl, _, _, rfl, rfl, hp, ?_⟩
      refine dcPut hD p1 (Same.refl _) (k := inK k) ?_ (by rw [kV_inK]; exact hb2) ?_ ?_
      · rw [enF_len]
        have := accL_le (clF_len p F) (sortK (keys F)) i
        omega
      · exact Nat.lt_of_le_of_lt (Nat.add_le_add_left (by decide : 2 ≤ 64) _) hr.units
      · rw [accL_succ _ _ _ hk, putK_enF]
        unfold clF
        rw [if_neg z]
  · refine q _ _ (sL.trans p1.1) ?_
    have := p1.2
    rw [List.length_map, lbs] at this
    rw [this]
    show some (HO.dT (enF (accL (clF p F) [] (sortK (keys F)) (sortK (keys F)).length))) = _
    rw [accL_all, clF_all nd]
end
end K24
end
section
set_option Elab.async false
set_option linter.all false
set_option maxRecDepth 100000
set_option maxHeartbeats 1000000
/-! defs of plan.forms, the makers -/
namespace K24
open PySem PySem.Spec PyProof.Rows L2 RZ
theorem walk_zipT {K : PySem.W.Frag} {a b : Addr} {xs ys : List V} {n : Nat} (hn : n = min xs.length ys.length) : Walk (ItzT K a b) n (fun H => SqT K H a xs ∧ SqT K H b ys) (YPair (fun i => xs[i]?) (fun i => ys[i]?)) := by
  subst hn
  refine ⟨fun i _ hi q => ?_, fun _ q => ⟨xs, ys, q.1, q.2, by omega⟩, fun i H v H' _ q y => ?_⟩
  · have h1 : i < xs.length := by omega
    have h2 : i < ys.length := by omega
    exact ⟨xs, ys, xs[i], ys[i], q.1, q.2, by simp [h1], by simp [h2]⟩
  · obtain ⟨T, x, z, h1, h2, h3, h4, h5⟩ := y
    exact ⟨T, x, z, h1, h2, h3, h4 xs q.1, h5 ys q.2⟩
theorem hu4 {A : Around} {k : Nat} (hr : Room k A) : A.units + 4 < cLine := Nat.lt_of_le_of_lt (Nat.add_le_add_left (by decide : 4 ≤ 64) _) hr.units
theorem accL_leB {α β : Type} {f : List β → α → List β} (hf : ∀ b x, (f b x).length ≤ b.length + 1) (b : List β) (xs : List α) (i : Nat) : (accL f b xs i).length ≤ b.length + xs.length := by
  have h := accL_len f hf (xs.take i) b
  have : (xs.take i).length ≤ xs.length := by rw [List.length_take]; omega
  unfold accL
  omega
section
variable {P : Program} {w : World} {K : PySem.W.Frag} {mg : Str → Option Value} {base : Heap}
/-! ### constant_form -/
theorem sc_constant_form : FnScope ["field", "letters", "number"] ["field", "letters", "number"] (defScope s_constant_form) := ⟨rfl, rfl, rfl, by decide +kernel, rfl, by decide +kernel, by decide +kernel⟩
def sp_constant_form : Sp := fun vs H Q _ => ∃ (p : Int) (n : Nat) (c : Int), vs = [.int p, .int n, .int c] ∧ 0 < p ∧ n ≤ 100 ∧ ∀ H' r, Same H H' → H' r = some (.dT (enF (constC p n c))) → Q (.ref r) H'
theorem zeros_rep (n : Nat) : (List.replicate n [V.int 0]).flatten = (zeros n).map V.int := by
  unfold zeros
  induction n with
  | zero => rfl
  | succ n ih => rw [List.replicate_succ, List.replicate_succ, List.flatten_cons, ih]; rfl
theorem sk_one (k : Ex) (c : Int) : SK [(k, c)] := .inl (by simp [keys])
theorem cal_constant_form (D : DefM K mg "constant_form" "constant_form" s_constant_form) (g : GB mg) (c : C8.Cal P w K mg base 1 "cleaned" sp_cleaned []) : C8.Cal P w K mg base 2 "constant_form" sp_constant_form [] := by
  refine calM D sc_constant_form (fun vs H Q E h => by obtain ⟨_, _, _, rfl, _⟩ := h; rfl) (fun _ _ _ _ _ _ us hl => match us, hl with | [_, _, _], _ => rfl) fun f cdv A outer s H vs Q E hr h => ?_
  refine ⟨_, pss_one (ps_ret (C8.pe_c c hr (by decide) (by rfl) (pa_cons (pv 0) (pa_cons (pe_dispT (hu4 hr) (pps_cons (pe_op op_repA (pe_tup (pa_cons pe_int pa_nil)) (pv 1)) (pv 2) pps_nil) (by rfl) (by rfl) (fun z => by cases z) (by decide)) pa_nil)))), ?_⟩
  obtain ⟨p, n, c, rfl, hp, hn, q⟩ := h
  refine ⟨_, rfl, fun d hd => ?_⟩
  refine ⟨(by show 1 ≤ sizeLine; decide), fun t ht => ⟨_, rfl, t, (n : Int), [.int 0], rfl, rfl, upd_same, (by simp), (by omega), (by omega), (by simp), fun r H1 s1 hr1 => ⟨_, rfl, ?_⟩⟩⟩
  have sd : Same (upd H d (.dT [])) H1 := (same_upd ht).trans s1
  have hdd : H1 d = some (.dT []) := sd d _ upd_same
  have hr1' : H1 r = some (.tup ((inK (zeros n)).map kV)) := by rw [hr1, kV_inK, ← zeros_rep]; rfl
  refine ⟨hdd, [(inK (zeros n), .int c)], .cons ⟨r, rfl, hr1', rfl⟩ .nil, (by show 1 ≤ 15; decide), True.intro, ?_⟩
  have s2 : Same H (upd H1 d (.dT (enF [(zeros n, c)]))) := same_set hd ((same_upd hd).trans sd)
  refine ⟨p, d, [(zeros n, c)], rfl, hp, .inl upd_same, (by simp [keys]), sk_one _ _, (by show 1 < sizeLine; decide), fun H2 r2 s3 h2 => q H2 r2 (s2.trans s3) h2⟩
/-! ### letter_form -/
theorem sc_letter_form : FnScope ["letters", "at", "place"] ["letters", "at"] (defScope s_letter_form) := ⟨rfl, rfl, rfl, by decide +kernel, rfl, by decide +kernel, by decide +kernel⟩
def sp_letter_form : Sp := fun vs H Q _ => ∃ (n idx : Nat), vs = [.int n, .int idx] ∧ n ≤ 100 ∧ ∀ H' r, Same H H' → H' r = some (.dT (enF (letterC n idx))) → Q (.ref r) H'
theorem cal_letter_form (D : DefM K mg "letter_form" "letter_form" s_letter_form) (g : GB mg) : C8.Cal P w K mg base 1 "letter_form" sp_letter_form [] := by
  refine calM D sc_letter_form (fun vs H Q E h => by obtain ⟨_, _, rfl, _⟩ := h; rfl) (fun _ _ _ _ _ _ us hl => match us, hl with | [_, _], _ => rfl) fun f cdv A outer s H vs Q E hr h => ?_
  refine ⟨_, pss_one (ps_ret (pe_dispT (hu4 hr) (pps_cons (pe_callTy call_tuple_of (by rfl) g.tuple (by decide +kernel) (pa_cons
    (pe_lc (own := [("place", 2)]) (g := gName 2) (tt := tYes) rfl sc_letter_form.nd (pi_range1 (by rfl) g.range (pa_cons (pv 0) pa_nil))
      (blkOk_by (N := ["letters", "at", "place"]) (sc := defScope s_letter_form) (by decide +kernel)) (fun _ _ _ _ _ => pg_name (i := 2) sc_letter_form.nd rfl (Or.inl rfl)) (fun _ _ _ _ _ => pts_nil)
      (fun _ _ _ _ _ => pe_callTy call_int1 (by rfl) g.int (by decide +kernel) (pa_cons (pe_cmpR op_eq (pv 2) (pv 1) (nomark _)) pa_nil))) pa_nil)) pe_int pps_nil) (by rfl) (by rfl) (fun z => by cases z) (by decide))), ?_⟩
  obtain ⟨n, idx, rfl, hn, q⟩ := h
  refine fun d hd => ?_
  refine ⟨_, rfl, (n : Int), rfl, (by omega), (by omega), fun L hL => ?_⟩
  have hL' : (upd H d (.dT [])) L = none := hL
  refine lc_it walk_range (LcI (upd H d (.dT [])) L fun i => ((List.range i).map fun j => V.int (if j = idx then 1 else 0))) (lcI0 hL rfl) (fun _ _ _ _ => True.intro) (fun i x H1 H2 hi p1 y => ?_) (fun H1 p1 => ?_)
  · obtain ⟨rfl, rfl⟩ := y
    refine ⟨rfl, ?_⟩
    refine ⟨_, rfl, _, rfl, rfl, .inr ⟨_, rfl, ?_⟩⟩
    refine lcPut hL p1 (Same.refl _) (by rw [List.length_map, List.length_range]; exact small1000 (by omega)) ?_
    rw [List.range_succ, List.map_append]
    congr 1
    show [V.int (if i = idx then 1 else 0)] = [_]
    congr 1
    show V.int (if i = idx then 1 else 0) = V.int (if decide (V.int (0 + (i : Int)) = V.int (idx : Int)) = true then 1 else 0)
    by_cases e : i = idx
    · rw [if_pos e, if_pos (decide_eq_true (by rw [e, Int.zero_add]))]
    · rw [if_neg e, if_neg (by rw [decide_eq_true_eq]; intro z; have := V.int.inj z; omega)]
  · have en : ((n : Int)).toNat = n := by omega
    rw [en] at p1
    have hl : H1 L = some (.lst ((letter n idx).map V.int)) := by
      rw [p1.2]
      unfold letter
      rw [List.map_map]
      congr 2
    refine ⟨L, (letter n idx).map V.int, rfl, .inl ⟨.inl (.inl hl), fun t ht => ?_⟩⟩
    have sd : Same (upd H d (.dT [])) (upd H1 t (.tup ((letter n idx).map V.int))) := p1.1.trans (same_upd ht)
    refine ⟨sd d _ upd_same, [(inK (letter n idx), .int 1)], .cons ⟨t, rfl, by rw [upd_same, kV_inK], rfl⟩ .nil, (by show 1 ≤ 15; decide), True.intro, ?_⟩
    exact q _ d (same_set hd ((same_upd hd).trans sd)) upd_same
/-! ### form_sum -/
theorem sc_form_sum : FnScope ["field", "one", "other", "found", "key", "number"] ["field", "one", "other"] (defScope s_form_sum) := ⟨rfl, rfl, rfl, by decide +kernel, rfl, by decide +kernel, by decide +kernel⟩
/-- all keys' hashes are unlike -/
def HashOk (F : Fm) : Prop := ∀ (P : Program) (w : World), ((enF F).map fun p => hashT P w p.1).Nodup
def sp_form_sum : Sp := fun vs H Q _ => ∃ p a b F G, vs = [.int p, .ref a, .ref b] ∧ 0 < p ∧ H a = some (.dT (enF F)) ∧ H b = some (.dT (enF G)) ∧ (keys F).Nodup ∧ HashOk F ∧ SK (addAll F G) ∧ F.length ≤ 5000 ∧ G.length ≤ 5000 ∧
  ∀ H' r, Same H H' → H' r = some (.dT (enF (sumC p F G))) → Q (.ref r) H'
/-- one turn of addAll -/
def adF (A : Fm) (kv : Ex × Int) : Fm := put A kv.1 (co A kv.1 + kv.2)
theorem adF_len (A : Fm) (kv : Ex × Int) : (adF A kv).length ≤ A.length + 1 := length_put ..
theorem small10 {n : Nat} (h : n ≤ 100000) : n < sizeLine := Nat.lt_of_le_of_lt h (by decide)
theorem cal_form_sum (D : DefM K mg "form_sum" "form_sum" s_form_sum) (g : GB mg) (c : C8.Cal P w K mg base 1 "cleaned" sp_cleaned []) : C8.Cal P w K mg base 2 "form_sum" sp_form_sum [] := by
  refine calM D sc_form_sum (fun vs H Q E h => by obtain ⟨_, _, _, _, _, rfl, _⟩ := h; rfl) (fun _ _ _ _ _ _ us hl => match us, hl with | [_, _, _], _ => rfl) fun f cdv A outer s H vs Q E hr h => ?_
  refine ⟨_, pss_cons (ps_set (i := 3) sc_form_sum.nd rfl (Or.inl rfl) (pe_callTy call_dict_dT (by rfl) g.dict (by decide +kernel) (pa_cons (pv 1) pa_nil)))
    (pss_cons (ps_lock (ps_for PassesOwn.never rfl (pi_itemsT (pv 2)) (pg_tup rfl (pgs_cons (pg_name (i := 4) sc_form_sum.nd rfl (Or.inl rfl)) (pgs_cons (pg_name (i := 5) sc_form_sum.nd rfl (Or.inl rfl)) pgs_nil)))
      (pss_one (ps_dput (hu_of hr) (pv 3) (pv 4) (pe_op op_add (pe_dget2 (hu_of hr) (pv 3) (pv 4) pe_int ⟨rfl, rfl, rfl, rfl⟩) (pv 5)) rfl))))
    (pss_one (ps_ret (C8.pe_c c hr (by decide) (by rfl) (pa_cons (pv 0) (pa_cons (pv 3) pa_nil)))))), ?_⟩
  obtain ⟨p, a, b, F, G, rfl, hp, ha, hb, nd, hh, sk, lF, lG, q⟩ := h
  refine ⟨_, rfl, a, enF F, rfl, .inl ha, hh _ _, hu4 hr, fun m hm => ?_⟩
  have hbm : b ≠ m := fun z => by rw [z, hm] at hb; cases hb
  have hb1 : upd H m (.dT (enF F)) b = some (.dT (enF G)) := by rw [upd_ne hbm]; exact hb
  refine ⟨b, .dT (enF G), hb1, True.intro, fun od => ?_⟩
  refine ⟨_, rfl, b, od, enF G, rfl, upd_same, ?_⟩
  refine for_it walk_itemsT (fun i σ H' => (∃ x y, σ = [some (.int p), some (.ref a), some (.ref b), some (.ref m), x, y]) ∧ Same (upd H b (.frz od (.dT (enF G)))) H' ∧ H' m = some (.dT (enF (accL adF F G i)))) ?_ ?_ ?_ ?_
  · refine ⟨⟨none, none, rfl⟩, fun d u e => ?_, ?_⟩
    · by_cases h : d = b
      · subst h; rw [upd_same] at e ⊢; exact e
      · rw [upd_ne h] at e ⊢
        rw [upd_ne (ne_of_none e hm)]; exact e
    · rw [upd_ne (Ne.symm hbm), upd_same]; rfl
  · intro i σ H' hi p1
    exact p1.2.1 _ _ upd_same
  · intro i x σ H' H2 hi p1 y
    obtain ⟨⟨x1, y1, rfl⟩, sS, em⟩ := p1
    obtain ⟨T, qk, k, v, hk, hq, rfl, hT, rfl⟩ := y
    obtain ⟨e, cc, hG, rfl, rfl⟩ := enF_get hk
    rw [kV_inK] at hq
    have em2 : upd H' T (.tup [.ref qk, .int cc]) m = some (.dT (enF (accL adF F G i))) := by rw [upd_ne (ne_of_none em hT)]; exact em
    have hq2 : upd H' T (.tup [.ref qk, .int cc]) qk = some (.tup (e.map V.int)) := by rw [upd_ne (ne_of_none hq hT)]; exact hq
    refine ⟨T, _, rfl, .inl (.inl upd_same), rfl, ?_⟩
    refine ⟨_, _, rfl, _, _, rfl, rfl, _, rfl, m, rfl, .inr ⟨_, .inl em2⟩, _, rfl, _, dget_enF (.inl em2) hq2, _, rfl, _, _, getD_co _ _, rfl, _, rfl, _, rfl, m, _, rfl, .inr ⟨_, inK e, qk, em2, rfl, by rw [kV_inK]; exact hq2, ?_, rfl⟩, ⟨_, _, rfl⟩, ?_, ?_⟩
    · rw [enF_len]
      exact small10 (by have := accL_leB adF_len F G i; omega)
    · refine fun d u ed => ?_
      have := (sS.trans (same_upd (o := .tup [.ref qk, .int cc]) hT)) d u ed
      rw [upd_ne (fun z => ?_)]
      · exact this
      · subst z
        rw [upd_ne (Ne.symm hbm), hm] at ed
        cases ed
    · rw [upd_same, putK_enF, accL_succ _ _ _ hG]
      rfl
  · intro σ H' p1
    obtain ⟨⟨x1, y1, rfl⟩, sS, em⟩ := p1
    rw [enF_len, accL_all] at em
    have s2 : Same H (upd H' b (.dT (enF G))) := same_unlock hb sS
    refine ⟨sS _ _ upd_same, _, rfl, _, rfl, p, m, addAll F G, rfl, hp, .inl ?_, nodup_addAll G F nd, sk, ?_, fun H2 r s3 h2 => q H2 r (s2.trans s3) h2⟩
    · rw [upd_ne (Ne.symm hbm)]; exact em
    · exact small10 (by have := length_addAll G F; omega)
end
end K24
end
section
set_option autoImplicit false
set_option Elab.async false
set_option linter.all false
set_option maxRecDepth 100000
set_option maxHeartbeats 1000000
/-! form_scaled, form_product -/
namespace K24
open PySem PySem.Spec PyProof.Rows L2 RZ
def mulF (c : Int) (A : Fm) (kv : Ex × Int) : Fm := put A kv.1 (c * kv.2)
theorem mulF_len (c : Int) (A : Fm) (kv : Ex × Int) : (mulF c A kv).length ≤ A.length + 1 := length_put ..
theorem mulF_all {c : Int} {F : Fm} (h : (keys F).Nodup) : F.foldl (mulF c) [] = mapV (fun v => c * v) F := by
  have h1 := foldl_put_nodup (mapV (fun v => c * v) F) [] (by simpa using nd_mapV h)
  rw [List.nil_append] at h1
  rw [← h1]
  unfold mapV
  rw [List.foldl_map]
  rfl
theorem keys_mapV (f : Int → Int) (F : Fm) : keys (mapV f F) = keys F := by simp [keys, mapV, Function.comp_def]
theorem sk_mapV {f : Int → Int} {F : Fm} (h : SK F) : SK (mapV f F) := by unfold SK; rw [keys_mapV]; exact h
section
variable {P : Program} {w : World} {K : PySem.W.Frag} {mg : Str → Option Value} {base : Heap}
theorem sc_form_scaled : FnScope ["field", "form", "number", "key", "here"] ["field", "form", "number"] (defScope s_form_scaled) := ⟨rfl, rfl, rfl, by decide +kernel, rfl, by decide +kernel, by decide +kernel⟩
def sp_form_scaled : Sp := fun vs H Q _ => ∃ p a c F, vs = [.int p, .ref a, .int c] ∧ 0 < p ∧ H a = some (.dT (enF F)) ∧ (keys F).Nodup ∧ SK F ∧ F.length ≤ 5000 ∧ (-(2 ^ 64) < c ∧ c < 2 ^ 64) ∧
  ∀ H' r, Same H H' → H' r = some (.dT (enF (scaleC p F c))) → Q (.ref r) H'
theorem cal_form_scaled (D : DefM K mg "form_scaled" "form_scaled" s_form_scaled) (g : GB mg) (c : C8.Cal P w K mg base 1 "cleaned" sp_cleaned []) : C8.Cal P w K mg base 2 "form_scaled" sp_form_scaled [] := by
  refine calM D sc_form_scaled (fun vs H Q E h => by obtain ⟨_, _, _, _, rfl, _⟩ := h; rfl) (fun _ _ _ _ _ _ us hl => match us, hl with | [_, _, _], _ => rfl) fun f cdv A outer s H vs Q E hr h => ?_
  refine ⟨_, pss_one (ps_ret (C8.pe_c c hr (by decide) (by rfl) (pa_cons (pv 0) (pa_cons (pe_lock (pe_dcT (own := [("key", 3), ("here", 4)]) (g := gTup K 2 (gCons (gName 3) (gCons (gName 4) gNil))) (tt := tYes) rfl sc_form_scaled.nd
    (pi_itemsT (pv 1)) (blkOk_by (N := ["field", "form", "number", "key", "here"]) (sc := defScope s_form_scaled) (by decide +kernel))
    (fun _ _ _ _ _ => pg_tup rfl (pgs_cons (pg_name (i := 3) sc_form_scaled.nd rfl (Or.inl rfl)) (pgs_cons (pg_name (i := 4) sc_form_scaled.nd rfl (Or.inl rfl)) pgs_nil)))
    (fun _ _ _ _ _ => pts_nil) (fun _ _ _ _ _ => pv 3) (fun _ _ _ _ _ => pe_op op_mul (pv 2) (pv 4)))) pa_nil)))), ?_⟩
  obtain ⟨p, a, c, F, rfl, hp, ha, nd, sk, lF, hc, q⟩ := h
  refine ⟨_, rfl, a, .dT (enF F), ha, True.intro, fun od => ?_⟩
  refine ⟨_, rfl, a, od, enF F, rfl, upd_same, fun Dd hD => ?_⟩
  have hDa : Dd ≠ a := fun z => by rw [z, upd_same] at hD; cases hD
  refine dcT_it walk_itemsT (DcI (upd H a (.frz od (.dT (enF F)))) Dd fun i => enF (accL (mulF c) [] F i)) (dcI0 hD rfl) (fun i H1 hi p1 => p1.1 _ _ upd_same) (fun i x H1 H2 hi p1 y => ?_) (fun H1 p1 => ?_)
  · obtain ⟨T, qk, k, v, hk, hq, rfl, hT, rfl⟩ := y
    obtain ⟨e, cc, hF, rfl, rfl⟩ := enF_get hk
    have hq2 : upd H1 T (.tup [.ref qk, .int cc]) qk = some (.tup ((inK e).map kV)) := by rw [upd_ne (ne_of_none hq hT)]; exact hq
    refine ⟨T, _, rfl, .inl (.inl upd_same), rfl, ?_⟩
    refine ⟨_, _, rfl, _, _, rfl, rfl, rfl, ?_⟩
    refine ⟨_, rfl, _, rfl, _, rfl, _, _, rfl, rfl, .inl hc, ?_⟩
    refine dcPut hD p1 (same_upd hT) ?_ hq2 ?_ ?_
    · rw [enF_len]
      exact small10 (by have := accL_le (mulF_len c) F i; omega)
    · exact Nat.lt_of_le_of_lt (Nat.add_le_add_left (by decide : 2 ≤ 64) _) hr.units
    · rw [accL_succ _ _ _ hF, putK_enF]
      rfl
  · have em : H1 Dd = some (.dT (enF (mapV (fun v => c * v) F))) := by
      have em0 := p1.2
      rw [enF_len] at em0
      rw [em0, ← mulF_all nd, ← accL_all]
    have s2 : Same H (upd H1 a (.dT (enF F))) := same_unlock ha p1.1
    refine ⟨p1.1 _ _ upd_same, p, Dd, mapV (fun v => c * v) F, rfl, hp, .inl ?_, nd_mapV nd, sk_mapV sk, ?_, fun H2 r s3 h2 => q H2 r (s2.trans s3) h2⟩
    · rw [upd_ne hDa]; exact em
    · unfold mapV; rw [List.length_map]; exact small10 (by omega)
theorem small7 {n : Nat} (h : n ≤ 10000000) : n < sizeLine := Nat.lt_of_le_of_lt h (by decide)
theorem getI {l : Ex} {n : Nat} {x : V} (h : (l.map V.int)[n]? = some x) : ∃ a, l[n]? = some a ∧ V.int a = x := by
  rw [List.getElem?_map] at h
  cases q1 : l[n]? with
  | none => rw [q1] at h; cases h
  | some a => rw [q1] at h; exact ⟨a, rfl, Option.some.inj h⟩
theorem pairs_len (p : Int) (F G : Fm) : (pairs p F G).length = F.length * G.length := by
  unfold pairs
  induction F with
  | nil => simp
  | cons a F ih => rw [List.flatMap_cons, List.length_append, List.length_map, ih, List.length_cons, Nat.succ_mul, Nat.add_comm]
/-! ### form_product -/
/-- all but m stands -/
def SameX (m : Addr) (H H' : Hp) : Prop := ∀ d u, d ≠ m → H d = some u → H' d = some u
theorem SameX.refl (m : Addr) (H : Hp) : SameX m H H := fun _ _ _ e => e
theorem SameX.then {m : Addr} {H H1 H2 : Hp} (a : SameX m H H1) (b : Same H1 H2) : SameX m H H2 := fun d u hd e => b d u (a d u hd e)
theorem SameX.set {m : Addr} {H H1 : Hp} {o : HO} (a : SameX m H H1) : SameX m H (upd H1 m o) := fun d u hd e => by
  rw [upd_ne hd]
  exact a d u hd e
theorem addAll_append (A L M : Fm) : addAll A (L ++ M) = addAll (addAll A L) M := List.foldl_append
theorem pairs_take {p : Int} {F G : Fm} {i : Nat} {e : Ex} {c : Int} (h : F[i]? = some (e, c)) : pairs p (F.take (i + 1)) G = pairs p (F.take i) G ++ G.map fun y => (addk p e y.1, c * y.2) := by
  unfold pairs
  rw [List.take_succ, h, List.flatMap_append]
  simp
theorem sc_form_product : FnScope ["field", "one", "other", "found", "first", "low", "last", "high", "key", "a", "b"] ["field", "one", "other"] (defScope s_form_product) := ⟨rfl, rfl, rfl, by decide +kernel, rfl, by decide +kernel, by decide +kernel⟩
def sp_form_product : Sp := fun vs H Q _ => ∃ p a b F G, vs = [.int p, .ref a, .ref b] ∧ 1 < p ∧ H a = some (.dT (enF F)) ∧ H b = some (.dT (enF G)) ∧ (∀ x ∈ F, -(2 ^ 64) < x.2 ∧ x.2 < 2 ^ 64) ∧ (∀ k ∈ keys F, k.length ≤ 100) ∧ SK (addAll [] (pairs p F G)) ∧ F.length ≤ 2000 ∧ G.length ≤ 2000 ∧ (pairs p F G).length ≤ 1000000 ∧
  ∀ H' r, Same H H' → H' r = some (.dT (enF (prodC p F G))) → Q (.ref r) H'
theorem cal_form_product (D : DefM K mg "form_product" "form_product" s_form_product) (g : GB mg) (c : C8.Cal P w K mg base 1 "cleaned" sp_cleaned []) (cl : C8.Cal P w K mg base 1 "lowered" sp_lowered []) : C8.Cal P w K mg base 2 "form_product" sp_form_product [] := by
  refine calM D sc_form_product (fun vs H Q E h => by obtain ⟨_, _, _, _, _, rfl, _⟩ := h; rfl) (fun _ _ _ _ _ _ us hl => match us, hl with | [_, _, _], _ => rfl) fun f cdv A outer s H vs Q E hr h => ?_
  obtain ⟨p, a, b, F, G, rfl, hp, ha, hb, hv, hkl, sk, lF, lG, lP, q⟩ := h
  have key : ∃ t, PS (cxOf CX0 P w K mg base ["field", "one", "other", "found", "first", "low", "last", "high", "key", "a", "b"] "form_product" (defScope s_form_product) f cdv A outer s H E).nox ((defBody s_form_product).getD 1 (.Pass ⟨0, 0, 0, 0⟩)) t ∧
      ∀ (D : Ends) (oa ob : Obj) (HL : Hp) (m : Addr), m ≠ a → m ≠ b → HL a = some (.frz oa (.dT (enF F))) → HL b = some (.frz ob (.dT (enF G))) → HL m = some (.dT []) →
        (∀ σ' H', (∃ x1 x2 x3 x4 x5 x6 x7, σ' = [some (.int p), some (.ref a), some (.ref b), some (.ref m), x1, x2, x3, x4, x5, x6, x7]) → SameX m HL H' → H' m = some (.dT (enF (addAll [] (pairs p F G)))) → D.nx σ' H') →
        t D [some (.int p), some (.ref a), some (.ref b), some (.ref m), none, none, none, none, none, none, none] HL := by
    refine ⟨_, ps_for PassesOwn.never rfl (pi_itemsT (pv 1)) (pg_tup rfl (pgs_cons (pg_name (i := 4) sc_form_product.nd rfl (Or.inl rfl)) (pgs_cons (pg_name (i := 5) sc_form_product.nd rfl (Or.inl rfl)) pgs_nil)))
      (pss_one (ps_for PassesOwn.never rfl (pi_itemsT (pv 2)) (pg_tup rfl (pgs_cons (pg_name (i := 6) sc_form_product.nd rfl (Or.inl rfl)) (pgs_cons (pg_name (i := 7) sc_form_product.nd rfl (Or.inl rfl)) pgs_nil)))
        (pss_cons (ps_set (i := 8) sc_form_product.nd rfl (Or.inl rfl) (pe_callTy call_tuple_of (by rfl) g.tuple (by decide +kernel) (pa_cons
            (pe_lc (own := [("a", 9), ("b", 10)]) (g := gTup K 2 (gCons (gName 9) (gCons (gName 10) gNil))) (tt := tYes) rfl sc_form_product.nd (pi_zipA (by rfl) g.zip (pa_cons (pv 4) (pa_cons (pv 6) pa_nil)))
              (blkOk_by (N := ["field", "one", "other", "found", "first", "low", "last", "high", "key", "a", "b"]) (sc := defScope s_form_product) (by decide +kernel))
              (fun _ _ _ _ _ => pg_tup rfl (pgs_cons (pg_name (i := 9) sc_form_product.nd rfl (Or.inl rfl)) (pgs_cons (pg_name (i := 10) sc_form_product.nd rfl (Or.inl rfl)) pgs_nil)))
              (fun _ _ _ _ _ => pts_nil)
              (fun _ _ _ _ _ => C8.pe_c cl hr (by decide) (by rfl) (pa_cons (pv 0) (pa_cons (pe_op op_add (pv 9) (pv 10)) pa_nil)))) pa_nil)))
        (pss_one (ps_dput (hu_of hr) (pv 3) (pv 8) (pe_op op_add (pe_dget2 (hu_of hr) (pv 3) (pv 8) pe_int ⟨rfl, rfl, rfl, rfl⟩) (pe_op op_mul (pv 5) (pv 7))) rfl))))), ?_⟩
    intro D oa ob HL m hma hmb hLa hLb hLm hD
    refine ⟨_, rfl, a, oa, enF F, rfl, hLa, ?_⟩
    refine for_it walk_itemsT (fun i σ H' => (∃ x1 x2 x3 x4 x5 x6 x7, σ = [some (.int p), some (.ref a), some (.ref b), some (.ref m), x1, x2, x3, x4, x5, x6, x7]) ∧ SameX m HL H' ∧ H' m = some (.dT (enF (addAll [] (pairs p (F.take i) G))))) ?_ ?_ ?_ ?_
    · exact ⟨⟨_, _, _, _, _, _, _, rfl⟩, SameX.refl _ _, hLm⟩
    · intro i σ H' hi p1
      exact p1.2.1 _ _ (Ne.symm hma) hLa
    · intro i x σ H' H2 hi p1 y
      obtain ⟨⟨x1, x2, x3, x4, x5, x6, x7, rfl⟩, sX, em⟩ := p1
      obtain ⟨T, qe, k, v, hk, hq, rfl, hT, rfl⟩ := y
      obtain ⟨e, cv, hF, rfl, rfl⟩ := enF_get hk
      rw [kV_inK] at hq
      have sX2 : SameX m HL (upd H' T (.tup [.ref qe, .int cv])) := sX.then (same_upd hT)
      have em2 : upd H' T (.tup [.ref qe, .int cv]) m = some (.dT (enF (addAll [] (pairs p (F.take i) G)))) := (same_upd hT) _ _ em
      have hq2 : upd H' T (.tup [.ref qe, .int cv]) qe = some (.tup (e.map V.int)) := (same_upd hT) _ _ hq
      have hqm : qe ≠ m := fun z => by rw [z, em] at hq; cases hq
      refine ⟨T, _, rfl, .inl (.inl upd_same), rfl, ?_⟩
      refine ⟨_, _, rfl, _, _, rfl, rfl, ?_⟩
      refine ⟨_, rfl, b, ob, enF G, rfl, sX2 _ _ (Ne.symm hmb) hLb, ?_⟩
      refine for_it walk_itemsT (fun j σ H3 => (∃ x3 x4 x5 x6 x7, σ = [some (.int p), some (.ref a), some (.ref b), some (.ref m), some (.ref qe), some (.int cv), x3, x4, x5, x6, x7]) ∧ SameX m (upd H' T (.tup [.ref qe, .int cv])) H3 ∧
        H3 m = some (.dT (enF (addAll (addAll [] (pairs p (F.take i) G)) ((G.take j).map fun y => (addk p e y.1, cv * y.2)))))) ?_ ?_ ?_ ?_
      · exact ⟨⟨_, _, _, _, _, rfl⟩, SameX.refl _ _, em2⟩
      · intro j σ H3 hj p3
        exact p3.2.1 _ _ (Ne.symm hmb) (sX2 _ _ (Ne.symm hmb) hLb)
      · intro j x σ H3 H4 hj p3 y
        obtain ⟨⟨x3, x4, x5, x6, x7, rfl⟩, sY, em3⟩ := p3
        obtain ⟨T2, ql, k, v, hk2, hql, rfl, hT2, rfl⟩ := y
        obtain ⟨l, hv2, hG, rfl, rfl⟩ := enF_get hk2
        rw [kV_inK] at hql
        have s4 : Same H3 (upd H3 T2 (.tup [.ref ql, .int hv2])) := same_upd hT2
        have hq4 := s4 _ _ (sY _ _ hqm hq2)
        have hql4 := s4 _ _ hql
        have em4 := s4 _ _ em3
        refine ⟨T2, _, rfl, .inl (.inl upd_same), rfl, ?_⟩
        refine ⟨_, _, rfl, _, _, rfl, rfl, ?_⟩
        refine ⟨_, rfl, _, rfl, qe, ql, e.map V.int, l.map V.int, rfl, .inr ⟨.inl (.inl hq4), .inl (.inl hql4), fun Lc hLc => ?_⟩⟩
        refine lc_it (walk_zipT rfl) (LcI (upd H3 T2 (.tup [.ref ql, .int hv2])) Lc fun i => ((addk p e l).take i).map V.int) (lcI0 hLc rfl) (fun i H5 hi5 p5 => ⟨.inl (.inl (p5.1 _ _ hq4)), .inl (.inl (p5.1 _ _ hql4))⟩) (fun n x H5 H6 hn p5 y => ?_) (fun H5 p5 => ?_)
        · obtain ⟨T3, x, z, rfl, hT3, rfl, hx, hz⟩ := y
          obtain ⟨ex, hex, rfl⟩ := getI hx
          obtain ⟨lx, hlx, rfl⟩ := getI hz
          refine ⟨T3, _, rfl, .inl (.inl upd_same), rfl, ?_⟩
          refine ⟨_, _, rfl, _, _, rfl, rfl, rfl, ?_⟩
          refine ⟨_, rfl, _, rfl, _, rfl, _, _, rfl, rfl, p, _, rfl, hp, ?_⟩
          have hadd : (addk p e l)[n]? = some (low p (ex + lx)) := by
            unfold addk
            rw [List.getElem?_zipWith, hex, hlx]
          have hlen : n < (addk p e l).length := (List.getElem?_eq_some_iff.mp hadd).1
          refine lcPut hLc p5 (same_upd hT3) ?_ ?_
          · rw [List.length_map, List.length_take]
            have h1 := hkl e (keys_mem (List.mem_of_getElem? hF))
            have h2 : (addk p e l).length ≤ e.length := by unfold addk; rw [List.length_zipWith]; omega
            exact small1000 (by omega)
          · rw [List.take_succ, hadd, List.map_append]
            rfl
        · have hl5 : H5 Lc = some (.lst ((addk p e l).map V.int)) := by
            rw [p5.2]
            have : min (e.map V.int).length (l.map V.int).length = (addk p e l).length := by unfold addk; simp
            show some (HO.lst (List.map V.int (List.take _ _))) = _
            rw [this, List.take_length]
          refine ⟨Lc, _, rfl, .inl ⟨.inl (.inl hl5), fun kt hkt => ?_⟩⟩
          have em6 : upd H5 kt (.tup ((addk p e l).map V.int)) m = some (.dT (enF (addAll (addAll [] (pairs p (F.take i) G)) ((G.take j).map fun y => (addk p e y.1, cv * y.2))))) := (same_upd hkt) _ _ (p5.1 _ _ em4)
          have hkt6 : upd H5 kt (.tup ((addk p e l).map V.int)) kt = some (.tup ((addk p e l).map V.int)) := upd_same
          refine ⟨_, rfl, m, rfl, .inr ⟨_, .inl em6⟩, _, rfl, _, dget_enF (.inl em6) hkt6, _, rfl, _, rfl, _, _, rfl, rfl, .inl (hv _ (List.mem_of_getElem? hF)), _, _, getD_co _ _, rfl, _, rfl, _, rfl, m, _, rfl, .inr ⟨_, inK (addk p e l), kt, em6, rfl, by rw [kV_inK]; exact hkt6, ?_, rfl⟩, ⟨_, _, _, _, _, rfl⟩, ?_, ?_⟩
          · rw [enF_len]
            have h1 := length_addAll (pairs p (F.take i) G) []
            have h2 := length_addAll ((G.take j).map fun y => (addk p e y.1, cv * y.2)) (addAll [] (pairs p (F.take i) G))
            rw [pairs_len, List.length_take] at h1
            rw [List.length_map, List.length_take] at h2
            rw [enF_len] at hi hj
            have h3 : (i + 1) * G.length ≤ F.length * G.length := Nat.mul_le_mul_right _ hi
            rw [Nat.succ_mul] at h3
            rw [pairs_len] at lP
            have h4 : min i F.length = i := by omega
            rw [h4, List.length_nil] at h1
            exact small7 (by omega)
          · exact ((sY.then s4).then (p5.1.trans (same_upd hkt))).set
          · rw [upd_same, putK_enF]
            congr 3
            rw [List.take_succ, hG, List.map_append, addAll_append]
            rfl
      · intro σ H3 p3
        obtain ⟨⟨x3, x4, x5, x6, x7, rfl⟩, sY, em3⟩ := p3
        refine ⟨⟨_, _, _, _, _, _, _, rfl⟩, fun d u hd eu => sY d u hd (sX2 d u hd eu), ?_⟩
        rw [em3, enF_len, List.take_length, pairs_take hF, addAll_append]
    · intro σ H' p1
      obtain ⟨h1, sX, em⟩ := p1
      refine hD _ _ h1 sX ?_
      rw [em, enF_len, List.take_length]
  obtain ⟨t, ht, hread⟩ := key
  have fin : ∀ (H' : Hp) (m : Addr), Same H H' → H' m = some (.dT (enF (addAll [] (pairs p F G)))) → sp_cleaned [.int p, .ref m] H' Q C8.E0 := fun H' m s1 em =>
    ⟨p, m, _, rfl, by omega, .inl em, nodup_addAll _ [] List.nodup_nil, sk, small7 (by have := length_addAll (pairs p F G) []; rw [List.length_nil] at this; omega), fun H2 r s3 h2 => q H2 r (s1.trans s3) h2⟩
  by_cases hab : a = b
  · subst hab
    refine ⟨_, pss_cons (ps_set (i := 3) sc_form_product.nd rfl (Or.inl rfl) pe_dnewT) (pss_cons (ps_lock ht) (pss_one (ps_ret (C8.pe_c c hr (by decide) (by rfl) (pa_cons (pv 0) (pa_cons (pv 3) pa_nil)))))), ?_⟩
    intro m hm
    have hma : m ≠ a := fun z => by rw [z, ha] at hm; cases hm
    have ha1 : upd H m (.dT []) a = some (.dT (enF F)) := by rw [upd_ne (Ne.symm hma)]; exact ha
    have hFG : enF F = enF G := by rw [ha] at hb; exact HO.dT.inj (Option.some.inj hb)
    refine ⟨a, .dT (enF F), ha1, True.intro, fun od => ?_⟩
    refine hread _ od od _ m hma hma upd_same (by rw [← hFG]; exact upd_same) (by rw [upd_ne hma, upd_same]) (fun σ' H' hσ sX em => ?_)
    obtain ⟨x1, x2, x3, x4, x5, x6, x7, rfl⟩ := hσ
    refine ⟨sX _ _ (Ne.symm hma) upd_same, _, rfl, _, rfl, fin _ m (fun d u e => ?_) (by rw [upd_ne hma]; exact em)⟩
    have hdm : d ≠ m := fun z => by rw [z, hm] at e; cases e
    by_cases hda : d = a
    · subst hda; rw [ha] at e; cases e; exact upd_same
    · rw [upd_ne hda]; exact sX d u hdm (by rw [upd_ne hda, upd_ne hdm]; exact e)
  · refine ⟨_, pss_cons (ps_set (i := 3) sc_form_product.nd rfl (Or.inl rfl) pe_dnewT) (pss_cons (ps_lock (ps_lock ht)) (pss_one (ps_ret (C8.pe_c c hr (by decide) (by rfl) (pa_cons (pv 0) (pa_cons (pv 3) pa_nil)))))), ?_⟩
    intro m hm
    have hma : m ≠ a := fun z => by rw [z, ha] at hm; cases hm
    have hmb : m ≠ b := fun z => by rw [z, hb] at hm; cases hm
    have ha1 : upd H m (.dT []) a = some (.dT (enF F)) := by rw [upd_ne (Ne.symm hma)]; exact ha
    have hb1 : ∀ o, upd (upd H m (.dT [])) a o b = some (.dT (enF G)) := fun o => by rw [upd_ne (Ne.symm hab), upd_ne (Ne.symm hmb)]; exact hb
    refine ⟨a, .dT (enF F), ha1, True.intro, fun oa => ?_⟩
    refine ⟨b, .dT (enF G), hb1 _, True.intro, fun ob => ?_⟩
    refine hread _ oa ob _ m hma hmb (by rw [upd_ne hab, upd_same]) upd_same (by rw [upd_ne hmb, upd_ne hma, upd_same]) (fun σ' H' hσ sX em => ?_)
    obtain ⟨x1, x2, x3, x4, x5, x6, x7, rfl⟩ := hσ
    refine ⟨sX _ _ (Ne.symm hmb) upd_same, ?_, _, rfl, _, rfl, fin _ m (fun d u e => ?_) (by rw [upd_ne hma, upd_ne hmb]; exact em)⟩
    · rw [upd_ne hab]
      exact sX _ _ (Ne.symm hma) (by rw [upd_ne hab, upd_same])
    have hdm : d ≠ m := fun z => by rw [z, hm] at e; cases e
    by_cases hda : d = a
    · subst hda; rw [ha] at e; cases e; exact upd_same
    · rw [upd_ne hda]
      by_cases hdb : d = b
      · subst hdb; rw [hb] at e; cases e; exact upd_same
      · rw [upd_ne hdb]; exact sX d u hdm (by rw [upd_ne hdb, upd_ne hda, upd_ne hdm]; exact e)
end
end K24
end
section
set_option autoImplicit false
set_option Elab.async false
set_option linter.all false
set_option maxRecDepth 100000
set_option maxHeartbeats 1000000
/-! plan.circuits: what a circuit must be -/
namespace K24
open PySem PySem.Spec PyProof.Rows L2
def word : Gate → Str
  | .inp _ => "input"
  | .const _ => "constant"
  | .sum _ _ => "sum"
  | .times _ _ => "times"
  | .prod _ _ => "product"
/-- a gate as a tuple -/
def enG : Gate → List V
  | .inp h => [.str "input", .int h]
  | .const c => [.str "constant", .int c]
  | .sum i j => [.str "sum", .int i, .int j]
  | .times i c => [.str "times", .int i, .int c]
  | .prod i j => [.str "product", .int i, .int j]
theorem enG_0 (g : Gate) : (enG g)[0]? = some (.str (word g)) := by cases g <;> rfl
/-- the gates stand at a -/
def GatesAt (H : Hp) (a : Addr) (gs : List Gate) : Prop := ∃ ts : List Addr, H a = some (.tup (ts.map V.ref)) ∧ Paired (fun t g => H t = some (.tup (enG g))) ts gs
theorem paired_imp {α β : Type} {R S : α → β → Prop} (h : ∀ a b, R a b → S a b) : ∀ {xs : List α} {ys : List β}, Paired R xs ys → Paired S xs ys
  | _, _, .nil => .nil
  | _, _, .cons r t => .cons (h _ _ r) (paired_imp h t)
theorem GatesAt.same {H H' : Hp} {a : Addr} {gs : List Gate} (s : Same H H') (h : GatesAt H a gs) : GatesAt H' a gs := by
  obtain ⟨ts, h1, h2⟩ := h
  exact ⟨ts, s _ _ h1, paired_imp (fun t g e => s _ _ e) h2⟩
theorem GatesAt.get {H : Hp} {a : Addr} {gs : List Gate} (h : GatesAt H a gs) {i : Nat} {g : Gate} (hg : gs[i]? = some g) : ∃ (t : Addr) (ts : List Addr), H a = some (.tup (ts.map V.ref)) ∧ ts[i]? = some t ∧ H t = some (.tup (enG g)) ∧ ts.length = gs.length := by
  obtain ⟨ts, h1, h2⟩ := h
  have l := Paired.length h2
  have hi : i < ts.length := by have := (List.getElem?_eq_some_iff.mp hg).1; omega
  obtain ⟨g', e, r⟩ := LiI.paired_get h2 (List.getElem?_eq_getElem hi)
  rw [hg] at e
  cases e
  exact ⟨_, ts, h1, List.getElem?_eq_getElem hi, r, l⟩
theorem str_eq (a : Str) : decide (V.str a = V.str a) = true := decide_eq_true rfl
theorem str_ne {a b : Str} (h : a ≠ b) : decide (V.str a = V.str b) = false := decide_eq_false fun z => h (V.str.inj z)
theorem int_eq (a : Int) : decide (V.int a = V.int a) = true := decide_eq_true rfl
theorem int_ne {a b : Int} (h : a ≠ b) : decide (V.int a = V.int b) = false := decide_eq_false fun z => h (V.int.inj z)
section
variable {P : Program} {w : World} {K : PySem.W.Frag} {mg : Str → Option Value} {base : Heap}
/-! ### is_from -/
theorem sc_is_from : FnScope ["value", "least", "most"] ["value", "least", "most"] (defScope s_is_from) := ⟨rfl, rfl, rfl, by decide +kernel, rfl, by decide +kernel, by decide +kernel⟩
theorem cal_is_from (D : DefM K mg "is_from" "is_from" s_is_from) (g : GB mg) : C8.Cal P w K mg base 1 "is_from" sp_is_within [] := by
  refine calM D sc_is_from (fun vs H Q E h => by obtain ⟨i, _, _, rfl, _⟩ := h; rfl) (fun _ _ _ _ _ _ us hl => match us, hl with | [_, _, _], _ => rfl) fun f cdv A outer s H vs Q E hr h => ?_
  refine ⟨_, pss_one (ps_ret (pe_and (pe_callB call_isi (by rfl) g.isinstance (by decide +kernel) (pa_cons (pv 0) (pa_cons (pe_bltn (v := .ty "int") (by rfl) g.int (by decide +kernel) rfl) pa_nil)))
    (pe_and (pe_not (pe_callB call_isi (by rfl) g.isinstance (by decide +kernel) (pa_cons (pv 0) (pa_cons (pe_bltn (v := .ty "bool") (by rfl) g.bool (by decide +kernel) rfl) pa_nil))))
      (pe_one (pe_chain op_le op_le (pv 1) (pv 0) (pv 2)))))), ?_⟩
  obtain ⟨i, a, b, rfl, q⟩ := h
  refine ⟨_, rfl, _, _, _, _, true, rfl, .ty "int", .base (.int i), kit_ty (by decide +kernel), _, rfl, ?_⟩
  rw [if_pos rfl]
  refine ⟨_, rfl, _, _, _, _, false, rfl, .ty "bool", .base (.int i), kit_ty (by decide +kernel), _, rfl, _, rfl, ?_⟩
  refine ⟨_, rfl, _, rfl, _, _, rfl, rfl, _, rfl, ?_⟩
  by_cases h1 : a ≤ i
  · rw [if_pos (decide_eq_true h1)]
    refine ⟨_, rfl, _, _, rfl, rfl, ?_⟩
    have e : decide (a ≤ i ∧ i ≤ b) = decide (i ≤ b) := by simp [h1]
    show Q (.bl (decide (i ≤ b))) H
    rw [← e]; exact q
  · rw [if_neg (by simpa using h1)]
    have e : decide (a ≤ i ∧ i ≤ b) = false := by simp [h1]
    show Q (.bl false) H
    rw [← e]; exact q
/-! ### is_gate -/
theorem sc_is_gate : FnScope ["value", "at"] ["value", "at"] (defScope s_is_gate) := ⟨rfl, rfl, rfl, by decide +kernel, rfl, by decide +kernel, by decide +kernel⟩
def sp_is_gate : Sp := fun vs H Q _ => ∃ (t : Addr) (n : Nat) (g : Gate), vs = [.ref t, .int n] ∧ H t = some (.tup (enG g)) ∧ GateOk n g ∧ ∀ H', Same H H' → Q (.bl true) H'
theorem cal_is_gate (D : DefM K mg "is_gate" "is_gate" s_is_gate) (G : GC mg) (c : C8.Cal P w K mg base 1 "is_from" sp_is_within []) : C8.Cal P w K mg base 2 "is_gate" sp_is_gate [] := by
  refine calM D sc_is_gate (fun vs H Q E h => by obtain ⟨_, _, _, rfl, _⟩ := h; rfl) (fun _ _ _ _ _ _ us hl => match us, hl with | [_, _], _ => rfl) fun f cdv A outer s H vs Q E hr h => ?_
  refine ⟨_, pss_cons (ps_if (PW.pt (pw_or (pt_not (pt_val (pe_callB call_isi (by rfl) G.b.isinstance (by decide +kernel) (pa_cons (pv 0) (pa_cons (pe_bltn (v := .ty "tuple") (by rfl) G.b.tuple (by decide +kernel) rfl) pa_nil)))))
      (pw_or (pt_cmpR op_notIn_seq (pe_callB call_len_seq (by rfl) G.b.len (by decide +kernel) (pa_cons (pv 0) pa_nil)) (pe_tup (pa_cons pe_int (pa_cons pe_int pa_nil))) (by rfl))
      (pw_or1 (pt_not (pt_val (pe_callB call_isi (by rfl) G.b.isinstance (by decide +kernel) (pa_cons (pe_ix ix_tup (pv 0) pe_int (fun _ _ => rfl)) (pa_cons (pe_bltn (v := .ty "str") (by rfl) G.b.str (by decide +kernel) rfl) pa_nil)))))))))
      (pss_one (ps_ret pe_bl)) pss_nil)
    (pss_cons (ps_if (pt_cmpR op_eq (pe_callB call_len_seq (by rfl) G.b.len (by decide +kernel) (pa_cons (pv 0) pa_nil)) pe_int (nomark _))
      (pss_cons (ps_if (pt_cmpR op_eq (pe_ix ix_tup (pv 0) pe_int (fun _ _ => rfl)) (C8.pe_gc (by rfl) G.cI) (nomark _))
        (pss_one (ps_ret (C8.pe_c c hr (by decide) (by rfl) (pa_cons (pe_ix ix_tup (pv 0) pe_int (fun _ _ => rfl)) (pa_cons pe_int (pa_cons (C8.pe_gc (by rfl) G.mH) pa_nil)))))) pss_nil)
      (pss_one (ps_ret (pe_and (pe_cmpR op_eq (pe_ix ix_tup (pv 0) pe_int (fun _ _ => rfl)) (C8.pe_gc (by rfl) G.cC) (nomark _))
        (pe_one (C8.pe_c c hr (by decide) (by rfl) (pa_cons (pe_ix ix_tup (pv 0) pe_int (fun _ _ => rfl)) (pa_cons pe_int (pa_cons (C8.pe_gc (by rfl) G.mN) pa_nil)))))))))
      pss_nil)
    (pss_cons (ps_if (PW.pt (pw_or (pt_cmpR op_notIn_seq (pe_ix ix_tup (pv 0) pe_int (fun _ _ => rfl)) (pe_tup (pa_cons (C8.pe_gc (by rfl) G.cS) (pa_cons (C8.pe_gc (by rfl) G.cM) (pa_cons (C8.pe_gc (by rfl) G.cP) pa_nil)))) (by rfl))
      (pw_or1 (pt_not (pt_val (C8.pe_c c hr (by decide) (by rfl) (pa_cons (pe_ix ix_tup (pv 0) pe_int (fun _ _ => rfl)) (pa_cons pe_int (pa_cons (pe_op op_sub (pv 1) pe_int) pa_nil)))))))))
      (pss_one (ps_ret pe_bl)) pss_nil)
    (pss_one (ps_ret (C8.pe_c c hr (by decide) (by rfl) (pa_cons (pe_ix ix_tup (pv 0) pe_int (fun _ _ => rfl)) (pa_cons pe_int (pa_cons
      (pe_ifExp (pt_cmpR op_eq (pe_ix ix_tup (pv 0) pe_int (fun _ _ => rfl)) (C8.pe_gc (by rfl) G.cM) (nomark _)) (C8.pe_gc (by rfl) G.mN) (pe_op op_sub (pv 1) pe_int)) pa_nil)))))))), ?_⟩
  obtain ⟨t, n, g, rfl, ht, ok, q⟩ := h
  have sq : ∀ H', Same H H' → SqT K H' t (enG g) := fun H' s1 => .inl (.inl (s1 _ _ ht))
  refine ⟨_, rfl, _, _, _, _, true, rfl, .ty "tuple", .base (.tup ht), kit_ty (by decide +kernel), _, rfl, ?_⟩
  have hl : (enG g).length = 2 ∨ (enG g).length = 3 := by cases g <;> simp [enG]
  refine ⟨_, rfl, t, enG g, rfl, .inr (sq _ (Same.refl _)), (by show 2 ≤ sizeLine; decide), fun tp htp => ?_⟩
  have s1 : Same H (upd H tp (.tup [.int 2, .int 3])) := same_upd htp
  refine ⟨tp, [.int 2, .int 3], rfl, .inr (.inl (.inl upd_same)), rfl, rfl, _, rfl, ?_⟩
  have hin : inV (V.int ((enG g).length : Int)) [.int 2, .int 3] = true := by
    rcases hl with e | e <;> rw [e] <;> rfl
  rw [hin]
  refine ⟨_, rfl, t, enG g, 0, _, rfl, rfl, sq _ s1, atI_nat (j := 0) (enG_0 g), ?_⟩
  refine ⟨_, _, _, _, true, rfl, .ty "str", .base (.str _), kit_ty (by decide +kernel), _, rfl, ?_⟩
  refine ⟨_, rfl, t, enG g, rfl, .inr (sq _ s1), rfl, _, rfl, ?_⟩
  cases g with
  | inp h =>
    have ok1 : 1 ≤ h ∧ h ≤ 9 := ok
    have e1 : decide (V.int ((((enG (.inp h)).length : Nat)) : Int) = V.int 2) = true := decide_eq_true rfl
    rw [e1]
    refine ⟨_, rfl, t, _, 0, _, rfl, rfl, sq _ s1, atI_nat (j := 0) rfl, rfl, _, rfl, ?_⟩
    rw [str_eq]
    refine ⟨_, rfl, t, _, 1, _, rfl, rfl, sq _ s1, atI_nat (j := 1) rfl, _, _, _, rfl, ?_⟩
    rw [decide_eq_true ok1]
    exact q _ s1
  | const c =>
    have ok1 : 0 ≤ c ∧ c ≤ 996 := ok
    have e1 : decide (V.int ((((enG (.const c)).length : Nat)) : Int) = V.int 2) = true := decide_eq_true rfl
    rw [e1]
    refine ⟨_, rfl, t, _, 0, _, rfl, rfl, sq _ s1, atI_nat (j := 0) rfl, rfl, _, rfl, ?_⟩
    rw [str_ne (by decide +kernel)]
    refine ⟨_, rfl, t, _, 0, _, rfl, rfl, sq _ s1, atI_nat (j := 0) rfl, rfl, _, rfl, ?_⟩
    rw [str_eq]
    refine ⟨_, rfl, t, _, 1, _, rfl, rfl, sq _ s1, atI_nat (j := 1) rfl, _, _, _, rfl, ?_⟩
    rw [decide_eq_true ok1]
    exact q _ s1
  | sum a b =>
    have e1 : decide (V.int ((((enG (.sum a b)).length : Nat)) : Int) = V.int 2) = false := decide_eq_false fun z => absurd (V.int.inj z) (show ((3 : Nat) : Int) ≠ 2 by decide)
    rw [e1]
    refine ⟨_, rfl, t, _, 0, _, rfl, rfl, sq _ s1, atI_nat (j := 0) rfl, (by show 3 ≤ sizeLine; decide), fun tq htq => ?_⟩
    have s2 := s1.trans (same_upd (o := .tup [.str "sum", .str "times", .str "product"]) htq)
    refine ⟨tq, _, rfl, .inr (.inl (.inl upd_same)), rfl, rfl, _, rfl, ?_⟩
    rw [show inV (V.str "sum") [V.str "sum", V.str "times", V.str "product"] = true by decide +kernel]
    refine ⟨_, rfl, t, _, 1, _, rfl, rfl, sq _ s2, atI_nat (j := 1) rfl, _, rfl, _, _, rfl, rfl, _, _, _, rfl, _, rfl, ?_⟩
    rw [decide_eq_true (show (0 : Int) ≤ (a : Int) ∧ (a : Int) ≤ (n : Int) - 1 from ⟨by omega, by have := ok.1; omega⟩)]
    refine ⟨_, rfl, t, _, 2, _, rfl, rfl, sq _ s2, atI_nat (j := 2) rfl, ?_⟩
    refine ⟨_, rfl, t, _, 0, _, rfl, rfl, sq _ s2, atI_nat (j := 0) rfl, rfl, _, rfl, ?_⟩
    rw [str_ne (by decide +kernel)]
    refine ⟨_, rfl, _, _, rfl, rfl, _, _, _, rfl, ?_⟩
    rw [decide_eq_true (show (0 : Int) ≤ (b : Int) ∧ (b : Int) ≤ (n : Int) - 1 from ⟨by omega, by have := ok.2; omega⟩)]
    exact q _ s2
  | times a c =>
    have e1 : decide (V.int ((((enG (.times a c)).length : Nat)) : Int) = V.int 2) = false := decide_eq_false fun z => absurd (V.int.inj z) (show ((3 : Nat) : Int) ≠ 2 by decide)
    rw [e1]
    refine ⟨_, rfl, t, _, 0, _, rfl, rfl, sq _ s1, atI_nat (j := 0) rfl, (by show 3 ≤ sizeLine; decide), fun tq htq => ?_⟩
    have s2 := s1.trans (same_upd (o := .tup [.str "sum", .str "times", .str "product"]) htq)
    refine ⟨tq, _, rfl, .inr (.inl (.inl upd_same)), rfl, rfl, _, rfl, ?_⟩
    rw [show inV (V.str "times") [V.str "sum", V.str "times", V.str "product"] = true by decide +kernel]
    refine ⟨_, rfl, t, _, 1, _, rfl, rfl, sq _ s2, atI_nat (j := 1) rfl, _, rfl, _, _, rfl, rfl, _, _, _, rfl, _, rfl, ?_⟩
    rw [decide_eq_true (show (0 : Int) ≤ (a : Int) ∧ (a : Int) ≤ (n : Int) - 1 from ⟨by omega, by have := ok.1; omega⟩)]
    refine ⟨_, rfl, t, _, 2, _, rfl, rfl, sq _ s2, atI_nat (j := 2) rfl, ?_⟩
    refine ⟨_, rfl, t, _, 0, _, rfl, rfl, sq _ s2, atI_nat (j := 0) rfl, rfl, _, rfl, ?_⟩
    rw [str_eq]
    refine ⟨_, _, _, rfl, ?_⟩
    have ok2 : 0 ≤ c ∧ c ≤ 996 := ok.2
    rw [decide_eq_true ok2]
    exact q _ s2
  | prod a b =>
    have e1 : decide (V.int ((((enG (.prod a b)).length : Nat)) : Int) = V.int 2) = false := decide_eq_false fun z => absurd (V.int.inj z) (show ((3 : Nat) : Int) ≠ 2 by decide)
    rw [e1]
    refine ⟨_, rfl, t, _, 0, _, rfl, rfl, sq _ s1, atI_nat (j := 0) rfl, (by show 3 ≤ sizeLine; decide), fun tq htq => ?_⟩
    have s2 := s1.trans (same_upd (o := .tup [.str "sum", .str "times", .str "product"]) htq)
    refine ⟨tq, _, rfl, .inr (.inl (.inl upd_same)), rfl, rfl, _, rfl, ?_⟩
    rw [show inV (V.str "product") [V.str "sum", V.str "times", V.str "product"] = true by decide +kernel]
    refine ⟨_, rfl, t, _, 1, _, rfl, rfl, sq _ s2, atI_nat (j := 1) rfl, _, rfl, _, _, rfl, rfl, _, _, _, rfl, _, rfl, ?_⟩
    rw [decide_eq_true (show (0 : Int) ≤ (a : Int) ∧ (a : Int) ≤ (n : Int) - 1 from ⟨by omega, by have := ok.1; omega⟩)]
    refine ⟨_, rfl, t, _, 2, _, rfl, rfl, sq _ s2, atI_nat (j := 2) rfl, ?_⟩
    refine ⟨_, rfl, t, _, 0, _, rfl, rfl, sq _ s2, atI_nat (j := 0) rfl, rfl, _, rfl, ?_⟩
    rw [str_ne (by decide +kernel)]
    refine ⟨_, rfl, _, _, rfl, rfl, _, _, _, rfl, ?_⟩
    rw [decide_eq_true (show (0 : Int) ≤ (b : Int) ∧ (b : Int) ≤ (n : Int) - 1 from ⟨by omega, by have := ok.2; omega⟩)]
    exact q _ s2
end
end K24
end
section
set_option autoImplicit false
set_option Elab.async false
set_option linter.all false
set_option maxRecDepth 100000
set_option maxHeartbeats 1000000
/-! plan.circuits: what a circuit must be, lists -/
namespace K24
open PySem PySem.Spec PyProof.Rows L2 RZ
theorem hu64' {A : Around} {k : Nat} (hr : Room k A) : A.units + 64 < cLine := hr.units
def HsOk (hs : List Int) : Prop := hs = [1] ∨ hs = [1, 3]
theorem HsOk.in_ {hs : List Int} (h : HsOk hs) : ∀ x ∈ hs, 1 ≤ x ∧ x ≤ 9 := by
  rcases h with h | h <;> subst h <;> simp
theorem DpAll_ints {K : PySem.W.Frag} {H : Hp} : ∀ hs : List Int, DpAll K H (hs.map V.int) (hs.map PyData.int)
  | [] => .nil
  | i :: hs => .cons (.int i) (DpAll_ints hs)
section
variable {P : Program} {w : World} {K : PySem.W.Frag} {mg : Str → Option Value} {base : Heap}
/-! ### are_houses -/
theorem sc_are_houses : FnScope ["value", "one", "other"] ["value"] (defScope s_are_houses) := ⟨rfl, rfl, rfl, by decide +kernel, rfl, by decide +kernel, by decide +kernel⟩
def sp_are_houses : Sp := fun vs H Q _ => ∃ t hs, vs = [.ref t] ∧ H t = some (.tup (hs.map V.int)) ∧ HsOk hs ∧ ∀ H', Same H H' → Q (.bl true) H'
theorem cal_are_houses (D : DefM K mg "are_houses" "are_houses" s_are_houses) (G : GC mg) (c : C8.Cal P w K mg base 1 "is_from" sp_is_within []) : C8.Cal P w K mg base 2 "are_houses" sp_are_houses [] := by
  refine calM D sc_are_houses (fun vs H Q E h => by obtain ⟨_, _, rfl, _⟩ := h; rfl) (fun _ _ _ _ _ _ us hl => match us, hl with | [_], _ => rfl) fun f cdv A outer s H vs Q E hr h => ?_
  refine ⟨_, pss_cons (ps_if (PW.pt (pw_or (pt_not (pt_val (pe_callB call_isi (by rfl) G.b.isinstance (by decide +kernel) (pa_cons (pv 0) (pa_cons (pe_bltn (v := .ty "tuple") (by rfl) G.b.tuple (by decide +kernel) rfl) pa_nil)))))
      (pw_or (pt_cmpR (op_eqD (hu64' hr)) (pv 0) (pe_tup pa_nil) (nomark _))
      (pw_or1 (pt_not (pt_val (pe_callB (cr_all rfl) (by rfl) G.b.all (by decide +kernel) (pa_cons (pe_lc (own := [("one", 1)]) (g := gName 1) (tt := tYes) rfl sc_are_houses.nd
        (pi_tup (pv 0)) (blkOk_by (N := ["value", "one", "other"]) (sc := defScope s_are_houses) (by decide +kernel)) (fun _ _ _ _ _ => pg_name (i := 1) sc_are_houses.nd rfl (Or.inl rfl)) (fun _ _ _ _ _ => pts_nil)
        (fun _ _ _ _ _ => C8.pe_c c hr (by decide) (by rfl) (pa_cons (pv 1) (pa_cons pe_int (pa_cons (C8.pe_gc (by rfl) G.mH) pa_nil))))) pa_nil))))))))
      (pss_one (ps_ret pe_bl)) pss_nil)
    (pss_one (ps_ret (pe_callB (cr_all rfl) (by rfl) G.b.all (by decide +kernel) (pa_cons (pe_lc (own := [("one", 1), ("other", 2)]) (g := gTup K 2 (gCons (gName 1) (gCons (gName 2) gNil))) (tt := tYes) rfl sc_are_houses.nd
        (pi_zipA (by rfl) G.b.zip (pa_cons (pv 0) (pa_cons (pe_slice sl_tupA (pv 0) (po_some pe_int) po_none) pa_nil)))
        (blkOk_by (N := ["value", "one", "other"]) (sc := defScope s_are_houses) (by decide +kernel))
        (fun _ _ _ _ _ => pg_tup rfl (pgs_cons (pg_name (i := 1) sc_are_houses.nd rfl (Or.inl rfl)) (pgs_cons (pg_name (i := 2) sc_are_houses.nd rfl (Or.inl rfl)) pgs_nil)))
        (fun _ _ _ _ _ => pts_nil) (fun _ _ _ _ _ => pe_cmpR op_lt (pv 1) (pv 2) (nomark _))) pa_nil)))), ?_⟩
  obtain ⟨t, hs, rfl, ht, ok, q⟩ := h
  refine ⟨_, rfl, _, _, _, _, true, rfl, .ty "tuple", .base (.tup ht), kit_ty (by decide +kernel), _, rfl, ?_⟩
  have s0 : ∀ p, H p = none → Same H (upd H p (.tup [])) := fun p hp => same_upd hp
  refine ⟨_, rfl, (Nat.zero_le _), fun p hp => ?_⟩
  have sq : ∀ H', Same H H' → SqT K H' t (hs.map V.int) := fun H' s1 => .inl (.inl (s1 _ _ ht))
  have he : PyData.eqv (.tuple (hs.map PyData.int)) (.tuple []) = false := by rcases ok with e | e <;> subst e <;> decide +kernel
  have hsh : SeqAt.shaped (.tuple (hs.map PyData.int)) = true := by rcases ok with e | e <;> subst e <;> decide +kernel
  refine ⟨.tuple (hs.map PyData.int), .tuple [], .tup (sq _ (s0 p hp)) (DpAll_ints hs), .tup (.inl (.inl upd_same)) .nil, hsh, by decide +kernel, _, rfl, ?_⟩
  rw [he]
  have hl : hs.length ≤ 2 := by rcases ok with e | e <;> subst e <;> decide
  have one : ∀ n, (List.replicate n true).all id = true := fun n => by simp
  refine ⟨_, rfl, t, rfl, ⟨_, sq _ (s0 p hp)⟩, fun Dl hD => ?_⟩
  refine lc_it (walk_tup (xs := hs.map V.int)) (LcI (upd H p (.tup [])) Dl fun i => List.replicate i (.bl true)) (lcI0 hD rfl) (fun i H1 hi p1 => sq _ ((s0 p hp).trans p1.1)) (fun i x H1 H2 hi p1 y => ?_) (fun H1 p1 => ?_)
  · obtain ⟨rfl, hx⟩ := y
    obtain ⟨a, ha, rfl⟩ := getI hx
    refine ⟨rfl, _, rfl, _, _, _, rfl, ?_⟩
    rw [decide_eq_true (ok.in_ a (List.mem_of_getElem? ha))]
    refine lcPut hD p1 (Same.refl _) (by rw [List.length_replicate]; rw [List.length_map] at hi; exact small1000 (by omega)) (by rw [List.replicate_succ'] <;> rfl)
  · refine ⟨Dl, List.replicate _ true, rfl, .inl (.inl (by rw [List.map_replicate]; exact p1.2)), ?_⟩
    rw [one]
    refine ⟨_, rfl, ?_⟩
    have s1 : Same H H1 := (s0 p hp).trans p1.1
    -- the pairs
    refine ⟨_, rfl, _, rfl, _, rfl, t, _, rfl, sq _ s1, (fun z => ?_), (fun z p2 hp2 => ?_)⟩
    · exfalso
      rcases ok with e | e <;> subst e <;> exact absurd z.1 (by decide)
    · have ec : cutV (hs.map V.int) (some 1) none = (hs.drop 1).map V.int := by rcases ok with e | e <;> subst e <;> rfl
      rw [ec]
      have s2 : Same H (upd H1 p2 (.tup ((hs.drop 1).map V.int))) := s1.trans (same_upd hp2)
      refine ⟨t, p2, hs.map V.int, (hs.drop 1).map V.int, rfl, .inr ⟨sq _ s2, .inl (.inl upd_same), fun Dm hDm => ?_⟩⟩
      refine lc_it (walk_zipT rfl) (LcI (upd H1 p2 (.tup ((hs.drop 1).map V.int))) Dm fun i => List.replicate i (.bl true)) (lcI0 hDm rfl) (fun i H1 hi p1 => ⟨sq _ (s2.trans p1.1), .inl (.inl (p1.1 _ _ upd_same))⟩) (fun i x H3 H4 hi p3 y => ?_) (fun H3 p3 => ?_)
      · obtain ⟨T, x, z, rfl, hT, rfl, hx, hz⟩ := y
        obtain ⟨a, ha, rfl⟩ := getI hx
        obtain ⟨b, hb, rfl⟩ := getI hz
        have hlt : a < b := by
          rcases ok with e | e
          · subst e; simp at hb
          · subst e
            cases i with
            | zero => simp at ha hb; omega
            | succ i => simp at hb
        refine ⟨T, _, rfl, .inl (.inl upd_same), rfl, _, _, rfl, _, _, rfl, rfl, rfl, ?_⟩
        refine ⟨_, rfl, _, rfl, _, _, rfl, rfl, ?_⟩
        refine lcPut hDm p3 (same_upd hT) (by rw [List.length_replicate]; rw [List.length_map, List.length_map] at hi; exact small1000 (by omega)) (by show List.replicate (i + 1) _ = List.replicate i _ ++ [V.bl (decide (a < b))]; rw [decide_eq_true hlt, List.replicate_succ'])
      · refine ⟨Dm, List.replicate _ true, rfl, .inl (.inl (by rw [List.map_replicate]; exact p3.2)), ?_⟩
        rw [one]
        exact q _ (s2.trans p3.1)
/-! ### is_output -/
theorem sc_is_output : FnScope ["value", "many"] ["value", "many"] (defScope s_is_output) := ⟨rfl, rfl, rfl, by decide +kernel, rfl, by decide +kernel, by decide +kernel⟩
def OutAt (H : Hp) (t : Addr) (m : Int) : Prop := ∃ (ht : Addr) (hs : List Int) (g : Int), H t = some (.tup [.int g, .ref ht]) ∧ H ht = some (.tup (hs.map V.int)) ∧ HsOk hs ∧ 0 ≤ g ∧ g ≤ m - 1
theorem OutAt.same {H H' : Hp} {t : Addr} {m : Int} (s : Same H H') (h : OutAt H t m) : OutAt H' t m := by
  obtain ⟨ht, hs, g, h1, h2, h3⟩ := h
  exact ⟨ht, hs, g, s _ _ h1, s _ _ h2, h3⟩
def sp_is_output : Sp := fun vs H Q _ => ∃ t m, vs = [.ref t, .int m] ∧ OutAt H t m ∧ ∀ H', Same H H' → Q (.bl true) H'
theorem cal_is_output (D : DefM K mg "is_output" "is_output" s_is_output) (G : GC mg) (c : C8.Cal P w K mg base 1 "is_from" sp_is_within []) (ch : C8.Cal P w K mg base 2 "are_houses" sp_are_houses []) : C8.Cal P w K mg base 3 "is_output" sp_is_output [] := by
  refine calM D sc_is_output (fun vs H Q E h => by obtain ⟨_, _, rfl, _⟩ := h; rfl) (fun _ _ _ _ _ _ us hl => match us, hl with | [_, _], _ => rfl) fun f cdv A outer s H vs Q E hr h => ?_
  refine ⟨_, pss_one (ps_ret (pe_and (pe_callB call_isi (by rfl) G.b.isinstance (by decide +kernel) (pa_cons (pv 0) (pa_cons (pe_bltn (v := .ty "tuple") (by rfl) G.b.tuple (by decide +kernel) rfl) pa_nil)))
    (pe_and (pe_cmpR op_eq (pe_callB call_len_seq (by rfl) G.b.len (by decide +kernel) (pa_cons (pv 0) pa_nil)) pe_int (nomark _))
    (pe_and (C8.pe_c c hr (by decide) (by rfl) (pa_cons (pe_ix ix_tup (pv 0) pe_int (fun _ _ => rfl)) (pa_cons pe_int (pa_cons (pe_op op_sub (pv 1) pe_int) pa_nil))))
    (pe_one (C8.pe_c ch hr (by decide) (by rfl) (pa_cons (pe_ix ix_tup (pv 0) pe_int (fun _ _ => rfl)) pa_nil))))))), ?_⟩
  obtain ⟨t, m, rfl, ⟨ht, hs, g, h1, h2, ok, hg0, hg1⟩, q⟩ := h
  have sq : SqT K H t [.int g, .ref ht] := .inl (.inl h1)
  refine ⟨_, rfl, _, _, _, _, true, rfl, .ty "tuple", .base (.tup h1), kit_ty (by decide +kernel), _, rfl, ?_⟩
  refine ⟨_, rfl, t, _, rfl, .inr sq, rfl, _, rfl, ?_⟩
  refine ⟨_, rfl, t, _, 0, _, rfl, rfl, sq, atI_nat (j := 0) rfl, _, rfl, _, _, rfl, rfl, _, _, _, rfl, _, rfl, ?_⟩
  rw [decide_eq_true ⟨hg0, hg1⟩]
  refine ⟨_, rfl, t, _, 1, _, rfl, rfl, sq, atI_nat (j := 1) rfl, ht, hs, rfl, h2, ok, fun H' s1 => q H' s1⟩
/-! ### many_of -/
theorem sc_many_of : FnScope ["gates", "word", "gate"] ["gates", "word"] (defScope s_many_of) := ⟨rfl, rfl, rfl, by decide +kernel, rfl, by decide +kernel, by decide +kernel⟩
def wordIs (z : Str) (g : Gate) : Bool := decide (word g = z)
def sp_many_of : Sp := fun vs H Q _ => ∃ a z gs, vs = [.ref a, .str z] ∧ GatesAt H a gs ∧ gs.length ≤ 1000 ∧ ∀ H', Same H H' → Q (.int ((gs.filter (wordIs z)).length : Nat)) H'
theorem refI {ts : List Addr} {n : Nat} {x : V} (h : (ts.map V.ref)[n]? = some x) : ∃ a, ts[n]? = some a ∧ V.ref a = x := by
  rw [List.getElem?_map] at h
  cases q1 : ts[n]? with
  | none => rw [q1] at h; cases h
  | some a => rw [q1] at h; exact ⟨a, rfl, Option.some.inj h⟩
theorem filt_succ (z : Gate → Bool) (gs : List Gate) (ts : List Addr) {i : Nat} {g : Gate} {t : Addr} (hg : gs[i]? = some g) (ht : ts[i]? = some t) :
    (((gs.zip ts).take (i + 1)).filter fun x => z x.1).map (fun x => V.ref x.2) = (((gs.zip ts).take i).filter fun x => z x.1).map (fun x => V.ref x.2) ++ if z g = true then [.ref t] else [] := by
  have e : (gs.zip ts)[i]? = some (g, t) := by
    rw [List.getElem?_zip_eq_some]
    exact ⟨hg, ht⟩
  rw [List.take_succ, e, List.filter_append, List.map_append]
  congr 1
  cases q : z g <;> simp [q]
theorem zip_filt (z : Gate → Bool) : ∀ (gs : List Gate) (ts : List Addr), gs.length = ts.length → ((gs.zip ts).filter fun x => z x.1).length = (gs.filter z).length
  | [], [], _ => rfl
  | [], _ :: _, h => by simp at h
  | _ :: _, [], h => by simp at h
  | g :: gs, t :: ts, h => by
    have ih := zip_filt z gs ts (by simpa using h)
    rw [List.zip_cons_cons, List.filter_cons, List.filter_cons]
    cases z g <;> simp [ih]
theorem cal_many_of (D : DefM K mg "many_of" "many_of" s_many_of) (g : GB mg) : C8.Cal P w K mg base 1 "many_of" sp_many_of [] := by
  refine calM D sc_many_of (fun vs H Q E h => by obtain ⟨_, _, _, rfl, _⟩ := h; rfl) (fun _ _ _ _ _ _ us hl => match us, hl with | [_, _], _ => rfl) fun f cdv A outer s H vs Q E hr h => ?_
  refine ⟨_, pss_one (ps_ret (pe_callB call_len_seq (by rfl) g.len (by decide +kernel) (pa_cons (pe_lc (own := [("gate", 2)]) (g := gName 2) rfl sc_many_of.nd
    (pi_tup (pv 0)) (blkOk_by (N := ["gates", "word", "gate"]) (sc := defScope s_many_of) (by decide +kernel)) (fun _ _ _ _ _ => pg_name (i := 2) sc_many_of.nd rfl (Or.inl rfl))
    (fun _ _ _ _ _ => pts_one (pt_cmpR op_eq (pe_ix (r := rIxT K) ix_tup (pv 2) pe_int (fun _ _ => rfl)) (pv 1) (nomark _))) (fun _ _ _ _ _ => pv 2)) pa_nil))), ?_⟩
  obtain ⟨a, z, gs, rfl, ⟨ts, ha, hp⟩, hz, q⟩ := h
  have hl : ts.length = gs.length := Paired.length hp
  refine ⟨_, rfl, a, rfl, ⟨_, .inl (.inl ha)⟩, fun Dl hD => ?_⟩
  refine lc_it (walk_tup (xs := ts.map V.ref)) (LcI H Dl fun i => (((gs.zip ts).take i).filter fun x => wordIs z x.1).map fun x => V.ref x.2) (lcI0 hD rfl) (fun i H1 hi p1 => .inl (.inl (p1.1 _ _ ha))) (fun i x H1 H2 hi p1 y => ?_) (fun H1 p1 => ?_)
  · obtain ⟨rfl, hx⟩ := y
    obtain ⟨t, ht, rfl⟩ := refI hx
    obtain ⟨g, hg, hge⟩ := LiI.paired_get hp ht
    have hge2 := p1.1 _ _ hge
    refine ⟨rfl, _, rfl, t, _, 0, _, rfl, rfl, .inl (.inl hge2), atI_nat (j := 0) (enG_0 g), _, rfl, rfl, _, rfl, ?_⟩
    have hs := filt_succ (wordIs z) gs ts hg ht
    have ew : decide (V.str (word g) = V.str z) = wordIs z g := by
      unfold wordIs
      by_cases e : word g = z
      · rw [decide_eq_true e, e]; exact str_eq _
      · rw [decide_eq_false e]; exact str_ne e
    rw [ew]
    cases hw : wordIs z g with
    | true =>
      rw [hw, if_pos rfl] at hs
      refine ⟨_, rfl, ?_⟩
      refine lcPut hD p1 (Same.refl _) ?_ hs
      rw [List.length_map]
      have h1 := List.length_filter_le (fun x : Gate × Addr => wordIs z x.1) ((gs.zip ts).take i)
      rw [List.length_take, List.length_zip] at h1
      exact small10 (by omega)
    | false =>
      rw [hw, if_neg (by decide), List.append_nil] at hs
      exact lcSkip p1 (Same.refl _) hs
  · have e : List.take (ts.map V.ref).length (gs.zip ts) = gs.zip ts := List.take_of_length_le (by rw [List.length_map, List.length_zip]; omega)
    have h2 : H1 Dl = some (.lst (((gs.zip ts).filter fun x => wordIs z x.1).map fun x => V.ref x.2)) := by
      have h := p1.2
      dsimp only at h
      rw [e] at h
      exact h
    refine ⟨Dl, _, rfl, .inl (.inl (.inl h2)), ?_⟩
    rw [List.length_map, zip_filt _ _ _ hl.symm]
    exact q _ p1.1
end
end K24
end
section
set_option autoImplicit false
set_option Elab.async false
set_option linter.all false
set_option maxRecDepth 100000
set_option maxHeartbeats 1000000
/-! plan.circuits: Circuit -/
namespace K24
open PySem PySem.Spec PyProof.Rows L2 SlX
theorem all_yes (n : Nat) : (List.replicate n true).all id = true := by simp
theorem word_inp : wordIs "input" = isInp := by
  funext g
  cases g with
  | inp h => exact (by decide +kernel : decide (("input" : Str) = "input") = true)
  | const c => exact (by decide +kernel : decide (("constant" : Str) = "input") = false)
  | sum a b => exact (by decide +kernel : decide (("sum" : Str) = "input") = false)
  | times a b => exact (by decide +kernel : decide (("times" : Str) = "input") = false)
  | prod a b => exact (by decide +kernel : decide (("product" : Str) = "input") = false)
theorem word_prod : wordIs "product" = isProd := by
  funext g
  cases g with
  | inp h => exact (by decide +kernel : decide (("input" : Str) = "product") = false)
  | const c => exact (by decide +kernel : decide (("constant" : Str) = "product") = false)
  | sum a b => exact (by decide +kernel : decide (("sum" : Str) = "product") = false)
  | times a b => exact (by decide +kernel : decide (("times" : Str) = "product") = false)
  | prod a b => exact (by decide +kernel : decide (("product" : Str) = "product") = true)
section
variable {P : Program} {w : World} {K : PySem.W.Frag} {mg : Str → Option Value} {base : Heap}
/-! ### are_gates -/
theorem sc_are_gates : FnScope ["value", "at", "gate"] ["value"] (defScope s_are_gates) := ⟨rfl, rfl, rfl, by decide +kernel, rfl, by decide +kernel, by decide +kernel⟩
def sp_are_gates : Sp := fun vs H Q _ => ∃ a gs, vs = [.ref a] ∧ GatesAt H a gs ∧ GsOk gs ∧ ∀ H', Same H H' → Q (.bl true) H'
theorem cal_are_gates (D : DefM K mg "are_gates" "are_gates" s_are_gates) (G : GC mg) (cg : C8.Cal P w K mg base 2 "is_gate" sp_is_gate []) (cm : C8.Cal P w K mg base 1 "many_of" sp_many_of []) : C8.Cal P w K mg base 3 "are_gates" sp_are_gates [] := by
  refine calM D sc_are_gates (fun vs H Q E h => by obtain ⟨_, _, rfl, _⟩ := h; rfl) (fun _ _ _ _ _ _ us hl => match us, hl with | [_], _ => rfl) fun f cdv A outer s H vs Q E hr h => ?_
  refine ⟨_, pss_cons (ps_if (PW.pt (pw_or (pt_not (pt_val (pe_callB call_isi (by rfl) G.b.isinstance (by decide +kernel) (pa_cons (pv 0) (pa_cons (pe_bltn (v := .ty "tuple") (by rfl) G.b.tuple (by decide +kernel) rfl) pa_nil)))))
      (pw_or1 (pt_not (pt_chain op_le op_le pe_int (pe_callB call_len_seq (by rfl) G.b.len (by decide +kernel) (pa_cons (pv 0) pa_nil)) (C8.pe_gc (by rfl) G.mG))))))
      (pss_one (ps_ret pe_bl)) pss_nil)
    (pss_cons (ps_if (pt_not (pt_val (pe_callB (cr_all rfl) (by rfl) G.b.all (by decide +kernel) (pa_cons (pe_lc (own := [("at", 1), ("gate", 2)]) (g := gTup K 2 (gCons (gName 1) (gCons (gName 2) gNil))) (tt := tYes) rfl sc_are_gates.nd
        (pi_enumT (by rfl) G.b.enumerate (pa_cons (pv 0) pa_nil)) (blkOk_by (N := ["value", "at", "gate"]) (sc := defScope s_are_gates) (by decide +kernel))
        (fun _ _ _ _ _ => pg_tup rfl (pgs_cons (pg_name (i := 1) sc_are_gates.nd rfl (Or.inl rfl)) (pgs_cons (pg_name (i := 2) sc_are_gates.nd rfl (Or.inl rfl)) pgs_nil)))
        (fun _ _ _ _ _ => pts_nil) (fun _ _ _ _ _ => C8.pe_c cg hr (by decide) (by rfl) (pa_cons (pv 2) (pa_cons (pv 1) pa_nil)))) pa_nil)))) (pss_one (ps_ret pe_bl)) pss_nil)
    (pss_one (ps_ret (pe_and (pe_cmpR op_le (C8.pe_c cm hr (by decide) (by rfl) (pa_cons (pv 0) (pa_cons (C8.pe_gc (by rfl) G.cI) pa_nil))) (C8.pe_gc (by rfl) G.mI) (nomark _))
      (pe_one (pe_cmpR op_le (C8.pe_c cm hr (by decide) (by rfl) (pa_cons (pv 0) (pa_cons (C8.pe_gc (by rfl) G.cP) pa_nil))) (C8.pe_gc (by rfl) G.mP) (nomark _))))))), ?_⟩
  obtain ⟨a, gs, rfl, hg, ok, q⟩ := h
  obtain ⟨ts, ha, hp⟩ := id hg
  have hl : ts.length = gs.length := Paired.length hp
  have h1 := ok.pos
  have h2 := ok.few
  have e1 : (((ts.map V.ref).length : Nat) : Int) = (gs.length : Int) := by rw [List.length_map, hl]
  have sq : ∀ H', Same H H' → SqT K H' a (ts.map V.ref) := fun H' s1 => .inl (.inl (s1 _ _ ha))
  refine ⟨_, rfl, _, _, _, _, true, rfl, .ty "tuple", .base (.tup ha), kit_ty (by decide +kernel), _, rfl, ?_⟩
  refine ⟨_, rfl, a, _, rfl, .inr (sq _ (Same.refl _)), _, _, rfl, rfl, _, rfl, ?_⟩
  refine ite_dec (fun _ => ?_) (fun z => absurd (show (1 : Int) ≤ (((ts.map V.ref).length : Nat) : Int) by omega) z)
  refine ⟨_, _, rfl, rfl, _, rfl, ?_⟩
  rw [decide_eq_true (show (((ts.map V.ref).length : Nat) : Int) ≤ 60 by omega)]
  refine ⟨_, rfl, a, ts.map V.ref, rfl, sq _ (Same.refl _), fun Dl hD => ?_⟩
  refine lc_it walk_enumT (LcI H Dl fun i => List.replicate i (.bl true)) (lcI0 hD rfl) (fun i H1 hi p1 => sq _ p1.1) (fun i x H1 H2 hi p1 y => ?_) (fun H1 p1 => ?_)
  · obtain ⟨T, x, rfl, hT, rfl, hx⟩ := y
    obtain ⟨t, ht, rfl⟩ := refI hx
    obtain ⟨g, hgi, hge⟩ := LiI.paired_get hp ht
    refine ⟨T, _, rfl, .inl (.inl upd_same), rfl, _, _, rfl, _, _, rfl, rfl, rfl, ?_⟩
    refine ⟨_, rfl, _, rfl, t, i, g, rfl, (p1.1.trans (same_upd hT)) _ _ hge, ok.ok i g hgi, fun H' s1 => ?_⟩
    exact lcPut hD p1 ((same_upd hT).trans s1) (by rw [List.length_replicate]; rw [List.length_map] at hi; exact small1000 (by omega)) (by rw [List.replicate_succ'] <;> rfl)
  · refine ⟨Dl, List.replicate _ true, rfl, .inl (.inl (by rw [List.map_replicate]; exact p1.2)), ?_⟩
    rw [all_yes]
    refine ⟨_, rfl, ?_⟩
    refine ⟨_, rfl, a, _, gs, rfl, hg.same p1.1, by omega, fun H2 s2 => ?_⟩
    have hi := ok.inps
    have hpr := ok.prods
    rw [word_inp]
    refine ⟨_, _, rfl, rfl, _, rfl, ?_⟩
    refine ite_dec (fun _ => ?_) (fun z => absurd (show ((nIn gs : Nat) : Int) ≤ 8 by omega) z)
    refine ⟨_, rfl, a, _, gs, rfl, hg.same (p1.1.trans s2), by omega, fun H3 s3 => ?_⟩
    rw [word_prod]
    refine ⟨_, _, rfl, rfl, ?_⟩
    show Q (.bl (decide ((((gs.filter isProd).length : Nat) : Int) ≤ 12))) H3
    rw [decide_eq_true (show (((gs.filter isProd).length : Nat) : Int) ≤ 12 by omega)]
    exact q _ ((p1.1.trans s2).trans s3)
/-! ### are_outputs -/
theorem sc_are_outputs : FnScope ["value", "many", "one"] ["value", "many"] (defScope s_are_outputs) := ⟨rfl, rfl, rfl, by decide +kernel, rfl, by decide +kernel, by decide +kernel⟩
def OutsAt (H : Hp) (a : Addr) (m : Int) : Prop := ∃ t, H a = some (.tup [.ref t]) ∧ OutAt H t m
theorem OutsAt.same {H H' : Hp} {t : Addr} {m : Int} (s : Same H H') (h : OutsAt H t m) : OutsAt H' t m := by
  obtain ⟨o, h1, h2⟩ := h
  exact ⟨o, s _ _ h1, h2.same s⟩
def sp_are_outputs : Sp := fun vs H Q _ => ∃ a m, vs = [.ref a, .int m] ∧ OutsAt H a m ∧ ∀ H', Same H H' → Q (.bl true) H'
theorem cal_are_outputs (D : DefM K mg "are_outputs" "are_outputs" s_are_outputs) (G : GC mg) (co : C8.Cal P w K mg base 3 "is_output" sp_is_output []) : C8.Cal P w K mg base 4 "are_outputs" sp_are_outputs [] := by
  refine calM D sc_are_outputs (fun vs H Q E h => by obtain ⟨_, _, rfl, _⟩ := h; rfl) (fun _ _ _ _ _ _ us hl => match us, hl with | [_, _], _ => rfl) fun f cdv A outer s H vs Q E hr h => ?_
  refine ⟨_, pss_cons (ps_if (PW.pt (pw_or (pt_not (pt_val (pe_callB call_isi (by rfl) G.b.isinstance (by decide +kernel) (pa_cons (pv 0) (pa_cons (pe_bltn (v := .ty "tuple") (by rfl) G.b.tuple (by decide +kernel) rfl) pa_nil)))))
      (pw_or1 (pt_not (pt_chain op_le op_le pe_int (pe_callB call_len_seq (by rfl) G.b.len (by decide +kernel) (pa_cons (pv 0) pa_nil)) (C8.pe_gc (by rfl) G.mO))))))
      (pss_one (ps_ret pe_bl)) pss_nil)
    (pss_one (ps_ret (pe_callB (cr_all rfl) (by rfl) G.b.all (by decide +kernel) (pa_cons (pe_lc (own := [("one", 2)]) (g := gName 2) (tt := tYes) rfl sc_are_outputs.nd
        (pi_tup (pv 0)) (blkOk_by (N := ["value", "many", "one"]) (sc := defScope s_are_outputs) (by decide +kernel)) (fun _ _ _ _ _ => pg_name (i := 2) sc_are_outputs.nd rfl (Or.inl rfl))
        (fun _ _ _ _ _ => pts_nil) (fun _ _ _ _ _ => C8.pe_c co hr (by decide) (by rfl) (pa_cons (pv 2) (pa_cons (pv 1) pa_nil)))) pa_nil)))), ?_⟩
  obtain ⟨a, m, rfl, ⟨t, ha, ho⟩, q⟩ := h
  have sq : ∀ H', Same H H' → SqT K H' a [.ref t] := fun H' s1 => .inl (.inl (s1 _ _ ha))
  refine ⟨_, rfl, _, _, _, _, true, rfl, .ty "tuple", .base (.tup ha), kit_ty (by decide +kernel), _, rfl, ?_⟩
  refine ⟨_, rfl, a, _, rfl, .inr (sq _ (Same.refl _)), _, _, rfl, rfl, _, rfl, ?_⟩
  refine ⟨_, _, rfl, rfl, _, rfl, ?_⟩
  refine ⟨_, rfl, a, rfl, ⟨_, sq _ (Same.refl _)⟩, fun Dl hD => ?_⟩
  refine lc_it (walk_tup (xs := [V.ref t])) (LcI H Dl fun i => List.replicate i (.bl true)) (lcI0 hD rfl) (fun i H1 hi p1 => sq _ p1.1) (fun i x H1 H2 hi p1 y => ?_) (fun H1 p1 => ?_)
  · obtain ⟨rfl, hx⟩ := y
    have hi0 : i = 0 := by simp at hi; exact hi
    subst hi0
    have ex : V.ref t = x := Option.some.inj hx
    subst ex
    refine ⟨rfl, _, rfl, _, rfl, t, m, rfl, ho.same p1.1, fun H' s1 => ?_⟩
    exact lcPut hD p1 s1 (by rw [List.length_replicate]; exact small1000 (by omega)) (by rw [List.replicate_succ'] <;> rfl)
  · refine ⟨Dl, List.replicate _ true, rfl, .inl (.inl (by rw [List.map_replicate]; exact p1.2)), ?_⟩
    rw [all_yes]
    exact q _ p1.1
end
end K24
end
section
set_option autoImplicit false
set_option Elab.async false
set_option linter.all false
set_option maxRecDepth 100000
set_option maxHeartbeats 1000000
/-! plan.circuits: the class Circuit -/
namespace K24
open PySem PySem.Spec PyProof.Rows L2 SlX
/-- what the text says of the class at C: its slots' descriptors p0, p1 at the places i0, i1; the property inputs at pI with the getter gI -/
structure CirF (K : PySem.W.Frag) (C p0 p1 pI gI fM : Addr) (i0 i1 : Nat) : Prop where
  cl : SCls K C
  isi : SIsi K C
  s0 : Slot1 K C "own_gates" p0 i0
  s1 : Slot1 K C "own_outputs" p1 i1
  ne : i0 ≠ i1
  kit : PySem.W.kitOne K (.ref C) (.ref C) = some true
  pat : PySem.W.findIn K (.ref C) "inputs" = some (some (.ref pI))
  pget : PySem.W.specialIn K (.ref pI) "__get__" = some (some (.builtin "property.__get__"))
  ptk : PySem.W.takesIn K (.ref pI) = some true
  prc : ∃ rest, PySem.W.recIn K pI "property" = some (.ref gI :: rest)
  mm : Meth K C "meaning" fM
/-- a circuit of the gates gs stands at x -/
def CirAt (C : Addr) (i0 : Nat) (H : Hp) (x : Addr) (gs : List Gate) : Prop := ∃ dx vs ga, Slt H x C dx vs ∧ vs[i0]? = some (some (.ref ga)) ∧ GatesAt H ga gs
theorem Slt.same {H H' : Hp} {a C dx : Addr} {vs : List (Option V)} (s : Same H H') (h : Slt H a C dx vs) : Slt H' a C dx vs := by
  rcases h with ⟨h1, h2⟩ | ⟨h1, h2⟩
  · exact .inl ⟨s _ _ h1, h2⟩
  · exact .inr ⟨s _ _ h1, s _ _ h2⟩
theorem CirAt.same {C : Addr} {i0 : Nat} {H H' : Hp} {x : Addr} {gs : List Gate} (s : Same H H') (h : CirAt C i0 H x gs) : CirAt C i0 H' x gs := by
  obtain ⟨dx, vs, ga, h1, h2, h3⟩ := h
  exact ⟨dx, vs, ga, Slt.same s h1, h2, h3.same s⟩
section
variable {P : Program} {w : World} {K : PySem.W.Frag} {mg : Str → Option Value} {base : Heap} {C p0 p1 pI gI fM fI : Addr} {i0 i1 : Nat}
/-! ### __init__ -/
theorem sc_C_init : FnScope ["self", "gates", "outputs"] ["self", "gates", "outputs"] (defScope s_C_init) := ⟨rfl, rfl, rfl, by decide +kernel, rfl, by decide +kernel, by decide +kernel⟩
def sp_C_init (C : Addr) (i0 : Nat) : Sp := fun vs H Q _ => ∃ x dx ga oa gs, vs = [.ref x, .ref ga, .ref oa] ∧ H x = some (.ins C dx []) ∧ dx ≠ x ∧ H dx = some (.own x) ∧ GatesAt H ga gs ∧ GsOk gs ∧ OutsAt H oa gs.length ∧
  ∀ H', (∀ b u, b ≠ x → b ≠ dx → H b = some u → H' b = some u) → CirAt C i0 H' x gs → Q .non H'
theorem ok_C_init {fd : FuncData} (F : L2.Fun K "__init__" "Circuit.__init__" s_C_init fI fd) (c : CirF K C p0 p1 pI gI fM i0 i1) (G : GC mg) (cg : C8.Cal P w K mg base 3 "are_gates" sp_are_gates []) (co : C8.Cal P w K mg base 4 "are_outputs" sp_are_outputs []) : FnOk P w K mg base CX0 5 fI fd ["self", "gates", "outputs"] (sp_C_init C i0) := by
  refine F.ok sc_C_init (fun vs H Q E h => by obtain ⟨_, _, _, _, _, rfl, _⟩ := h; rfl) fun cdv A outer s H vs Q E hr h => ?_
  refine ⟨_, pss_cons (ps_if (PW.pt (pw_or (pt_not (pt_val (C8.pe_c cg hr (by decide) (by rfl) (pa_cons (pv 1) pa_nil))))
      (pw_or1 (pt_not (pt_val (C8.pe_c co hr (by decide) (by rfl) (pa_cons (pv 2) (pa_cons (pe_callB call_len_seq (by rfl) G.b.len (by decide +kernel) (pa_cons (pv 1) pa_nil)) pa_nil))))))))
      (pss_one ps_never) pss_nil)
    (pss_cons (ps_sl (pv 0) (pv 1)) (pss_one (ps_sl (pv 0) (pv 2)))), ?_⟩
  obtain ⟨x, dx, ga, oa, gs, rfl, hx, hne, hdx, hg, ok, ho, q⟩ := h
  obtain ⟨ts, hga, hp⟩ := id hg
  have hl : ts.length = gs.length := Paired.length hp
  refine ⟨_, rfl, ga, gs, rfl, hg, ok, fun H1 s1 => ⟨_, rfl, ?_⟩⟩
  refine ⟨_, rfl, _, rfl, ga, ts.map V.ref, rfl, .inr (.inl (.inl (s1 _ _ hga))), oa, _, rfl, (by rw [List.length_map, hl]; exact ho.same s1), fun H2 s2 => ⟨_, rfl, ?_⟩⟩
  have s3 := s1.trans s2
  refine ⟨_, rfl, _, rfl, x, C, dx, p0, [], i0, rfl, .inl ⟨s3 _ _ hx, rfl⟩, c.cl, c.s0, ?_⟩
  have h4 : Slt (slH H2 x C dx (putS i0 (.ref ga) [])) x C dx (putS i0 (.ref ga) []) := slH_slt hne
  refine ⟨_, rfl, _, rfl, x, C, dx, p1, _, i1, rfl, h4, c.cl, c.s1, ?_⟩
  have h5 : Slt (slH (slH H2 x C dx (putS i0 (.ref ga) [])) x C dx (putS i1 (.ref oa) (putS i0 (.ref ga) []))) x C dx (putS i1 (.ref oa) (putS i0 (.ref ga) [])) := slH_slt hne
  have keep : ∀ b u, b ≠ x → b ≠ dx → H b = some u → slH (slH H2 x C dx (putS i0 (.ref ga) [])) x C dx (putS i1 (.ref oa) (putS i0 (.ref ga) [])) b = some u := fun b u h1 h2 e => by
    rw [slH_ne h1 h2, slH_ne h1 h2]
    exact s3 _ _ e
  have nx : ∀ b xs, H b = some (.tup xs) → b ≠ x ∧ b ≠ dx := fun b xs e => ⟨fun z => (by rw [z, hx] at e; cases e), fun z => (by rw [z, hdx] at e; cases e)⟩
  refine q _ keep ⟨dx, _, ga, h5, (putS_ne c.ne).mpr (putS_get _ _ _), ts, keep _ _ (nx _ _ hga).1 (nx _ _ hga).2 hga, paired_imp (fun t g e => keep _ _ (nx _ _ e).1 (nx _ _ e).2 e) hp⟩
/-! ### inputs -/
theorem sc_C_inputs : FnScope ["self", "at", "gate"] ["self"] (defScope s_C_inputs) := ⟨rfl, rfl, rfl, by decide +kernel, rfl, by decide +kernel, by decide +kernel⟩
def sp_inputs (C : Addr) (i0 : Nat) : Sp := fun vs H Q _ => ∃ x gs, vs = [.ref x] ∧ CirAt C i0 H x gs ∧ gs.length ≤ 1000 ∧ ∀ H' t, Same H H' → H' t = some (TpX t ((places gs).map fun i : Nat => V.int i)) → Q (.ref t) H'
/-- the places up to i -/
def plc (gs : List Gate) (i : Nat) : List Nat := (List.range i).filter fun i => match gs[i]? with
  | some g => isInp g
  | none => false
theorem plc_succ {gs : List Gate} {i : Nat} {g : Gate} (h : gs[i]? = some g) : plc gs (i + 1) = plc gs i ++ if isInp g then [i] else [] := by
  unfold plc
  rw [List.range_succ, List.filter_append]
  congr 1
  rw [List.filter_cons, h]
  dsimp only
  by_cases e : isInp g = true
  · rw [if_pos e, if_pos e]; rfl
  · rw [if_neg e, if_neg e]; rfl
theorem plc_len (gs : List Gate) (i : Nat) : (plc gs i).length ≤ i := by
  unfold plc
  have := List.length_filter_le (fun i => match gs[i]? with
    | some g => isInp g
    | none => false) (List.range i)
  rw [List.length_range] at this
  exact this
theorem inp_dec (g : Gate) : decide (V.str (word g) = V.str "input") = isInp g := by
  have := congrFun word_inp g
  rw [← this]
  unfold wordIs
  by_cases e : word g = "input"
  · rw [decide_eq_true e, e]; exact str_eq _
  · rw [decide_eq_false e]; exact str_ne e
theorem ok_C_inputs {fd : FuncData} (F : L2.Fun K "inputs" "Circuit.inputs" s_C_inputs gI fd) (c : CirF K C p0 p1 pI gI fM i0 i1) (G : GC mg) : FnR P w K mg base CX0 1 gI (sp_inputs C i0) := by
  have ok : FnOk P w K mg base CX0 1 gI fd ["self"] (sp_inputs C i0) := by
    refine F.ok sc_C_inputs (fun vs H Q E h => by obtain ⟨_, _, rfl, _⟩ := h; rfl) fun cdv A outer s H vs Q E hr h => ?_
    refine ⟨_, pss_one (ps_ret (pe_callTy call_tupleX (by rfl) G.b.tuple (by decide +kernel) (pa_cons (pe_lc (own := [("at", 1), ("gate", 2)]) (g := gTup K 2 (gCons (gName 1) (gCons (gName 2) gNil))) rfl sc_C_inputs.nd
      (pi_enumT (by rfl) G.b.enumerate (pa_cons (pe_sl (pv 0)) pa_nil)) (blkOk_by (N := ["self", "at", "gate"]) (sc := defScope s_C_inputs) (by decide +kernel))
      (fun _ _ _ _ _ => pg_tup rfl (pgs_cons (pg_name (i := 1) sc_C_inputs.nd rfl (Or.inl rfl)) (pgs_cons (pg_name (i := 2) sc_C_inputs.nd rfl (Or.inl rfl)) pgs_nil)))
      (fun _ _ _ _ _ => pts_one (pt_cmpR op_eq (pe_ix (r := rIxT K) ix_tup (pv 2) pe_int (fun _ _ => rfl)) (C8.pe_gc (by rfl) G.cI) (nomark _))) (fun _ _ _ _ _ => pv 1)) pa_nil))), ?_⟩
    obtain ⟨x, gs, rfl, ⟨dx, vs, ga, hs, hv, ⟨ts, ha, hp⟩⟩, hz, q⟩ := h
    have hl : ts.length = gs.length := Paired.length hp
    refine ⟨_, rfl, x, C, dx, p0, vs, i0, _, rfl, hs, c.cl, c.s0, hv, ga, ts.map V.ref, rfl, .inl (.inl ha), fun Dl hD => ?_⟩
    refine lc_it walk_enumT (LcI H Dl fun i => (plc gs i).map fun i : Nat => V.int i) (lcI0 hD rfl) (fun i H1 hi p1 => .inl (.inl (p1.1 _ _ ha))) (fun i x H1 H2 hi p1 y => ?_) (fun H1 p1 => ?_)
    · obtain ⟨T, x, rfl, hT, rfl, hx⟩ := y
      obtain ⟨t, ht, rfl⟩ := refI hx
      obtain ⟨g, hgi, hge⟩ := LiI.paired_get hp ht
      have s2 : Same H (upd H1 T (.tup [.int (i : Nat), .ref t])) := p1.1.trans (same_upd hT)
      refine ⟨T, _, rfl, .inl (.inl upd_same), rfl, _, _, rfl, _, _, rfl, rfl, rfl, ?_⟩
      refine ⟨_, rfl, t, _, 0, _, rfl, rfl, .inl (.inl (s2 _ _ hge)), atI_nat (j := 0) (enG_0 g), rfl, _, rfl, ?_⟩
      have hs := plc_succ hgi
      rw [inp_dec]
      have hpl := plc_len gs i
      rw [List.length_map] at hi
      cases hw : isInp g with
      | true =>
        rw [hw, if_pos rfl] at hs
        exact ⟨_, rfl, lcPut hD p1 (same_upd hT) (by rw [List.length_map]; exact small10 (by omega)) (by rw [hs, List.map_append]; rfl)⟩
      | false =>
        rw [hw, if_neg (by decide), List.append_nil] at hs
        exact lcSkip p1 (same_upd hT) (by rw [hs])
    · have h2 : H1 Dl = some (.lst ((places gs).map fun i : Nat => V.int i)) := by
        have h := p1.2
        rw [List.length_map, hl] at h
        exact h
      refine ⟨Dl, _, rfl, .inl (.inl h2), fun t ht => ?_⟩
      exact q _ t (p1.1.trans (same_upd ht)) upd_same
  exact (FnOk.raw ok (F.binds fun _ _ _ _ _ _ us hl => match us, hl with | [_], _ => rfl) .nil).imp fun vs H Q E h => by rw [List.append_nil]; exact h
end
end K24
end
section
set_option autoImplicit false
set_option Elab.async false
set_option linter.all false
set_option maxRecDepth 100000
set_option maxHeartbeats 1000000
/-! plan.circuits: meaning_in -/
namespace K24
open PySem PySem.Spec PyProof.Rows L2 SlX
section
variable {P : Program} {w : World} {K : PySem.W.Frag} {mg : Str → Option Value} {base : Heap} {C p0 p1 pI gI fM fI : Addr} {i0 i1 : Nat}
theorem sc_meaning_in : FnScope ["field", "circuit", "numbers", "found", "left", "gate"] ["field", "circuit", "numbers"] (defScope s_meaning_in) := ⟨rfl, rfl, rfl, by decide +kernel, rfl, by decide +kernel, by decide +kernel⟩
def sp_meaning_in (C : Addr) (i0 : Nat) : Sp := fun vs H Q _ => ∃ p x na gs nums, vs = [.int p, .ref x, .ref na] ∧ 0 < p ∧ p ≤ 1000 ∧ CirAt C i0 H x gs ∧ GsOk gs ∧ H na = some (.tup (nums.map V.int)) ∧ nums.length = nIn gs ∧ (∀ x ∈ nums, 0 ≤ x ∧ x < p) ∧
  ∀ H' r, Same H H' → H' r = some (.lst ((meanC p nums gs).map V.int)) → Q (.ref r) H'
theorem cal_meaning_in (D : DefM K mg "meaning_in" "meaning_in" s_meaning_in) (c : CirF K C p0 p1 pI gI fM i0 i1) (G : GC mg) : C8.Cal P w K mg base 1 "meaning_in" (sp_meaning_in C i0) [] := by
  refine calM D sc_meaning_in (fun vs H Q E h => by obtain ⟨_, _, _, _, _, rfl, _⟩ := h; rfl) (fun _ _ _ _ _ _ us hl => match us, hl with | [_, _, _], _ => rfl) fun f cdv A outer s H vs Q E hr h => ?_
  refine ⟨_, pss_cons (ps_par (i := 3) (j := 4) rfl sc_meaning_in.nd rfl rfl (by decide) rfl rfl (pa_cons (pe_lst pa_nil) (pa_cons (pe_revL (pe_callTy call_list_of (by rfl) G.b.list (by decide +kernel) (pa_cons (pv 2) pa_nil))) pa_nil)) (by rfl))
    (pss_cons (ps_for PassesOwn.never rfl (pi_tup (pe_sl (pv 1))) (pg_name (i := 5) sc_meaning_in.nd rfl (Or.inl rfl))
      (pss_one (ps_match (pe_ix ix_tup (pv 5) pe_int (fun _ _ => rfl))
        (mc_str (pss_one (ps_expr (pe_bm PySem.F.plainAttrs_list PySem.F.slot_list_append PySem.F.type_list_append mt_append (pv 3) (pa_cons (pe_bm0 PySem.F.plainAttrs_list PySem.F.slot_list_pop PySem.F.type_list_pop mt_pop (pv 4)) pa_nil))))
        (mc_str (pss_one (ps_expr (pe_bm PySem.F.plainAttrs_list PySem.F.slot_list_append PySem.F.type_list_append mt_append (pv 3) (pa_cons (pe_op op_mod (pe_ix ix_tup (pv 5) pe_int (fun _ _ => rfl)) (pv 0)) pa_nil))))
        (mc_str (pss_one (ps_expr (pe_bm PySem.F.plainAttrs_list PySem.F.slot_list_append PySem.F.type_list_append mt_append (pv 3) (pa_cons (pe_op op_mod (pe_op op_add (pe_ix ix_list (pv 3) (pe_ix ix_tup (pv 5) pe_int (fun _ _ => rfl)) (fun _ _ => rfl)) (pe_ix ix_list (pv 3) (pe_ix ix_tup (pv 5) pe_int (fun _ _ => rfl)) (fun _ _ => rfl))) (pv 0)) pa_nil))))
        (mc_str (pss_one (ps_expr (pe_bm PySem.F.plainAttrs_list PySem.F.slot_list_append PySem.F.type_list_append mt_append (pv 3) (pa_cons (pe_op op_mod (pe_op op_mul (pe_ix ix_list (pv 3) (pe_ix ix_tup (pv 5) pe_int (fun _ _ => rfl)) (fun _ _ => rfl)) (pe_ix ix_tup (pv 5) pe_int (fun _ _ => rfl))) (pv 0)) pa_nil))))
        (mc_str (pss_one (ps_expr (pe_bm PySem.F.plainAttrs_list PySem.F.slot_list_append PySem.F.type_list_append mt_append (pv 3) (pa_cons (pe_op op_mod (pe_op op_mul (pe_ix ix_list (pv 3) (pe_ix ix_tup (pv 5) pe_int (fun _ _ => rfl)) (fun _ _ => rfl)) (pe_ix ix_list (pv 3) (pe_ix ix_tup (pv 5) pe_int (fun _ _ => rfl)) (fun _ _ => rfl))) (pv 0)) pa_nil))))
        mc_nil))))))))
    (pss_one (ps_ret (pv 3)))), ?_⟩
  obtain ⟨p, x, na, gs, nums, rfl, hp, hp2, ⟨dx, vs, ga, hs, hv, ⟨ts, ha, hg⟩⟩, ok, hna, hnl, hnr, q⟩ := h
  have hl : ts.length = gs.length := Paired.length hg
  have hz : gs.length ≤ 60 := ok.few
  refine ⟨Nat.zero_le _, fun fa hfa => ⟨_, rfl, na, _, rfl, .inr (.inl (.inl ((same_upd hfa) _ _ hna))), fun la hla => ⟨la, _, rfl, .inl (.inl upd_same), fun lb hlb => ⟨_, _, rfl, ?_⟩⟩⟩⟩
  have hfl : fa ≠ la := fun z => by rw [← z, upd_same] at hla; cases hla
  have hfb : fa ≠ lb := fun z => by rw [← z, upd_ne hfl, upd_same] at hlb; cases hlb
  have s3 : Same H (upd (upd (upd H fa (.lst [])) la (.lst (nums.map V.int))) lb (.lst (nums.map V.int).reverse)) := ((same_upd hfa).trans (same_upd hla)).trans (same_upd hlb)
  have hlbH : H lb = none := by
    cases e : H lb with
    | none => rfl
    | some u =>
      have := ((same_upd (o := .lst []) hfa).trans (same_upd (o := .lst (nums.map V.int)) hla)) _ _ e
      rw [hlb] at this; cases this
  refine ⟨_, rfl, x, C, dx, p0, vs, i0, _, rfl, Slt.same s3 hs, c.cl, c.s0, hv, ga, rfl, ⟨_, .inl (.inl (s3 _ _ ha))⟩, ?_⟩
  refine for_it (walk_tup (xs := ts.map V.ref)) (fun i σ H' => (∃ y, σ = [some (.int p), some (.ref x), some (.ref na), some (.ref fa), some (.ref lb), y]) ∧ Same H H' ∧ H' fa = some (.lst ((meanC p nums (gs.take i)).map V.int)) ∧
    H' lb = some (.lst ((nums.drop (nIn (gs.take i))).reverse.map V.int))) ?_ ?_ ?_ ?_
  · refine ⟨⟨_, rfl⟩, s3, ?_, ?_⟩
    · rw [upd_ne hfb, upd_ne hfl, upd_same]; rfl
    · rw [upd_same]
      show some (HO.lst (nums.map V.int).reverse) = some (HO.lst ((nums.drop 0).reverse.map V.int))
      rw [List.drop_zero, List.map_reverse]
  · intro i σ H' hi p1
    exact .inl (.inl (p1.2.1 _ _ ha))
  · intro i x1 σ H' H2 hi p1 y
    obtain ⟨rfl, hx⟩ := y
    obtain ⟨⟨y, rfl⟩, s1, hf, hb⟩ := p1
    obtain ⟨t, ht, rfl⟩ := refI hx
    obtain ⟨g, hgi, hge⟩ := LiI.paired_get hg ht
    rw [List.length_map, hl] at hi
    have hge2 := s1 _ _ hge
    have hS := allG_succ (f := fmean p nums) gs hgi
    have hS2 : meanC p nums (gs.take (i + 1)) = meanC p nums (gs.take i) ++ [fmean p nums (nIn (gs.take i)) (meanC p nums (gs.take i)) g] := hS
    have hN := nIn_succ hgi
    have hml : (meanC p nums (gs.take i)).length = i := by unfold meanC; rw [allG_len, List.length_take]; omega
    have hmr := meanC_range hp hnr gs (i := i) (by omega)
    have fget : ∀ a, a < i → (meanC p nums (gs.take i))[a]? = some ((meanC p nums (gs.take i)).getD a 0) := fun a h => by
      unfold List.getD
      rw [List.getElem?_eq_getElem (by omega)]
      rfl
    have fetch : ∀ a, a < i → atI ((meanC p nums (gs.take i)).map V.int) ((a : Nat) : Int) = some (.int ((meanC p nums (gs.take i)).getD a 0)) := fun a h => atI_nat (by rw [List.getElem?_map, fget a h]; rfl)
    have bnd : ∀ a, a < i → -(2 ^ 64) < (meanC p nums (gs.take i)).getD a 0 ∧ (meanC p nums (gs.take i)).getD a 0 < 2 ^ 64 := fun a h => by
      have := hmr _ (List.mem_of_getElem? (fget a h))
      omega
    have hlen : ((meanC p nums (gs.take i)).map V.int).length < sizeLine := by rw [List.length_map, hml]; exact small1000 (by omega)
    have sqt : ∀ {x : List V}, H2 t = some (.tup x) → SqT K H2 t x := fun h => .inl (.inl h)
    have fin : ∀ v, v = fmean p nums (nIn (gs.take i)) (meanC p nums (gs.take i)) g → isInp g = false →
        (∃ y, [some (V.int p), some (V.ref x), some (V.ref na), some (V.ref fa), some (V.ref lb), some (V.ref t)] = [some (V.int p), some (V.ref x), some (V.ref na), some (V.ref fa), some (V.ref lb), y]) ∧ Same H (upd H2 fa (.lst ((meanC p nums (gs.take i)).map V.int ++ [V.int v]))) ∧
          (upd H2 fa (.lst ((meanC p nums (gs.take i)).map V.int ++ [V.int v]))) fa = some (.lst ((meanC p nums (gs.take (i + 1))).map V.int)) ∧
          (upd H2 fa (.lst ((meanC p nums (gs.take i)).map V.int ++ [V.int v]))) lb = some (.lst ((nums.drop (nIn (gs.take (i + 1)))).reverse.map V.int)) := fun v hv hi => by
      refine ⟨⟨_, rfl⟩, same_set hfa s1, ?_, ?_⟩
      · rw [upd_same, hS2, hv, List.map_append]; rfl
      · rw [upd_ne (Ne.symm hfb), hN, hi]; exact hb
    refine ⟨_, rfl, t, _, 0, _, rfl, rfl, sqt hge2, atI_nat (j := 0) (enG_0 g), _, rfl, ?_⟩
    cases g with
    | inp h =>
      show (if word (Gate.inp h) = Str.ofString "input" then _ else _ : TS) _ _ _
      rw [if_pos (show word (Gate.inp h) = Str.ofString "input" from rfl)]
      have hk : nIn (gs.take i) < nums.length := by
        have := nIn_take_le gs (i + 1)
        rw [hN] at this
        have e : (if isInp (Gate.inp h) = true then 1 else 0) = 1 := rfl
        rw [e] at this
        omega
      have hd : nums.drop (nIn (gs.take i)) = nums[nIn (gs.take i)] :: nums.drop (nIn (gs.take i) + 1) := List.drop_eq_getElem_cons hk
      have hr2 : (nums.drop (nIn (gs.take i))).reverse.map V.int = (nums.drop (nIn (gs.take i) + 1)).reverse.map V.int ++ [V.int nums[nIn (gs.take i)]] := by
        rw [hd, List.reverse_cons, List.map_append]; rfl
      rw [hr2] at hb
      refine ⟨_, rfl, .inl ⟨rfl, _, .inl (.inl hf)⟩, _, rfl, .inl ⟨rfl, _, .inl (.inl hb)⟩, lb, _, .int nums[nIn (gs.take i)], rfl, rfl, hb, ?_, fa, _, _, rfl, rfl, (by rw [upd_ne hfb]; exact hf), hlen, ⟨_, rfl⟩, ?_, ?_, ?_⟩
      · rw [List.length_append, List.length_singleton, Nat.add_sub_cancel, List.getElem?_append_right (Nat.le_refl _), Nat.sub_self]
        rfl
      · exact same_set hfa (same_set hlbH s1)
      · rw [upd_same, hS2, List.map_append]
        have e : fmean p nums (nIn (gs.take i)) (meanC p nums (gs.take i)) (Gate.inp h) = nums[nIn (gs.take i)] := by
          show nums.getD _ 0 = _
          unfold List.getD
          rw [List.getElem?_eq_getElem hk]
          rfl
        rw [e]
        rfl
      · rw [upd_ne (Ne.symm hfb), upd_same, List.dropLast_concat, hN]
        rfl
    | const cc =>
      show (if word (Gate.const cc) = Str.ofString "input" then _ else _ : TS) _ _ _
      rw [if_neg (show word (Gate.const cc) ≠ Str.ofString "input" from (by decide +kernel : ("constant" : Str) ≠ "input")), if_pos (show word (Gate.const cc) = Str.ofString "constant" from rfl)]
      refine ⟨_, rfl, .inl ⟨rfl, _, .inl (.inl hf)⟩, _, rfl, t, _, 1, _, rfl, rfl, sqt hge2, atI_nat (j := 1) rfl, _, rfl, _, _, rfl, rfl, hp, fa, _, _, rfl, rfl, hf, hlen, ?_⟩
      exact fin _ rfl rfl
    | sum a b =>
      have oka : a < i ∧ b < i := ok.ok i _ hgi
      show (if word (Gate.sum a b) = Str.ofString "input" then _ else _ : TS) _ _ _
      rw [if_neg (show word (Gate.sum a b) ≠ Str.ofString "input" from (by decide +kernel : ("sum" : Str) ≠ "input")), if_neg (show word (Gate.sum a b) ≠ Str.ofString "constant" from (by decide +kernel : ("sum" : Str) ≠ "constant")), if_pos (show word (Gate.sum a b) = Str.ofString "sum" from rfl)]
      refine ⟨_, rfl, .inl ⟨rfl, _, .inl (.inl hf)⟩, _, rfl, _, rfl, t, _, 1, _, rfl, rfl, sqt hge2, atI_nat (j := 1) rfl, fa, _, _, _, rfl, rfl, .inl (.inl hf), fetch a oka.1, _, rfl, _, rfl, t, _, 2, _, rfl, rfl, sqt hge2, atI_nat (j := 2) rfl, fa, _, _, _, rfl, rfl, .inl (.inl hf), fetch b oka.2, _, _, rfl, rfl, _, rfl, _, _, rfl, rfl, hp, fa, _, _, rfl, rfl, hf, hlen, ?_⟩
      exact fin _ rfl rfl
    | times a cc =>
      have oka : a < i ∧ _ := ok.ok i _ hgi
      show (if word (Gate.times a cc) = Str.ofString "input" then _ else _ : TS) _ _ _
      rw [if_neg (show word (Gate.times a cc) ≠ Str.ofString "input" from (by decide +kernel : ("times" : Str) ≠ "input")), if_neg (show word (Gate.times a cc) ≠ Str.ofString "constant" from (by decide +kernel : ("times" : Str) ≠ "constant")), if_neg (show word (Gate.times a cc) ≠ Str.ofString "sum" from (by decide +kernel : ("times" : Str) ≠ "sum")), if_pos (show word (Gate.times a cc) = Str.ofString "times" from rfl)]
      refine ⟨_, rfl, .inl ⟨rfl, _, .inl (.inl hf)⟩, _, rfl, _, rfl, t, _, 1, _, rfl, rfl, sqt hge2, atI_nat (j := 1) rfl, fa, _, _, _, rfl, rfl, .inl (.inl hf), fetch a oka.1, _, rfl, t, _, 2, _, rfl, rfl, sqt hge2, atI_nat (j := 2) rfl, _, _, rfl, rfl, .inl (bnd a oka.1), _, rfl, _, _, rfl, rfl, hp, fa, _, _, rfl, rfl, hf, hlen, ?_⟩
      exact fin _ rfl rfl
    | prod a b =>
      have oka : a < i ∧ b < i := ok.ok i _ hgi
      show (if word (Gate.prod a b) = Str.ofString "input" then _ else _ : TS) _ _ _
      rw [if_neg (show word (Gate.prod a b) ≠ Str.ofString "input" from (by decide +kernel : ("product" : Str) ≠ "input")), if_neg (show word (Gate.prod a b) ≠ Str.ofString "constant" from (by decide +kernel : ("product" : Str) ≠ "constant")), if_neg (show word (Gate.prod a b) ≠ Str.ofString "sum" from (by decide +kernel : ("product" : Str) ≠ "sum")), if_neg (show word (Gate.prod a b) ≠ Str.ofString "times" from (by decide +kernel : ("product" : Str) ≠ "times")), if_pos (show word (Gate.prod a b) = Str.ofString "product" from rfl)]
      refine ⟨_, rfl, .inl ⟨rfl, _, .inl (.inl hf)⟩, _, rfl, _, rfl, t, _, 1, _, rfl, rfl, sqt hge2, atI_nat (j := 1) rfl, fa, _, _, _, rfl, rfl, .inl (.inl hf), fetch a oka.1, _, rfl, _, rfl, t, _, 2, _, rfl, rfl, sqt hge2, atI_nat (j := 2) rfl, fa, _, _, _, rfl, rfl, .inl (.inl hf), fetch b oka.2, _, _, rfl, rfl, .inl (bnd a oka.1), _, rfl, _, _, rfl, rfl, hp, fa, _, _, rfl, rfl, hf, hlen, ?_⟩
      exact fin _ rfl rfl
  · intro σ H' p1
    obtain ⟨⟨y, rfl⟩, s1, hf, hb⟩ := p1
    refine ⟨_, rfl, q _ fa s1 ?_⟩
    rw [hf, List.length_map, hl, List.take_length]
end
end K24
end
section
set_option autoImplicit false
set_option Elab.async false
set_option linter.all false
set_option maxRecDepth 100000
set_option maxHeartbeats 1000000
/-! plan.circuits: looks_of, hanging -/
namespace K24
open PySem PySem.Spec PyProof.Rows L2 SlX
theorem dcK_it {J : It} {n : Nat} {G : Hp → Prop} {Y : Nat → Hp → V → Hp → Prop} (w : Walk J n G Y) {g : TG} {tt : TT} {tk tv : TE} {vs : List Nat} {σ : L2.St} {H1 : Hp} {D : Addr} {Qd : Hp → Prop} (Pv : Nat → Hp → Prop) (h0 : Pv 0 (upd H1 D (.dK []))) (hG : ∀ i H, i ≤ n → Pv i H → G H)
    (hs : ∀ i x H H', i < n → Pv i H → Y i H x H' → g x (wipe σ vs) H' fun σ2 H2 => wipe σ2 vs = wipe σ vs ∧ tt σ2 H2 fun b H3 =>
      if b = true then tk σ2 H3 fun y H4 => tv σ2 H4 fun z H5 => ∃ kvs k, y = kV k ∧ H5 D = some (.dK kvs) ∧ kvs.length < sizeLine ∧ Pv (i + 1) (upd H5 D (.dK (putK kvs k z))) else Pv (i + 1) H3) (hd : ∀ H, Pv n H → Qd H) :
    ∃ W : Nat → Nat → Hp → Prop, (∃ m, W 0 m (upd H1 D (.dK []))) ∧ ∀ i m H, W i m H →
      (J.stop i H ∧ Qd H) ∨ (J.go i H ∧ ∃ Nx : Hp → Prop, (∀ H', Nx H' → ∃ m', m' < m ∧ W (i + 1) m' H') ∧ ∀ x H', J.yld i H x H' → g x (wipe σ vs) H' fun σ2 H2 => wipe σ2 vs = wipe σ vs ∧ tt σ2 H2 fun b H3 =>
        if b = true then tk σ2 H3 fun y H4 => tv σ2 H4 fun z H5 => ∃ kvs k, y = kV k ∧ H5 D = some (.dK kvs) ∧ kvs.length < sizeLine ∧ Nx (upd H5 D (.dK (putK kvs k z))) else Nx H3) := by
  refine ⟨fun i m H => m = n - i ∧ i ≤ n ∧ Pv i H, ⟨n, by simp, Nat.zero_le _, h0⟩, ?_⟩
  rintro i m H ⟨rfl, hi, p⟩
  by_cases hlt : i < n
  · exact .inr ⟨w.goes i H hlt (hG i H hi p), Pv (i + 1), fun H' p' => ⟨n - (i + 1), by omega, rfl, hlt, p'⟩, fun x H' y => hs i x H H' hlt p (w.yields i H x H' hlt (hG i H hi p) y)⟩
  · have e : i = n := by omega
    subst e
    exact .inl ⟨w.stops H (hG _ H (Nat.le_refl _) p), hd H p⟩
theorem sw_trueD {kx vx : Expr} {gs : List Comprehension} {scope : Scope} {pos py : Pos} {y : Str} {l : Nat} {env : Env} (hk : env.scope.kind = .function) (hy : env.scope.names.lookup y = some .local) (hl : (py.line == pos.line) = true)
    (ha : (scope.names.any fun (n, k) => n == y && (k == .local || k == .cell)) = false) : swapsWith (.DictComp kx vx gs scope pos) (some (.Name y py)) l env = pure true := by
  have ky : env.kindOf y = some .local := hy
  have hb : env.blockKind = .function := by unfold Env.blockKind; rw [hk]; rfl
  unfold swapsWith
  simp only [hb, ky, ha, Expr.pos, hl]
  rfl
section
variable {X : Cx}
/-- name = {..} by a comprehension, on one line, the name a local -/
theorem ps_setDc {i : Nat} {y : Str} {py : Pos} {kx vx tg iter : Expr} {ifs : List Expr} {scope : Scope} {own : List (Str × Nat)} {pos spos : Pos} {wi : TI} {g : TG} {tt : TT} {tk tv : TE} (hc : X.calm = true) (hN : X.N.Nodup) (hy : X.N[i]? = some y) (hyl : X.env.scope.names.lookup y = some .local)
    (hsw : swapsWith (.DictComp kx vx [⟨tg, iter, ifs, 0⟩] scope pos) (some (.Name y py)) spos.line X.env = pure true) (hi : PI X tg iter wi) (ok : BlkOk X.N X.env.scope scope own)
    (hg : ∀ (s : Shared) (H : Hp) (C : Addr) (cl : List (Str × Addr)) (fp : List Addr), PG (X.blk s H scope (compEnvC scope cl C X.env) fp) tg g) (ht : ∀ (s : Shared) (H : Hp) (C : Addr) (cl : List (Str × Addr)) (fp : List Addr), PTs (X.blk s H scope (compEnvC scope cl C X.env) fp) ifs tt)
    (hk : ∀ (s : Shared) (H : Hp) (C : Addr) (cl : List (Str × Addr)) (fp : List Addr), PE (X.blk s H scope (compEnvC scope cl C X.env) fp) kx tk)
    (he : ∀ (s : Shared) (H : Hp) (C : Addr) (cl : List (Str × Addr)) (fp : List Addr), PE (X.blk s H scope (compEnvC scope cl C X.env) fp) vx tv) (hs : ∀ x, foldedSetIterable iter X.env x = pure x := by intro _; rfl) :
    PS X (.Assign [.Name y py] (.DictComp kx vx [⟨tg, iter, ifs, 0⟩] scope pos) spos) (tAsg (tDc wi g tt tk tv (own.map (·.2))) (gName i)) := by
  refine ⟨fun pins s σ H D I h => ?_⟩
  rw [exec_Assign_Name_used _ _ _ _ hsw]
  refine wpAny_bind (wpAny_standAt (wpAny_bind ?_))
  show wpAny _ X.A (do let _ ← comprehension (.DictComp kx vx [⟨tg, iter, ifs, 0⟩] scope pos) scope X.env (firstIterPos [⟨tg, iter, ifs, 0⟩] pos) newDict false (eval iter X.env) (some (assign (.Name y py) X.env))) _ _ s
  have h : tDc wi g tt tk tv (own.map (·.2)) σ H (fun x H1 => gName i x σ H1 D.nx) := h
  refine wpAny_bind (thn (dc_core (Qf := fun _ s' => SP X pins D .next s') hc hN I hi ok hg ht hk he hs h fun L C s' m H' I' q hn f => ?_) fun _ s' hq => wpAny_pure (wpAny_pure hq))
  show wpAny _ _ (assign (.Name y py) X.env (.ref L)) _ _ _
  refine wpAny_assign_Name (store_ok2 (v := V.ref L) I' hN hy (.inl hyl) rfl (fun s2 I2 ⟨a, sb, ha⟩ => ?_) (.inr hyl))
  obtain ⟨f0, f1, f2, f3, f4, f5⟩ := f
  have haC : C ≠ a := by
    rcases ha with z | z
    · rw [z]; exact f1
    · exact fun e => f4 y a z e.symm
  refine ⟨m, hn.sameBut sb haC, fun h3 sb3 => ?_⟩
  exact ⟨_, H', I2.turned (t' := s2.toks) (fun b o hb e => (sb3.2 b hb).trans e) f0 f1 f3 f4 f5, q⟩
end
/-- a dict of places, all True -/
def enN (ks : List Nat) : List (Key × V) := ks.map fun k : Nat => (Sum.inl (k : Int), V.bl true)
def addN (ks : List Nat) (l : Nat) : List Nat := if l ∈ ks then ks else ks ++ [l]
theorem putK_enN (ks : List Nat) (l : Nat) : putK (enN ks) (Sum.inl (l : Int)) (.bl true) = enN (addN ks l) := by
  have e : ((enN ks).any fun kv => decide (kv.1 = Sum.inl (l : Int))) = decide (l ∈ ks) := by
    rw [Bool.eq_iff_iff, List.any_eq_true, decide_eq_true_eq]
    constructor
    · rintro ⟨kv, h, e⟩
      obtain ⟨k, hk, rfl⟩ := List.mem_map.mp h
      have : (k : Int) = l := Sum.inl.inj (of_decide_eq_true e)
      have : k = l := by omega
      exact this ▸ hk
    · intro h
      exact ⟨_, List.mem_map.mpr ⟨l, h, rfl⟩, decide_eq_true rfl⟩
  unfold putK addN
  rw [e]
  by_cases h : l ∈ ks
  · rw [if_pos (decide_eq_true h), if_pos h]
    unfold enN
    rw [List.map_map]
    refine List.map_congr_left fun k _ => ?_
    show (if Sum.inl (k : Int) = Sum.inl (l : Int) then _ else _) = _
    split <;> rfl
  · rw [if_neg (by simpa using h), if_neg h]
    unfold enN
    rw [List.map_append]
    rfl
theorem mergeK_enN (ls : List Nat) : ∀ ks, mergeK (enN ks) (enN ls) = enN (ls.foldl addN ks) := by
  induction ls with
  | nil => intro ks; rfl
  | cons l ls ih =>
    intro ks
    show mergeK (putK (enN ks) (Sum.inl (l : Int)) (.bl true)) (enN ls) = _
    rw [putK_enN, ih]
    rfl
theorem mem_addN {ks : List Nat} {l x : Nat} : x ∈ addN ks l ↔ x ∈ ks ∨ x = l := by
  unfold addN
  split
  · constructor
    · exact .inl
    · rintro (h | h)
      · exact h
      · rw [h]; assumption
  · simp
theorem nodup_addN {ks : List Nat} {l : Nat} (h : ks.Nodup) : (addN ks l).Nodup := by
  unfold addN
  split
  · exact h
  · rename_i hn
    rw [List.nodup_append]
    exact ⟨h, by simp, fun a ha b hb => by rw [List.mem_singleton.mp hb]; exact fun e => hn (e ▸ ha)⟩
theorem len_addN (ks : List Nat) (l : Nat) : (addN ks l).length ≤ ks.length + 1 := by
  unfold addN
  split <;> simp
theorem mem_foldN (ls : List Nat) : ∀ (ks : List Nat) (x : Nat), x ∈ ls.foldl addN ks ↔ x ∈ ks ∨ x ∈ ls := by
  induction ls with
  | nil => intro ks x; simp
  | cons l ls ih =>
    intro ks x
    rw [List.foldl_cons, ih, mem_addN, List.mem_cons, or_assoc]
theorem nodup_foldN (ls : List Nat) : ∀ (ks : List Nat), ks.Nodup → (ls.foldl addN ks).Nodup := by
  induction ls with
  | nil => intro ks h; exact h
  | cons l ls ih => intro ks h; exact ih _ (nodup_addN h)
/-- what hanging gives -/
structure Needed (gs : List Gate) (at' : Nat) (ks : List Nat) : Prop where
  nd : ks.Nodup
  goal : at' ∈ ks
  le : ∀ k ∈ ks, k ≤ at'
  cl : ∀ (n : Nat) (g : Gate), n ∈ ks → gs[n]? = some g → ∀ l ∈ looks g, l ∈ ks
theorem looks_lt {n : Nat} {g : Gate} (h : GateOk n g) : ∀ l ∈ looks g, l < n := by
  intro l hl
  cases g with
  | inp h => simp [looks] at hl
  | const c => simp [looks] at hl
  | sum a b =>
    have h2 : a < n ∧ b < n := h
    simp [looks] at hl
    omega
  | times a c =>
    have h2 : a < n ∧ _ := h
    simp [looks] at hl
    omega
  | prod a b =>
    have h2 : a < n ∧ b < n := h
    simp [looks] at hl
    omega
section
variable {P : Program} {w : World} {K : PySem.W.Frag} {mg : Str → Option Value} {base : Heap} {C p0 p1 pI gI fM fI : Addr} {i0 i1 : Nat}
/-- the dict at D holds acc i, all of H1 stands -/
def DkI (H1 : Hp) (D : Addr) (acc : Nat → List Nat) (i : Nat) (H : Hp) : Prop := Same H1 H ∧ H D = some (.dK (enN (acc i)))
theorem dkI0 {H1 : Hp} {D : Addr} {acc : Nat → List Nat} (hD : H1 D = none) (h0 : acc 0 = []) : DkI H1 D acc 0 (upd H1 D (.dK [])) := ⟨same_set hD (Same.refl _), by rw [upd_same, h0]; rfl⟩
theorem dkPut {H1 H H4 : Hp} {D : Addr} {acc : Nat → List Nat} {i l : Nat} (hD : H1 D = none) (p : DkI H1 D acc i H) (s4 : Same H H4) (z : (acc i).length < sizeLine) (ea : acc (i + 1) = addN (acc i) l) :
    ∃ kvs k, V.int (l : Int) = kV k ∧ H4 D = some (.dK kvs) ∧ kvs.length < sizeLine ∧ DkI H1 D acc (i + 1) (upd H4 D (.dK (putK kvs k (.bl true)))) :=
  ⟨enN (acc i), Sum.inl (l : Int), rfl, s4 D _ p.2, by unfold enN; rw [List.length_map]; exact z, same_set hD (p.1.trans s4), by rw [upd_same, ea, putK_enN]⟩
theorem addN_le (b : List Nat) (x : Nat) : (addN b x).length ≤ b.length + 1 := len_addN b x
theorem valV_enN (ks : List Nat) (m : Nat) : (valV (enN ks) (Sum.inl (m : Int))).isSome = decide (m ∈ ks) := by
  induction ks with
  | nil => rfl
  | cons k ks ih =>
    show ((List.find? _ ((Sum.inl (k : Int), V.bl true) :: enN ks)).map _).isSome = _
    rw [List.find?_cons]
    by_cases e : k = m
    · have : decide ((Sum.inl (k : Int) : Key) = Sum.inl (m : Int)) = true := decide_eq_true (by rw [e])
      rw [this, decide_eq_true (by rw [e]; exact List.mem_cons_self)]
      rfl
    · have : decide ((Sum.inl (k : Int) : Key) = Sum.inl (m : Int)) = false := decide_eq_false fun z => e (by have := Sum.inl.inj z; omega)
      rw [this]
      have h2 : decide (m ∈ k :: ks) = decide (m ∈ ks) := by
        rw [Bool.eq_iff_iff, decide_eq_true_eq, decide_eq_true_eq, List.mem_cons]
        constructor
        · rintro (h | h)
          · exact absurd h.symm e
          · exact h
        · exact .inr
      rw [h2]
      exact ih
/-- while hanging walks down -/
structure Part (gs : List Gate) (at' m : Nat) (ks : List Nat) : Prop where
  nd : ks.Nodup
  goal : at' ∈ ks
  le : ∀ k ∈ ks, k ≤ at'
  cl : ∀ (n : Nat) (g : Gate), m ≤ n → n ∈ ks → gs[n]? = some g → ∀ l ∈ looks g, l ∈ ks
theorem len_below : ∀ (n : Nat) (ks : List Nat), ks.Nodup → (∀ k ∈ ks, k < n) → ks.length ≤ n
  | 0, [], _, _ => Nat.le_refl _
  | 0, k :: _, _, h => absurd (h k List.mem_cons_self) (Nat.not_lt_zero _)
  | n + 1, ks, nd, h => by
    have ih := len_below n (ks.filter fun k => !(k == n)) (nd.sublist List.filter_sublist) fun k hk => by
      obtain ⟨h1, h2⟩ := List.mem_filter.mp hk
      have h3 := h k h1
      have h4 : k ≠ n := fun z => by rw [z] at h2; simp at h2
      omega
    have e := List.length_eq_countP_add_countP (p := fun k => k == n) (l := ks)
    have c : List.countP (fun k => k == n) ks ≤ 1 := (List.nodup_iff_count.mp nd) n
    have f : List.countP (fun a => decide ¬(a == n) = true) ks = (ks.filter fun k => !(k == n)).length := by
      rw [List.countP_eq_length_filter]
      congr 1
      refine List.filter_congr fun k _ => ?_
      cases (k == n) <;> rfl
    omega
theorem Part.len {gs : List Gate} {at' m : Nat} {ks : List Nat} (h : Part gs at' m ks) : ks.length ≤ at' + 1 := by
  exact len_below _ _ h.nd fun k hk => by have := h.le k hk; omega
theorem intN {ls : List Nat} {n : Nat} {x : V} (h : (ls.map fun l : Nat => V.int (l : Int))[n]? = some x) : ∃ a : Nat, ls[n]? = some a ∧ V.int (a : Int) = x := by
  rw [List.getElem?_map] at h
  cases q1 : ls[n]? with
  | none => rw [q1] at h; cases h
  | some a => rw [q1] at h; exact ⟨a, rfl, Option.some.inj h⟩
/-! ### looks_of -/
theorem sc_looks_of : FnScope ["gate"] ["gate"] (defScope s_looks_of) := ⟨rfl, rfl, rfl, by decide +kernel, rfl, by decide +kernel, by decide +kernel⟩
def sp_looks_of : Sp := fun vs H Q _ => ∃ t g, vs = [.ref t] ∧ H t = some (.tup (enG g)) ∧ ∀ H' r, Same H H' → H' r = some (.tup ((looks g).map fun l : Nat => V.int l)) → Q (.ref r) H'
theorem cal_looks_of (D : DefM K mg "looks_of" "looks_of" s_looks_of) (G : GC mg) : C8.Cal P w K mg base 1 "looks_of" sp_looks_of [] := by
  refine calM D sc_looks_of (fun vs H Q E h => by obtain ⟨_, _, rfl, _⟩ := h; rfl) (fun _ _ _ _ _ _ us hl => match us, hl with | [_], _ => rfl) fun f cdv A outer s H vs Q E hr h => ?_
  refine ⟨_, pss_cons (ps_if (pt_cmpR op_in_seq (pe_ix ix_tup (pv 0) pe_int (fun _ _ => rfl)) (pe_tup (pa_cons (C8.pe_gc (by rfl) G.cS) (pa_cons (C8.pe_gc (by rfl) G.cP) pa_nil))) (by rfl))
      (pss_one (ps_ret (pe_slice sl_tupA (pv 0) (po_some pe_int) po_none))) pss_nil)
    (pss_one (ps_ret (pe_ifExp (pt_cmpR op_eq (pe_ix ix_tup (pv 0) pe_int (fun _ _ => rfl)) (C8.pe_gc (by rfl) G.cM) (nomark _)) (pe_slice sl_tupA (pv 0) (po_some pe_int) (po_some pe_int)) (pe_tup pa_nil)))), ?_⟩
  obtain ⟨t, g, rfl, ht, q⟩ := h
  have sq : ∀ H', Same H H' → SqT K H' t (enG g) := fun H' s1 => .inl (.inl (s1 _ _ ht))
  refine ⟨_, rfl, t, _, 0, _, rfl, rfl, sq _ (Same.refl _), atI_nat (j := 0) (enG_0 g), (by show 2 ≤ sizeLine; decide), fun tp htp => ?_⟩
  have s1 : Same H (upd H tp (.tup [.str "sum", .str "product"])) := same_upd htp
  refine ⟨tp, _, rfl, .inr (.inl (.inl upd_same)), rfl, rfl, _, rfl, ?_⟩
  cases g with
  | inp h =>
    rw [show inV (V.str (word (.inp h))) [V.str "sum", V.str "product"] = false from (by decide +kernel : inV (V.str "input") [V.str "sum", V.str "product"] = false)]
    refine ⟨_, rfl, t, _, 0, _, rfl, rfl, sq _ s1, atI_nat (j := 0) rfl, rfl, _, rfl, ?_⟩
    rw [str_ne (by decide +kernel)]
    exact ⟨Nat.zero_le _, fun r hr => q _ r (s1.trans (same_upd hr)) upd_same⟩
  | const h =>
    rw [show inV (V.str (word (.const h))) [V.str "sum", V.str "product"] = false from (by decide +kernel : inV (V.str "constant") [V.str "sum", V.str "product"] = false)]
    refine ⟨_, rfl, t, _, 0, _, rfl, rfl, sq _ s1, atI_nat (j := 0) rfl, rfl, _, rfl, ?_⟩
    rw [str_ne (by decide +kernel)]
    exact ⟨Nat.zero_le _, fun r hr => q _ r (s1.trans (same_upd hr)) upd_same⟩
  | times a c =>
    rw [show inV (V.str (word (.times a c))) [V.str "sum", V.str "product"] = false from (by decide +kernel : inV (V.str "times") [V.str "sum", V.str "product"] = false)]
    refine ⟨_, rfl, t, _, 0, _, rfl, rfl, sq _ s1, atI_nat (j := 0) rfl, rfl, _, rfl, ?_⟩
    rw [str_eq]
    refine ⟨_, rfl, _, rfl, _, rfl, t, _, rfl, sq _ s1, (fun z => absurd z.1 (show ¬ HT.sIx 3 0 (some 1) = 0 by decide)), fun z r hr => ?_⟩
    exact q _ r (s1.trans (same_upd hr)) upd_same
  | sum a b =>
    rw [show inV (V.str (word (.sum a b))) [V.str "sum", V.str "product"] = true from (by decide +kernel : inV (V.str "sum") [V.str "sum", V.str "product"] = true)]
    refine ⟨_, rfl, _, rfl, t, _, rfl, sq _ s1, (fun z => absurd z.1 (show ¬ HT.sIx 3 0 (some 1) = 0 by decide)), fun z r hr => ?_⟩
    exact q _ r (s1.trans (same_upd hr)) upd_same
  | prod a b =>
    rw [show inV (V.str (word (.prod a b))) [V.str "sum", V.str "product"] = true from (by decide +kernel : inV (V.str "product") [V.str "sum", V.str "product"] = true)]
    refine ⟨_, rfl, _, rfl, t, _, rfl, sq _ s1, (fun z => absurd z.1 (show ¬ HT.sIx 3 0 (some 1) = 0 by decide)), fun z r hr => ?_⟩
    exact q _ r (s1.trans (same_upd hr)) upd_same
/-! ### hanging -/
theorem sc_hanging : FnScope ["gates", "goals", "found", "goal", "at", "look"] ["gates", "goals"] (defScope s_hanging) := ⟨rfl, rfl, rfl, by decide +kernel, rfl, by decide +kernel, by decide +kernel⟩
def sp_hanging : Sp := fun vs H Q _ => ∃ ga gl gs at', vs = [.ref ga, .ref gl] ∧ GatesAt H ga gs ∧ GsOk gs ∧ H gl = some (.lst [.int ((at' : Nat) : Int)]) ∧ at' < gs.length ∧
  ∀ H' d ks, Same H H' → Needed gs at' ks → H' d = some (.dK (enN ks)) → Q (.ref d) H'
theorem cal_hanging (D : DefM K mg "hanging" "hanging" s_hanging) (G : GC mg) (cl : C8.Cal P w K mg base 1 "looks_of" sp_looks_of []) : C8.Cal P w K mg base 2 "hanging" sp_hanging [] := by
  refine calM D sc_hanging (fun vs H Q E h => by obtain ⟨_, _, _, _, rfl, _⟩ := h; rfl) (fun _ _ _ _ _ _ us hl => match us, hl with | [_, _], _ => rfl) fun f cdv A outer s H vs Q E hr h => ?_
  refine ⟨_, pss_cons (ps_setDc (i := 2) (own := [("goal", 3)]) (g := gName 3) (tt := tYes) rfl sc_hanging.nd rfl rfl (sw_trueD rfl rfl rfl (by decide +kernel)) (pi_list (pv 1))
      (blkOk_by (N := ["gates", "goals", "found", "goal", "at", "look"]) (sc := defScope s_hanging) (by decide +kernel)) (fun _ _ _ _ _ => pg_name (i := 3) sc_hanging.nd rfl (Or.inl rfl)) (fun _ _ _ _ _ => pts_nil)
      (fun _ _ _ _ _ => pv 3) (fun _ _ _ _ _ => pe_bl))
    (pss_cons (ps_for PassesOwn.never rfl (pi_range3 (by rfl) G.b.range (pa_cons (pe_op op_sub (pe_callB call_len_seq (by rfl) G.b.len (by decide +kernel) (pa_cons (pv 0) pa_nil)) pe_int) (pa_cons (pe_un un_neg pe_int) (pa_cons (pe_un un_neg pe_int) pa_nil))))
        (pg_name (i := 4) sc_hanging.nd rfl (Or.inl rfl))
      (pss_one (ps_if (pt_cmp (pc_din (hu_of hr) (pv 4) (pv 2))) (pss_one (ps_expr (pe_bm PySem.F.plainAttrs_dict PySem.F.slot_dict_update PySem.F.type_dict_update mt_updateK (pv 2) (pa_cons
        (pe_dc (own := [("look", 5)]) (g := gName 5) (tt := tYes) rfl sc_hanging.nd (pi_tup (C8.pe_c cl hr (by decide) (by rfl) (pa_cons (pe_ix ix_tup (pv 0) (pv 4) (fun _ _ => rfl)) pa_nil)))
          (blkOk_by (N := ["gates", "goals", "found", "goal", "at", "look"]) (sc := defScope s_hanging) (by decide +kernel)) (fun _ _ _ _ _ => pg_name (i := 5) sc_hanging.nd rfl (Or.inl rfl)) (fun _ _ _ _ _ => pts_nil)
          (fun _ _ _ _ _ => pv 5) (fun _ _ _ _ _ => pe_bl)) pa_nil)))) pss_nil)))
    (pss_one (ps_ret (pv 2)))), ?_⟩
  obtain ⟨ga, gl, gs, at', rfl, hg, ok, hgl, hat, q⟩ := h
  obtain ⟨ts, ha, hp⟩ := id hg
  have hl : ts.length = gs.length := Paired.length hp
  have hz := ok.few
  refine ⟨_, rfl, gl, rfl, ⟨_, .inl (.inl hgl)⟩, fun d hd => ?_⟩
  have hdg : d ≠ ga := fun z => by rw [z, ha] at hd; cases hd
  refine dcK_it (walk_list (xs := [V.int (at' : Int)])) (DkI H d fun i => accL addN [] [at'] i) (dkI0 hd rfl) (fun i H1 hi p1 => .inl (.inl (p1.1 _ _ hgl))) (fun i x H1 H2 hi p1 y => ?_) (fun H1 p1 => ?_)
  · obtain ⟨rfl, hx⟩ := y
    have hi0 : i = 0 := by simp at hi; exact hi
    subst hi0
    have ex : V.int (at' : Int) = x := Option.some.inj hx
    subst ex
    exact ⟨rfl, _, rfl, dkPut hd p1 (Same.refl _) (by show 0 < sizeLine; decide) rfl⟩
  have hd1 : H1 d = some (.dK (enN [at'])) := p1.2
  have sq : ∀ H', Same H H' → SqT K H' ga (ts.map V.ref) := fun H' s1 => .inl (.inl (s1 _ _ ha))
  refine ⟨_, rfl, ga, _, rfl, .inr (sq _ p1.1), _, _, rfl, rfl, _, rfl, _, rfl, _, _, _, _, rfl, RgC.neg (by omega) (by rw [List.length_map]; omega) (by decide) (by decide), ?_⟩
  have hn : ((((ts.map V.ref).length : Nat) : Int) - 1 - -1).toNat = gs.length := by rw [List.length_map, hl]; omega
  rw [hn]
  refine for_it walk_rangeC (fun t σ H' => (∃ y, σ = [some (.ref ga), some (.ref gl), some (.ref d), none, y, none]) ∧ ∃ ks, Same H H' ∧ H' d = some (.dK (enN ks)) ∧ Part gs at' (gs.length - t) ks) ?_ ?_ ?_ ?_
  · refine ⟨⟨_, rfl⟩, [at'], p1.1, hd1, by simp, by simp, by simp, fun n g h1 h2 => ?_⟩
    have : n = at' := by simpa using h2
    omega
  · intro t σ H' ht p2
    exact True.intro
  · intro t x σ H' H2 ht p2 y
    obtain ⟨rfl, hx⟩ := y
    obtain ⟨⟨y, rfl⟩, ks, s2, hk, pt⟩ := p2
    have hx2 : x = V.int (((gs.length - 1 - t : Nat)) : Int) := by
      rw [hx]
      show V.int ((((ts.map V.ref).length : Nat) : Int) - 1 + (t : Int) * -1) = _
      congr 1
      rw [List.length_map, hl]
      omega
    subst hx2
    obtain ⟨m, em⟩ : ∃ m, gs.length - 1 - t = m := ⟨_, rfl⟩
    have em2 : gs.length - t = m + 1 := by omega
    have em3 : gs.length - (t + 1) = m := by omega
    rw [em]
    rw [em2] at pt
    refine ⟨_, rfl, _, rfl, d, _, rfl, DGet.k (k := Sum.inl (m : Int)) hk, _, rfl, ?_⟩
    rw [valV_enN]
    refine ite_dec (fun hm => ?_) (fun hm => ?_)
    · obtain ⟨g, hg1⟩ : ∃ g, gs[m]? = some g := ⟨_, List.getElem?_eq_getElem (by omega)⟩
      obtain ⟨tg, ts2, hh1, hh2, hh3, hh4⟩ := hg.get hg1
      rw [ha] at hh1
      have ets : ts.map V.ref = ts2.map V.ref := HO.tup.inj (Option.some.inj hh1)
      refine ⟨_, rfl, .inr (.inr (.inl ⟨rfl, .inl ⟨_, hk⟩⟩)), _, rfl, _, rfl, ga, _, (m : Nat), .ref tg, rfl, rfl, sq _ s2, atI_nat (by rw [ets, List.getElem?_map, hh2]; rfl), tg, g, rfl, s2 _ _ hh3, fun H3 r s3 hr3 => ?_⟩
      refine ⟨r, rfl, ⟨_, .inl (.inl hr3)⟩, fun D2 hD2 => ?_⟩
      refine dcK_it (walk_tup (xs := (looks g).map fun l : Nat => V.int l)) (DkI H3 D2 fun i => accL addN [] (looks g) i) (dkI0 hD2 rfl) (fun i H1 hi p1 => .inl (.inl (p1.1 _ _ hr3))) (fun i x H5 H6 hi p5 y => ?_) (fun H5 p5 => ?_)
      · obtain ⟨rfl, hx⟩ := y
        obtain ⟨l, hl2, rfl⟩ := intN hx
        refine ⟨rfl, _, rfl, dkPut hD2 p5 (Same.refl _) ?_ (accL_succ _ _ _ hl2)⟩
        have h3 := accL_le addN_le (looks g) i
        have h4 : (looks g).length ≤ 2 := by cases g <;> simp [looks]
        exact small10 (by omega)
      · have hd5 : H5 d = some (.dK (enN ks)) := p5.1 _ _ (s3 _ _ hk)
        have hD5 : H5 D2 = some (.dK (enN ((looks g).foldl addN []))) := by
          have h := p5.2
          rw [List.length_map] at h
          rw [h, ← accL_all]
        have hne : d ≠ D2 := fun z => by
          have := s3 _ _ hk
          rw [z, hD2] at this
          cases this
        have h4 : ((looks g).foldl addN []).length ≤ 2 := by
          have h3 := accL_len addN addN_le (looks g) []
          have h5 : (looks g).length ≤ 2 := by cases g <;> simp [looks]
          simp at h3
          omega
        have hkl := pt.len
        refine ⟨d, D2, _, _, rfl, rfl, hne, hd5, hD5, ?_, ⟨_, rfl⟩, ((looks g).foldl addN []).foldl addN ks, ?_, ?_, ?_⟩
        · unfold enN
          rw [List.length_map, List.length_map]
          exact Nat.le_of_lt (small10 (by omega))
        · refine same_set hd ((s2.trans s3).trans p5.1)
        · rw [upd_same, mergeK_enN]
        · rw [em3]
          have mem : ∀ x, x ∈ ((looks g).foldl addN []).foldl addN ks ↔ x ∈ ks ∨ x ∈ looks g := fun x => by
            rw [mem_foldN, mem_foldN]
            simp
          refine ⟨nodup_foldN _ _ pt.nd, (mem _).mpr (.inl pt.goal), fun k hk2 => ?_, fun n g2 h1 h2 h3 l hl3 => ?_⟩
          · rcases (mem k).mp hk2 with h | h
            · exact pt.le k h
            · have h6 := looks_lt (ok.ok m g hg1) k h
              have h7 := pt.le m hm
              omega
          · rcases Nat.lt_or_ge m n with hmn | hmn
            · rcases (mem n).mp h2 with h | h
              · exact (mem l).mpr (.inl (pt.cl n g2 hmn h h3 l hl3))
              · have h6 := looks_lt (ok.ok m g hg1) n h
                omega
            · have : n = m := by omega
              subst this
              rw [hg1] at h3
              cases h3
              exact (mem l).mpr (.inr hl3)
    · refine ⟨⟨_, rfl⟩, ks, s2, hk, ?_⟩
      rw [em3]
      refine ⟨pt.nd, pt.goal, pt.le, fun n g2 h1 h2 => ?_⟩
      rcases Nat.lt_or_ge m n with hmn | hmn
      · exact pt.cl n g2 hmn h2
      · have : n = m := by omega
        subst this
        exact absurd h2 hm
  · intro σ H' p2
    obtain ⟨⟨y, rfl⟩, ks, s2, hk, pt⟩ := p2
    refine ⟨_, rfl, q _ d ks s2 ⟨pt.nd, pt.goal, pt.le, fun n g h1 h2 => pt.cl n g (by omega) h1 h2⟩ hk⟩
end
end K24
end
section
set_option autoImplicit false
set_option Elab.async false
set_option linter.all false
set_option maxRecDepth 100000
set_option maxHeartbeats 1000000
/-! plan.circuits: gate_form, forms_to -/
namespace K24
open PySem PySem.Spec PyProof.Rows L2 SlX
/-- what the makers ask of the forms that a gate looks at -/
def GOK (p : Int) (fs : List Fm) : Gate → Prop
  | .inp _ => True
  | .const _ => True
  | .sum i j => (keys (fs.getD i [])).Nodup ∧ HashOk (fs.getD i []) ∧ SK (addAll (fs.getD i []) (fs.getD j [])) ∧ (fs.getD i []).length ≤ 5000 ∧ (fs.getD j []).length ≤ 5000
  | .times i _ => (keys (fs.getD i [])).Nodup ∧ SK (fs.getD i []) ∧ (fs.getD i []).length ≤ 5000
  | .prod i j => (∀ x ∈ fs.getD i [], -(2 ^ 64) < x.2 ∧ x.2 < 2 ^ 64) ∧ (∀ k ∈ keys (fs.getD i []), k.length ≤ 100) ∧ SK (addAll [] (pairs p (fs.getD i []) (fs.getD j []))) ∧ (fs.getD i []).length ≤ 2000 ∧ (fs.getD j []).length ≤ 2000 ∧ (pairs p (fs.getD i []) (fs.getD j [])).length ≤ 1000000
/-- the form of the place l stands in the dict -/
def FAt (H : Hp) (kvs : List (Key × V)) (fs : List Fm) (l : Nat) : Prop := ∃ a, valV kvs (Sum.inl (l : Int)) = some (.ref a) ∧ H a = some (.dT (enF (fs.getD l [])))
theorem FAt.same {H H' : Hp} {kvs : List (Key × V)} {fs : List Fm} {l : Nat} (s : Same H H') (h : FAt H kvs fs l) : FAt H' kvs fs l := by
  obtain ⟨a, h1, h2⟩ := h
  exact ⟨a, h1, s _ _ h2⟩
section
variable {P : Program} {w : World} {K : PySem.W.Frag} {mg : Str → Option Value} {base : Heap} {C p0 p1 pI gI fM fI : Addr} {i0 i1 : Nat}
theorem sc_gate_form : FnScope ["field", "gate", "forms", "letters", "at_input"] ["field", "gate", "forms", "letters", "at_input"] (defScope s_gate_form) := ⟨rfl, rfl, rfl, by decide +kernel, rfl, by decide +kernel, by decide +kernel⟩
def sp_gate_form : Sp := fun vs H Q _ => ∃ p t d n ai kvs g m idx fs, vs = [.int p, .ref t, .ref d, .int ((n : Nat) : Int), ai] ∧ 1 < p ∧ p ≤ 1000 ∧ n ≤ 100 ∧ H t = some (.tup (enG g)) ∧ H d = some (.dK kvs) ∧ GateOk m g ∧ (∀ l ∈ looks g, FAt H kvs fs l) ∧ GOK p fs g ∧
  (isInp g = true → ai = .int ((idx : Nat) : Int)) ∧ ∀ H' r, Same H H' → H' r = some (.dT (enF (fgate p n idx fs g))) → Q (.ref r) H'
theorem cal_gate_form (D : DefM K mg "gate_form" "gate_form" s_gate_form) (G : GC mg) (c1 : C8.Cal P w K mg base 1 "letter_form" sp_letter_form []) (c2 : C8.Cal P w K mg base 2 "constant_form" sp_constant_form []) (c3 : C8.Cal P w K mg base 2 "form_sum" sp_form_sum [])
    (c4 : C8.Cal P w K mg base 2 "form_scaled" sp_form_scaled []) (c5 : C8.Cal P w K mg base 2 "form_product" sp_form_product []) : C8.Cal P w K mg base 3 "gate_form" sp_gate_form [] := by
  refine calM D sc_gate_form (fun vs H Q E h => by obtain ⟨_, _, _, _, _, _, _, _, _, _, rfl, _⟩ := h; rfl) (fun _ _ _ _ _ _ us hl => match us, hl with | [_, _, _, _, _], _ => rfl) fun f cdv A outer s H vs Q E hr h => ?_
  refine ⟨_, pss_cons (ps_match (pe_ix ix_tup (pv 1) pe_int (fun _ _ => rfl))
      (mc_str (pss_one (ps_ret (C8.pe_c c1 hr (by decide) (by rfl) (pa_cons (pv 3) (pa_cons (pv 4) pa_nil)))))
      (mc_str (pss_one (ps_ret (C8.pe_c c2 hr (by decide) (by rfl) (pa_cons (pv 0) (pa_cons (pv 3) (pa_cons (pe_ix ix_tup (pv 1) pe_int (fun _ _ => rfl)) pa_nil))))))
      (mc_str (pss_one (ps_ret (C8.pe_c c3 hr (by decide) (by rfl) (pa_cons (pv 0) (pa_cons (pe_dget (hu_of hr) (pv 2) (pe_ix ix_tup (pv 1) pe_int (fun _ _ => rfl)) (fun _ _ => rfl)) (pa_cons (pe_dget (hu_of hr) (pv 2) (pe_ix ix_tup (pv 1) pe_int (fun _ _ => rfl)) (fun _ _ => rfl)) pa_nil))))))
      (mc_str (pss_one (ps_ret (C8.pe_c c4 hr (by decide) (by rfl) (pa_cons (pv 0) (pa_cons (pe_dget (hu_of hr) (pv 2) (pe_ix ix_tup (pv 1) pe_int (fun _ _ => rfl)) (fun _ _ => rfl)) (pa_cons (pe_ix ix_tup (pv 1) pe_int (fun _ _ => rfl)) pa_nil))))))
      mc_nil)))))
    (pss_one (ps_ret (C8.pe_c c5 hr (by decide) (by rfl) (pa_cons (pv 0) (pa_cons (pe_dget (hu_of hr) (pv 2) (pe_ix ix_tup (pv 1) pe_int (fun _ _ => rfl)) (fun _ _ => rfl)) (pa_cons (pe_dget (hu_of hr) (pv 2) (pe_ix ix_tup (pv 1) pe_int (fun _ _ => rfl)) (fun _ _ => rfl)) pa_nil)))))), ?_⟩
  obtain ⟨p, t, d, n, ai, kvs, g, m, idx, fs, rfl, hp, hp2, hn, ht, hd, ok, hf, gk, hai, q⟩ := h
  have sq : SqT K H t (enG g) := .inl (.inl ht)
  refine ⟨_, rfl, t, _, 0, _, rfl, rfl, sq, atI_nat (j := 0) (enG_0 g), _, rfl, ?_⟩
  have dg : ∀ (l : Nat) (a : Addr), valV kvs (Sum.inl (l : Int)) = some (.ref a) → DGet H d (.int (l : Int)) (some (.ref a)) := fun l a h => .inl ⟨kvs, Sum.inl (l : Int), .inl hd, rfl, h.symm⟩
  cases g with
  | inp h =>
    have e := hai rfl
    subst e
    show (if word (Gate.inp h) = Str.ofString "input" then _ else _ : TS) _ _ _
    rw [if_pos (show word (Gate.inp h) = Str.ofString "input" from rfl)]
    exact ⟨_, rfl, _, rfl, n, idx, rfl, hn, fun H' r s1 hr1 => q H' r s1 hr1⟩
  | const cc =>
    show (if word (Gate.const cc) = Str.ofString "input" then _ else _ : TS) _ _ _
    rw [if_neg (show word (Gate.const cc) ≠ Str.ofString "input" from (by decide +kernel : ("constant" : Str) ≠ "input")), if_pos (show word (Gate.const cc) = Str.ofString "constant" from rfl)]
    exact ⟨_, rfl, _, rfl, _, rfl, t, _, 1, _, rfl, rfl, sq, atI_nat (j := 1) rfl, p, n, cc, rfl, by omega, hn, fun H' r s1 hr1 => q H' r s1 hr1⟩
  | sum a b =>
    obtain ⟨k1, k2, k3, k4, k5⟩ := gk
    obtain ⟨da, v1, e1⟩ := hf a (by simp [looks])
    obtain ⟨db, v2, e2⟩ := hf b (by simp [looks])
    show (if word (Gate.sum a b) = Str.ofString "input" then _ else _ : TS) _ _ _
    rw [if_neg (show word (Gate.sum a b) ≠ Str.ofString "input" from (by decide +kernel : ("sum" : Str) ≠ "input")), if_neg (show word (Gate.sum a b) ≠ Str.ofString "constant" from (by decide +kernel : ("sum" : Str) ≠ "constant")), if_pos (show word (Gate.sum a b) = Str.ofString "sum" from rfl)]
    exact ⟨_, rfl, _, rfl, _, rfl, t, _, 1, _, rfl, rfl, sq, atI_nat (j := 1) rfl, d, _, rfl, dg a da v1, _, rfl, _, rfl, t, _, 2, _, rfl, rfl, sq, atI_nat (j := 2) rfl, d, _, rfl, dg b db v2,
      p, da, db, _, _, rfl, by omega, e1, e2, k1, k2, k3, k4, k5, fun H' r s1 hr1 => q H' r s1 hr1⟩
  | times a cc =>
    obtain ⟨k1, k2, k3⟩ := gk
    have ok2 : a < m ∧ 0 ≤ cc ∧ cc ≤ 996 := ok
    obtain ⟨da, v1, e1⟩ := hf a (by simp [looks])
    show (if word (Gate.times a cc) = Str.ofString "input" then _ else _ : TS) _ _ _
    rw [if_neg (show word (Gate.times a cc) ≠ Str.ofString "input" from (by decide +kernel : ("times" : Str) ≠ "input")), if_neg (show word (Gate.times a cc) ≠ Str.ofString "constant" from (by decide +kernel : ("times" : Str) ≠ "constant")), if_neg (show word (Gate.times a cc) ≠ Str.ofString "sum" from (by decide +kernel : ("times" : Str) ≠ "sum")), if_pos (show word (Gate.times a cc) = Str.ofString "times" from rfl)]
    exact ⟨_, rfl, _, rfl, _, rfl, t, _, 1, _, rfl, rfl, sq, atI_nat (j := 1) rfl, d, _, rfl, dg a da v1, _, rfl, t, _, 2, _, rfl, rfl, sq, atI_nat (j := 2) rfl,
      p, da, cc, _, rfl, by omega, e1, k1, k2, k3, ⟨by omega, by omega⟩, fun H' r s1 hr1 => q H' r s1 hr1⟩
  | prod a b =>
    obtain ⟨k1, k2, k3, k4, k5, k6⟩ := gk
    obtain ⟨da, v1, e1⟩ := hf a (by simp [looks])
    obtain ⟨db, v2, e2⟩ := hf b (by simp [looks])
    show (if word (Gate.prod a b) = Str.ofString "input" then _ else _ : TS) _ _ _
    rw [if_neg (show word (Gate.prod a b) ≠ Str.ofString "input" from (by decide +kernel : ("product" : Str) ≠ "input")), if_neg (show word (Gate.prod a b) ≠ Str.ofString "constant" from (by decide +kernel : ("product" : Str) ≠ "constant")), if_neg (show word (Gate.prod a b) ≠ Str.ofString "sum" from (by decide +kernel : ("product" : Str) ≠ "sum")), if_neg (show word (Gate.prod a b) ≠ Str.ofString "times" from (by decide +kernel : ("product" : Str) ≠ "times"))]
    exact ⟨_, rfl, _, rfl, _, rfl, t, _, 1, _, rfl, rfl, sq, atI_nat (j := 1) rfl, d, _, rfl, dg a da v1, _, rfl, _, rfl, t, _, 2, _, rfl, rfl, sq, atI_nat (j := 2) rfl, d, _, rfl, dg b db v2,
      p, da, db, _, _, rfl, hp, e1, e2, k1, k2, k3, k4, k5, k6, fun H' r s1 hr1 => q H' r s1 hr1⟩
end
end K24
end
section
set_option autoImplicit false
set_option Elab.async false
set_option linter.all false
set_option maxRecDepth 100000
set_option maxHeartbeats 1000000
/-! plan.circuits: forms_to -/
namespace K24
open PySem PySem.Spec PyProof.Rows L2 SlX
/-- all gates' makings are in reach -/
structure WalkOk (p : Int) (gs : List Gate) : Prop where
  ok : ∀ (i : Nat) (g : Gate), gs[i]? = some g → GOK p (formsC p gs) g
  few : ∀ F ∈ formsC p gs, F.length ≤ 2000
theorem plc_lt {gs : List Gate} {i x : Nat} (h : x ∈ plc gs i) : x < i := by
  unfold plc at h
  exact List.mem_range.mp (List.mem_filter.mp h).1
theorem plc_nIn (gs : List Gate) : ∀ i, i ≤ gs.length → (plc gs i).length = nIn (gs.take i) := by
  intro i
  induction i with
  | zero => intro _; rfl
  | succ i ih =>
    intro hi
    obtain ⟨g, hg⟩ : ∃ g, gs[i]? = some g := ⟨_, List.getElem?_eq_getElem (by omega)⟩
    rw [plc_succ hg, nIn_succ hg, List.length_append, ih (by omega)]
    cases isInp g <;> rfl
theorem plc_mem {gs : List Gate} {n i : Nat} : i ∈ plc gs n ↔ i < n ∧ ∃ g, gs[i]? = some g ∧ isInp g = true := by
  unfold plc
  rw [List.mem_filter, List.mem_range]
  constructor
  · rintro ⟨h1, h2⟩
    refine ⟨h1, ?_⟩
    cases q : gs[i]? with
    | none => rw [q] at h2; cases h2
    | some g => rw [q] at h2; exact ⟨g, rfl, h2⟩
  · rintro ⟨h1, g, h2, h3⟩
    refine ⟨h1, ?_⟩
    rw [h2]
    exact h3
theorem plc_app (gs : List Gate) (i : Nat) : ∀ n, i ≤ n → n ≤ gs.length → ∃ t, plc gs n = plc gs i ++ t := by
  intro n
  induction n with
  | zero => intro h _; have : i = 0 := by omega
            subst this; exact ⟨[], by simp⟩
  | succ n ih =>
    intro h hn
    rcases Nat.lt_or_ge i (n + 1) with h1 | h1
    · obtain ⟨t, e⟩ := ih (by omega) (by omega)
      obtain ⟨g, hg⟩ : ∃ g, gs[n]? = some g := ⟨_, List.getElem?_eq_getElem (by omega)⟩
      exact ⟨t ++ if isInp g then [n] else [], by rw [plc_succ hg, e, List.append_assoc]⟩
    · have : i = n + 1 := by omega
      subst this; exact ⟨[], by simp⟩
/-- an input's place among the inputs -/
theorem places_at {gs : List Gate} {m : Nat} {g : Gate} (hg : gs[m]? = some g) (hi : isInp g = true) : (places gs)[nIn (gs.take m)]? = some m ∧ ∀ j, j < nIn (gs.take m) → (places gs)[j]? ≠ some m := by
  have hm : m < gs.length := (List.getElem?_eq_some_iff.mp hg).1
  obtain ⟨t, e⟩ := plc_app gs (m + 1) gs.length (by omega) (Nat.le_refl _)
  have e2 : places gs = plc gs gs.length := rfl
  have hl := plc_nIn gs m (Nat.le_of_lt hm)
  rw [plc_succ hg, hi, if_pos rfl] at e
  rw [e2, e]
  refine ⟨?_, fun j hj z => ?_⟩
  · rw [List.append_assoc, List.getElem?_append_right (by omega), hl]
    simp
  · rw [List.append_assoc, List.getElem?_append_left (by omega)] at z
    exact absurd (plc_lt (List.mem_of_getElem? z)) (Nat.lt_irrefl _)
theorem places_len (gs : List Gate) : (places gs).length = nIn gs := by
  have := plc_nIn gs gs.length (Nat.le_refl _)
  rw [List.take_length] at this
  exact this
theorem inV_nat (m : Nat) : ∀ l : List Nat, inV (V.int (m : Int)) (l.map fun i : Nat => V.int i) = decide (m ∈ l)
  | [] => rfl
  | a :: l => by
    have ih := inV_nat m l
    unfold inV at ih ⊢
    rw [List.map_cons, List.any_cons, ih]
    show ((a : Int) == (m : Int) || decide (m ∈ l)) = _
    by_cases e : a = m
    · subst e
      simp
    · have : ((a : Int) == (m : Int)) = false := beq_eq_false_iff_ne.mpr (by omega)
      rw [this, Bool.false_or, Bool.eq_iff_iff, decide_eq_true_eq, decide_eq_true_eq, List.mem_cons]
      constructor
      · exact .inr
      · rintro (h | h)
        · exact absurd h.symm e
        · exact h
theorem flat_nats (l : List Nat) : (l.map fun i : Nat => V.int i).all flatV = true := by
  rw [List.all_map]
  exact List.all_eq_true.mpr fun _ _ => rfl
section
variable {P : Program} {w : World} {K : PySem.W.Frag} {mg : Str → Option Value} {base : Heap} {C p0 p1 pI gI fM fI : Addr} {i0 i1 : Nat}
theorem sc_forms_to : FnScope ["field", "circuit", "goals", "gates", "found", "needed", "inputs", "at", "at_input"] ["field", "circuit", "goals"] (defScope s_forms_to) := ⟨rfl, rfl, rfl, by decide +kernel, rfl, by decide +kernel, by decide +kernel⟩
def sp_forms_to (C : Addr) (i0 : Nat) : Sp := fun vs H Q _ => ∃ p x gl gs at', vs = [.int p, .ref x, .ref gl] ∧ 1 < p ∧ p ≤ 1000 ∧ CirAt C i0 H x gs ∧ GsOk gs ∧ WalkOk p gs ∧ H gl = some (.lst [.int ((at' : Nat) : Int)]) ∧ at' < gs.length ∧
  ∀ H' d kvs, Same H H' → H' d = some (.dK kvs) → FAt H' kvs (formsC p gs) at' → Q (.ref d) H'
theorem cal_forms_to (D : DefM K mg "forms_to" "forms_to" s_forms_to) (c : CirF K C p0 p1 pI gI fM i0 i1) (G : GC mg) (gi : FnR P w K mg base CX0 1 gI (sp_inputs C i0)) (ch : C8.Cal P w K mg base 2 "hanging" sp_hanging []) (cg : C8.Cal P w K mg base 3 "gate_form" sp_gate_form []) : C8.Cal P w K mg base 4 "forms_to" (sp_forms_to C i0) [] := by
  refine calM D sc_forms_to (fun vs H Q E h => by obtain ⟨_, _, _, _, _, rfl, _⟩ := h; rfl) (fun _ _ _ _ _ _ us hl => match us, hl with | [_, _, _], _ => rfl) fun f cdv A outer s H vs Q E hr h => ?_
  refine ⟨_, pss_cons (ps_par (i := 3) (j := 4) rfl sc_forms_to.nd rfl rfl (by decide) rfl rfl (pa_cons (pe_sl (pv 1)) (pa_cons pe_dnewK pa_nil)) (by rfl))
    (pss_cons (ps_par (i := 5) (j := 6) rfl sc_forms_to.nd rfl rfl (by decide) rfl rfl (pa_cons (C8.pe_c ch hr (by decide) (by rfl) (pa_cons (pv 3) (pa_cons (pv 2) pa_nil))) (pa_cons (pe_propSl (pv 1) c.cl c.pat c.pget c.ptk c.prc gi (E := C8.E0) (hr.mono (by decide)) (fun _ _ _ _ z => z)) pa_nil)) (by rfl))
    (pss_cons (ps_for PassesOwn.never rfl (pi_list (pe_callB (call_sortedDI rfl) (by rfl) G.b.sorted (by decide +kernel) (pa_cons (pv 5) pa_nil))) (pg_name (i := 7) sc_forms_to.nd rfl (Or.inl rfl))
      (pss_cons (ps_set (i := 8) sc_forms_to.nd rfl (Or.inl rfl) (pe_ifExp (pt_cmpR op_inX (pv 7) (pv 6) (by rfl)) (pe_bmX PySem.F.slot_tuple_index PySem.F.type_tuple_index mt_indexX (pv 6) (pa_cons (pv 7) pa_nil)) pe_non))
      (pss_cons (ps_dput (hu_of hr) (pv 4) (pv 7) (C8.pe_c cg hr (by decide) (by rfl) (pa_cons (pv 0) (pa_cons (pe_ix ix_tup (pv 3) (pv 7) (fun _ _ => rfl)) (pa_cons (pv 4) (pa_cons (pe_callB call_lenX (by rfl) G.b.len (by decide +kernel) (pa_cons (pv 6) pa_nil)) (pa_cons (pv 8) pa_nil)))))) rfl)
      (pss_one (ps_if (pt_cmpR op_gt (pe_callB call_len_dT (by rfl) G.b.len (by decide +kernel) (pa_cons (pe_dget (hu_of hr) (pv 4) (pv 7) (fun _ _ => rfl)) pa_nil)) (C8.pe_gc (by rfl) G.mT) (nomark _)) (pss_one ps_never) pss_nil)))))
    (pss_one (ps_ret (pv 4))))), ?_⟩
  obtain ⟨p, x, gl, gs, at', rfl, hp, hp2, hc, ok, wk, hgl, hat, q⟩ := h
  obtain ⟨dx, vs, ga, hs, hv, hg⟩ := id hc
  have hz := ok.few
  refine ⟨_, rfl, x, C, dx, p0, vs, i0, _, rfl, hs, c.cl, c.s0, hv, fun d hd => ⟨_, _, rfl, ?_⟩⟩
  have sd : Same H (upd H d (.dK [])) := same_upd hd
  refine ⟨_, rfl, _, rfl, ga, gl, gs, at', rfl, hg.same sd, ok, sd _ _ hgl, hat, fun H1 dn ks s1 nd hdn => ?_⟩
  have s1' := sd.trans s1
  refine ⟨_, rfl, x, dx, vs, rfl, Slt.same s1' hs, x, gs, rfl, hc.same s1', by omega, fun H2 ti s2 hti => ⟨_, _, rfl, ?_⟩⟩
  have s2' := s1'.trans s2
  have hd2 : H2 d = some (.dK []) := s2 _ _ (s1 _ _ upd_same)
  have hkl : ks.length < 64 := by
    have := len_below (at' + 1) ks nd.nd fun k hk => by have := nd.le k hk; omega
    omega
  refine ⟨_, rfl, dn, enN ks, ks.map fun k : Nat => (k : Int), rfl, .inl (s2 _ _ hdn), by unfold enN; rw [List.map_map, List.map_map]; rfl, by rw [List.length_map]; exact hkl, fun ys L hperm hsort hL => ?_⟩
  obtain ⟨zs, rfl⟩ : ∃ zs : List Nat, ys = zs.map fun k : Nat => (k : Int) := by
    have h1 : ∀ y ∈ ys, ∃ k : Nat, y = (k : Int) := fun y hy => by
      obtain ⟨k, _, e⟩ := List.mem_map.mp (hperm.mem_iff.mp hy)
      exact ⟨k, e.symm⟩
    refine ⟨ys.map Int.toNat, ?_⟩
    rw [List.map_map]
    conv => lhs; rw [← List.map_id ys]
    refine List.map_congr_left fun y hy => ?_
    obtain ⟨k, e⟩ := h1 y hy
    rw [e]
    show (k : Int) = (((k : Int).toNat : Nat) : Int)
    omega
  have zmem : ∀ k, k ∈ zs ↔ k ∈ ks := fun k => by
    have := hperm.mem_iff (a := (k : Int))
    simp only [List.mem_map] at this
    constructor
    · intro h
      obtain ⟨a, h1, h2⟩ := this.mp ⟨k, h, rfl⟩
      have : a = k := by omega
      exact this ▸ h1
    · intro h
      obtain ⟨a, h1, h2⟩ := this.mpr ⟨k, h, rfl⟩
      have : a = k := by omega
      exact this ▸ h1
  have zsort : zs.Pairwise (· ≤ ·) := by
    have h1 := List.pairwise_map.mp hsort
    exact h1.imp fun h => by omega
  have hLd : L ≠ d := fun z => by rw [z, hd2] at hL; cases hL
  refine ⟨L, rfl, ⟨_, .inl (.inl upd_same)⟩, ?_⟩
  have hdl : ∀ b u, H b = some u → b ≠ d := fun b u e z => by rw [z, hd] at e; cases e
  refine for_it (walk_list (xs := (zs.map fun k : Nat => (k : Int)).map V.int)) (fun i σ H' => (∃ y z, σ = [some (.int p), some (.ref x), some (.ref gl), some (.ref ga), some (.ref d), some (.ref dn), some (.ref ti), y, z]) ∧
    SameX d (upd H2 L (.lst ((zs.map fun k : Nat => (k : Int)).map V.int))) H' ∧ ∃ kvs, H' d = some (.dK kvs) ∧ kvs.length ≤ i ∧ ∀ j n, j < i → zs[j]? = some n → FAt H' kvs (formsC p gs) n) ?_ ?_ ?_ ?_
  · exact ⟨⟨_, _, rfl⟩, SameX.refl _ _, [], by rw [upd_ne (Ne.symm hLd)]; exact hd2, Nat.zero_le _, fun j n hj => absurd hj (Nat.not_lt_zero _)⟩
  · intro i σ H' hi p1
    exact .inl (.inl (p1.2.1 _ _ hLd upd_same))
  · intro i y1 σ H' H3 hi p1 y
    obtain ⟨rfl, hx⟩ := y
    obtain ⟨⟨y, z, rfl⟩, sX, kvs, hk, hkz, hF⟩ := p1
    obtain ⟨m0, hm0, rfl⟩ := getI hx
    obtain ⟨m, hm, rfl⟩ : ∃ m, zs[i]? = some m ∧ (m : Int) = m0 := by
      rw [List.getElem?_map] at hm0
      cases q1 : zs[i]? with
      | none => rw [q1] at hm0; cases hm0
      | some a => rw [q1] at hm0; exact ⟨a, rfl, Option.some.inj hm0⟩
    have hmk : m ∈ ks := (zmem m).mp (List.mem_of_getElem? hm)
    have hml : m < gs.length := by have := nd.le m hmk; omega
    obtain ⟨g, hgm⟩ : ∃ g, gs[m]? = some g := ⟨_, List.getElem?_eq_getElem hml⟩
    obtain ⟨tg, ts, hh1, hh2, hh3, hh4⟩ := hg.get hgm
    have sA : Same H H3 := fun b u e => sX b u (hdl b u e) ((s2'.trans (same_upd hL)) b u e)
    have hti2 : H3 ti = some (TpX ti ((places gs).map fun i : Nat => V.int i)) := by
      refine sX _ _ (fun z => ?_) ((same_upd hL) _ _ hti)
      rw [z, hd2] at hti
      unfold TpX at hti
      cases hti
    have hnn : ((places gs).map fun i : Nat => V.int i).length = nIn gs := by rw [List.length_map, places_len]
    have hfm := formsC_get (p := p) ok hgm
    have hlook : ∀ l ∈ looks g, FAt H3 kvs (formsC p gs) l := fun l hl => by
      have h1 := nd.cl m g hmk hgm l hl
      have h2 := looks_lt (ok.ok m g hgm) l hl
      obtain ⟨j, hj⟩ := List.getElem?_of_mem ((zmem l).mpr h1)
      refine hF j l ?_ hj
      rcases Nat.lt_or_ge j i with h | h
      · exact h
      · exfalso
        rcases Nat.eq_or_lt_of_le h with e | e
        · subst e
          rw [hm] at hj
          have := Option.some.inj hj
          omega
        · have hji : j < zs.length := (List.getElem?_eq_some_iff.mp hj).1
          have hii : i < zs.length := (List.getElem?_eq_some_iff.mp hm).1
          have h3 := (List.pairwise_iff_getElem.mp zsort) i j hii hji e
          have e1 := (List.getElem?_eq_some_iff.mp hj).2
          have e2 := (List.getElem?_eq_some_iff.mp hm).2
          rw [e1, e2] at h3
          omega
    have hi60 : i < 64 := by
      rw [List.length_map, List.length_map] at hi
      have h5 : zs.length = ks.length := by
        have := hperm.length_eq
        rw [List.length_map, List.length_map] at this
        exact this
      omega
    have hpl : m ∈ places gs ↔ isInp g = true := by
      rw [show places gs = plc gs gs.length from rfl, plc_mem]
      constructor
      · rintro ⟨_, g2, e1, e2⟩
        rw [hgm] at e1
        cases e1
        exact e2
      · intro h
        exact ⟨hml, g, hgm, h⟩
    refine ⟨_, rfl, _, rfl, ti, _, rfl, hti2, rfl, flat_nats _, _, rfl, ?_⟩
    rw [inV_nat]
    refine ite_dec (fun hin => ?_) (fun hin => ?_)
    · have hinp := hpl.mp hin
      have hpa := places_at hgm hinp
      have e3 : ((places gs).map fun i : Nat => V.int i) = ((places gs).map fun i : Nat => (i : Int)).map V.int := by rw [List.map_map]; rfl
      refine ⟨_, rfl, ⟨ti, _, rfl, hti2⟩, _, rfl, ti, (places gs).map fun i : Nat => (i : Int), (m : Int), nIn (gs.take m), rfl, rfl, (by rw [← e3]; exact hti2), (by rw [List.getElem?_map, hpa.1]; rfl), (fun j hj z => ?_), ?_⟩
      · rw [List.getElem?_map] at z
        cases q1 : (places gs)[j]? with
        | none => rw [q1] at z; cases z
        | some a =>
          rw [q1] at z
          have : (a : Int) = m := Option.some.inj z
          have : a = m := by omega
          subst this
          exact hpa.2 j hj q1
      · skip
        refine ⟨_, rfl, _, rfl, _, rfl, ga, _, ((m : Nat) : Int), .ref tg, rfl, rfl, .inl (.inl (sA _ _ hh1)), atI_nat (by rw [List.getElem?_map, hh2]; rfl), _, rfl, _, rfl, ti, _, rfl, hti2, _, rfl,
          p, tg, d, ((places gs).map fun i : Nat => V.int i).length, _, kvs, g, m, nIn (gs.take m), formsC p gs, rfl, hp, hp2, (by rw [hnn]; have := ok.inps; omega), sA _ _ hh3, hk, ok.ok m g hgm, hlook, wk.ok m g hgm, (fun _ => rfl), fun H5 r s5 hr5 => ?_⟩
        rw [hnn] at hr5
        have hd5 : H5 d = some (.dK kvs) := s5 _ _ hk
        have hrd : r ≠ d := fun z => by rw [z, hd5] at hr5; cases hr5
        refine ⟨_, rfl, _, rfl, d, _, rfl, .inl ⟨kvs, Sum.inl (m : Int), hd5, rfl, small10 (by omega), rfl⟩, ?_⟩
        refine ⟨_, rfl, _, rfl, d, .ref r, rfl, .inl ⟨_, Sum.inl (m : Int), .inl upd_same, rfl, by rw [valV_put, if_pos rfl]⟩, r, _, rfl, (by rw [upd_ne hrd]; exact hr5), _, _, rfl, rfl, _, rfl, ?_⟩
        rw [decide_eq_false (show ¬ (2000 : Int) < (((enF (fgate p (nIn gs) (nIn (gs.take m)) (formsC p gs) g)).length : Nat) : Int) by
          rw [enF_len]
          have := wk.few _ (List.mem_of_getElem? hfm)
          omega)]
        refine ⟨⟨_, _, rfl⟩, fun b u hb e => by rw [upd_ne hb]; exact s5 _ _ (sX b u hb e), _, upd_same, ?_, fun j n hj hn => ?_⟩
        · have := length_putK kvs (Sum.inl (m : Int)) (.ref r)
          omega
        · by_cases hnm : n = m
          · subst hnm
            refine ⟨r, by rw [valV_put, if_pos rfl], ?_⟩
            rw [upd_ne hrd, hr5]
            unfold List.getD
            rw [hfm]
            rfl
          · have hji : j < i := by
              rcases Nat.lt_or_ge j i with h | h
              · exact h
              · have : j = i := by omega
                subst this
                rw [hm] at hn
                exact absurd (Option.some.inj hn).symm hnm
            obtain ⟨a, v1, v2⟩ := hF j n hji hn
            refine ⟨a, ?_, ?_⟩
            · rw [valV_put, if_neg (fun z => hnm (by have := Sum.inl.inj z; omega))]
              exact v1
            · have had : a ≠ d := fun z => by rw [z, hk] at v2; cases v2
              rw [upd_ne had]
              exact s5 _ _ v2
    · have hno : isInp g = true → V.non = V.int ((nIn (gs.take m) : Nat) : Int) := fun h => absurd (hpl.mpr h) hin
      · skip
        refine ⟨_, rfl, _, rfl, _, rfl, ga, _, ((m : Nat) : Int), .ref tg, rfl, rfl, .inl (.inl (sA _ _ hh1)), atI_nat (by rw [List.getElem?_map, hh2]; rfl), _, rfl, _, rfl, ti, _, rfl, hti2, _, rfl,
          p, tg, d, ((places gs).map fun i : Nat => V.int i).length, _, kvs, g, m, nIn (gs.take m), formsC p gs, rfl, hp, hp2, (by rw [hnn]; have := ok.inps; omega), sA _ _ hh3, hk, ok.ok m g hgm, hlook, wk.ok m g hgm, hno, fun H5 r s5 hr5 => ?_⟩
        rw [hnn] at hr5
        have hd5 : H5 d = some (.dK kvs) := s5 _ _ hk
        have hrd : r ≠ d := fun z => by rw [z, hd5] at hr5; cases hr5
        refine ⟨_, rfl, _, rfl, d, _, rfl, .inl ⟨kvs, Sum.inl (m : Int), hd5, rfl, small10 (by omega), rfl⟩, ?_⟩
        refine ⟨_, rfl, _, rfl, d, .ref r, rfl, .inl ⟨_, Sum.inl (m : Int), .inl upd_same, rfl, by rw [valV_put, if_pos rfl]⟩, r, _, rfl, (by rw [upd_ne hrd]; exact hr5), _, _, rfl, rfl, _, rfl, ?_⟩
        rw [decide_eq_false (show ¬ (2000 : Int) < (((enF (fgate p (nIn gs) (nIn (gs.take m)) (formsC p gs) g)).length : Nat) : Int) by
          rw [enF_len]
          have := wk.few _ (List.mem_of_getElem? hfm)
          omega)]
        refine ⟨⟨_, _, rfl⟩, fun b u hb e => by rw [upd_ne hb]; exact s5 _ _ (sX b u hb e), _, upd_same, ?_, fun j n hj hn => ?_⟩
        · have := length_putK kvs (Sum.inl (m : Int)) (.ref r)
          omega
        · by_cases hnm : n = m
          · subst hnm
            refine ⟨r, by rw [valV_put, if_pos rfl], ?_⟩
            rw [upd_ne hrd, hr5]
            unfold List.getD
            rw [hfm]
            rfl
          · have hji : j < i := by
              rcases Nat.lt_or_ge j i with h | h
              · exact h
              · have : j = i := by omega
                subst this
                rw [hm] at hn
                exact absurd (Option.some.inj hn).symm hnm
            obtain ⟨a, v1, v2⟩ := hF j n hji hn
            refine ⟨a, ?_, ?_⟩
            · rw [valV_put, if_neg (fun z => hnm (by have := Sum.inl.inj z; omega))]
              exact v1
            · have had : a ≠ d := fun z => by rw [z, hk] at v2; cases v2
              rw [upd_ne had]
              exact s5 _ _ v2
  · intro σ H' p1
    obtain ⟨⟨y, z, rfl⟩, sX, kvs, hk, hkz, hF⟩ := p1
    obtain ⟨j, hj⟩ := List.getElem?_of_mem ((zmem at').mpr nd.goal)
    have hjl : j < zs.length := (List.getElem?_eq_some_iff.mp hj).1
    refine ⟨_, rfl, q _ d kvs (fun b u e => sX b u (hdl b u e) ((s2'.trans (same_upd hL)) b u e)) hk (hF j at' (by rw [List.length_map, List.length_map]; exact hjl) hj)⟩
end
end K24
end
section
set_option autoImplicit false
set_option Elab.async false
set_option linter.all false
set_option maxRecDepth 100000
set_option maxHeartbeats 1000000
/-! plan.circuits: form_of, meaning -/
namespace K24
open PySem PySem.Spec PyProof.Rows L2 SlX
theorem FieldOk.gt {p : Int} (h : FieldOk p) : 1 < p ∧ p ≤ 1000 := ⟨by have := h.1; omega, by have := h.2.1; omega⟩
section
variable {P : Program} {w : World} {K : PySem.W.Frag} {mg : Str → Option Value} {base : Heap} {C p0 p1 pI gI fM fI : Addr} {i0 i1 : Nat}
/-! ### require_circuit -/
theorem sc_require_circuit : FnScope ["value"] ["value"] (defScope s_require_circuit) := ⟨rfl, rfl, rfl, by decide +kernel, rfl, by decide +kernel, by decide +kernel⟩
def sp_require_circuit (C : Addr) (i0 : Nat) : Sp := fun vs H Q _ => ∃ x gs, vs = [.ref x] ∧ CirAt C i0 H x gs ∧ Q .non H
theorem cal_require_circuit (D : DefM K mg "require_circuit" "require_circuit" s_require_circuit) (c : CirF K C p0 p1 pI gI fM i0 i1) (hC : mg "Circuit" = some (.ref C)) (g : GB mg) : C8.Cal P w K mg base 1 "require_circuit" (sp_require_circuit C i0) [] := by
  refine calM D sc_require_circuit (fun vs H Q E h => by obtain ⟨_, _, rfl, _⟩ := h; rfl) (fun _ _ _ _ _ _ us hl => match us, hl with | [_], _ => rfl) fun f cdv A outer s H vs Q E hr h => ?_
  refine ⟨_, pss_one (ps_if (pt_not (pt_val (pe_callB (call_isiSl (.ref C)) (by rfl) g.isinstance (by decide +kernel) (pa_cons (pv 0) (pa_cons (C8.pe_gc (v := .ref C) (by rfl) ⟨_, hC, rfl⟩) pa_nil))))) (pss_one ps_never) pss_nil), ?_⟩
  obtain ⟨x, gs, rfl, ⟨dx, vs, ga, hs, hv, hg⟩, q⟩ := h
  exact ⟨_, rfl, x, C, dx, vs, .ref C, true, rfl, rfl, fun w h => h, hs, c.cl, c.isi, c.kit, _, rfl, q⟩
/-! ### are_numbers -/
theorem sc_are_numbers : FnScope ["field", "value", "many", "one"] ["field", "value", "many"] (defScope s_are_numbers) := ⟨rfl, rfl, rfl, by decide +kernel, rfl, by decide +kernel, by decide +kernel⟩
def sp_are_numbers : Sp := fun vs H Q _ => ∃ (p : Int) (t : Addr) (nums : List Int), vs = [.int p, .ref t, .int ((nums.length : Nat) : Int)] ∧ FieldOk p ∧ H t = some (.tup (nums.map V.int)) ∧ nums.length ≤ 100 ∧ (∀ x ∈ nums, 0 ≤ x ∧ x < p) ∧ ∀ H', Same H H' → Q (.bl true) H'
theorem cal_are_numbers (D : DefM K mg "are_numbers" "are_numbers" s_are_numbers) (g : GB mg) (c : C8.Cal P w K mg base 5 "is_number" sp_is_number []) : C8.Cal P w K mg base 6 "are_numbers" sp_are_numbers [] := by
  refine calM D sc_are_numbers (fun vs H Q E h => by obtain ⟨_, _, _, rfl, _⟩ := h; rfl) (fun _ _ _ _ _ _ us hl => match us, hl with | [_, _, _], _ => rfl) fun f cdv A outer s H vs Q E hr h => ?_
  refine ⟨_, pss_one (ps_ret (pe_and (pe_callB call_isi (by rfl) g.isinstance (by decide +kernel) (pa_cons (pv 1) (pa_cons (pe_bltn (v := .ty "tuple") (by rfl) g.tuple (by decide +kernel) rfl) pa_nil)))
    (pe_and (pe_cmpR op_eq (pe_callB call_len_seq (by rfl) g.len (by decide +kernel) (pa_cons (pv 1) pa_nil)) (pv 2) (nomark _))
    (pe_one (pe_callB (cr_all rfl) (by rfl) g.all (by decide +kernel) (pa_cons (pe_lc (own := [("one", 3)]) (g := gName 3) (tt := tYes) rfl sc_are_numbers.nd (pi_tup (pv 1))
      (blkOk_by (N := ["field", "value", "many", "one"]) (sc := defScope s_are_numbers) (by decide +kernel)) (fun _ _ _ _ _ => pg_name (i := 3) sc_are_numbers.nd rfl (Or.inl rfl)) (fun _ _ _ _ _ => pts_nil)
      (fun _ _ _ _ _ => C8.pe_c c hr (by decide) (by rfl) (pa_cons (pv 0) (pa_cons (pv 3) pa_nil)))) pa_nil)))))), ?_⟩
  obtain ⟨p, t, nums, rfl, hp, ht, hl, hn, q⟩ := h
  have sq : ∀ H', Same H H' → SqT K H' t (nums.map V.int) := fun H' s1 => .inl (.inl (s1 _ _ ht))
  refine ⟨_, rfl, _, _, _, _, true, rfl, .ty "tuple", .base (.tup ht), kit_ty (by decide +kernel), _, rfl, ?_⟩
  rw [if_pos rfl]
  refine ⟨_, rfl, t, _, rfl, .inr (sq _ (Same.refl _)), _, rfl, rfl, _, rfl, ?_⟩
  rw [show decide (V.int (((nums.map V.int).length : Nat) : Int) = V.int ((nums.length : Nat) : Int)) = true from decide_eq_true (by rw [List.length_map])]
  refine ⟨_, rfl, t, rfl, ⟨_, sq _ (Same.refl _)⟩, fun Dl hD => ?_⟩
  refine lc_it (walk_tup (xs := nums.map V.int)) (LcI H Dl fun i => List.replicate i (.bl true)) (lcI0 hD rfl) (fun i H1 hi p1 => sq _ p1.1) (fun i x H1 H2 hi p1 y => ?_) (fun H1 p1 => ?_)
  · obtain ⟨rfl, hx⟩ := y
    obtain ⟨a, ha, rfl⟩ := getI hx
    have hin := hn a (List.mem_of_getElem? ha)
    refine ⟨rfl, _, rfl, _, rfl, p, a, rfl, hp, fun H' s1 => ?_⟩
    rw [decide_eq_true (show 0 ≤ a ∧ a ≤ p - 1 from ⟨hin.1, by omega⟩)]
    exact lcPut hD p1 s1 (by rw [List.length_replicate]; rw [List.length_map] at hi; exact small1000 (by omega)) (by rw [List.replicate_succ'] <;> rfl)
  · refine ⟨Dl, List.replicate _ true, rfl, .inl (.inl (by rw [List.map_replicate]; exact p1.2)), ?_⟩
    rw [all_yes]
    exact q _ p1.1
/-! ### require_numbers -/
theorem sc_require_numbers : FnScope ["field", "circuit", "numbers"] ["field", "circuit", "numbers"] (defScope s_require_numbers) := ⟨rfl, rfl, rfl, by decide +kernel, rfl, by decide +kernel, by decide +kernel⟩
def sp_require_numbers (C : Addr) (i0 : Nat) : Sp := fun vs H Q _ => ∃ (p : Int) (x t : Addr) (gs : List Gate) (nums : List Int), vs = [.int p, .ref x, .ref t] ∧ FieldOk p ∧ CirAt C i0 H x gs ∧ GsOk gs ∧ H t = some (.tup (nums.map V.int)) ∧ nums.length = nIn gs ∧ (∀ x ∈ nums, 0 ≤ x ∧ x < p) ∧ ∀ H', Same H H' → Q .non H'
theorem cal_require_numbers (D : DefM K mg "require_numbers" "require_numbers" s_require_numbers) (c : CirF K C p0 p1 pI gI fM i0 i1) (g : GB mg) (cf : C8.Cal P w K mg base 4 "require_field_circuits" sp_require_field []) (cn : C8.Cal P w K mg base 6 "are_numbers" sp_are_numbers [])
    (gi : FnR P w K mg base CX0 1 gI (sp_inputs C i0)) : C8.Cal P w K mg base 7 "require_numbers" (sp_require_numbers C i0) [] := by
  refine calM D sc_require_numbers (fun vs H Q E h => by obtain ⟨_, _, _, _, _, rfl, _⟩ := h; rfl) (fun _ _ _ _ _ _ us hl => match us, hl with | [_, _, _], _ => rfl) fun f cdv A outer s H vs Q E hr h => ?_
  refine ⟨_, pss_cons (ps_expr (C8.pe_c cf hr (by decide) (by rfl) (pa_cons (pv 0) pa_nil)))
    (pss_one (ps_if (pt_not (pt_val (C8.pe_c cn hr (by decide) (by rfl) (pa_cons (pv 0) (pa_cons (pv 2) (pa_cons (pe_callB call_lenX (by rfl) g.len (by decide +kernel) (pa_cons (pe_propSl (pv 1) c.cl c.pat c.pget c.ptk c.prc gi (E := C8.E0) (hr.mono (by decide)) (fun _ _ _ _ z => z)) pa_nil)) pa_nil)))))) (pss_one ps_never) pss_nil)), ?_⟩
  obtain ⟨p, x, t, gs, nums, rfl, hp, hc, ok, ht, hl, hn, q⟩ := h
  refine ⟨_, rfl, p, rfl, hp, fun H1 s1 => ?_⟩
  obtain ⟨dx, vs, ga, hs, hv, hg⟩ := id hc
  have h60 := ok.few
  have h8 := ok.inps
  refine ⟨_, rfl, _, rfl, _, rfl, x, dx, vs, rfl, Slt.same s1 hs, x, gs, rfl, hc.same s1, by omega, fun H2 ti s2 hti => ?_⟩
  refine ⟨ti, _, rfl, hti, p, t, nums, ?_, hp, (s1.trans s2) _ _ ht, by omega, hn, fun H3 s3 => ⟨_, rfl, ?_⟩⟩
  · rw [List.length_map, places_len, hl]; rfl
  · exact q _ ((s1.trans s2).trans s3)
/-! ### meaning -/
theorem sc_C_meaning : FnScope ["self", "field", "numbers"] ["self", "field", "numbers"] (defScope s_C_meaning) := ⟨rfl, rfl, rfl, by decide +kernel, rfl, by decide +kernel, by decide +kernel⟩
def sp_meaning (C : Addr) (i0 : Nat) : Sp := fun vs H Q _ => ∃ (p : Int) (x t : Addr) (gs : List Gate) (nums : List Int), vs = [.ref x, .int p, .ref t] ∧ FieldOk p ∧ CirAt C i0 H x gs ∧ GsOk gs ∧ H t = some (.tup (nums.map V.int)) ∧ nums.length = nIn gs ∧ (∀ x ∈ nums, 0 ≤ x ∧ x < p) ∧
  ∀ H' r, Same H H' → H' r = some (.tup ((meanC p nums gs).map V.int)) → Q (.ref r) H'
theorem ok_C_meaning {fd : FuncData} (F : L2.Fun K "meaning" "Circuit.meaning" s_C_meaning fM fd) (c : CirF K C p0 p1 pI gI fM i0 i1) (g : GB mg) (cr : C8.Cal P w K mg base 7 "require_numbers" (sp_require_numbers C i0) []) (cm : C8.Cal P w K mg base 1 "meaning_in" (sp_meaning_in C i0) []) : FnR P w K mg base CX0 8 fM (sp_meaning C i0) := by
  have ok : FnOk P w K mg base CX0 8 fM fd ["self", "field", "numbers"] (sp_meaning C i0) := by
    refine F.ok sc_C_meaning (fun vs H Q E h => by obtain ⟨_, _, _, _, _, rfl, _⟩ := h; rfl) fun cdv A outer s H vs Q E hr h => ?_
    refine ⟨_, pss_cons (ps_expr (C8.pe_c cr hr (by decide) (by rfl) (pa_cons (pv 1) (pa_cons (pv 0) (pa_cons (pv 2) pa_nil)))))
      (pss_one (ps_ret (pe_callTy call_tuple_of (by rfl) g.tuple (by decide +kernel) (pa_cons (C8.pe_c cm hr (by decide) (by rfl) (pa_cons (pv 1) (pa_cons (pv 0) (pa_cons (pv 2) pa_nil)))) pa_nil)))), ?_⟩
    obtain ⟨p, x, t, gs, nums, rfl, hp, hc, ok, ht, hl, hn, q⟩ := h
    refine ⟨_, rfl, _, rfl, _, rfl, p, x, t, gs, nums, rfl, hp, hc, ok, ht, hl, hn, fun H1 s1 => ?_⟩
    refine ⟨_, rfl, _, rfl, _, rfl, p, x, t, gs, nums, rfl, (by have := hp.gt; omega), hp.gt.2, hc.same s1, ok, s1 _ _ ht, hl, hn, fun H2 r s2 hr2 => ?_⟩
    refine ⟨r, _, rfl, .inl ⟨.inl (.inl hr2), fun l hl2 => ?_⟩⟩
    exact q _ l ((s1.trans s2).trans (same_upd hl2)) upd_same
  exact (FnOk.raw ok (F.binds fun _ _ _ _ _ _ us hl => match us, hl with | [_, _, _], _ => rfl) .nil).imp fun vs H Q E h => by rw [List.append_nil]; exact h
/-! ### form_of -/
theorem sc_form_of : FnScope ["field", "circuit", "gate"] ["field", "circuit", "gate"] (defScope s_form_of) := ⟨rfl, rfl, rfl, by decide +kernel, rfl, by decide +kernel, by decide +kernel⟩
def sp_form_of (C : Addr) (i0 : Nat) : Sp := fun vs H Q _ => ∃ p x gs at', vs = [.int p, .ref x, .int ((at' : Nat) : Int)] ∧ FieldOk p ∧ CirAt C i0 H x gs ∧ GsOk gs ∧ WalkOk p gs ∧ at' < gs.length ∧
  ∀ H' r, Same H H' → H' r = some (.dT (enF ((formsC p gs).getD at' []))) → Q (.ref r) H'
theorem cal_form_of (D : DefM K mg "form_of" "form_of" s_form_of) (c : CirF K C p0 p1 pI gI fM i0 i1) (g : GB mg) (cf : C8.Cal P w K mg base 4 "require_field_circuits" sp_require_field []) (cc : C8.Cal P w K mg base 1 "require_circuit" (sp_require_circuit C i0) [])
    (ci : C8.Cal P w K mg base 1 "is_from" sp_is_within []) (ct : C8.Cal P w K mg base 4 "forms_to" (sp_forms_to C i0) []) : C8.Cal P w K mg base 5 "form_of" (sp_form_of C i0) [] := by
  refine calM D sc_form_of (fun vs H Q E h => by obtain ⟨_, _, _, _, rfl, _⟩ := h; rfl) (fun _ _ _ _ _ _ us hl => match us, hl with | [_, _, _], _ => rfl) fun f cdv A outer s H vs Q E hr h => ?_
  refine ⟨_, pss_cons (ps_expr (C8.pe_c cf hr (by decide) (by rfl) (pa_cons (pv 0) pa_nil)))
    (pss_cons (ps_expr (C8.pe_c cc hr (by decide) (by rfl) (pa_cons (pv 1) pa_nil)))
    (pss_cons (ps_if (pt_not (pt_val (C8.pe_c ci hr (by decide) (by rfl) (pa_cons (pv 2) (pa_cons pe_int (pa_cons (pe_op op_sub (pe_callB call_len_seq (by rfl) g.len (by decide +kernel) (pa_cons (pe_sl (pv 1)) pa_nil)) pe_int) pa_nil)))))) (pss_one ps_never) pss_nil)
    (pss_one (ps_ret (pe_dget (hu_of hr) (C8.pe_c ct hr (by decide) (by rfl) (pa_cons (pv 0) (pa_cons (pv 1) (pa_cons (pe_lst (pa_cons (pv 2) pa_nil)) pa_nil)))) (pv 2) (fun _ _ => rfl)))))), ?_⟩
  obtain ⟨p, x, gs, at', rfl, hp, hc, ok, wk, hat, q⟩ := h
  refine ⟨_, rfl, p, rfl, hp, fun H1 s1 => ?_⟩
  refine ⟨_, rfl, x, gs, rfl, hc.same s1, ?_⟩
  obtain ⟨dx, vs, ga, hs, hv, ⟨ts, ha, hpp⟩⟩ := hc.same s1
  have hl : ts.length = gs.length := Paired.length hpp
  refine ⟨_, rfl, _, rfl, x, C, dx, p0, vs, i0, _, rfl, hs, c.cl, c.s0, hv, ga, ts.map V.ref, rfl, .inr (.inl (.inl ha)), _, _, rfl, rfl, _, _, _, rfl, _, rfl, ?_⟩
  rw [decide_eq_true (show (0 : Int) ≤ (at' : Int) ∧ (at' : Int) ≤ (((ts.map V.ref).length : Nat) : Int) - 1 from ⟨by omega, by rw [List.length_map]; omega⟩)]
  refine ⟨_, rfl, _, rfl, _, rfl, (by show 1 ≤ sizeLine; decide), fun gl hgl => ?_⟩
  have s2 : Same H (upd H1 gl (.lst [.int ((at' : Nat) : Int)])) := s1.trans (same_upd hgl)
  refine ⟨p, x, gl, gs, at', rfl, hp.gt.1, hp.gt.2, hc.same s2, ok, wk, upd_same, hat, fun H2 d kvs s3 hd hF => ?_⟩
  obtain ⟨a, v1, v2⟩ := hF
  refine ⟨_, rfl, d, .ref a, rfl, .inl ⟨kvs, Sum.inl (at' : Int), .inl hd, rfl, v1.symm⟩, ?_⟩
  exact q _ a (s2.trans s3) v2
end
end K24
end
section
set_option autoImplicit false
set_option Elab.async false
set_option linter.all false
set_option maxRecDepth 100000
set_option maxHeartbeats 1000000
/-! the law's draws -/
namespace K24
open PySem PySem.Spec PyProof.Rows L2 SlX
/-- the dice -/
def DiceAt (H : Hp) (d : Addr) : Prop := ∃ l x y : Int, H d = some (.lst [.int l, .int x, .int y]) ∧ 0 ≤ l
section
variable {P : Program} {w : World} {K : PySem.W.Frag} {mg : Str → Option Value} {base : Heap}
theorem sc_law_dice : FnScope ["_law_script", "_law_spot", "_law_cell", "_law_left"] ["_law_script", "_law_spot"] (defScope s_law_dice) := ⟨rfl, rfl, rfl, by decide +kernel, rfl, by decide +kernel, by decide +kernel⟩
def sp_law_dice (K : PySem.W.Frag) : Sp := fun vs H Q _ => ∃ (a : Addr) (ns : List Int) (n : Nat), vs = [.ref a, .int ((n : Nat) : Int)] ∧ SqL K H a (ns.map V.int) ∧ ∀ H' d, Same H H' → H d = none → DiceAt H' d → Q (.ref d) H'
theorem cal_law_dice (D : DefM K mg "_law_dice" "_law_dice" s_law_dice) (g : GB mg) : C8.Cal P w K mg base 1 "_law_dice" (sp_law_dice K) [] := by
  refine calM D sc_law_dice (fun vs H Q E h => by obtain ⟨_, _, _, rfl, _⟩ := h; rfl) (fun _ _ _ _ _ _ us hl => match us, hl with | [_, _], _ => rfl) fun f cdv A outer s H vs Q E hr h => ?_
  refine ⟨_, pss_cons (ps_set (i := 2) sc_law_dice.nd rfl (Or.inl rfl) (pe_ifExp (pt_cmpR op_lt (pv 1) (pe_callB call_len_seq (by rfl) g.len (by decide +kernel) (pa_cons (pv 0) pa_nil)) (nomark _))
      (pe_callTy call_int1 (by rfl) g.int (by decide +kernel) (pa_cons (pe_ix ix_list (pv 0) (pv 1) (fun _ _ => rfl)) pa_nil)) (pe_op op_add (pe_op op_mul pe_int (pv 1)) pe_int)))
    (pss_cons (ps_set (i := 3) sc_law_dice.nd rfl (Or.inl rfl) (pe_op op_mod (pe_callB (call_max2 rfl) (by rfl) g.max (by decide +kernel) (pa_cons pe_int (pa_cons (pe_op op_sub (pe_callB call_abs (by rfl) g.abs (by decide +kernel) (pa_cons (pv 2) pa_nil)) (pe_op op_pow pe_int pe_int)) pa_nil)))
        (pe_op op_mulW (pe_op op_pow pe_int pe_int) (pe_op op_pow pe_int pe_int))))
    (pss_one (ps_ret (pe_lst (pa_cons (pv 3) (pa_cons (pe_op op_add (pe_op op_add (pe_op op_add (pe_op op_mul (pe_op op_mod (pe_callB call_abs (by rfl) g.abs (by decide +kernel) (pa_cons (pv 2) pa_nil)) pe_int) pe_int) (pe_op op_mul pe_int (pv 1)))
        (pe_op op_mul pe_int (pe_callTy call_int1 (by rfl) g.int (by decide +kernel) (pa_cons (pe_cmpR op_lt (pv 2) pe_int (nomark _)) pa_nil)))) pe_int) (pa_cons pe_int pa_nil))))))), ?_⟩
  obtain ⟨a, ns, n, rfl, ha, q⟩ := h
  refine ⟨_, rfl, _, rfl, a, _, rfl, .inl ha, _, _, rfl, rfl, _, rfl, ?_⟩
  refine ite_dec (fun hn => ?_) (fun hn => ?_)
  · rw [List.length_map] at hn
    have hn' : n < ns.length := by omega
    refine ⟨_, rfl, _, rfl, a, _, _, _, rfl, rfl, ha, atI_nat (by rw [List.getElem?_map, List.getElem?_eq_getElem hn']; rfl), .inl ⟨_, rfl, ?_⟩⟩
    refine ⟨_, rfl, _, rfl, _, _, rfl, rfl, ⟨by decide, by decide, by decide⟩, _, _, rfl, rfl, _, _, rfl, _, _, rfl, rfl, ⟨by decide, by decide, by decide⟩, _, _, rfl, rfl, ⟨by decide, by decide, by decide⟩, _, _, rfl, rfl, ?_, _, _, rfl, rfl, ?_,
      _, rfl, _, rfl, _, rfl, _, _, rfl, rfl, (by show (0 : Int) < 1152921504606846733; decide), _, _, rfl, rfl, .inr ⟨by decide, by decide⟩, _, rfl, _, _, rfl, rfl, .inl ⟨by decide, by decide⟩, _, _, rfl, rfl, _, rfl, _, _, rfl, rfl,
      .inr ⟨_, rfl, _, _, rfl, rfl, .inl ⟨by decide, by decide⟩, _, _, rfl, rfl, _, _, rfl, rfl, (by show 3 ≤ sizeLine; decide), fun d hd => q _ d (same_upd hd) hd ⟨_, _, _, upd_same, ?_⟩⟩⟩
    · exact wide_mul (a := 200) (b := 200) (by decide +kernel) (by decide +kernel) (by decide) (by decide) (by decide)
    · exact Int.mul_pos (Int.pow_pos (by decide)) (Int.pow_pos (by decide))
    · exact Int.emod_nonneg _ (Int.ne_of_gt (Int.mul_pos (Int.pow_pos (by decide)) (Int.pow_pos (by decide))))
  · refine ⟨_, rfl, _, _, rfl, rfl, .inl ⟨by decide, by decide⟩, _, _, rfl, rfl, ?_⟩
    refine ⟨_, rfl, _, rfl, _, _, rfl, rfl, ⟨by decide, by decide, by decide⟩, _, _, rfl, rfl, _, _, rfl, _, _, rfl, rfl, ⟨by decide, by decide, by decide⟩, _, _, rfl, rfl, ⟨by decide, by decide, by decide⟩, _, _, rfl, rfl, ?_, _, _, rfl, rfl, ?_,
      _, rfl, _, rfl, _, rfl, _, _, rfl, rfl, (by show (0 : Int) < 1152921504606846733; decide), _, _, rfl, rfl, .inr ⟨by decide, by decide⟩, _, rfl, _, _, rfl, rfl, .inl ⟨by decide, by decide⟩, _, _, rfl, rfl, _, rfl, _, _, rfl, rfl,
      .inr ⟨_, rfl, _, _, rfl, rfl, .inl ⟨by decide, by decide⟩, _, _, rfl, rfl, _, _, rfl, rfl, (by show 3 ≤ sizeLine; decide), fun d hd => q _ d (same_upd hd) hd ⟨_, _, _, upd_same, ?_⟩⟩⟩
    · exact wide_mul (a := 200) (b := 200) (by decide +kernel) (by decide +kernel) (by decide) (by decide) (by decide)
    · exact Int.mul_pos (Int.pow_pos (by decide)) (Int.pow_pos (by decide))
    · exact Int.emod_nonneg _ (Int.ne_of_gt (Int.mul_pos (Int.pow_pos (by decide)) (Int.pow_pos (by decide))))
/-! ### _law_roll -/
theorem sc_law_roll : FnScope ["_law_dice_here", "_law_most", "_law_found", "_law_one", "_law_two"] ["_law_dice_here", "_law_most"] (defScope s_law_roll) := ⟨rfl, rfl, rfl, by decide +kernel, rfl, by decide +kernel, by decide +kernel⟩
def sp_law_roll : Sp := fun vs H Q _ => ∃ (d : Addr) (m : Int), vs = [.ref d, .int m] ∧ DiceAt H d ∧ 0 < m ∧ m < 1073741824 ∧ ∀ H' r, SameX d H H' → DiceAt H' d → 0 ≤ r → r < m → Q (.int r) H'
theorem cal_law_roll (D : DefM K mg "_law_roll" "_law_roll" s_law_roll) (g : GB mg) : C8.Cal P w K mg base 1 "_law_roll" sp_law_roll [] := by
  refine calM D sc_law_roll (fun vs H Q E h => by obtain ⟨_, _, rfl, _⟩ := h; rfl) (fun _ _ _ _ _ _ us hl => match us, hl with | [_, _], _ => rfl) fun f cdv A outer s H vs Q E hr h => ?_
  refine ⟨_, pss_cons (ps_if (pt_cmpR op_gt (pe_ix ix_list (pv 0) pe_int (fun _ _ => rfl)) pe_int (nomark _))
      (pss_cons (ps_set (i := 2) sc_law_roll.nd rfl (Or.inl rfl) (pe_op op_mod (pe_callTy call_int1 (by rfl) g.int (by decide +kernel) (pa_cons (pe_ix ix_list (pv 0) pe_int (fun _ _ => rfl)) pa_nil)) (pv 1)))
      (pss_cons (ps_asg (pe_op op_fdiv (pe_ix ix_list (pv 0) pe_int (fun _ _ => rfl)) (pv 1)) (pg_sub (pv 0) pe_int set_list (fun _ => rfl)))
      (pss_one (ps_ret (pv 2))))) pss_nil)
    (pss_cons (ps_asg (pe_op op_add (pe_ix ix_list (pv 0) pe_int (fun _ _ => rfl)) pe_int) (pg_sub (pv 0) pe_int set_list (fun _ => rfl)))
    (pss_cons (ps_set (i := 3) sc_law_roll.nd rfl (Or.inl rfl) (pe_op op_mod (pe_callTy call_int1 (by rfl) g.int (by decide +kernel) (pa_cons (pe_op op_add (pe_ix ix_list (pv 0) pe_int (fun _ _ => rfl)) (pe_op op_mul pe_int (pe_ix ix_list (pv 0) pe_int (fun _ _ => rfl)))) pa_nil)) pe_int))
    (pss_cons (ps_set (i := 4) sc_law_roll.nd rfl (Or.inl rfl) (pe_op op_add (pe_op op_mul (pe_op op_mod (pe_callTy call_int1 (by rfl) g.int (by decide +kernel) (pa_cons (pe_op op_add (pe_op op_mul (pv 3) (pv 3)) (pe_op op_mul pe_int (pe_ix ix_list (pv 0) pe_int (fun _ _ => rfl)))) pa_nil)) pe_int) pe_int) (pv 3)))
    (pss_one (ps_ret (pe_op op_mod (pe_callTy call_int1 (by rfl) g.int (by decide +kernel) (pa_cons (pe_op op_fdiv (pv 4) pe_int) pa_nil)) (pv 1))))))), ?_⟩
  obtain ⟨d, m, rfl, ⟨l, x, y, hd, hl⟩, hm, hm2, q⟩ := h
  have sq : SqL K H d [.int l, .int x, .int y] := .inl (.inl hd)
  have a0 : ∀ l x y : Int, atI [V.int l, V.int x, V.int y] 0 = some (.int l) := fun _ _ _ => rfl
  have a1 : ∀ l x y : Int, atI [V.int l, V.int x, V.int y] 1 = some (.int x) := fun _ _ _ => rfl
  have a2 : ∀ l x y : Int, atI [V.int l, V.int x, V.int y] 2 = some (.int y) := fun _ _ _ => rfl
  refine ⟨_, rfl, d, _, _, _, rfl, rfl, sq, a0 _ _ _, _, _, rfl, rfl, _, rfl, ?_⟩
  refine ite_dec (fun h => ?_) (fun h => ?_)
  · refine ⟨_, rfl, d, _, _, _, rfl, rfl, sq, a0 _ _ _, .inl ⟨_, rfl, _, rfl, _, _, rfl, rfl, hm, ?_⟩⟩
    refine ⟨_, rfl, d, _, _, _, rfl, rfl, sq, a0 _ _ _, _, rfl, _, _, rfl, rfl, ⟨hm, hm2⟩, ?_⟩
    refine ⟨_, rfl, d, _, 0, 0, rfl, rfl, hd, rfl, _, rfl, ?_⟩
    exact q _ _ ((SameX.refl _ _).set) ⟨_, _, _, upd_same, Int.ediv_nonneg hl (Int.le_of_lt hm)⟩ (Int.emod_nonneg _ (by omega)) (Int.emod_lt_of_pos _ hm)
  · have sq1 : SqL K (upd H d (.lst [.int l, .int x, .int (y + 1)])) d [.int l, .int x, .int (y + 1)] := .inl (.inl upd_same)
    refine ⟨_, rfl, d, _, _, _, rfl, rfl, sq, a2 _ _ _, _, _, rfl, rfl, _, rfl, d, _, 2, 2, rfl, rfl, hd, rfl, ?_⟩
    refine ⟨_, rfl, d, _, _, _, rfl, rfl, sq1, a1 _ _ _, _, rfl, d, _, _, _, rfl, rfl, sq1, a2 _ _ _, _, _, rfl, rfl, .inl ⟨by decide, by decide⟩, _, _, rfl, rfl, .inl ⟨_, rfl, _, _, rfl, rfl, (by show (0 : Int) < 2305843009213693487; decide), ?_⟩⟩
    generalize ho : (x + 86028157 * (y + 1)) % 2305843009213693487 = one
    have h1 : 0 ≤ one := by rw [← ho]; exact Int.emod_nonneg _ (by decide)
    have h2 : one < 2305843009213693487 := by rw [← ho]; exact Int.emod_lt_of_pos _ (by decide)
    refine ⟨_, rfl, _, rfl, _, _, rfl, rfl, .inl ⟨by omega, by omega⟩, _, rfl, d, _, _, _, rfl, rfl, sq1, a2 _ _ _, _, _, rfl, rfl, .inl ⟨by decide, by decide⟩, _, _, rfl, rfl, .inl ⟨_, rfl, _, _, rfl, rfl, (by show (0 : Int) < 2305843009213693669; decide), _, _, rfl, rfl, .inr ⟨by decide, by decide⟩, _, rfl, _, _, rfl, rfl, ?_⟩⟩
    refine ⟨_, rfl, _, _, rfl, rfl, ⟨by decide, by decide⟩, .inl ⟨_, rfl, _, rfl, _, _, rfl, rfl, hm, ?_⟩⟩
    exact q _ _ ((SameX.refl _ _).set) ⟨_, _, _, upd_same, hl⟩ (Int.emod_nonneg _ (by omega)) (Int.emod_lt_of_pos _ hm)
end
end K24
end
section
set_option autoImplicit false
set_option Elab.async false
set_option linter.all false
set_option maxRecDepth 100000
set_option maxHeartbeats 1000000
/-! the law's draws, 2 -/
namespace K24
open PySem PySem.Spec PyProof.Rows L2 SlX
theorem SameX.trans {m : Addr} {H H1 H2 : Hp} (a : SameX m H H1) (b : SameX m H1 H2) : SameX m H H2 := fun d u hd e => b d u hd (a d u hd e)
theorem Same.x {H H1 : Hp} (m : Addr) (a : Same H H1) : SameX m H H1 := fun d u _ e => a d u e
theorem DiceAt.ne {H : Hp} {d b : Addr} {u : HO} (D : DiceAt H d) (e : H b = some u) (h : ∀ xs, u ≠ .lst xs) : b ≠ d := fun z => by
  obtain ⟨l, x, y, h1, _⟩ := D
  rw [z, h1] at e
  exact h _ (Option.some.inj e).symm
theorem SameX.tup {d b : Addr} {H H' : Hp} {xs : List V} (s : SameX d H H') (D : DiceAt H d) (e : H b = some (.tup xs)) : H' b = some (.tup xs) := s b _ (D.ne e fun _ z => nomatch z) e
theorem DiceAt.same {H H' : Hp} {d : Addr} (D : DiceAt H d) (s : Same H H') : DiceAt H' d := by
  obtain ⟨l, x, y, h1, h2⟩ := D
  exact ⟨l, x, y, s _ _ h1, h2⟩
theorem DiceAt.ex {H : Hp} {d : Addr} (D : DiceAt H d) : H d ≠ none := by
  obtain ⟨l, x, y, h1, _⟩ := D
  rw [h1]; simp
theorem GatesAt.x {H H' : Hp} {a d : Addr} {gs : List Gate} (s : SameX d H H') (D : DiceAt H d) (h : GatesAt H a gs) : GatesAt H' a gs := by
  obtain ⟨ts, h1, h2⟩ := h
  exact ⟨ts, s.tup D h1, paired_imp (fun t g e => s.tup D e) h2⟩
section
variable {P : Program} {w : World} {K : PySem.W.Frag} {mg : Str → Option Value} {base : Heap}
/-! ### _law_pick -/
theorem sc_law_pick : FnScope ["_law_dice_here", "_law_items"] ["_law_dice_here", "_law_items"] (defScope s_law_pick) := ⟨rfl, rfl, rfl, by decide +kernel, rfl, by decide +kernel, by decide +kernel⟩
def sp_law_pick : Sp := fun vs H Q _ => ∃ (d l : Addr) (xs : List V), vs = [.ref d, .ref l] ∧ DiceAt H d ∧ l ≠ d ∧ H l = some (.lst xs) ∧ 1 ≤ xs.length ∧ xs.length ≤ 1000 ∧ ∀ H' v, SameX d H H' → DiceAt H' d → v ∈ xs → Q v H'
theorem cal_law_pick (D : DefM K mg "_law_pick" "_law_pick" s_law_pick) (g : GB mg) (cr : C8.Cal P w K mg base 1 "_law_roll" sp_law_roll []) : C8.Cal P w K mg base 2 "_law_pick" sp_law_pick [] := by
  refine calM D sc_law_pick (fun vs H Q E h => by obtain ⟨_, _, _, rfl, _⟩ := h; rfl) (fun _ _ _ _ _ _ us hl => match us, hl with | [_, _], _ => rfl) fun f cdv A outer s H vs Q E hr h => ?_
  refine ⟨_, pss_one (ps_ret (pe_ix ix_list (pv 1) (C8.pe_c cr hr (by decide) (by rfl) (pa_cons (pv 0) (pa_cons (pe_callB call_len_seq (by rfl) g.len (by decide +kernel) (pa_cons (pv 1) pa_nil)) pa_nil))) (fun _ _ => rfl))), ?_⟩
  obtain ⟨d, l, xs, rfl, hd, hne, hl, h1, h2, q⟩ := h
  refine ⟨_, rfl, _, rfl, _, rfl, l, xs, rfl, .inl (.inl (.inl hl)), d, _, rfl, hd, by omega, by omega, fun H1 r s1 D1 r0 r1 => ?_⟩
  have hr2 : r.toNat < xs.length := by omega
  refine ⟨l, xs, r, xs[r.toNat], rfl, rfl, .inl (.inl (s1 _ _ hne hl)), ?_, q _ _ s1 D1 (List.getElem_mem hr2)⟩
  have e := atI_nat (xs := xs) (j := r.toNat) (v := xs[r.toNat]) (by simp [hr2])
  rw [show ((r.toNat : Nat) : Int) = r by omega] at e
  exact e
/-! ### _law_dr_gate -/
theorem sc_law_dr_gate : FnScope ["_law_dice_here", "_law_field", "_law_at", "_law_may_multiply", "_law_i", "_law_j", "_law_c", "_law_word"] ["_law_dice_here", "_law_field", "_law_at", "_law_may_multiply"] (defScope s_law_dr_gate) := ⟨rfl, rfl, rfl, by decide +kernel, rfl, by decide +kernel, by decide +kernel⟩
def sp_law_dr_gate : Sp := fun vs H Q _ => ∃ (d : Addr) (p : Int) (n : Nat) (b : Bool), vs = [.ref d, .int p, .int ((n : Nat) : Int), .bl b] ∧ DiceAt H d ∧ FieldOk p ∧ 1 ≤ n ∧ n ≤ 1000 ∧
  ∀ H' t g, SameX d H H' → DiceAt H' d → H' t = some (.tup (enG g)) → GateOk n g → isInp g = false → (isProd g = true → b = true) → Q (.ref t) H'
theorem cal_law_dr_gate (D : DefM K mg "_law_dr_gate" "_law_dr_gate" s_law_dr_gate) (g : GB mg) (cr : C8.Cal P w K mg base 1 "_law_roll" sp_law_roll []) (cp : C8.Cal P w K mg base 2 "_law_pick" sp_law_pick []) : C8.Cal P w K mg base 3 "_law_dr_gate" sp_law_dr_gate [] := by
  refine calM D sc_law_dr_gate (fun vs H Q E h => by obtain ⟨_, _, _, _, rfl, _⟩ := h; rfl) (fun _ _ _ _ _ _ us hl => match us, hl with | [_, _, _, _], _ => rfl) fun f cdv A outer s H vs Q E hr h => ?_
  refine ⟨_, pss_cons (ps_par3 (i := 4) (j := 5) (l := 6) rfl sc_law_dr_gate.nd rfl rfl rfl (by decide) (by decide) (by decide) rfl rfl rfl (pa_cons (C8.pe_c cr hr (by decide) (by rfl) (pa_cons (pv 0) (pa_cons (pv 2) pa_nil)))
      (pa_cons (C8.pe_c cr hr (by decide) (by rfl) (pa_cons (pv 0) (pa_cons (pv 2) pa_nil)))
      (pa_cons (C8.pe_c cp hr (by decide) (by rfl) (pa_cons (pv 0) (pa_cons (pe_lst (pa_cons pe_int (pa_cons pe_int (pa_cons pe_int (pa_cons (pe_op op_sub (pv 1) pe_int) (pa_cons (C8.pe_c cr hr (by decide) (by rfl) (pa_cons (pv 0) (pa_cons (pv 1) pa_nil))) pa_nil)))))) pa_nil))) pa_nil))) (by rfl))
    (pss_cons (ps_set (i := 7) sc_law_dr_gate.nd rfl (Or.inl rfl) (C8.pe_c cp hr (by decide) (by rfl) (pa_cons (pv 0) (pa_cons (pe_op op_cat (pe_lst (pa_cons pe_str (pa_cons pe_str (pa_cons pe_str (pa_cons pe_str pa_nil)))))
        (pe_op op_rep (pe_lst (pa_cons pe_str pa_nil)) (pe_ifExp (pt_val (pv 3)) pe_int pe_int))) pa_nil))))
    (pss_cons (ps_if (pt_cmpR op_eq (pv 7) pe_str (nomark _)) (pss_one (ps_ret (pe_tup (pa_cons (pv 7) (pa_cons (pv 6) pa_nil))))) pss_nil)
    (pss_one (ps_ret (pe_ifExp (pt_cmpR op_eq (pv 7) pe_str (nomark _)) (pe_tup (pa_cons (pv 7) (pa_cons (pv 4) (pa_cons (pv 6) pa_nil)))) (pe_tup (pa_cons (pv 7) (pa_cons (pv 4) (pa_cons (pv 5) pa_nil))))))))), ?_⟩
  obtain ⟨d, p, n, b, rfl, hd, hp, h1, h2, q⟩ := h
  have hp5 := hp.1
  have hp9 := hp.2.1
  refine ⟨_, rfl, _, rfl, d, _, rfl, hd, by omega, by omega, fun H1 i s1 D1 i0 i1 => ?_⟩
  refine ⟨_, rfl, _, rfl, d, _, rfl, D1, by omega, by omega, fun H2 j s2 D2 j0 j1 => ?_⟩
  refine ⟨_, rfl, _, rfl, _, _, rfl, rfl, _, rfl, _, rfl, d, _, rfl, D2, by omega, by omega, fun H3 r s3 D3 r0 r1 => ?_⟩
  refine ⟨by show 5 ≤ sizeLine; decide, fun l hl => ?_⟩
  have hld : l ≠ d := fun z => D3.ex (by rw [← z]; exact hl)
  refine ⟨d, l, _, rfl, D3.same (same_upd hl), hld, upd_same, by show 1 ≤ 5; decide, by show 5 ≤ 1000; decide, fun H4 c s4 D4 hc => ?_⟩
  obtain ⟨ni, rfl⟩ : ∃ ni : Nat, i = (ni : Int) := ⟨i.toNat, by omega⟩
  obtain ⟨nj, rfl⟩ : ∃ nj : Nat, j = (nj : Int) := ⟨j.toNat, by omega⟩
  obtain ⟨cc, rfl, hc0, hc1⟩ : ∃ cc : Int, c = .int cc ∧ 0 ≤ cc ∧ cc ≤ 996 := by
    simp only [List.mem_cons, List.not_mem_nil, or_false] at hc
    rcases hc with rfl | rfl | rfl | rfl | rfl
    · exact ⟨_, rfl, by omega, by omega⟩
    · exact ⟨_, rfl, by omega, by omega⟩
    · exact ⟨_, rfl, by omega, by omega⟩
    · exact ⟨p - 1, rfl, by omega, by omega⟩
    · exact ⟨r, rfl, by omega, by omega⟩
  have sA : SameX d H H4 := ((s1.trans s2).trans s3).trans ((Same.x d (same_upd hl)).trans s4)
  refine ⟨_, _, _, rfl, ?_⟩
  cases b with
  | false =>
    refine ⟨_, rfl, by show 4 ≤ sizeLine; decide, fun l1 hl1 => ⟨by show 1 ≤ sizeLine; decide, fun l2 hl2 => ⟨_, rfl, _, rfl, l2, 0, _, rfl, rfl, upd_same, by decide, by decide, (by show 1 * 0 ≤ sizeLine; decide), fun l3 hl3 => ?_⟩⟩⟩
    have t1 := same_upd (o := .lst [.str "sum", .str "sum", .str "times", .str "constant"]) hl1
    have t2 := same_upd (o := .lst [.str "product"]) hl2
    have t3 := same_upd (o := .lst (List.replicate (0 : Int).toNat [V.str "product"]).flatten) hl3
    refine ⟨l1, l3, _, _, rfl, rfl, t3 _ _ (t2 _ _ upd_same), upd_same, (by show 4 + 0 ≤ sizeLine; decide), fun l4 hl4 => ?_⟩
    have t4 := same_upd (o := .lst ([V.str "sum", .str "sum", .str "times", .str "constant"] ++ (List.replicate (0 : Int).toNat [V.str "product"]).flatten)) hl4
    have tt : Same H4 _ := ((t1.trans t2).trans t3).trans t4
    have D5 := D4.same tt
    refine ⟨d, l4, _, rfl, D5, (fun z => DiceAt.ex (D4.same ((t1.trans t2).trans t3)) (by rw [← z]; exact hl4)), upd_same, by decide +kernel, by decide +kernel, fun H6 wd s6 D6 hw => ?_⟩
    have sAll : SameX d H H6 := sA.trans ((Same.x d tt).trans s6)
    have hw2 : wd = .str "sum" ∨ wd = .str "times" ∨ wd = .str "constant" := by
      have e : ([V.str "sum", .str "sum", .str "times", .str "constant"] ++ (List.replicate (0 : Int).toNat [V.str "product"]).flatten) = [V.str "sum", .str "sum", .str "times", .str "constant"] := rfl
      rw [e] at hw
      simp only [List.mem_cons, List.not_mem_nil, or_false] at hw
      rcases hw with h | h | h | h <;> simp [h]
    rcases hw2 with rfl | rfl | rfl
    · refine ⟨_, rfl, rfl, _, rfl, ?_⟩
      rw [str_ne (by decide +kernel)]
      refine ⟨_, rfl, rfl, _, rfl, ?_⟩
      rw [str_ne (by decide +kernel)]
      refine ⟨_, rfl, _, rfl, _, rfl, by show 3 ≤ sizeLine; decide, fun t ht => ?_⟩
      exact q _ t (.sum ni nj) (sAll.trans (Same.x d (same_upd ht))) (D6.same (same_upd ht)) upd_same ⟨by omega, by omega⟩ rfl (fun z => by cases z)
    · refine ⟨_, rfl, rfl, _, rfl, ?_⟩
      rw [str_ne (by decide +kernel)]
      refine ⟨_, rfl, rfl, _, rfl, ?_⟩
      rw [str_eq]
      refine ⟨_, rfl, _, rfl, _, rfl, by show 3 ≤ sizeLine; decide, fun t ht => ?_⟩
      exact q _ t (.times ni cc) (sAll.trans (Same.x d (same_upd ht))) (D6.same (same_upd ht)) upd_same ⟨by omega, by omega, by omega⟩ rfl (fun z => by cases z)
    · refine ⟨_, rfl, rfl, _, rfl, ?_⟩
      rw [str_eq]
      refine ⟨_, rfl, _, rfl, by show 2 ≤ sizeLine; decide, fun t ht => ?_⟩
      exact q _ t (.const cc) (sAll.trans (Same.x d (same_upd ht))) (D6.same (same_upd ht)) upd_same ⟨by omega, by omega⟩ rfl (fun z => by cases z)
  | true =>
    refine ⟨_, rfl, by show 4 ≤ sizeLine; decide, fun l1 hl1 => ⟨by show 1 ≤ sizeLine; decide, fun l2 hl2 => ⟨_, rfl, _, rfl, l2, 4, _, rfl, rfl, upd_same, by decide, by decide, (by show 1 * 4 ≤ sizeLine; decide), fun l3 hl3 => ?_⟩⟩⟩
    have t1 := same_upd (o := .lst [.str "sum", .str "sum", .str "times", .str "constant"]) hl1
    have t2 := same_upd (o := .lst [.str "product"]) hl2
    have t3 := same_upd (o := .lst (List.replicate (4 : Int).toNat [V.str "product"]).flatten) hl3
    refine ⟨l1, l3, _, _, rfl, rfl, t3 _ _ (t2 _ _ upd_same), upd_same, (by show 4 + 4 ≤ sizeLine; decide), fun l4 hl4 => ?_⟩
    have t4 := same_upd (o := .lst ([V.str "sum", .str "sum", .str "times", .str "constant"] ++ (List.replicate (4 : Int).toNat [V.str "product"]).flatten)) hl4
    have tt : Same H4 _ := ((t1.trans t2).trans t3).trans t4
    have D5 := D4.same tt
    refine ⟨d, l4, _, rfl, D5, (fun z => DiceAt.ex (D4.same ((t1.trans t2).trans t3)) (by rw [← z]; exact hl4)), upd_same, by decide +kernel, by decide +kernel, fun H6 wd s6 D6 hw => ?_⟩
    have sAll : SameX d H H6 := sA.trans ((Same.x d tt).trans s6)
    have hw2 : wd = .str "sum" ∨ wd = .str "times" ∨ wd = .str "constant" ∨ wd = .str "product" := by
      have e : ([V.str "sum", .str "sum", .str "times", .str "constant"] ++ (List.replicate (4 : Int).toNat [V.str "product"]).flatten) = [V.str "sum", .str "sum", .str "times", .str "constant", .str "product", .str "product", .str "product", .str "product"] := rfl
      rw [e] at hw
      simp only [List.mem_cons, List.not_mem_nil, or_false] at hw
      rcases hw with h | h | h | h | h | h | h | h <;> simp [h]
    rcases hw2 with rfl | rfl | rfl | rfl
    · refine ⟨_, rfl, rfl, _, rfl, ?_⟩
      rw [str_ne (by decide +kernel)]
      refine ⟨_, rfl, rfl, _, rfl, ?_⟩
      rw [str_ne (by decide +kernel)]
      refine ⟨_, rfl, _, rfl, _, rfl, by show 3 ≤ sizeLine; decide, fun t ht => ?_⟩
      exact q _ t (.sum ni nj) (sAll.trans (Same.x d (same_upd ht))) (D6.same (same_upd ht)) upd_same ⟨by omega, by omega⟩ rfl (fun z => by cases z)
    · refine ⟨_, rfl, rfl, _, rfl, ?_⟩
      rw [str_ne (by decide +kernel)]
      refine ⟨_, rfl, rfl, _, rfl, ?_⟩
      rw [str_eq]
      refine ⟨_, rfl, _, rfl, _, rfl, by show 3 ≤ sizeLine; decide, fun t ht => ?_⟩
      exact q _ t (.times ni cc) (sAll.trans (Same.x d (same_upd ht))) (D6.same (same_upd ht)) upd_same ⟨by omega, by omega, by omega⟩ rfl (fun z => by cases z)
    · refine ⟨_, rfl, rfl, _, rfl, ?_⟩
      rw [str_eq]
      refine ⟨_, rfl, _, rfl, by show 2 ≤ sizeLine; decide, fun t ht => ?_⟩
      exact q _ t (.const cc) (sAll.trans (Same.x d (same_upd ht))) (D6.same (same_upd ht)) upd_same ⟨by omega, by omega⟩ rfl (fun z => by cases z)
    · refine ⟨_, rfl, rfl, _, rfl, ?_⟩
      rw [str_ne (by decide +kernel)]
      refine ⟨_, rfl, rfl, _, rfl, ?_⟩
      rw [str_ne (by decide +kernel)]
      refine ⟨_, rfl, _, rfl, _, rfl, by show 3 ≤ sizeLine; decide, fun t ht => ?_⟩
      exact q _ t (.prod ni nj) (sAll.trans (Same.x d (same_upd ht))) (D6.same (same_upd ht)) upd_same ⟨by omega, by omega⟩ rfl (fun _ => rfl)
end
end K24
end
section
set_option autoImplicit false
set_option Elab.async false
set_option linter.all false
set_option maxRecDepth 100000
set_option maxHeartbeats 1000000
/-! the law's draws, 3: gates -/
namespace K24
open PySem PySem.Spec PyProof.Rows L2 SlX
/-- a list of the gates at l -/
def LG (H : Hp) (l : Addr) (gs : List Gate) : Prop := ∃ ts : List Addr, H l = some (.lst (ts.map V.ref)) ∧ Paired (fun t g => H t = some (.tup (enG g))) ts gs
theorem paired_app {α β : Type} {R : α → β → Prop} : ∀ {xs : List α} {ys : List β} {x : α} {y : β}, Paired R xs ys → R x y → Paired R (xs ++ [x]) (ys ++ [y])
  | _, _, _, _, .nil, r => .cons r .nil
  | _, _, _, _, .cons h t, r => .cons h (paired_app t r)
theorem LG.push {H2 : Hp} {fl t : Addr} {ts : List Addr} {gs : List Gate} {g : Gate} (h1 : H2 fl = some (.lst (ts.map V.ref))) (h2 : Paired (fun t g => H2 t = some (.tup (enG g))) ts gs) (ht : H2 t = some (.tup (enG g))) : LG (upd H2 fl (.lst (ts.map V.ref ++ [V.ref t]))) fl (gs ++ [g]) := by
  have ne : ∀ t xs, H2 t = some (.tup xs) → t ≠ fl := fun t xs e z => by rw [z, h1] at e; cases e
  refine ⟨ts ++ [t], by rw [upd_same, List.map_append]; rfl, paired_app (paired_imp (fun t g e => ?_) h2) ?_⟩
  · rw [upd_ne (ne _ _ e)]; exact e
  · rw [upd_ne (ne _ _ ht)]; exact ht
theorem sameX_set {d fl : Addr} {H H' : Hp} {o : HO} (hf : H fl = none) (s : SameX d H H') : SameX d H (upd H' fl o) := fun b u hb e => by
  rw [upd_ne (ne_of_none e hf)]
  exact s b u hb e
theorem prod_dec (g : Gate) : decide (V.str (word g) = V.str "product") = isProd g := by
  have := congrFun word_prod g
  rw [← this]
  unfold wordIs
  by_cases e : word g = "product"
  · rw [decide_eq_true e, e]; exact str_eq _
  · rw [decide_eq_false e]; exact str_ne e
theorem DiceAt.set {H : Hp} {d l : Addr} {o : HO} (D : DiceAt H d) (h : l ≠ d) : DiceAt (upd H l o) d := by
  obtain ⟨a, x, y, h1, h2⟩ := D
  exact ⟨a, x, y, by rw [upd_ne (Ne.symm h)]; exact h1, h2⟩
section
variable {P : Program} {w : World} {K : PySem.W.Frag} {mg : Str → Option Value} {base : Heap}
theorem sc_law_dr_gates : FnScope ["_law_dice_here", "_law_field", "_law_houses", "_law_many", "_law_products", "_law_found", "_law_left", "_law_turn", "_law_gate"] ["_law_dice_here", "_law_field", "_law_houses", "_law_many", "_law_products"] (defScope s_law_dr_gates) := ⟨rfl, rfl, rfl, by decide +kernel, rfl, by decide +kernel, by decide +kernel⟩
def sp_law_dr_gates : Sp := fun vs H Q _ => ∃ (d : Addr) (p : Int) (n k : Nat), vs = [.ref d, .int p, .int 4, .int ((n : Nat) : Int), .int ((k : Nat) : Int)] ∧ DiceAt H d ∧ FieldOk p ∧ n ≤ 12 ∧ k ≤ 4 ∧
  ∀ H' t gs, SameX d H H' → DiceAt H' d → GatesAt H' t gs → Drawn gs → Q (.ref t) H'
theorem cal_law_dr_gates (D : DefM K mg "_law_dr_gates" "_law_dr_gates" s_law_dr_gates) (g : GB mg) (cr : C8.Cal P w K mg base 1 "_law_roll" sp_law_roll []) (cg : C8.Cal P w K mg base 3 "_law_dr_gate" sp_law_dr_gate []) : C8.Cal P w K mg base 4 "_law_dr_gates" sp_law_dr_gates [] := by
  refine calM D sc_law_dr_gates (fun vs H Q E h => by obtain ⟨_, _, _, _, rfl, _⟩ := h; rfl) (fun _ _ _ _ _ _ us hl => match us, hl with | [_, _, _, _, _], _ => rfl) fun f cdv A outer s H vs Q E hr h => ?_
  refine ⟨_, pss_cons (ps_par (i := 5) (j := 6) rfl sc_law_dr_gates.nd rfl rfl (by decide) rfl rfl (pa_cons (pe_lst (pa_cons (pe_tup (pa_cons pe_str (pa_cons (pe_op op_add pe_int (C8.pe_c cr hr (by decide) (by rfl) (pa_cons (pv 0) (pa_cons (pv 2) pa_nil)))) pa_nil))) pa_nil)) (pa_cons (pv 4) pa_nil)) (by rfl))
    (pss_cons (ps_for PassesOwn.never rfl (pi_range1 (by rfl) g.range (pa_cons (C8.pe_c cr hr (by decide) (by rfl) (pa_cons (pv 0) (pa_cons pe_int pa_nil))) pa_nil)) (pg_name (i := 7) sc_law_dr_gates.nd rfl (Or.inl rfl))
      (pss_one (ps_expr (pe_bm PySem.F.plainAttrs_list PySem.F.slot_list_append PySem.F.type_list_append mt_append (pv 5) (pa_cons (pe_tup (pa_cons pe_str (pa_cons (pe_op op_add pe_int (C8.pe_c cr hr (by decide) (by rfl) (pa_cons (pv 0) (pa_cons (pv 2) pa_nil)))) pa_nil))) pa_nil)))))
    (pss_cons (ps_for PassesOwn.never rfl (pi_range1 (by rfl) g.range (pa_cons (pv 3) pa_nil)) (pg_name (i := 7) sc_law_dr_gates.nd rfl (Or.inl rfl))
      (pss_cons (ps_set (i := 8) sc_law_dr_gates.nd rfl (Or.inl rfl) (C8.pe_c cg hr (by decide) (by rfl) (pa_cons (pv 0) (pa_cons (pv 1) (pa_cons (pe_callB call_len_seq (by rfl) g.len (by decide +kernel) (pa_cons (pv 5) pa_nil)) (pa_cons (pe_cmpR op_gt (pv 6) pe_int (nomark _)) pa_nil))))))
      (pss_cons (ps_set (i := 6) sc_law_dr_gates.nd rfl (Or.inl rfl) (pe_op op_sub (pv 6) (pe_callTy call_int1 (by rfl) g.int (by decide +kernel) (pa_cons (pe_cmpR op_eq (pe_ix ix_tup (pv 8) pe_int (fun _ _ => rfl)) pe_str (nomark _)) pa_nil))))
      (pss_one (ps_expr (pe_bm PySem.F.plainAttrs_list PySem.F.slot_list_append PySem.F.type_list_append mt_append (pv 5) (pa_cons (pv 8) pa_nil)))))))
    (pss_cons (ps_if (pt_cmpR op_eq (C8.pe_c cr hr (by decide) (by rfl) (pa_cons (pv 0) (pa_cons pe_int pa_nil))) pe_int (nomark _))
      (pss_one (ps_expr (pe_bm PySem.F.plainAttrs_list PySem.F.slot_list_append PySem.F.type_list_append mt_append (pv 5) (pa_cons (pe_tup (pa_cons pe_str (pa_cons (pe_op op_add pe_int (C8.pe_c cr hr (by decide) (by rfl) (pa_cons (pv 0) (pa_cons (pv 2) pa_nil)))) pa_nil))) pa_nil)))) pss_nil)
    (pss_one (ps_ret (pe_callTy call_tuple_of (by rfl) g.tuple (by decide +kernel) (pa_cons (pv 5) pa_nil))))))), ?_⟩
  obtain ⟨d, p, n, k, rfl, hd, hp, hn, hk, q⟩ := h
  -- the first input
  refine ⟨_, rfl, _, rfl, d, 4, rfl, hd, by decide, by decide, fun H1 r s1 D1 r0 r1 => ⟨_, _, rfl, rfl, by show 2 ≤ sizeLine; decide, fun t ht => ⟨by show 1 ≤ sizeLine; decide, fun fl hfl => ⟨_, rfl, _, _, rfl, ?_⟩⟩⟩⟩
  have sB := s1.trans (Same.x d ((same_upd (o := .tup [.str "input", .int (1 + r)]) ht).trans (same_upd (o := .lst [.ref t]) hfl)))
  have D2 := D1.same ((same_upd (o := .tup [.str "input", .int (1 + r)]) ht).trans (same_upd (o := .lst [.ref t]) hfl))
  have hfd : fl ≠ d := fun z => DiceAt.ex (D1.same (same_upd (o := .tup [.str "input", .int (1 + r)]) ht)) (by rw [← z]; exact hfl)
  have hfH : H fl = none := by
    cases e : H fl with
    | none => rfl
    | some u =>
      have := (s1.trans (Same.x d (same_upd (o := .tup [.str "input", .int (1 + r)]) ht))) fl u hfd e
      rw [hfl] at this; cases this
  have lg0 : LG (upd (upd H1 t (.tup [.str "input", .int (1 + r)])) fl (.lst [.ref t])) fl [Gate.inp (1 + r)] := by
    refine ⟨[t], upd_same, .cons ?_ .nil⟩
    have : t ≠ fl := fun z => by rw [← z, upd_same] at hfl; cases hfl
    rw [upd_ne this, upd_same]
    rfl
  -- the first loop
  refine ⟨_, rfl, d, 3, rfl, D2, by decide, by decide, fun H3 r3 s3 D3 r30 r31 => ?_⟩
  refine ⟨r3, rfl, by omega, by omega, ?_⟩
  have lg3 : LG H3 fl [Gate.inp (1 + r)] := by
    obtain ⟨ts, e1, e2⟩ := lg0
    exact ⟨ts, s3 _ _ hfd e1, paired_imp (fun t g e => s3.tup D2 e) e2⟩
  have s3' := sB.trans s3
  refine for_it walk_range (fun i σ H' => (∃ y, σ = [some (.ref d), some (.int p), some (.int 4), some (.int ((n : Nat) : Int)), some (.int ((k : Nat) : Int)), some (.ref fl), some (.int ((k : Nat) : Int)), y, none]) ∧ SameX d H H' ∧ DiceAt H' d ∧
    ∃ ins, LG H' fl ins ∧ ins.length = i + 1 ∧ (∀ g ∈ ins, isInp g = true) ∧ ∀ i g, ins[i]? = some g → GateOk i g) ?_ (fun _ _ _ _ _ => True.intro) ?_ ?_
  · refine ⟨⟨_, rfl⟩, s3', D3, _, lg3, rfl, ?_, ?_⟩
    · intro g hg; rw [List.mem_singleton.mp hg]; rfl
    · intro i g e
      cases i with
      | zero =>
        have : Gate.inp (1 + r) = g := Option.some.inj e
        rw [← this]
        exact ⟨by omega, by omega⟩
      | succ i => simp at e
  · intro i x σ H' H2 hi p1 y
    obtain ⟨rfl, rfl⟩ := y
    obtain ⟨⟨y, rfl⟩, sX, DX, ins, ⟨ts, lg1, lg2⟩, li, lii, lok⟩ := p1
    refine ⟨_, rfl, .inl ⟨rfl, _, .inl (.inl lg1)⟩, _, rfl, _, rfl, d, 4, rfl, DX, by decide, by decide, fun H4 r4 s4 D4 r40 r41 => ⟨_, _, rfl, rfl, by show 2 ≤ sizeLine; decide, fun t4 ht4 => ?_⟩⟩
    have st := same_upd (o := .tup [.str "input", .int (1 + r4)]) ht4
    have e1 : upd H4 t4 (.tup [.str "input", .int (1 + r4)]) fl = some (.lst (ts.map V.ref)) := st _ _ (s4 _ _ hfd lg1)
    have tl : ts.length = ins.length := Paired.length lg2
    refine ⟨fl, _, _, rfl, rfl, e1, by rw [List.length_map]; exact small1000 (by omega), ⟨_, rfl⟩, sameX_set hfH ((sX.trans s4).trans (Same.x d st)), (D4.same st).set hfd, ins ++ [Gate.inp (1 + r4)], ?_, by simp [li], ?_, ?_⟩
    · exact LG.push e1 (paired_imp (fun t g e => st _ _ (s4.tup DX e)) lg2) upd_same
    · intro g hg
      rcases List.mem_append.mp hg with h | h
      · exact lii g h
      · rw [List.mem_singleton.mp h]; rfl
    · exact ok_app lok ⟨by omega, by omega⟩
  intro σ H5 p5
  obtain ⟨⟨y5, rfl⟩, sX5, DX5, ins, lg5, li5, lii, lok⟩ := p5
  -- the second loop
  refine ⟨_, rfl, (n : Int), rfl, by omega, by omega, ?_⟩
  refine for_it walk_range (fun i σ H' => (∃ y z m, σ = [some (.ref d), some (.int p), some (.int 4), some (.int ((n : Nat) : Int)), some (.int ((k : Nat) : Int)), some (.ref fl), some (.int m), y, z] ∧ SameX d H H' ∧ DiceAt H' d ∧
    ∃ mid, LG H' fl (ins ++ mid) ∧ mid.length = i ∧ (∀ g ∈ mid, isInp g = false) ∧ m = (k : Int) - ((mid.filter isProd).length : Nat) ∧ (mid.filter isProd).length ≤ k ∧ ∀ i g, (ins ++ mid)[i]? = some g → GateOk i g)) ?_ (fun _ _ _ _ _ => True.intro) ?_ ?_
  · exact ⟨_, _, _, rfl, sX5, DX5, [], by simpa using lg5, rfl, fun g hg => (nomatch hg), by simp, Nat.zero_le _, by simpa using lok⟩
  · intro i x σ H' H2 hi p1 y
    obtain ⟨rfl, rfl⟩ := y
    obtain ⟨y, z, m, rfl, sX, DX, mid, ⟨ts, lg1, lg2⟩, lm, lmi, em, lmk, lok2⟩ := p1
    have tl : ts.length = (ins ++ mid).length := Paired.length lg2
    rw [List.length_append] at tl
    refine ⟨_, rfl, _, rfl, _, rfl, fl, _, rfl, .inl (.inl (.inl lg1)), _, rfl, _, _, rfl, rfl, d, p, (ts.map V.ref).length, decide ((0 : Int) < m), rfl, DX, hp, by rw [List.length_map]; omega, by rw [List.length_map]; omega, fun H4 t4 g4 s4 D4 ht4 gok gni gpr => ?_⟩
    have e4 : H4 fl = some (.lst (ts.map V.ref)) := s4 _ _ hfd lg1
    refine ⟨_, rfl, _, rfl, t4, _, 0, _, rfl, rfl, .inl (.inl ht4), atI_nat (j := 0) (enG_0 g4), rfl, .inr ⟨_, rfl, _, _, rfl, rfl, ?_⟩⟩
    refine ⟨_, rfl, .inl ⟨rfl, _, .inl (.inl e4)⟩, _, rfl, fl, _, _, rfl, rfl, e4, by rw [List.length_map]; exact small1000 (by omega), _, _, _, rfl, sameX_set hfH (sX.trans s4), D4.set hfd, mid ++ [g4], ?_, by simp [lm], ?_, ?_, ?_, ?_⟩
    · rw [← List.append_assoc]
      exact LG.push e4 (paired_imp (fun t g e => s4.tup DX e) lg2) ht4
    · intro g hg
      rcases List.mem_append.mp hg with h | h
      · exact lmi g h
      · rw [List.mem_singleton.mp h]; exact gni
    · rw [prod_dec, List.filter_append, List.length_append, List.filter_cons]
      cases isProd g4 <;> simp <;> omega
    · rw [List.filter_append, List.length_append, List.filter_cons]
      cases hpr : isProd g4 with
      | true =>
        have := of_decide_eq_true (gpr hpr)
        simp
        omega
      | false => simpa using lmk
    · rw [← List.append_assoc]
      refine ok_app lok2 ?_
      rw [List.length_map, tl] at gok
      rw [List.length_append]
      exact gok
  intro σ H6 p6
  obtain ⟨y, z, m, rfl, sX, DX, mid, ⟨ts, lg1, lg2⟩, lm, lmi, em, lmk, lok2⟩ := p6
  have tl : ts.length = (ins ++ mid).length := Paired.length lg2
  rw [List.length_append] at tl
  have lm' : mid.length = n := by rw [lm]; omega
  have li' : ins.length ≤ 3 := by rw [li5]; omega
  -- the last input
  refine ⟨_, rfl, d, 3, rfl, DX, by decide, by decide, fun H7 r7 s7 D7 r70 r71 => ⟨rfl, _, rfl, ?_⟩⟩
  have e7 : H7 fl = some (.lst (ts.map V.ref)) := s7 _ _ hfd lg1
  have lg7 : Paired (fun t g => H7 t = some (.tup (enG g))) ts (ins ++ mid) := paired_imp (fun t g e => s7.tup DX e) lg2
  refine ite_dec (fun hz => ?_) (fun hz => ?_)
  · refine ⟨_, rfl, .inl ⟨rfl, _, .inl (.inl e7)⟩, _, rfl, _, rfl, d, 4, rfl, D7, by decide, by decide, fun H4 r4 s4 D4 r40 r41 => ⟨_, _, rfl, rfl, by show 2 ≤ sizeLine; decide, fun t4 ht4 => ?_⟩⟩
    have st := same_upd (o := .tup [.str "input", .int (1 + r4)]) ht4
    have e1 : upd H4 t4 (.tup [.str "input", .int (1 + r4)]) fl = some (.lst (ts.map V.ref)) := st _ _ (s4 _ _ hfd e7)
    refine ⟨fl, _, _, rfl, rfl, e1, by rw [List.length_map]; exact small1000 (by omega), ?_⟩
    obtain ⟨ts2, l1, l2⟩ := LG.push (g := Gate.inp (1 + r4)) e1 (paired_imp (fun t g e => st _ _ (s4.tup D7 e)) lg7) upd_same
    refine ⟨_, rfl, fl, _, rfl, .inl ⟨.inl (.inl l1), fun tt htt => ?_⟩⟩
    have s8 := same_upd (o := .tup (ts2.map V.ref)) htt
    refine q _ tt (ins ++ mid ++ [Gate.inp (1 + r4)]) ((sameX_set hfH (((sX.trans s7).trans s4).trans (Same.x d st))).trans (Same.x d s8)) (((D4.same st).set hfd).same s8) ⟨ts2, upd_same, paired_imp (fun t g e => s8 _ _ e) l2⟩ ⟨ok_app lok2 ⟨by omega, by omega⟩, ins, mid, [_], rfl, ?_⟩
    exact ⟨by omega, li', lii, by omega, lmi, by omega, by simp, fun g hg => by rw [List.mem_singleton.mp hg]; rfl⟩
  · refine ⟨_, rfl, fl, _, rfl, .inl ⟨.inl (.inl e7), fun tt htt => ?_⟩⟩
    have s8 := same_upd (o := .tup (ts.map V.ref)) htt
    refine q _ tt (ins ++ mid) ((sX.trans s7).trans (Same.x d s8)) (D7.same s8) ⟨ts, upd_same, paired_imp (fun t g e => s8 _ _ e) lg7⟩ ⟨lok2, ins, mid, [], by simp, ?_⟩
    exact ⟨by omega, li', lii, by omega, lmi, by omega, by simp, fun g hg => nomatch hg⟩
end
end K24
end
section
set_option autoImplicit false
set_option Elab.async false
set_option linter.all false
set_option maxRecDepth 100000
set_option maxHeartbeats 1000000
/-! the law's draws, 4: numbers; powers; the inputs' places -/
namespace K24
open PySem PySem.Spec PyProof.Rows L2 SlX
theorem DiceAt.set' {H : Hp} {d l : Addr} {o : HO} (D : DiceAt H d) (h : d ≠ l) : DiceAt (upd H l o) d := D.set (Ne.symm h)
section
variable {P : Program} {w : World} {K : PySem.W.Frag} {mg : Str → Option Value} {base : Heap}
/-! ### _law_dr_numbers -/
theorem sc_law_dr_numbers : FnScope ["_law_dice_here", "_law_field", "_law_many", "_law_turn"] ["_law_dice_here", "_law_field", "_law_many"] (defScope s_law_dr_numbers) := ⟨rfl, rfl, rfl, by decide +kernel, rfl, by decide +kernel, by decide +kernel⟩
def sp_law_dr_numbers : Sp := fun vs H Q _ => ∃ (d : Addr) (p : Int) (n : Nat), vs = [.ref d, .int p, .int ((n : Nat) : Int)] ∧ DiceAt H d ∧ FieldOk p ∧ n ≤ 100 ∧
  ∀ H' t (nums : List Int), SameX d H H' → DiceAt H' d → H' t = some (.tup (nums.map V.int)) → nums.length = n → (∀ x ∈ nums, 0 ≤ x ∧ x < p) → Q (.ref t) H'
theorem cal_law_dr_numbers (D : DefM K mg "_law_dr_numbers" "_law_dr_numbers" s_law_dr_numbers) (g : GB mg) (cr : C8.Cal P w K mg base 1 "_law_roll" sp_law_roll []) (cp : C8.Cal P w K mg base 2 "_law_pick" sp_law_pick []) : C8.Cal P w K mg base 3 "_law_dr_numbers" sp_law_dr_numbers [] := by
  refine calM D sc_law_dr_numbers (fun vs H Q E h => by obtain ⟨_, _, _, rfl, _⟩ := h; rfl) (fun _ _ _ _ _ _ us hl => match us, hl with | [_, _, _], _ => rfl) fun f cdv A outer s H vs Q E hr h => ?_
  refine ⟨_, pss_one (ps_ret (pe_callTy call_tuple_of (by rfl) g.tuple (by decide +kernel) (pa_cons (pe_lc (own := [("_law_turn", 3)]) (g := gName 3) (tt := tYes) rfl sc_law_dr_numbers.nd (pi_range1 (by rfl) g.range (pa_cons (pv 2) pa_nil))
    (blkOk_by (N := ["_law_dice_here", "_law_field", "_law_many", "_law_turn"]) (sc := defScope s_law_dr_numbers) (by decide +kernel)) (fun _ _ _ _ _ => pg_name (i := 3) sc_law_dr_numbers.nd rfl (Or.inl rfl)) (fun _ _ _ _ _ => pts_nil)
    (fun _ _ _ _ _ => C8.pe_c cp hr (by decide) (by rfl) (pa_cons (pv 0) (pa_cons (pe_lst (pa_cons pe_int (pa_cons pe_int (pa_cons (pe_op op_sub (pv 1) pe_int) (pa_cons (C8.pe_c cr hr (by decide) (by rfl) (pa_cons (pv 0) (pa_cons (pv 1) pa_nil))) (pa_cons (C8.pe_c cr hr (by decide) (by rfl) (pa_cons (pv 0) (pa_cons (pv 1) pa_nil))) pa_nil)))))) pa_nil)))) pa_nil))), ?_⟩
  obtain ⟨d, p, n, rfl, hd, hp, hn, q⟩ := h
  have hp5 := hp.1
  have hp9 := hp.2.1
  refine ⟨_, rfl, (n : Int), rfl, by omega, by omega, fun L hL => ?_⟩
  have hLd : L ≠ d := fun z => DiceAt.ex hd (by rw [← z]; exact hL)
  refine lc_it walk_range (fun i H' => SameX d H H' ∧ DiceAt H' d ∧ ∃ nums : List Int, H' L = some (.lst (nums.map V.int)) ∧ nums.length = i ∧ ∀ x ∈ nums, 0 ≤ x ∧ x < p) ?_ (fun _ _ _ _ => True.intro) (fun i x H1 H2 hi p1 y => ?_) (fun H1 p1 => ?_)
  · exact ⟨sameX_set hL (SameX.refl _ _), hd.set hLd, [], upd_same, rfl, fun x hx => nomatch hx⟩
  · obtain ⟨rfl, rfl⟩ := y
    obtain ⟨sX, DX, nums, e1, e2, e3⟩ := p1
    refine ⟨rfl, ?_⟩
    refine ⟨_, rfl, _, rfl, _, _, rfl, rfl, _, rfl, _, rfl, d, p, rfl, DX, by omega, by omega, fun H3 r s3 D3 r0 r1 => ?_⟩
    refine ⟨_, rfl, _, rfl, d, p, rfl, D3, by omega, by omega, fun H4 r4 s4 D4 r40 r41 => ?_⟩
    refine ⟨by show 5 ≤ sizeLine; decide, fun l hl => ?_⟩
    have st := same_upd (o := .lst [.int 0, .int 1, .int (p - 1), .int r, .int r4]) hl
    have hld : l ≠ d := fun z => DiceAt.ex D4 (by rw [← z]; exact hl)
    refine ⟨d, l, _, rfl, D4.same st, hld, upd_same, by show 1 ≤ 5; decide, by show 5 ≤ 1000; decide, fun H5 v s5 D5 hv => ?_⟩
    obtain ⟨c, rfl, c0, c1⟩ : ∃ c : Int, v = .int c ∧ 0 ≤ c ∧ c < p := by
      simp only [List.mem_cons, List.not_mem_nil, or_false] at hv
      rcases hv with rfl | rfl | rfl | rfl | rfl
      · exact ⟨_, rfl, by omega, by omega⟩
      · exact ⟨_, rfl, by omega, by omega⟩
      · exact ⟨p - 1, rfl, by omega, by omega⟩
      · exact ⟨r, rfl, by omega, by omega⟩
      · exact ⟨r4, rfl, by omega, by omega⟩
    have sA : SameX d H2 H5 := (s3.trans s4).trans ((Same.x d st).trans s5)
    refine ⟨_, sA _ _ hLd e1, by rw [List.length_map]; exact small1000 (by omega), sameX_set hL (sX.trans sA), D5.set hLd, nums ++ [c], by rw [upd_same, List.map_append]; rfl, by simp [e2], fun x hx => ?_⟩
    rcases List.mem_append.mp hx with h | h
    · exact e3 x h
    · rw [List.mem_singleton.mp h]; exact ⟨c0, c1⟩
  · obtain ⟨sX, DX, nums, e1, e2, e3⟩ := p1
    refine ⟨L, _, rfl, .inl ⟨.inl (.inl e1), fun t ht => ?_⟩⟩
    exact q _ t nums (sX.trans (Same.x d (same_upd ht))) (DX.same (same_upd ht)) upd_same (by rw [e2]; omega) e3
/-! ### _law_dr_inputs -/
theorem sc_law_dr_inputs : FnScope ["_law_dice_here", "_law_field", "_law_gates", "_law_gate"] ["_law_dice_here", "_law_field", "_law_gates"] (defScope s_law_dr_inputs) := ⟨rfl, rfl, rfl, by decide +kernel, rfl, by decide +kernel, by decide +kernel⟩
def sp_law_dr_inputs : Sp := fun vs H Q _ => ∃ (d : Addr) (p : Int) (ga : Addr) (gs : List Gate), vs = [.ref d, .int p, .ref ga] ∧ DiceAt H d ∧ FieldOk p ∧ GatesAt H ga gs ∧ GsOk gs ∧
  ∀ H' t (nums : List Int), SameX d H H' → DiceAt H' d → H' t = some (.tup (nums.map V.int)) → nums.length = nIn gs → (∀ x ∈ nums, 0 ≤ x ∧ x < p) → Q (.ref t) H'
theorem cal_law_dr_inputs (D : DefM K mg "_law_dr_inputs" "_law_dr_inputs" s_law_dr_inputs) (g : GB mg) (cn : C8.Cal P w K mg base 3 "_law_dr_numbers" sp_law_dr_numbers []) : C8.Cal P w K mg base 4 "_law_dr_inputs" sp_law_dr_inputs [] := by
  refine calM D sc_law_dr_inputs (fun vs H Q E h => by obtain ⟨_, _, _, _, rfl, _⟩ := h; rfl) (fun _ _ _ _ _ _ us hl => match us, hl with | [_, _, _], _ => rfl) fun f cdv A outer s H vs Q E hr h => ?_
  refine ⟨_, pss_one (ps_ret (C8.pe_c cn hr (by decide) (by rfl) (pa_cons (pv 0) (pa_cons (pv 1) (pa_cons (pe_callB call_len_seq (by rfl) g.len (by decide +kernel) (pa_cons (pe_lc (own := [("_law_gate", 3)]) (g := gName 3) rfl sc_law_dr_inputs.nd (pi_tup (pv 2))
    (blkOk_by (N := ["_law_dice_here", "_law_field", "_law_gates", "_law_gate"]) (sc := defScope s_law_dr_inputs) (by decide +kernel)) (fun _ _ _ _ _ => pg_name (i := 3) sc_law_dr_inputs.nd rfl (Or.inl rfl))
    (fun _ _ _ _ _ => pts_one (pt_cmpR op_eq (pe_ix (r := rIxT K) ix_tup (pv 3) pe_int (fun _ _ => rfl)) pe_str (nomark _))) (fun _ _ _ _ _ => pv 3)) pa_nil)) pa_nil))))), ?_⟩
  obtain ⟨d, p, ga, gs, rfl, hd, hpp, ⟨ts, ha, hp⟩, ok, q⟩ := h
  have hl : ts.length = gs.length := Paired.length hp
  have h60 := ok.few
  have h8 := ok.inps
  refine ⟨_, rfl, _, rfl, _, rfl, ga, rfl, ⟨_, .inl (.inl ha)⟩, fun Dl hD => ?_⟩
  refine lc_it (walk_tup (xs := ts.map V.ref)) (LcI H Dl fun i => (((gs.zip ts).take i).filter fun x => isInp x.1).map fun x => V.ref x.2) (lcI0 hD rfl) (fun i H1 hi p1 => .inl (.inl (p1.1 _ _ ha))) (fun i x H1 H2 hi p1 y => ?_) (fun H1 p1 => ?_)
  · obtain ⟨rfl, hx⟩ := y
    obtain ⟨t, ht, rfl⟩ := refI hx
    obtain ⟨g, hg, hge⟩ := LiI.paired_get hp ht
    have hge2 := p1.1 _ _ hge
    refine ⟨rfl, _, rfl, t, _, 0, _, rfl, rfl, .inl (.inl hge2), atI_nat (j := 0) (enG_0 g), rfl, _, rfl, ?_⟩
    have hs := filt_succ isInp gs ts hg ht
    rw [inp_dec]
    cases hw : isInp g with
    | true =>
      rw [hw, if_pos rfl] at hs
      refine ⟨_, rfl, ?_⟩
      refine lcPut hD p1 (Same.refl _) ?_ hs
      rw [List.length_map]
      have h1 := List.length_filter_le (fun x : Gate × Addr => isInp x.1) ((gs.zip ts).take i)
      rw [List.length_take, List.length_zip] at h1
      exact small10 (by omega)
    | false =>
      rw [hw, if_neg (by decide), List.append_nil] at hs
      exact lcSkip p1 (Same.refl _) hs
  · have e : List.take (ts.map V.ref).length (gs.zip ts) = gs.zip ts := List.take_of_length_le (by rw [List.length_map, List.length_zip]; omega)
    have h2 : H1 Dl = some (.lst (((gs.zip ts).filter fun x => isInp x.1).map fun x => V.ref x.2)) := by
      have h := p1.2
      dsimp only at h
      rw [e] at h
      exact h
    refine ⟨Dl, _, rfl, .inl (.inl (.inl h2)), ?_⟩
    have e3 : (((gs.zip ts).filter fun x => isInp x.1).map fun x => V.ref x.2).length = nIn gs := by rw [List.length_map, zip_filt _ _ _ hl.symm]; rfl
    refine ⟨d, p, _, rfl, hd.same p1.1, hpp, by rw [e3]; omega, fun H2 t nums s2 D2 ht hl2 hr2 => ?_⟩
    exact q _ t nums ((Same.x d p1.1).trans s2) D2 ht (by rw [hl2, e3]) hr2
/-! ### _law_fd_times -/
theorem sc_law_fd_times : FnScope ["_law_base", "_law_many", "_law_found", "_law_turn"] ["_law_base", "_law_many"] (defScope s_law_fd_times) := ⟨rfl, rfl, rfl, by decide +kernel, rfl, by decide +kernel, by decide +kernel⟩
def sp_law_fd_times : Sp := fun vs H Q _ => ∃ (b : Int) (n : Nat), vs = [.int b, .int ((n : Nat) : Int)] ∧ 0 ≤ b ∧ b < 2 ^ 62 ∧ n < 2 ^ 30 ∧ Q (.int (b ^ n)) H
theorem cal_law_fd_times (D : DefM K mg "_law_fd_times" "_law_fd_times" s_law_fd_times) (g : GB mg) : C8.Cal P w K mg base 1 "_law_fd_times" sp_law_fd_times [] := by
  refine calM D sc_law_fd_times (fun vs H Q E h => by obtain ⟨_, _, rfl, _⟩ := h; rfl) (fun _ _ _ _ _ _ us hl => match us, hl with | [_, _], _ => rfl) fun f cdv A outer s H vs Q E hr h => ?_
  refine ⟨_, pss_cons (ps_set (i := 2) sc_law_fd_times.nd rfl (Or.inl rfl) pe_int) (pss_cons (ps_for PassesOwn.never rfl (pi_range1 (by rfl) g.range (pa_cons (pv 1) pa_nil)) (pg_name (i := 3) sc_law_fd_times.nd rfl (Or.inl rfl))
    (pss_one (ps_set (i := 2) sc_law_fd_times.nd rfl (Or.inl rfl) (pe_op op_mul (pv 2) (pv 0))))) (pss_one (ps_ret (pv 2)))), ?_⟩
  obtain ⟨b, n, rfl, hb, hb2, hn, q⟩ := h
  refine ⟨_, rfl, (n : Int), rfl, by omega, by omega, ?_⟩
  refine for_it walk_range (fun i σ H' => H' = H ∧ ∃ y, σ = [some (.int b), some (.int ((n : Nat) : Int)), some (.int (b ^ i)), y]) ⟨rfl, none, by rw [Int.pow_zero]; rfl⟩ (fun _ _ _ _ _ => True.intro) ?_ ?_
  · intro i x σ H' H2 hi p1 y
    obtain ⟨rfl, rfl⟩ := y
    obtain ⟨rfl, y, rfl⟩ := p1
    refine ⟨_, rfl, _, rfl, _, _, rfl, rfl, .inr ⟨by omega, by omega⟩, rfl, some (.int (0 + (i : Nat))), ?_⟩
    rw [Int.pow_succ]
    rfl
  · intro σ H' p1
    obtain ⟨rfl, y, rfl⟩ := p1
    refine ⟨_, rfl, ?_⟩
    have e : ((n : Int)).toNat = n := by omega
    rw [e]
    exact q
/-! ### _law_ci_inputs -/
theorem sc_law_ci_inputs : FnScope ["_law_gates", "_law_at", "_law_gate"] ["_law_gates"] (defScope s_law_ci_inputs) := ⟨rfl, rfl, rfl, by decide +kernel, rfl, by decide +kernel, by decide +kernel⟩
def sp_law_ci_inputs : Sp := fun vs H Q _ => ∃ (ga : Addr) (gs : List Gate), vs = [.ref ga] ∧ GatesAt H ga gs ∧ gs.length ≤ 1000 ∧ ∀ H' l, Same H H' → H' l = some (.lst ((places gs).map fun i : Nat => V.int i)) → Q (.ref l) H'
theorem cal_law_ci_inputs (D : DefM K mg "_law_ci_inputs" "_law_ci_inputs" s_law_ci_inputs) (g : GB mg) : C8.Cal P w K mg base 1 "_law_ci_inputs" sp_law_ci_inputs [] := by
  refine calM D sc_law_ci_inputs (fun vs H Q E h => by obtain ⟨_, _, rfl, _⟩ := h; rfl) (fun _ _ _ _ _ _ us hl => match us, hl with | [_], _ => rfl) fun f cdv A outer s H vs Q E hr h => ?_
  refine ⟨_, pss_one (ps_ret (pe_lc (own := [("_law_at", 1), ("_law_gate", 2)]) (g := gTup K 2 (gCons (gName 1) (gCons (gName 2) gNil))) rfl sc_law_ci_inputs.nd
      (pi_enumT (by rfl) g.enumerate (pa_cons (pv 0) pa_nil)) (blkOk_by (N := ["_law_gates", "_law_at", "_law_gate"]) (sc := defScope s_law_ci_inputs) (by decide +kernel))
      (fun _ _ _ _ _ => pg_tup rfl (pgs_cons (pg_name (i := 1) sc_law_ci_inputs.nd rfl (Or.inl rfl)) (pgs_cons (pg_name (i := 2) sc_law_ci_inputs.nd rfl (Or.inl rfl)) pgs_nil)))
      (fun _ _ _ _ _ => pts_one (pt_cmpR op_eq (pe_ix (r := rIxT K) ix_tup (pv 2) pe_int (fun _ _ => rfl)) pe_str (nomark _))) (fun _ _ _ _ _ => pv 1))), ?_⟩
  obtain ⟨ga, gs, rfl, ⟨ts, ha, hp⟩, hz, q⟩ := h
  have hl : ts.length = gs.length := Paired.length hp
  refine ⟨_, rfl, ga, ts.map V.ref, rfl, .inl (.inl ha), fun Dl hD => ?_⟩
  refine lc_it walk_enumT (LcI H Dl fun i => (plc gs i).map fun i : Nat => V.int i) (lcI0 hD rfl) (fun i H1 hi p1 => .inl (.inl (p1.1 _ _ ha))) (fun i x H1 H2 hi p1 y => ?_) (fun H1 p1 => ?_)
  · obtain ⟨T, x, rfl, hT, rfl, hx⟩ := y
    obtain ⟨t, ht, rfl⟩ := refI hx
    obtain ⟨g, hgi, hge⟩ := LiI.paired_get hp ht
    have s2 : Same H (upd H1 T (.tup [.int (i : Nat), .ref t])) := p1.1.trans (same_upd hT)
    refine ⟨T, _, rfl, .inl (.inl upd_same), rfl, _, _, rfl, _, _, rfl, rfl, rfl, ?_⟩
    refine ⟨_, rfl, t, _, 0, _, rfl, rfl, .inl (.inl (s2 _ _ hge)), atI_nat (j := 0) (enG_0 g), rfl, _, rfl, ?_⟩
    have hs := plc_succ hgi
    rw [inp_dec]
    have hpl := plc_len gs i
    rw [List.length_map] at hi
    cases hw : isInp g with
    | true =>
      rw [hw, if_pos rfl] at hs
      exact ⟨_, rfl, lcPut hD p1 (same_upd hT) (by rw [List.length_map]; exact small10 (by omega)) (by rw [hs, List.map_append]; rfl)⟩
    | false =>
      rw [hw, if_neg (by decide), List.append_nil] at hs
      exact lcSkip p1 (same_upd hT) (by rw [hs])
  · have h2 : H1 Dl = some (.lst ((places gs).map fun i : Nat => V.int i)) := by
      have h := p1.2
      rw [List.length_map, hl] at h
      exact h
    exact q _ Dl p1.1 h2
/-! ### _law_lowered -/
theorem sc_law_lowered : FnScope ["_law_field_here", "_law_exponent"] ["_law_field_here", "_law_exponent"] (defScope s_law_lowered) := ⟨rfl, rfl, rfl, by decide +kernel, rfl, by decide +kernel, by decide +kernel⟩
theorem cal_law_lowered (D : DefM K mg "_law_lowered" "_law_lowered" s_law_lowered) : C8.Cal P w K mg base 1 "_law_lowered" sp_lowered [] := by
  refine calM D sc_law_lowered (fun vs H Q E h => by obtain ⟨_, i, rfl, _⟩ := h; rfl) (fun _ _ _ _ _ _ us hl => match us, hl with | [_, _], _ => rfl) fun f cdv A outer s H vs Q E hr h => ?_
  refine ⟨_, pss_one (ps_ret (pe_ifExp (pt_cmpR op_lt (pv 1) (pv 0) (nomark _)) (pv 1) (pe_op op_add pe_int (pe_op op_mod (pe_op op_sub (pv 1) pe_int) (pe_op op_sub (pv 0) pe_int))))), ?_⟩
  obtain ⟨p, e, rfl, hp, q⟩ := h
  refine ⟨_, rfl, _, rfl, _, _, rfl, rfl, _, rfl, ?_⟩
  refine ite_dec (fun h => ⟨_, rfl, ?_⟩) (fun h => ⟨_, rfl, _, _, rfl, rfl, _, rfl, _, _, rfl, rfl, _, _, rfl, rfl, ?_, _, _, rfl, rfl, ?_⟩)
  · have e1 : low p e = e := if_pos h
    show Q (.int e) H
    rw [← e1]; exact q
  · show (0 : Int) < p - 1
    omega
  · have e1 : low p e = (e - 1) % (p - 1) + 1 := if_neg h
    show Q (.int (1 + (e - 1) % (p - 1))) H
    rw [Int.add_comm, ← e1]; exact q
end
end K24
end
section
set_option autoImplicit false
set_option Elab.async false
set_option linter.all false
set_option maxRecDepth 100000
set_option maxHeartbeats 1000000
/-! the law's own forms: sums, products -/
namespace K24
open PySem PySem.Spec PyProof.Rows L2 SlX RZ
/-- a list of the pairs of F at l -/
def LP (H : Hp) (l : Addr) (F : Fm) : Prop := ∃ (ts : List Addr) (ps : List (List V)), H l = some (.lst (ts.map V.ref)) ∧ Paired (fun (t : Addr) (q : List V) => H t = some (.tup q)) ts ps ∧ Paired (PairOf H) (enF F) ps
theorem PairOf.same {H H' : Hp} (s : Same H H') {kv : List Key × V} {p : List V} (h : PairOf H kv p) : PairOf H' kv p := by
  obtain ⟨q, h1, h2⟩ := h
  exact ⟨q, h1, s _ _ h2⟩
theorem LP.push {H H2 : Hp} {l t q : Addr} {F : Fm} {e : Ex} {c : Int} (h : LP H l F) (s : Same H H2) (ht : H2 t = some (.tup [.ref q, .int c])) (hq : H2 q = some (.tup (e.map V.int))) :
    ∃ acc, H2 l = some (.lst acc) ∧ acc.length = F.length ∧ LP (upd H2 l (.lst (acc ++ [.ref t]))) l (F ++ [(e, c)]) := by
  obtain ⟨ts, ps, h1, h2, h3⟩ := h
  have e1 := s _ _ h1
  have ne : ∀ t xs, H2 t = some (.tup xs) → t ≠ l := fun t xs e z => by rw [z, e1] at e; cases e
  refine ⟨_, e1, ?_, ts ++ [t], ps ++ [[.ref q, .int c]], by rw [upd_same, List.map_append]; rfl, paired_app (paired_imp (fun t g e => ?_) h2) ?_, ?_⟩
  · have := Paired.length h2
    have := Paired.length h3
    rw [enF_len] at this
    rw [List.length_map]; omega
  · rw [upd_ne (ne _ _ (s _ _ e))]; exact s _ _ e
  · rw [upd_ne (ne _ _ ht)]; exact ht
  · have e3 : enF (F ++ [(e, c)]) = enF F ++ [(inK e, V.int c)] := by unfold enF; rw [List.map_append]; rfl
    rw [e3]
    refine paired_app (paired_imp (fun kv p h => ?_) h3) ⟨q, rfl, ?_⟩
    · obtain ⟨q', a, b⟩ := h
      exact ⟨q', a, by rw [upd_ne (ne _ _ (s _ _ b))]; exact s _ _ b⟩
    · rw [upd_ne (ne _ _ hq), hq, kV_inK]
theorem LP.same {H H2 : Hp} {l : Addr} {F : Fm} (h : LP H l F) (s : Same H H2) : LP H2 l F := by
  obtain ⟨ts, ps, h1, h2, h3⟩ := h
  exact ⟨ts, ps, s _ _ h1, paired_imp (fun _ _ e => s _ _ e) h2, paired_imp (fun _ _ e => PairOf.same s e) h3⟩
theorem LP.upd' {H : Hp} {l d : Addr} {F : Fm} {o u : HO} (h : LP H l F) (hd : H d = some u) (hu : ∀ xs, u ≠ .lst xs) (hu2 : ∀ xs, u ≠ .tup xs) : LP (upd H d o) l F := by
  obtain ⟨ts, ps, h1, h2, h3⟩ := h
  have ne : ∀ t xs, H t = some (.tup xs) → t ≠ d := fun t xs e z => by rw [z, hd] at e; exact hu2 _ (Option.some.inj e)
  refine ⟨ts, ps, ?_, paired_imp (fun t q e => ?_) h2, paired_imp (fun kv p e => ?_) h3⟩
  · rw [upd_ne (fun z => by rw [z, hd] at h1; exact hu _ (Option.some.inj h1))]; exact h1
  · rw [upd_ne (ne _ _ e)]; exact e
  · obtain ⟨q', a, b⟩ := e
    exact ⟨q', a, by rw [upd_ne (ne _ _ b)]; exact b⟩
def nzF (A : Fm) (kv : Ex × Int) : Fm := if kv.2 = 0 then A else A ++ [kv]
theorem nzF_all (F : Fm) : F.foldl nzF [] = nz F := by
  have h : ∀ (F A : Fm), F.foldl nzF A = A ++ nz F := by
    intro F
    induction F with
    | nil => intro A; simp [nz]
    | cons a F ih =>
      intro A
      rw [List.foldl_cons, ih]
      unfold nzF nz
      rw [List.filter_cons]
      by_cases e : a.2 = 0
      · rw [if_pos e, if_neg (by simp [e])]
      · rw [if_neg e, if_pos (by simp [e])]; simp
  simpa using h F []
theorem nzF_len (A : Fm) (kv : Ex × Int) : (nzF A kv).length ≤ A.length + 1 := by
  unfold nzF
  split <;> simp
def adM (p : Int) (A : Fm) (kv : Ex × Int) : Fm := put A kv.1 ((co A kv.1 + kv.2) % p)
theorem adM_len (p : Int) (A : Fm) (kv : Ex × Int) : (adM p A kv).length ≤ A.length + 1 := length_put ..
theorem addAllM_append (p : Int) (A L M : Fm) : addAllM p A (L ++ M) = addAllM p (addAllM p A L) M := List.foldl_append
/-- a key's number, where the keys are once -/
theorem dget_at {H : Hp} {a q : Addr} {F : Fm} {e : Ex} {c : Int} (h : Rd H a (.dT (enF F))) (hq : H q = some (.tup (e.map V.int))) (nd : (keys F).Nodup) (hm : (e, c) ∈ F) : DGet H a (.ref q) (some (.int c)) := by
  have h1 := dget_mem h hq (keys_mem hm)
  rw [mem_co nd hm] at h1
  exact h1
section
variable {P : Program} {w : World} {K : PySem.W.Frag} {mg : Str → Option Value} {base : Heap}
/-! ### _law_form_sum -/
theorem sc_law_form_sum : FnScope ["_law_field_here", "_law_one", "_law_other", "_law_found", "_law_key"] ["_law_field_here", "_law_one", "_law_other"] (defScope s_law_form_sum) := ⟨rfl, rfl, rfl, by decide +kernel, rfl, by decide +kernel, by decide +kernel⟩
def sp_law_form_sum : Sp := fun vs H Q _ => ∃ (p : Int) (a b : Addr) (F G : Fm), vs = [.int p, .ref a, .ref b] ∧ 0 < p ∧ H a = some (.dT (enF F)) ∧ H b = some (.dT (enF G)) ∧ (keys F).Nodup ∧ (keys G).Nodup ∧ F.length ≤ 5000 ∧ G.length ≤ 5000 ∧
  ∀ H' r, Same H H' → H' r = some (.dT (enF (sumL p F G))) → Q (.ref r) H'
theorem cal_law_form_sum (D : DefM K mg "_law_form_sum" "_law_form_sum" s_law_form_sum) (g : GB mg) : C8.Cal P w K mg base 1 "_law_form_sum" sp_law_form_sum [] := by
  refine calM D sc_law_form_sum (fun vs H Q E h => by obtain ⟨_, _, _, _, _, rfl, _⟩ := h; rfl) (fun _ _ _ _ _ _ us hl => match us, hl with | [_, _, _], _ => rfl) fun f cdv A outer s H vs Q E hr h => ?_
  refine ⟨_, pss_cons (ps_set (i := 3) sc_law_form_sum.nd rfl (Or.inr rfl) (pe_callTy (call_dictPT rfl) (by rfl) g.dict (by decide +kernel) (pa_cons (pe_listItemsT rfl (pv 1) (by rfl) g.list (by decide +kernel)) pa_nil)))
    (pss_cons (ps_lock (ps_for PassesOwn.never rfl (pi_keys (pv 2)) (pg_name (i := 4) sc_law_form_sum.nd rfl (Or.inl rfl))
      (pss_one (ps_dput (hu_of hr) (pv 3) (pv 4) (pe_op op_mod (pe_op op_add (pe_dget2 (hu_of hr) (pv 3) (pv 4) pe_int ⟨rfl, rfl, rfl, rfl⟩) (pe_dget (hu_of hr) (pv 2) (pv 4) (fun _ _ => rfl))) (pv 0)) rfl))))
    (pss_one (ps_ret (pe_callTy (call_dictPT rfl) (by rfl) g.dict (by decide +kernel) (pa_cons (pe_lock (pe_lc (own := [("_law_key", 4)]) (g := gName 4) rfl sc_law_form_sum.nd (pi_keys (pv 3))
      (blkOk_by (N := ["_law_field_here", "_law_one", "_law_other", "_law_found", "_law_key"]) (sc := defScope s_law_form_sum) (by decide +kernel)) (fun _ _ _ _ _ => pg_name (i := 4) sc_law_form_sum.nd rfl (Or.inl rfl))
      (fun _ _ _ _ _ => pts_one (pt_cmpR op_ne (pe_dget (hu_of hr) (pv 3) (pv 4) (fun _ _ => rfl)) pe_int (nomark _)))
      (fun _ _ _ _ _ => pe_tup (pa_cons (pv 4) (pa_cons (pe_dget (hu_of hr) (pv 3) (pv 4) (fun _ _ => rfl)) pa_nil))))) pa_nil))))), ?_⟩
  obtain ⟨p, a, b, F, G, rfl, hp, ha, hb, ndF, ndG, lF, lG, q⟩ := h
  refine ⟨_, rfl, a, enF F, rfl, .inl ha, fun H1 l ts ps s1 hl1 hl2 pp pt => ?_⟩
  refine ⟨l, ts, ps, _, rfl, hl2, pt, paired_imp (fun kv p h => PairOf.same s1 h) pp, hu4 hr, fun m hm => ?_⟩
  rw [mergeT_nil ndF]
  have hmH : H m = none := by
    cases e : H m with
    | none => rfl
    | some u =>
      have := s1 _ _ e
      rw [hm] at this; cases this
  have hbm : b ≠ m := fun z => by rw [z, hmH] at hb; cases hb
  have hb1 : upd H1 m (.dT (enF F)) b = some (.dT (enF G)) := by rw [upd_ne hbm]; exact s1 _ _ hb
  refine ⟨b, .dT (enF G), hb1, True.intro, fun od => ?_⟩
  refine ⟨_, rfl, b, od, rfl, .inr ⟨enF G, upd_same, ?_⟩⟩
  refine for_it walk_keysT (fun i σ H' => (∃ x, σ = [some (.int p), some (.ref a), some (.ref b), some (.ref m), x]) ∧ Same (upd H b (.frz od (.dT (enF G)))) H' ∧ H' m = some (.dT (enF (accL (adM p) F G i)))) ?_ ?_ ?_ ?_
  · refine ⟨⟨none, rfl⟩, fun d u e => ?_, ?_⟩
    · by_cases h : d = b
      · subst h; rw [upd_same] at e ⊢; exact e
      · rw [upd_ne h] at e ⊢
        rw [upd_ne (ne_of_none e hmH)]; exact s1 _ _ e
    · rw [upd_ne (Ne.symm hbm), upd_same]; rfl
  · intro i σ H' hi p1
    exact p1.2.1 _ _ upd_same
  · intro i x σ H' H2 hi p1 y
    obtain ⟨⟨x1, rfl⟩, sS, em⟩ := p1
    obtain ⟨rfl, k, v, qk, hk, rfl, hq⟩ := y
    obtain ⟨e, cc, hG, rfl, rfl⟩ := enF_get hk
    rw [kV_inK] at hq
    have dgb := dget_at (.inr ⟨od, sS _ _ upd_same⟩) hq ndG (List.mem_of_getElem? hG)
    refine ⟨_, rfl, m, rfl, .inr ⟨_, .inl em⟩, _, rfl, _, dget_enF (.inl em) hq, _, rfl, _, rfl, b, _, rfl, dgb, _, _, getD_co _ _, rfl, _, rfl, _, _, rfl, rfl, hp, _, rfl, _, rfl, m, _, rfl, .inr ⟨_, inK e, qk, em, rfl, by rw [kV_inK]; exact hq, ?_, rfl⟩, ⟨_, rfl⟩, ?_, ?_⟩
    · rw [enF_len]
      exact small10 (by have := accL_leB (adM_len p) F G i; omega)
    · refine fun d u ed => ?_
      rw [upd_ne (fun z => ?_)]
      · exact sS d u ed
      · subst z
        rw [upd_ne (Ne.symm hbm), hmH] at ed
        cases ed
    · rw [upd_same, putK_enF, accL_succ _ _ _ hG]
      rfl
  · intro σ H' p1
    obtain ⟨⟨x1, rfl⟩, sS, em⟩ := p1
    rw [enF_len, accL_all] at em
    have s2 : Same H (upd H' b (.dT (enF G))) := same_unlock hb sS
    have em2 : upd H' b (.dT (enF G)) m = some (.dT (enF (addAllM p F G))) := by rw [upd_ne (Ne.symm hbm)]; exact em
    have ndA : (keys (addAllM p F G)).Nodup := nodup_addAllM p G F ndF
    have hlA : (addAllM p F G).length ≤ 1000000 := by have := length_addAllM p G F; omega
    refine ⟨sS _ _ upd_same, ?_⟩
    refine ⟨m, .dT (enF (addAllM p F G)), em2, True.intro, fun ok => ?_⟩
    refine ⟨_, rfl, m, ok, rfl, .inr ⟨enF (addAllM p F G), upd_same, fun Lc hLc => ?_⟩⟩
    have hLm : Lc ≠ m := fun z => by rw [z, upd_same] at hLc; cases hLc
    refine lc_it walk_keysT (fun i Hq => Same (upd (upd H' b (.dT (enF G))) m (.frz ok (.dT (enF (addAllM p F G))))) Hq ∧ LP Hq Lc (accL nzF [] (addAllM p F G) i)) ⟨same_upd hLc, [], [], upd_same, .nil, .nil⟩ (fun i Hq hi p1 => p1.1 _ _ upd_same) (fun i x Hq H2 hi p1 y => ?_) (fun Hq p1 => ?_)
    · obtain ⟨rfl, kk, vv, qq, hk, rfl, hq⟩ := y
      obtain ⟨e, c, hA, rfl, rfl⟩ := enF_get hk
      rw [kV_inK] at hq
      obtain ⟨sL, lp⟩ := p1
      have rd : Rd H2 m (.dT (enF (addAllM p F G))) := .inr ⟨ok, sL _ _ upd_same⟩
      have dg := dget_at rd hq ndA (List.mem_of_getElem? hA)
      refine ⟨rfl, _, rfl, _, rfl, m, _, rfl, dg, rfl, _, rfl, ?_⟩
      have hlen := accL_le nzF_len (addAllM p F G) i
      by_cases hc : c = 0
      · rw [show (!decide (V.int c = V.int 0)) = false by rw [hc]; rfl]
        exact ⟨sL, by rw [accL_succ _ _ _ hA]; unfold nzF; rw [if_pos hc]; exact lp⟩
      · rw [show (!decide (V.int c = V.int 0)) = true by rw [int_ne hc]; rfl]
        refine ⟨_, rfl, _, rfl, _, rfl, m, _, rfl, dg, by show 2 ≤ sizeLine; decide, fun t ht => ?_⟩
        have st := same_upd (o := .tup [.ref qq, .int c]) ht
        obtain ⟨acc, a1, a2, a3⟩ := lp.push st upd_same (st _ _ hq)
        refine ⟨acc, a1, by rw [a2]; exact small7 (by omega), fun b u eu => ?_, by rw [accL_succ _ _ _ hA]; unfold nzF; rw [if_neg hc]; exact a3⟩
        rw [upd_ne (fun z => by rw [z, hLc] at eu; cases eu)]
        exact st _ _ (sL _ _ eu)
    · obtain ⟨sL, lp⟩ := p1
      rw [enF_len, accL_all, nzF_all] at lp
      have s9 : Same (upd H' b (.dT (enF G))) (upd Hq m (.dT (enF (addAllM p F G)))) := same_unlock (em2) sL
      obtain ⟨ts, ps, b1, b2, b3⟩ := lp.upd' (o := .dT (enF (addAllM p F G))) (sL _ _ upd_same) (fun _ z => by cases z) (fun _ z => by cases z)
      refine ⟨sL _ _ upd_same, Lc, ts, ps, _, rfl, b1, b2, b3, hu4 hr, fun r hr9 => ?_⟩
      refine q _ r ((s2).trans (s9.trans (same_upd hr9))) ?_
      rw [upd_same, mergeT_nil (nodup_nz ndA)]
      rfl
/-! ### _law_form_product -/
theorem pairsM_take {p : Int} {F G : Fm} {i : Nat} {e : Ex} {c : Int} (h : F[i]? = some (e, c)) : pairs p (F.take (i + 1)) G = pairs p (F.take i) G ++ G.map fun y => (addk p e y.1, c * y.2) := pairs_take h
theorem sc_law_form_product : FnScope ["_law_field_here", "_law_one", "_law_other", "_law_found", "_law_key", "_law_more", "_law_made", "_law_left", "_law_right_here"] ["_law_field_here", "_law_one", "_law_other"] (defScope s_law_form_product) := ⟨rfl, rfl, rfl, by decide +kernel, rfl, by decide +kernel, by decide +kernel⟩
def sp_law_form_product : Sp := fun vs H Q _ => ∃ (p : Int) (a b : Addr) (F G : Fm), vs = [.int p, .ref a, .ref b] ∧ 1 < p ∧ H a = some (.dT (enF F)) ∧ H b = some (.dT (enF G)) ∧ (keys F).Nodup ∧ (keys G).Nodup ∧ (∀ x ∈ F, -(2 ^ 64) < x.2 ∧ x.2 < 2 ^ 64) ∧ (∀ k ∈ keys F, k.length ≤ 100) ∧ F.length ≤ 2000 ∧ G.length ≤ 2000 ∧ (pairs p F G).length ≤ 1000000 ∧
  ∀ H' r, Same H H' → H' r = some (.dT (enF (prodL p F G))) → Q (.ref r) H'
theorem cal_law_form_product (D : DefM K mg "_law_form_product" "_law_form_product" s_law_form_product) (g : GB mg) (cl : C8.Cal P w K mg base 1 "_law_lowered" sp_lowered []) : C8.Cal P w K mg base 2 "_law_form_product" sp_law_form_product [] := by
  refine calM D sc_law_form_product (fun vs H Q E h => by obtain ⟨_, _, _, _, _, rfl, _⟩ := h; rfl) (fun _ _ _ _ _ _ us hl => match us, hl with | [_, _, _], _ => rfl) fun f cdv A outer s H vs Q E hr h => ?_
  obtain ⟨p, a, b, F, G, rfl, hp, ha, hb, ndF, ndG, hv, hkl, lF, lG, lP, q⟩ := h
  have key : ∃ t, PS (cxOf CX0 P w K mg base ["_law_field_here", "_law_one", "_law_other", "_law_found", "_law_key", "_law_more", "_law_made", "_law_left", "_law_right_here"] "_law_form_product" (defScope s_law_form_product) f cdv A outer s H E).nox ((defBody s_law_form_product).getD 1 (.Pass ⟨0, 0, 0, 0⟩)) t ∧
      ∀ (D : Ends) (oa ob : Obj) (HL : Hp) (m : Addr), m ≠ a → m ≠ b → HL a = some (.frz oa (.dT (enF F))) → HL b = some (.frz ob (.dT (enF G))) → HL m = some (.dT []) →
        (∀ σ' H', (∃ x1 x2 x3 x4 x5, σ' = [some (.int p), some (.ref a), some (.ref b), some (.ref m), x1, x2, x3, x4, x5]) → SameX m HL H' → H' m = some (.dT (enF (addAllM p [] (pairs p F G)))) → D.nx σ' H') →
        t D [some (.int p), some (.ref a), some (.ref b), some (.ref m), none, none, none, none, none] HL := by
    refine ⟨_, ps_for PassesOwn.never rfl (pi_keys (pv 1)) (pg_name (i := 4) sc_law_form_product.nd rfl (Or.inl rfl))
      (pss_one (ps_for PassesOwn.never rfl (pi_keys (pv 2)) (pg_name (i := 5) sc_law_form_product.nd rfl (Or.inl rfl))
        (pss_cons (ps_set (i := 6) sc_law_form_product.nd rfl (Or.inl rfl) (pe_callTy call_tuple_of (by rfl) g.tuple (by decide +kernel) (pa_cons
            (pe_lc (own := [("_law_left", 7), ("_law_right_here", 8)]) (g := gTup K 2 (gCons (gName 7) (gCons (gName 8) gNil))) (tt := tYes) rfl sc_law_form_product.nd (pi_zipA (by rfl) g.zip (pa_cons (pv 4) (pa_cons (pv 5) pa_nil)))
              (blkOk_by (N := ["_law_field_here", "_law_one", "_law_other", "_law_found", "_law_key", "_law_more", "_law_made", "_law_left", "_law_right_here"]) (sc := defScope s_law_form_product) (by decide +kernel))
              (fun _ _ _ _ _ => pg_tup rfl (pgs_cons (pg_name (i := 7) sc_law_form_product.nd rfl (Or.inl rfl)) (pgs_cons (pg_name (i := 8) sc_law_form_product.nd rfl (Or.inl rfl)) pgs_nil)))
              (fun _ _ _ _ _ => pts_nil)
              (fun _ _ _ _ _ => C8.pe_c cl hr (by decide) (by rfl) (pa_cons (pv 0) (pa_cons (pe_op op_add (pv 7) (pv 8)) pa_nil)))) pa_nil)))
        (pss_one (ps_dput (hu_of hr) (pv 3) (pv 6) (pe_op op_mod (pe_op op_add (pe_dget2 (hu_of hr) (pv 3) (pv 6) pe_int ⟨rfl, rfl, rfl, rfl⟩) (pe_op op_mul (pe_dget (hu_of hr) (pv 1) (pv 4) (fun _ _ => rfl)) (pe_dget (hu_of hr) (pv 2) (pv 5) (fun _ _ => rfl)))) (pv 0)) rfl))))), ?_⟩
    intro D oa ob HL m hma hmb hLa hLb hLm hD
    refine ⟨_, rfl, a, oa, rfl, .inr ⟨enF F, hLa, ?_⟩⟩
    refine for_it walk_keysT (fun i σ H' => (∃ x1 x2 x3 x4 x5, σ = [some (.int p), some (.ref a), some (.ref b), some (.ref m), x1, x2, x3, x4, x5]) ∧ SameX m HL H' ∧ H' m = some (.dT (enF (addAllM p [] (pairs p (F.take i) G))))) ?_ ?_ ?_ ?_
    · exact ⟨⟨_, _, _, _, _, rfl⟩, SameX.refl _ _, hLm⟩
    · intro i σ H' hi p1
      exact p1.2.1 _ _ (Ne.symm hma) hLa
    · intro i x σ H' H2 hi p1 y
      obtain ⟨⟨x1, x2, x3, x4, x5, rfl⟩, sX2, em2⟩ := p1
      obtain ⟨rfl, k, v, qe, hk, rfl, hq⟩ := y
      obtain ⟨e, cv, hF, rfl, rfl⟩ := enF_get hk
      rw [kV_inK] at hq
      have hqm : qe ≠ m := fun z => by rw [z, em2] at hq; cases hq
      refine ⟨_, rfl, b, ob, rfl, .inr ⟨enF G, sX2 _ _ (Ne.symm hmb) hLb, ?_⟩⟩
      refine for_it walk_keysT (fun j σ H3 => (∃ x2 x3 x4 x5, σ = [some (.int p), some (.ref a), some (.ref b), some (.ref m), some (.ref qe), x2, x3, x4, x5]) ∧ SameX m H2 H3 ∧
        H3 m = some (.dT (enF (addAllM p (addAllM p [] (pairs p (F.take i) G)) ((G.take j).map fun y => (addk p e y.1, cv * y.2)))))) ?_ ?_ ?_ ?_
      · exact ⟨⟨_, _, _, _, rfl⟩, SameX.refl _ _, em2⟩
      · intro j σ H3 hj p3
        exact p3.2.1 _ _ (Ne.symm hmb) (sX2 _ _ (Ne.symm hmb) hLb)
      · intro j x σ H3 H4 hj p3 y
        obtain ⟨⟨x2, x3, x4, x5, rfl⟩, sY, em4⟩ := p3
        obtain ⟨rfl, k, v, ql, hk2, rfl, hql4⟩ := y
        obtain ⟨l, hv2, hG, rfl, rfl⟩ := enF_get hk2
        rw [kV_inK] at hql4
        have hq4 := sY _ _ hqm hq
        refine ⟨_, rfl, _, rfl, qe, ql, e.map V.int, l.map V.int, rfl, .inr ⟨.inl (.inl hq4), .inl (.inl hql4), fun Lc hLc => ?_⟩⟩
        refine lc_it (walk_zipT rfl) (LcI H4 Lc fun i => ((addk p e l).take i).map V.int) (lcI0 hLc rfl) (fun i H5 hi5 p5 => ⟨.inl (.inl (p5.1 _ _ hq4)), .inl (.inl (p5.1 _ _ hql4))⟩) (fun n x H5 H6 hn p5 y => ?_) (fun H5 p5 => ?_)
        · obtain ⟨T3, x, z, rfl, hT3, rfl, hx, hz⟩ := y
          obtain ⟨ex, hex, rfl⟩ := getI hx
          obtain ⟨lx, hlx, rfl⟩ := getI hz
          refine ⟨T3, _, rfl, .inl (.inl upd_same), rfl, ?_⟩
          refine ⟨_, _, rfl, _, _, rfl, rfl, rfl, ?_⟩
          refine ⟨_, rfl, _, rfl, _, rfl, _, _, rfl, rfl, p, _, rfl, hp, ?_⟩
          have hadd : (addk p e l)[n]? = some (low p (ex + lx)) := by
            unfold addk
            rw [List.getElem?_zipWith, hex, hlx]
          have hlen : n < (addk p e l).length := (List.getElem?_eq_some_iff.mp hadd).1
          refine lcPut hLc p5 (same_upd hT3) ?_ ?_
          · rw [List.length_map, List.length_take]
            have h1 := hkl e (keys_mem (List.mem_of_getElem? hF))
            have h2 : (addk p e l).length ≤ e.length := by unfold addk; rw [List.length_zipWith]; omega
            exact small1000 (by omega)
          · rw [List.take_succ, hadd, List.map_append]
            rfl
        · have hl5 : H5 Lc = some (.lst ((addk p e l).map V.int)) := by
            rw [p5.2]
            have : min (e.map V.int).length (l.map V.int).length = (addk p e l).length := by unfold addk; simp
            show some (HO.lst (List.map V.int (List.take _ _))) = _
            rw [this, List.take_length]
          refine ⟨Lc, _, rfl, .inl ⟨.inl (.inl hl5), fun kt hkt => ?_⟩⟩
          have s56 : Same H4 (upd H5 kt (.tup ((addk p e l).map V.int))) := p5.1.trans (same_upd hkt)
          have em6 := s56 _ _ em4
          have hkt6 : upd H5 kt (.tup ((addk p e l).map V.int)) kt = some (.tup ((addk p e l).map V.int)) := upd_same
          have dga := dget_at (.inr ⟨oa, s56 _ _ (sY _ _ (Ne.symm hma) (sX2 _ _ (Ne.symm hma) hLa))⟩) (s56 _ _ hq4) ndF (List.mem_of_getElem? hF)
          have dgb := dget_at (.inr ⟨ob, s56 _ _ (sY _ _ (Ne.symm hmb) (sX2 _ _ (Ne.symm hmb) hLb))⟩) (s56 _ _ hql4) ndG (List.mem_of_getElem? hG)
          refine ⟨_, rfl, m, rfl, .inr ⟨_, .inl em6⟩, _, rfl, _, dget_enF (.inl em6) hkt6, _, rfl, _, rfl, a, _, rfl, dga, _, rfl, _, rfl, b, _, rfl, dgb, _, _, rfl, rfl, .inl (hv _ (List.mem_of_getElem? hF)), _, _, getD_co _ _, rfl, _, rfl, _, _, rfl, rfl, (by show 0 < p; omega), _, rfl, _, rfl, m, _, rfl, .inr ⟨_, inK (addk p e l), kt, em6, rfl, by rw [kV_inK]; exact hkt6, ?_, rfl⟩, ⟨_, _, _, _, rfl⟩, ?_, ?_⟩
          · rw [enF_len]
            have h1 := length_addAllM p (pairs p (F.take i) G) []
            have h2 := length_addAllM p ((G.take j).map fun y => (addk p e y.1, cv * y.2)) (addAllM p [] (pairs p (F.take i) G))
            rw [pairs_len, List.length_take] at h1
            rw [List.length_map, List.length_take] at h2
            rw [enF_len] at hi hj
            have h3 : (i + 1) * G.length ≤ F.length * G.length := Nat.mul_le_mul_right _ hi
            rw [Nat.succ_mul] at h3
            rw [pairs_len] at lP
            have h4 : min i F.length = i := by omega
            rw [h4, List.length_nil] at h1
            exact small7 (by omega)
          · exact (sY.then s56).set
          · rw [upd_same, putK_enF]
            congr 3
            rw [List.take_succ, hG, List.map_append, addAllM_append]
            rfl
      · intro σ H3 p3
        obtain ⟨⟨x2, x3, x4, x5, rfl⟩, sY, em3⟩ := p3
        refine ⟨⟨_, _, _, _, _, rfl⟩, fun d u hd eu => sY d u hd (sX2 d u hd eu), ?_⟩
        rw [em3, enF_len, List.take_length, pairs_take hF, addAllM_append]
    · intro σ H' p1
      obtain ⟨h1, sX, em⟩ := p1
      refine hD _ _ h1 sX ?_
      rw [em, enF_len, List.take_length]
  obtain ⟨t, ht, hread⟩ := key
  have ndA : (keys (addAllM p [] (pairs p F G))).Nodup := nodup_addAllM p _ [] List.nodup_nil
  have hlA : (addAllM p [] (pairs p F G)).length ≤ 1000000 := by have := length_addAllM p (pairs p F G) []; rw [List.length_nil] at this; omega
  by_cases hab : a = b
  · subst hab
    refine ⟨_, pss_cons (ps_set (i := 3) sc_law_form_product.nd rfl (Or.inr rfl) pe_dnewT) (pss_cons (ps_lock ht) (pss_one (ps_ret (pe_callTy (call_dictPT rfl) (by rfl) g.dict (by decide +kernel) (pa_cons (pe_lock (pe_lc (own := [("_law_key", 4)]) (g := gName 4) rfl sc_law_form_product.nd (pi_keys (pv 3))
      (blkOk_by (N := ["_law_field_here", "_law_one", "_law_other", "_law_found", "_law_key", "_law_more", "_law_made", "_law_left", "_law_right_here"]) (sc := defScope s_law_form_product) (by decide +kernel)) (fun _ _ _ _ _ => pg_name (i := 4) sc_law_form_product.nd rfl (Or.inl rfl))
      (fun _ _ _ _ _ => pts_one (pt_cmpR op_ne (pe_dget (hu_of hr) (pv 3) (pv 4) (fun _ _ => rfl)) pe_int (nomark _)))
      (fun _ _ _ _ _ => pe_tup (pa_cons (pv 4) (pa_cons (pe_dget (hu_of hr) (pv 3) (pv 4) (fun _ _ => rfl)) pa_nil))))) pa_nil))))), ?_⟩
    intro m hm
    have hma : m ≠ a := fun z => by rw [z, ha] at hm; cases hm
    have ha1 : upd H m (.dT []) a = some (.dT (enF F)) := by rw [upd_ne (Ne.symm hma)]; exact ha
    have hFG : enF F = enF G := by rw [ha] at hb; exact HO.dT.inj (Option.some.inj hb)
    refine ⟨a, .dT (enF F), ha1, True.intro, fun od => ?_⟩
    refine hread _ od od _ m hma hma upd_same (by rw [← hFG]; exact upd_same) (by rw [upd_ne hma, upd_same]) (fun σ' H' hσ sX em => ?_)
    obtain ⟨x1, x2, x3, x4, x5, rfl⟩ := hσ
    have sF : Same H (upd H' a (.dT (enF F))) := fun d u e => by
      have hdm : d ≠ m := fun z => by rw [z, hm] at e; cases e
      by_cases hda : d = a
      · subst hda; rw [ha] at e; cases e; exact upd_same
      · rw [upd_ne hda]; exact sX d u hdm (by rw [upd_ne hda, upd_ne hdm]; exact e)
    have em2 : upd H' a (.dT (enF F)) m = some (.dT (enF (addAllM p [] (pairs p F G)))) := by rw [upd_ne hma]; exact em
    refine ⟨sX _ _ (Ne.symm hma) upd_same, ?_⟩
    refine ⟨m, .dT (enF (addAllM p [] (pairs p F G))), em2, True.intro, fun ok => ?_⟩
    refine ⟨_, rfl, m, ok, rfl, .inr ⟨enF (addAllM p [] (pairs p F G)), upd_same, fun Lc hLc => ?_⟩⟩
    have hLm : Lc ≠ m := fun z => by rw [z, upd_same] at hLc; cases hLc
    refine lc_it walk_keysT (fun i Hq => Same (upd (upd H' a (.dT (enF F))) m (.frz ok (.dT (enF (addAllM p [] (pairs p F G)))))) Hq ∧ LP Hq Lc (accL nzF [] (addAllM p [] (pairs p F G)) i)) ⟨same_upd hLc, [], [], upd_same, .nil, .nil⟩ (fun i Hq hi p1 => p1.1 _ _ upd_same) (fun i x Hq H2 hi p1 y => ?_) (fun Hq p1 => ?_)
    · obtain ⟨rfl, kk, vv, qq, hk, rfl, hq⟩ := y
      obtain ⟨e, c, hA, rfl, rfl⟩ := enF_get hk
      rw [kV_inK] at hq
      obtain ⟨sL, lp⟩ := p1
      have rd : Rd H2 m (.dT (enF (addAllM p [] (pairs p F G)))) := .inr ⟨ok, sL _ _ upd_same⟩
      have dg := dget_at rd hq ndA (List.mem_of_getElem? hA)
      refine ⟨rfl, _, rfl, _, rfl, m, _, rfl, dg, rfl, _, rfl, ?_⟩
      have hlen := accL_le nzF_len (addAllM p [] (pairs p F G)) i
      by_cases hc : c = 0
      · rw [show (!decide (V.int c = V.int 0)) = false by rw [hc]; rfl]
        exact ⟨sL, by rw [accL_succ _ _ _ hA]; unfold nzF; rw [if_pos hc]; exact lp⟩
      · rw [show (!decide (V.int c = V.int 0)) = true by rw [int_ne hc]; rfl]
        refine ⟨_, rfl, _, rfl, _, rfl, m, _, rfl, dg, by show 2 ≤ sizeLine; decide, fun t ht => ?_⟩
        have st := same_upd (o := .tup [.ref qq, .int c]) ht
        obtain ⟨acc, a1, a2, a3⟩ := lp.push st upd_same (st _ _ hq)
        refine ⟨acc, a1, by rw [a2]; exact small7 (by omega), fun b u eu => ?_, by rw [accL_succ _ _ _ hA]; unfold nzF; rw [if_neg hc]; exact a3⟩
        rw [upd_ne (fun z => by rw [z, hLc] at eu; cases eu)]
        exact st _ _ (sL _ _ eu)
    · obtain ⟨sL, lp⟩ := p1
      rw [enF_len, accL_all, nzF_all] at lp
      have s9 : Same (upd H' a (.dT (enF F))) (upd Hq m (.dT (enF (addAllM p [] (pairs p F G))))) := same_unlock (em2) sL
      obtain ⟨ts, ps, b1, b2, b3⟩ := lp.upd' (o := .dT (enF (addAllM p [] (pairs p F G)))) (sL _ _ upd_same) (fun _ z => by cases z) (fun _ z => by cases z)
      refine ⟨sL _ _ upd_same, Lc, ts, ps, _, rfl, b1, b2, b3, hu4 hr, fun r hr9 => ?_⟩
      refine q _ r ((sF).trans (s9.trans (same_upd hr9))) ?_
      rw [upd_same, mergeT_nil (nodup_nz ndA)]
      rfl
  · refine ⟨_, pss_cons (ps_set (i := 3) sc_law_form_product.nd rfl (Or.inr rfl) pe_dnewT) (pss_cons (ps_lock (ps_lock ht)) (pss_one (ps_ret (pe_callTy (call_dictPT rfl) (by rfl) g.dict (by decide +kernel) (pa_cons (pe_lock (pe_lc (own := [("_law_key", 4)]) (g := gName 4) rfl sc_law_form_product.nd (pi_keys (pv 3))
      (blkOk_by (N := ["_law_field_here", "_law_one", "_law_other", "_law_found", "_law_key", "_law_more", "_law_made", "_law_left", "_law_right_here"]) (sc := defScope s_law_form_product) (by decide +kernel)) (fun _ _ _ _ _ => pg_name (i := 4) sc_law_form_product.nd rfl (Or.inl rfl))
      (fun _ _ _ _ _ => pts_one (pt_cmpR op_ne (pe_dget (hu_of hr) (pv 3) (pv 4) (fun _ _ => rfl)) pe_int (nomark _)))
      (fun _ _ _ _ _ => pe_tup (pa_cons (pv 4) (pa_cons (pe_dget (hu_of hr) (pv 3) (pv 4) (fun _ _ => rfl)) pa_nil))))) pa_nil))))), ?_⟩
    intro m hm
    have hma : m ≠ a := fun z => by rw [z, ha] at hm; cases hm
    have hmb : m ≠ b := fun z => by rw [z, hb] at hm; cases hm
    have ha1 : upd H m (.dT []) a = some (.dT (enF F)) := by rw [upd_ne (Ne.symm hma)]; exact ha
    have hb1 : ∀ o, upd (upd H m (.dT [])) a o b = some (.dT (enF G)) := fun o => by rw [upd_ne (Ne.symm hab), upd_ne (Ne.symm hmb)]; exact hb
    refine ⟨a, .dT (enF F), ha1, True.intro, fun oa => ?_⟩
    refine ⟨b, .dT (enF G), hb1 _, True.intro, fun ob => ?_⟩
    refine hread _ oa ob _ m hma hmb (by rw [upd_ne hab, upd_same]) upd_same (by rw [upd_ne hmb, upd_ne hma, upd_same]) (fun σ' H' hσ sX em => ?_)
    obtain ⟨x1, x2, x3, x4, x5, rfl⟩ := hσ
    have sF : Same H (upd (upd H' b (.dT (enF G))) a (.dT (enF F))) := fun d u e => by
      have hdm : d ≠ m := fun z => by rw [z, hm] at e; cases e
      by_cases hda : d = a
      · subst hda; rw [ha] at e; cases e; exact upd_same
      · rw [upd_ne hda]
        by_cases hdb : d = b
        · subst hdb; rw [hb] at e; cases e; exact upd_same
        · rw [upd_ne hdb]; exact sX d u hdm (by rw [upd_ne hdb, upd_ne hda, upd_ne hdm]; exact e)
    have em2 : upd (upd H' b (.dT (enF G))) a (.dT (enF F)) m = some (.dT (enF (addAllM p [] (pairs p F G)))) := by rw [upd_ne hma, upd_ne hmb]; exact em
    refine ⟨sX _ _ (Ne.symm hmb) upd_same, ?_, ?_⟩
    · rw [upd_ne hab]
      exact sX _ _ (Ne.symm hma) (by rw [upd_ne hab, upd_same])
    refine ⟨m, .dT (enF (addAllM p [] (pairs p F G))), em2, True.intro, fun ok => ?_⟩
    refine ⟨_, rfl, m, ok, rfl, .inr ⟨enF (addAllM p [] (pairs p F G)), upd_same, fun Lc hLc => ?_⟩⟩
    have hLm : Lc ≠ m := fun z => by rw [z, upd_same] at hLc; cases hLc
    refine lc_it walk_keysT (fun i Hq => Same (upd (upd (upd H' b (.dT (enF G))) a (.dT (enF F))) m (.frz ok (.dT (enF (addAllM p [] (pairs p F G)))))) Hq ∧ LP Hq Lc (accL nzF [] (addAllM p [] (pairs p F G)) i)) ⟨same_upd hLc, [], [], upd_same, .nil, .nil⟩ (fun i Hq hi p1 => p1.1 _ _ upd_same) (fun i x Hq H2 hi p1 y => ?_) (fun Hq p1 => ?_)
    · obtain ⟨rfl, kk, vv, qq, hk, rfl, hq⟩ := y
      obtain ⟨e, c, hA, rfl, rfl⟩ := enF_get hk
      rw [kV_inK] at hq
      obtain ⟨sL, lp⟩ := p1
      have rd : Rd H2 m (.dT (enF (addAllM p [] (pairs p F G)))) := .inr ⟨ok, sL _ _ upd_same⟩
      have dg := dget_at rd hq ndA (List.mem_of_getElem? hA)
      refine ⟨rfl, _, rfl, _, rfl, m, _, rfl, dg, rfl, _, rfl, ?_⟩
      have hlen := accL_le nzF_len (addAllM p [] (pairs p F G)) i
      by_cases hc : c = 0
      · rw [show (!decide (V.int c = V.int 0)) = false by rw [hc]; rfl]
        exact ⟨sL, by rw [accL_succ _ _ _ hA]; unfold nzF; rw [if_pos hc]; exact lp⟩
      · rw [show (!decide (V.int c = V.int 0)) = true by rw [int_ne hc]; rfl]
        refine ⟨_, rfl, _, rfl, _, rfl, m, _, rfl, dg, by show 2 ≤ sizeLine; decide, fun t ht => ?_⟩
        have st := same_upd (o := .tup [.ref qq, .int c]) ht
        obtain ⟨acc, a1, a2, a3⟩ := lp.push st upd_same (st _ _ hq)
        refine ⟨acc, a1, by rw [a2]; exact small7 (by omega), fun b u eu => ?_, by rw [accL_succ _ _ _ hA]; unfold nzF; rw [if_neg hc]; exact a3⟩
        rw [upd_ne (fun z => by rw [z, hLc] at eu; cases eu)]
        exact st _ _ (sL _ _ eu)
    · obtain ⟨sL, lp⟩ := p1
      rw [enF_len, accL_all, nzF_all] at lp
      have s9 : Same (upd (upd H' b (.dT (enF G))) a (.dT (enF F))) (upd Hq m (.dT (enF (addAllM p [] (pairs p F G))))) := same_unlock (em2) sL
      obtain ⟨ts, ps, b1, b2, b3⟩ := lp.upd' (o := .dT (enF (addAllM p [] (pairs p F G)))) (sL _ _ upd_same) (fun _ z => by cases z) (fun _ z => by cases z)
      refine ⟨sL _ _ upd_same, Lc, ts, ps, _, rfl, b1, b2, b3, hu4 hr, fun r hr9 => ?_⟩
      refine q _ r ((sF).trans (s9.trans (same_upd hr9))) ?_
      rw [upd_same, mergeT_nil (nodup_nz ndA)]
      rfl
end
end K24
end
section
set_option autoImplicit false
set_option Elab.async false
set_option linter.all false
set_option maxRecDepth 100000
set_option maxHeartbeats 1000000
/-! the law's own forms of all gates -/
namespace K24
open PySem PySem.Spec PyProof.Rows L2 SlX RZ
/-- a list of forms at l -/
def FL (H : Hp) (l : Addr) (fs : List Fm) : Prop := ∃ as : List Addr, H l = some (.lst (as.map V.ref)) ∧ Paired (fun a F => H a = some (.dT (enF F))) as fs
theorem FL.push {H H3 : Hp} {l a : Addr} {fs : List Fm} {F : Fm} (h : FL H l fs) (s : Same H H3) (ha : H3 a = some (.dT (enF F))) : ∃ acc, H3 l = some (.lst acc) ∧ acc.length = fs.length ∧ FL (upd H3 l (.lst (acc ++ [V.ref a]))) l (fs ++ [F]) := by
  obtain ⟨as, h1, h2⟩ := h
  have e1 := s _ _ h1
  have ne : ∀ t xs, H3 t = some (.dT xs) → t ≠ l := fun t xs e z => by rw [z, e1] at e; cases e
  refine ⟨_, e1, by rw [List.length_map]; exact Paired.length h2, as ++ [a], by rw [upd_same, List.map_append]; rfl, paired_app (paired_imp (fun t g e => ?_) h2) ?_⟩
  · rw [upd_ne (ne _ _ (s _ _ e))]; exact s _ _ e
  · rw [upd_ne (ne _ _ ha)]; exact ha
theorem FL.get {H : Hp} {l : Addr} {fs : List Fm} (h : FL H l fs) {i : Nat} (hi : i < fs.length) : ∃ (as : List Addr) (a : Addr), H l = some (.lst (as.map V.ref)) ∧ as[i]? = some a ∧ H a = some (.dT (enF (fs.getD i []))) := by
  obtain ⟨as, h1, h2⟩ := h
  have l1 := Paired.length h2
  have hi2 : i < as.length := by omega
  obtain ⟨F, e, r⟩ := LiI.paired_get h2 (List.getElem?_eq_getElem hi2)
  refine ⟨as, as[i], h1, List.getElem?_eq_getElem hi2, ?_⟩
  unfold List.getD
  rw [e]
  exact r
theorem plc_nodup (gs : List Gate) (i : Nat) : (plc gs i).Nodup := by
  unfold plc
  exact List.nodup_range.sublist List.filter_sublist
theorem letter_places {gs : List Gate} {m : Nat} {g : Gate} (hg : gs[m]? = some g) (hi : isInp g = true) : ((places gs).map fun x : Nat => if x = m then (1 : Int) else 0) = letter (nIn gs) (nIn (gs.take m)) := by
  have h1 := places_at hg hi
  have hl := places_len gs
  have nd : (places gs).Nodup := plc_nodup gs gs.length
  unfold letter
  refine List.ext_getElem (by rw [List.length_map, List.length_map, List.length_range, hl]) fun j h2 h3 => ?_
  rw [List.getElem_map, List.getElem_map, List.getElem_range]
  have hj : j < (places gs).length := by rw [List.length_map] at h2; exact h2
  by_cases e : j = nIn (gs.take m)
  · have : (places gs)[j] = m := by
      have e1 := h1.1
      rw [← e, List.getElem?_eq_getElem hj] at e1
      exact Option.some.inj e1
    rw [if_pos this, if_pos e]
  · rw [if_neg e, if_neg]
    intro z
    have e2 : (places gs)[j]? = (places gs)[nIn (gs.take m)]? := by rw [h1.1, List.getElem?_eq_getElem hj, z]
    exact e ((List.getElem?_inj hj nd).mp e2)
section
variable {P : Program} {w : World} {K : PySem.W.Frag} {mg : Str → Option Value} {base : Heap}
theorem sc_law_forms : FnScope ["_law_field_here", "_law_gates", "_law_found", "_law_places", "_law_none", "_law_at", "_law_gate", "_law_place"] ["_law_field_here", "_law_gates"] (defScope s_law_forms) := ⟨rfl, rfl, rfl, by decide +kernel, rfl, by decide +kernel, by decide +kernel⟩
structure LawOk (p : Int) (gs : List Gate) : Prop where
  ok : ∀ (i : Nat) (g : Gate), gs[i]? = some g → GOKL p (nIn gs) (formsL p gs) g
def sp_law_forms : Sp := fun vs H Q _ => ∃ (p : Int) (ga : Addr) (gs : List Gate), vs = [.int p, .ref ga] ∧ 1 < p ∧ GatesAt H ga gs ∧ GsOk gs ∧ LawOk p gs ∧ ∀ H' l, Same H H' → FL H' l (formsL p gs) → Q (.ref l) H'
theorem cal_law_forms (D : DefM K mg "_law_forms" "_law_forms" s_law_forms) (g : GB mg) (ci : C8.Cal P w K mg base 1 "_law_ci_inputs" sp_law_ci_inputs []) (cs : C8.Cal P w K mg base 1 "_law_form_sum" sp_law_form_sum []) (cp : C8.Cal P w K mg base 2 "_law_form_product" sp_law_form_product []) : C8.Cal P w K mg base 3 "_law_forms" sp_law_forms [] := by
  refine calM D sc_law_forms (fun vs H Q E h => by obtain ⟨_, _, _, rfl, _⟩ := h; rfl) (fun _ _ _ _ _ _ us hl => match us, hl with | [_, _], _ => rfl) fun f cdv A outer s H vs Q E hr h => ?_
  refine ⟨_, (pss_cons (ps_par (i := 2) (j := 3) rfl sc_law_forms.nd rfl rfl (by decide) rfl rfl (pa_cons (pe_lst pa_nil) (pa_cons (C8.pe_c ci hr (by decide) (by rfl) (pa_cons (pv 1) pa_nil)) pa_nil)) (by rfl)) (pss_cons (ps_set (i := 4) sc_law_forms.nd rfl (Or.inl rfl) (pe_op op_repA (pe_tup (pa_cons pe_int pa_nil)) (pe_callB call_len_seq (by rfl) g.len (by decide +kernel) (pa_cons (pv 3) pa_nil)))) (pss_cons (ps_for PassesOwn.never rfl (pi_enumT (by rfl) g.enumerate (pa_cons (pv 1) pa_nil)) (pg_tup rfl (pgs_cons (pg_name (i := 5) sc_law_forms.nd rfl (Or.inr rfl)) (pgs_cons (pg_name (i := 6) sc_law_forms.nd rfl (Or.inl rfl)) pgs_nil))) (pss_one (ps_if (pt_cmpR op_eq (pe_ix ix_tup (pv 6) pe_int (fun _ _ => rfl)) pe_str (nomark _)) (pss_one (ps_expr (pe_bm PySem.F.plainAttrs_list PySem.F.slot_list_append PySem.F.type_list_append mt_append (pv 2) (pa_cons (pe_dispT (hu4 hr) (pps_cons (pe_callTy call_tuple_of (by rfl) g.tuple (by decide +kernel) (pa_cons (pe_lc (own := [("_law_place", 7)]) (g := gName 7) (tt := tYes) rfl sc_law_forms.nd (pi_list (pv 3)) (blkOk_by (N := ["_law_field_here", "_law_gates", "_law_found", "_law_places", "_law_none", "_law_at", "_law_gate", "_law_place"]) (sc := defScope s_law_forms) (by decide +kernel)) (fun _ _ _ _ _ => pg_name (i := 7) sc_law_forms.nd rfl (Or.inl rfl)) (fun _ _ _ _ _ => pts_nil) (fun _ _ _ _ _ => pe_callTy call_int1 (by rfl) g.int (by decide +kernel) (pa_cons (pe_cmpR op_eq (pv 7) (pv 5) (nomark _)) pa_nil))) pa_nil)) pe_int pps_nil) (by rfl) (by rfl) (fun z => by cases z) (by decide)) pa_nil)))) (pss_one (ps_if (pt_cmpR op_eq (pe_ix ix_tup (pv 6) pe_int (fun _ _ => rfl)) pe_str (nomark _)) (pss_one (ps_expr (pe_bm PySem.F.plainAttrs_list PySem.F.slot_list_append PySem.F.type_list_append mt_append (pv 2) (pa_cons (C8.pe_c cs hr (by decide) (by rfl) (pa_cons (pv 0) (pa_cons pe_dnewT (pa_cons (pe_dispT (hu4 hr) (pps_cons (pv 4) (pe_op op_mod (pe_ix ix_tup (pv 6) pe_int (fun _ _ => rfl)) (pv 0)) pps_nil) (by rfl) (by rfl) (fun z => by cases z) (by decide)) pa_nil)))) pa_nil)))) (pss_one (ps_if (pt_cmpR op_eq (pe_ix ix_tup (pv 6) pe_int (fun _ _ => rfl)) pe_str (nomark _)) (pss_one (ps_expr (pe_bm PySem.F.plainAttrs_list PySem.F.slot_list_append PySem.F.type_list_append mt_append (pv 2) (pa_cons (C8.pe_c cs hr (by decide) (by rfl) (pa_cons (pv 0) (pa_cons (pe_ix ix_list (pv 2) (pe_ix ix_tup (pv 6) pe_int (fun _ _ => rfl)) (fun _ _ => rfl)) (pa_cons (pe_ix ix_list (pv 2) (pe_ix ix_tup (pv 6) pe_int (fun _ _ => rfl)) (fun _ _ => rfl)) pa_nil)))) pa_nil)))) (pss_one (ps_if (pt_cmpR op_eq (pe_ix ix_tup (pv 6) pe_int (fun _ _ => rfl)) pe_str (nomark _)) (pss_one (ps_expr (pe_bm PySem.F.plainAttrs_list PySem.F.slot_list_append PySem.F.type_list_append mt_append (pv 2) (pa_cons (C8.pe_c cp hr (by decide) (by rfl) (pa_cons (pv 0) (pa_cons (pe_ix ix_list (pv 2) (pe_ix ix_tup (pv 6) pe_int (fun _ _ => rfl)) (fun _ _ => rfl)) (pa_cons (C8.pe_c cs hr (by decide) (by rfl) (pa_cons (pv 0) (pa_cons pe_dnewT (pa_cons (pe_dispT (hu4 hr) (pps_cons (pv 4) (pe_op op_mod (pe_ix ix_tup (pv 6) pe_int (fun _ _ => rfl)) (pv 0)) pps_nil) (by rfl) (by rfl) (fun z => by cases z) (by decide)) pa_nil)))) pa_nil)))) pa_nil)))) (pss_one (ps_expr (pe_bm PySem.F.plainAttrs_list PySem.F.slot_list_append PySem.F.type_list_append mt_append (pv 2) (pa_cons (C8.pe_c cp hr (by decide) (by rfl) (pa_cons (pv 0) (pa_cons (pe_ix ix_list (pv 2) (pe_ix ix_tup (pv 6) pe_int (fun _ _ => rfl)) (fun _ _ => rfl)) (pa_cons (pe_ix ix_list (pv 2) (pe_ix ix_tup (pv 6) pe_int (fun _ _ => rfl)) (fun _ _ => rfl)) pa_nil)))) pa_nil))))))))))))) (pss_one (ps_ret (pv 2)))))), ?_⟩
  obtain ⟨p, ga, gs, rfl, hp, hg, ok, lok, q⟩ := h
  obtain ⟨ts, ha, hpr⟩ := id hg
  have hl : ts.length = gs.length := Paired.length hpr
  have h60 := ok.few
  have hp0 : 0 < p := by omega
  refine ⟨Nat.zero_le _, fun fl hfl => ⟨_, rfl, ga, gs, rfl, hg.same (same_upd hfl), by omega, fun H1 pl s1 hpl => ⟨_, _, rfl, ?_⟩⟩⟩
  refine ⟨by show 1 ≤ sizeLine; decide, fun t0 ht0 => ⟨_, rfl, pl, _, rfl, .inl (.inl (.inl ((same_upd ht0) _ _ hpl))), t0, _, [.int 0], rfl, rfl, upd_same, by simp, by omega, ?_, by simp, fun tn H3 s3 htn => ?_⟩⟩
  · rw [List.length_map, places_len]
    have := ok.inps
    omega
  have htn2 : H3 tn = some (.tup ((zeros (nIn gs)).map V.int)) := by
    rw [htn]
    have e : (((((places gs).map fun i : Nat => V.int i).length : Nat) : Int)).toNat = nIn gs := by rw [List.length_map, places_len]; omega
    rw [e, zeros_rep]
  have s03 : Same H H3 := (((same_upd hfl).trans s1).trans (same_upd ht0)).trans s3
  have hfl3 : H3 fl = some (.lst []) := s3 _ _ ((same_upd ht0) _ _ (s1 _ _ upd_same))
  have hpl3 : H3 pl = some (.lst ((places gs).map fun i : Nat => V.int i)) := s3 _ _ ((same_upd ht0) _ _ hpl)
  have hpf : pl ≠ fl ∨ (places gs) = [] := by
    by_cases e : pl = fl
    · right
      rw [e, hfl3] at hpl3
      have h1 : ([] : List V) = (places gs).map fun i : Nat => V.int i := HO.lst.inj (Option.some.inj hpl3)
      exact List.map_eq_nil_iff.mp h1.symm
    · exact .inl e
  have hnew : ∀ b u, H b = some u → b ≠ fl := fun b u e z => by rw [z, hfl] at e; cases e
  refine ⟨_, rfl, ga, ts.map V.ref, rfl, .inl (.inl (s03 _ _ ha)), ?_⟩
  refine for_it (walk_enumT (xs := ts.map V.ref)) (fun i σ H' => (∃ x y, σ = [some (.int p), some (.ref ga), some (.ref fl), some (.ref pl), some (.ref tn), x, y, none]) ∧ SameX fl H3 H' ∧ FL H' fl ((formsL p gs).take i)) ?_ ?_ ?_ ?_
  · exact ⟨⟨_, _, rfl⟩, SameX.refl _ _, [], hfl3, .nil⟩
  · intro i σ H' hi p1
    exact .inl (.inl (p1.2.1 _ _ (hnew _ _ ha) (s03 _ _ ha)))
  · intro i x σ H' H2 hi p1 y
    obtain ⟨⟨x, y1, rfl⟩, sX, fL⟩ := p1
    obtain ⟨T, x1, rfl, hT, rfl, hx⟩ := y
    obtain ⟨t, ht, rfl⟩ := refI hx
    obtain ⟨g, hgi, hge⟩ := LiI.paired_get hpr ht
    rw [List.length_map, hl] at hi
    have sT := same_upd (o := .tup [.int (i : Nat), .ref t]) hT
    have hfm := formsL_get (p := p) ok hgi
    have hfl' : ∃ as : List Addr, H' fl = some (.lst (as.map V.ref)) := ⟨fL.choose, fL.choose_spec.1⟩
    have ht2 : (upd H' T (.tup [.int (i : Nat), .ref t])) t = some (.tup (enG g)) := sT _ _ (sX _ _ (hnew _ _ hge) (s03 _ _ hge))
    have htn2 : (upd H' T (.tup [.int (i : Nat), .ref t])) tn = some (.tup ((zeros (nIn gs)).map V.int)) := sT _ _ (sX _ _ (fun z => by rw [z, hfl3] at htn2; cases htn2) htn2)
    have htn3 : (upd H' T (.tup [.int (i : Nat), .ref t])) tn = some (.tup ((inK (zeros (nIn gs))).map kV)) := by rw [kV_inK]; exact htn2
    obtain ⟨as0, hfl0⟩ := hfl'
    have hfl1 : (upd H' T (.tup [.int (i : Nat), .ref t])) fl = some (.lst (as0.map V.ref)) := sT _ _ hfl0
    have htk : (formsL p gs).take (i + 1) = (formsL p gs).take i ++ [fgateL p (nIn gs) (nIn (gs.take i)) (formsL p gs) g] := by rw [List.take_succ, hfm]; rfl
    have hti : ((formsL p gs).take i).length = i := by rw [List.length_take, formsL_len]; omega
    have fetch : ∀ a, a < i → ∃ (as : List Addr) (b : Addr), (upd H' T (.tup [.int (i : Nat), .ref t])) fl = some (.lst (as.map V.ref)) ∧ as[a]? = some b ∧ (upd H' T (.tup [.int (i : Nat), .ref t])) b = some (.dT (enF ((formsL p gs).getD a []))) := fun a h => by
      obtain ⟨as, b, e1, e2, e3⟩ := fL.get (i := a) (by rw [hti]; exact h)
      refine ⟨as, b, sT _ _ e1, e2, sT _ _ ?_⟩
      rw [e3]
      unfold List.getD
      rw [List.getElem?_take, if_pos h]
    have fin : ∀ (H5 : Hp) (a : Addr) (F : Fm), Same (upd H' T (.tup [.int (i : Nat), .ref t])) H5 → H5 a = some (.dT (enF F)) → F = fgateL p (nIn gs) (nIn (gs.take i)) (formsL p gs) g → ∃ l xs y, V.ref fl = .ref l ∧ [V.ref a] = [y] ∧ H5 l = some (.lst xs) ∧ xs.length < sizeLine ∧
        ((∃ x y, [some (V.int p), some (V.ref ga), some (V.ref fl), some (V.ref pl), some (V.ref tn), some (V.int (i : Nat)), some (V.ref t), none] = [some (.int p), some (.ref ga), some (.ref fl), some (.ref pl), some (.ref tn), x, y, none]) ∧ SameX fl H3 (upd H5 l (.lst (xs ++ [y]))) ∧ FL (upd H5 l (.lst (xs ++ [y]))) fl ((formsL p gs).take (i + 1))) := fun H5 a F s5 ha5 hF => by
      obtain ⟨acc, a1, a2, a3⟩ := fL.push (sT.trans s5) ha5
      refine ⟨fl, acc, _, rfl, rfl, a1, by rw [a2, hti]; exact small1000 (by omega), ⟨_, _, rfl⟩, (sX.then (sT.trans s5)).set, ?_⟩
      rw [htk, ← hF]
      exact a3
    have gk := lok.ok i g hgi
    have gok := ok.ok i g hgi
    refine ⟨T, _, rfl, .inl (.inl upd_same), rfl, ?_⟩
    refine ⟨_, _, rfl, _, _, rfl, rfl, ?_⟩
    cases g with
    | inp h =>
      refine ⟨_, rfl, t, _, 0, _, rfl, rfl, .inl (.inl ht2), atI_nat (j := 0) rfl, rfl, _, rfl, ?_⟩
      rw [str_eq]
      refine ⟨_, rfl, .inl ⟨rfl, _, .inl (.inl hfl1)⟩, fun d hd => ?_⟩
      have hne : pl ≠ fl := by
        rcases hpf with h | h
        · exact h
        · have := (places_at hgi rfl).1
          rw [h] at this
          cases this
      have hpl5 := (same_upd (o := .dT []) hd) _ _ (sT _ _ (sX _ _ hne hpl3))
      refine ⟨_, rfl, pl, rfl, ⟨_, .inl (.inl hpl5)⟩, fun Dl hDl => ?_⟩
      refine lc_it (walk_list (xs := (places gs).map fun i : Nat => V.int i)) (LcI _ Dl fun j => (((places gs).map fun x : Nat => if x = i then (1 : Int) else 0).take j).map V.int) (lcI0 hDl rfl) (fun j H5 hj p5 => .inl (.inl (p5.1 _ _ hpl5))) (fun j x H5 H6 hj p5 y => ?_) (fun H5 p5 => ?_)
      · obtain ⟨rfl, hx⟩ := y
        obtain ⟨a, ha2, rfl⟩ := intN hx
        refine ⟨rfl, _, rfl, _, rfl, rfl, .inr ⟨_, rfl, ?_⟩⟩
        have e7 : ((places gs).map fun x : Nat => if x = i then (1 : Int) else 0)[j]? = some (if a = i then (1 : Int) else 0) := by rw [List.getElem?_map, ha2]; rfl
        refine lcPut hDl p5 (Same.refl _) (by rw [List.length_map, List.length_take, List.length_map, places_len]; have := ok.inps; exact small1000 (by omega)) ?_
        rw [List.take_succ, e7, List.map_append]
        congr 1
        show [V.int (if a = i then 1 else 0)] = [V.int (if decide (V.int (a : Int) = V.int ((i : Nat) : Int)) = true then 1 else 0)]
        by_cases e : a = i
        · rw [if_pos e, if_pos (decide_eq_true (by rw [e]))]
        · rw [if_neg e, if_neg (by rw [decide_eq_true_eq]; intro z; have := V.int.inj z; omega)]
      · have hl5 : H5 Dl = some (.lst ((letter (nIn gs) (nIn (gs.take i))).map V.int)) := by
          have h := p5.2
          rw [List.length_map] at h
          rw [h, ← letter_places hgi rfl]
          show some (HO.lst ((((places gs).map fun x : Nat => if x = i then (1 : Int) else 0).take (places gs).length).map V.int)) = _
          rw [List.take_of_length_le (by rw [List.length_map]; exact Nat.le_refl _)]
        refine ⟨Dl, _, rfl, .inl ⟨.inl (.inl hl5), fun kt hkt => ?_⟩⟩
        have s6 := p5.1.trans (same_upd (o := .tup ((letter (nIn gs) (nIn (gs.take i))).map V.int)) hkt)
        refine ⟨s6 _ _ upd_same, [(inK (letter (nIn gs) (nIn (gs.take i))), .int 1)], .cons ⟨kt, rfl, by rw [upd_same, kV_inK], rfl⟩ .nil, by show 1 ≤ 15; decide, True.intro, ?_⟩
        exact fin _ d (letterC (nIn gs) (nIn (gs.take i))) (same_set hd ((same_upd hd).trans s6)) upd_same rfl
    | const c =>
      refine ⟨_, rfl, t, _, 0, _, rfl, rfl, .inl (.inl ht2), atI_nat (j := 0) rfl, rfl, _, rfl, ?_⟩
      rw [str_ne (by decide +kernel)]
      refine ⟨_, rfl, t, _, 0, _, rfl, rfl, .inl (.inl ht2), atI_nat (j := 0) rfl, rfl, _, rfl, ?_⟩
      rw [str_eq]
      refine ⟨_, rfl, .inl ⟨rfl, _, .inl (.inl hfl1)⟩, _, rfl, fun d0 hd0 => fun d1 hd1 => ⟨_, rfl, _, rfl, t, _, 1, _, rfl, rfl, .inl (.inl ((same_upd hd1) _ _ ((same_upd hd0) _ _ ht2))), atI_nat (j := 1) rfl, _, rfl, _, _, rfl, rfl, hp0, upd_same, [(inK (zeros (nIn gs)), .int (c % p))], .cons ⟨tn, rfl, (same_upd hd1) _ _ ((same_upd hd0) _ _ htn3), rfl⟩ .nil, (by show 1 ≤ 15; decide), True.intro,
        p, d0, d1, [], [(zeros (nIn gs), c % p)], rfl, hp0, (by rw [upd_ne (ne_of_none upd_same hd1), upd_ne (ne_of_none upd_same hd1), upd_same]; rfl), upd_same, List.nodup_nil, (by simp [keys]), Nat.zero_le _, (by show 1 ≤ 5000; decide), fun H5 r s5 hr5 => ?_⟩⟩
      exact fin _ r _ (((same_upd hd0).trans (same_set hd1 (same_upd hd1))).trans s5) hr5 rfl
    | sum a b =>
      have gok2 : a < i ∧ b < i := gok
      obtain ⟨as1, b1, a1, a2, a3⟩ := fetch a gok2.1
      obtain ⟨as2, b2, c1, c2, c3⟩ := fetch b gok2.2
      obtain ⟨k1, k2, k3, k4⟩ := gk
      refine ⟨_, rfl, t, _, 0, _, rfl, rfl, .inl (.inl ht2), atI_nat (j := 0) rfl, rfl, _, rfl, ?_⟩
      rw [str_ne (by decide +kernel)]
      refine ⟨_, rfl, t, _, 0, _, rfl, rfl, .inl (.inl ht2), atI_nat (j := 0) rfl, rfl, _, rfl, ?_⟩
      rw [str_ne (by decide +kernel)]
      refine ⟨_, rfl, t, _, 0, _, rfl, rfl, .inl (.inl ht2), atI_nat (j := 0) rfl, rfl, _, rfl, ?_⟩
      rw [str_eq]
      refine ⟨_, rfl, .inl ⟨rfl, _, .inl (.inl hfl1)⟩, _, rfl, _, rfl, _, rfl, t, _, 1, _, rfl, rfl, .inl (.inl ht2), atI_nat (j := 1) rfl, fl, _, _, _, rfl, rfl, .inl (.inl a1), atI_nat (by rw [List.getElem?_map, a2]; rfl), _, rfl, _, rfl, t, _, 2, _, rfl, rfl, .inl (.inl ht2), atI_nat (j := 2) rfl, fl, _, _, _, rfl, rfl, .inl (.inl c1), atI_nat (by rw [List.getElem?_map, c2]; rfl), p, b1, b2, _, _, rfl, hp0, a3, c3, k1, k2, k3, k4, fun H5 r s5 hr5 => ?_⟩
      exact fin _ r _ s5 hr5 rfl
    | times a c =>
      have gok2 : a < i ∧ _ := gok
      obtain ⟨as1, b1, a1, a2, a3⟩ := fetch a gok2.1
      obtain ⟨k1, k2, k3, k4, k5, k6, k7⟩ := gk
      refine ⟨_, rfl, t, _, 0, _, rfl, rfl, .inl (.inl ht2), atI_nat (j := 0) rfl, rfl, _, rfl, ?_⟩
      rw [str_ne (by decide +kernel)]
      refine ⟨_, rfl, t, _, 0, _, rfl, rfl, .inl (.inl ht2), atI_nat (j := 0) rfl, rfl, _, rfl, ?_⟩
      rw [str_ne (by decide +kernel)]
      refine ⟨_, rfl, t, _, 0, _, rfl, rfl, .inl (.inl ht2), atI_nat (j := 0) rfl, rfl, _, rfl, ?_⟩
      rw [str_ne (by decide +kernel)]
      refine ⟨_, rfl, t, _, 0, _, rfl, rfl, .inl (.inl ht2), atI_nat (j := 0) rfl, rfl, _, rfl, ?_⟩
      rw [str_eq]
      refine ⟨_, rfl, .inl ⟨rfl, _, .inl (.inl hfl1)⟩, _, rfl, _, rfl, _, rfl, t, _, 1, _, rfl, rfl, .inl (.inl ht2), atI_nat (j := 1) rfl, fl, _, _, _, rfl, rfl, .inl (.inl a1), atI_nat (by rw [List.getElem?_map, a2]; rfl), _, rfl, fun d0 hd0 => fun d1 hd1 => ⟨_, rfl, _, rfl, t, _, 2, _, rfl, rfl, .inl (.inl ((same_upd hd1) _ _ ((same_upd hd0) _ _ ht2))), atI_nat (j := 2) rfl, _, rfl, _, _, rfl, rfl, hp0, upd_same, [(inK (zeros (nIn gs)), .int (c % p))], .cons ⟨tn, rfl, (same_upd hd1) _ _ ((same_upd hd0) _ _ htn3), rfl⟩ .nil, (by show 1 ≤ 15; decide), True.intro,
        p, d0, d1, [], [(zeros (nIn gs), c % p)], rfl, hp0, (by rw [upd_ne (ne_of_none upd_same hd1), upd_ne (ne_of_none upd_same hd1), upd_same]; rfl), upd_same, List.nodup_nil, (by simp [keys]), Nat.zero_le _, (by show 1 ≤ 5000; decide), fun H5 r s5 hr5 => ?_⟩⟩
      have s6 := ((same_upd hd0).trans (same_set hd1 (same_upd hd1))).trans s5
      refine ⟨p, b1, r, _, cstL p (nIn gs) c, rfl, hp, s6 _ _ a3, hr5, k1, k2, k3, k4, k5, k6, k7, fun H6 r6 s7 hr6 => ?_⟩
      exact fin _ r6 _ (s6.trans s7) hr6 rfl
    | prod a b =>
      have gok2 : a < i ∧ b < i := gok
      obtain ⟨as1, b1, a1, a2, a3⟩ := fetch a gok2.1
      obtain ⟨as2, b2, c1, c2, c3⟩ := fetch b gok2.2
      obtain ⟨k1, k2, k3, k4, k5, k6, k7⟩ := gk
      refine ⟨_, rfl, t, _, 0, _, rfl, rfl, .inl (.inl ht2), atI_nat (j := 0) rfl, rfl, _, rfl, ?_⟩
      rw [str_ne (by decide +kernel)]
      refine ⟨_, rfl, t, _, 0, _, rfl, rfl, .inl (.inl ht2), atI_nat (j := 0) rfl, rfl, _, rfl, ?_⟩
      rw [str_ne (by decide +kernel)]
      refine ⟨_, rfl, t, _, 0, _, rfl, rfl, .inl (.inl ht2), atI_nat (j := 0) rfl, rfl, _, rfl, ?_⟩
      rw [str_ne (by decide +kernel)]
      refine ⟨_, rfl, t, _, 0, _, rfl, rfl, .inl (.inl ht2), atI_nat (j := 0) rfl, rfl, _, rfl, ?_⟩
      rw [str_ne (by decide +kernel)]
      refine ⟨_, rfl, .inl ⟨rfl, _, .inl (.inl hfl1)⟩, _, rfl, _, rfl, _, rfl, t, _, 1, _, rfl, rfl, .inl (.inl ht2), atI_nat (j := 1) rfl, fl, _, _, _, rfl, rfl, .inl (.inl a1), atI_nat (by rw [List.getElem?_map, a2]; rfl), _, rfl, _, rfl, t, _, 2, _, rfl, rfl, .inl (.inl ht2), atI_nat (j := 2) rfl, fl, _, _, _, rfl, rfl, .inl (.inl c1), atI_nat (by rw [List.getElem?_map, c2]; rfl), p, b1, b2, _, _, rfl, hp, a3, c3, k1, k2, k3, k4, k5, k6, k7, fun H5 r s5 hr5 => ?_⟩
      exact fin _ r _ s5 hr5 rfl
  · intro σ H' p1
    obtain ⟨⟨x, y, rfl⟩, sX, fL⟩ := p1
    rw [List.length_map, hl] at fL
    rw [List.take_of_length_le (by rw [formsL_len]; exact Nat.le_refl _)] at fL
    exact ⟨_, rfl, q _ fl (fun b u e => sX b u (hnew b u e) (s03 b u e)) fL⟩
end
end K24
end
section
set_option autoImplicit false
set_option Elab.async false
set_option linter.all false
set_option maxRecDepth 100000
set_option maxHeartbeats 1000000
/-! the law's value of a form; the gates drawn -/
namespace K24
open PySem PySem.Spec PyProof.Rows L2 SlX RZ
theorem uu' {H1 H2 H3 H4 : Hp} {t : Addr} {o : HO} (a : Same (upd H1 t o) H2) (b : Same H2 H3) (c : Same H3 H4) : H4 t = some o := c _ _ (b _ _ (a _ _ upd_same))
theorem fold_range {α : Type} {p : Int} (hp : 0 < p) (f : Int → α → Int) (hf : ∀ m a, 0 ≤ f m a ∧ f m a < p) : ∀ (xs : List α) (c : Int), 0 ≤ c ∧ c < p → 0 ≤ xs.foldl f c ∧ xs.foldl f c < p
  | [], c, h => h
  | x :: xs, c, h => fold_range hp f hf xs _ (hf c x)
def mdF (p : Int) (m : Int) (en : Int × Int) : Int := m * en.2 ^ en.1.toNat % p
theorem mdF_range {p : Int} (hp : 0 < p) (m : Int) (en : Int × Int) : 0 ≤ mdF p m en ∧ mdF p m en < p := ⟨Int.emod_nonneg _ (by omega), Int.emod_lt_of_pos _ hp⟩
def vlF (p : Int) (nums : List Int) (acc : Int) (kv : Ex × Int) : Int := (acc + madeL p kv.2 kv.1 nums) % p
section
variable {P : Program} {w : World} {K : PySem.W.Frag} {mg : Str → Option Value} {base : Heap}
theorem sc_law_form_value : FnScope ["_law_field_here", "_law_form", "_law_numbers", "_law_found", "_law_key", "_law_made", "_law_exponent", "_law_number"] ["_law_field_here", "_law_form", "_law_numbers"] (defScope s_law_form_value) := ⟨rfl, rfl, rfl, by decide +kernel, rfl, by decide +kernel, by decide +kernel⟩
def sp_law_form_value : Sp := fun vs H Q _ => ∃ (p : Int) (a t : Addr) (F : Fm) (nums : List Int), vs = [.int p, .ref a, .ref t] ∧ 0 < p ∧ p ≤ 1000 ∧ H a = some (.dT (enF F)) ∧ (keys F).Nodup ∧ (∀ x ∈ F, 0 ≤ x.2 ∧ x.2 < p) ∧ (∀ k ∈ keys F, ∀ e ∈ k, 0 ≤ e ∧ e < 2 ^ 30) ∧
  H t = some (.tup (nums.map V.int)) ∧ (∀ x ∈ nums, 0 ≤ x ∧ x < p) ∧ ∀ H', Same H H' → Q (.int (valL p F nums)) H'
theorem cal_law_form_value (D : DefM K mg "_law_form_value" "_law_form_value" s_law_form_value) (g : GB mg) (cf : C8.Cal P w K mg base 1 "_law_fd_times" sp_law_fd_times []) : C8.Cal P w K mg base 2 "_law_form_value" sp_law_form_value [] := by
  refine calM D sc_law_form_value (fun vs H Q E h => by obtain ⟨_, _, _, _, _, rfl, _⟩ := h; rfl) (fun _ _ _ _ _ _ us hl => match us, hl with | [_, _, _], _ => rfl) fun f cdv A outer s H vs Q E hr h => ?_
  refine ⟨_, pss_cons (ps_set (i := 3) sc_law_form_value.nd rfl (Or.inl rfl) pe_int)
    (pss_cons (ps_lock (ps_for PassesOwn.never rfl (pi_keys (pv 1)) (pg_name (i := 4) sc_law_form_value.nd rfl (Or.inl rfl))
      (pss_cons (ps_set (i := 5) sc_law_form_value.nd rfl (Or.inl rfl) (pe_dget (hu_of hr) (pv 1) (pv 4) (fun _ _ => rfl)))
      (pss_cons (ps_for PassesOwn.never rfl (pi_zipA (by rfl) g.zip (pa_cons (pv 4) (pa_cons (pv 2) pa_nil))) (pg_tup rfl (pgs_cons (pg_name (i := 6) sc_law_form_value.nd rfl (Or.inl rfl)) (pgs_cons (pg_name (i := 7) sc_law_form_value.nd rfl (Or.inl rfl)) pgs_nil)))
        (pss_one (ps_set (i := 5) sc_law_form_value.nd rfl (Or.inl rfl) (pe_op op_mod (pe_op op_mul (pv 5) (C8.pe_c cf hr (by decide) (by rfl) (pa_cons (pv 7) (pa_cons (pv 6) pa_nil)))) (pv 0)))))
      (pss_one (ps_set (i := 3) sc_law_form_value.nd rfl (Or.inl rfl) (pe_op op_mod (pe_op op_add (pv 3) (pv 5)) (pv 0))))))))
    (pss_one (ps_ret (pv 3)))), ?_⟩
  obtain ⟨p, a, t, F, nums, rfl, hp, hp2, ha, nd, hv, he, ht, hn, q⟩ := h
  refine ⟨a, .dT (enF F), ha, True.intro, fun od => ?_⟩
  refine ⟨_, rfl, a, od, rfl, .inr ⟨enF F, upd_same, ?_⟩⟩
  have hta : t ≠ a := fun z => by rw [z, ha] at ht; cases ht
  refine for_it walk_keysT (fun i σ H' => (∃ x1 x2 x3 x4, σ = [some (.int p), some (.ref a), some (.ref t), some (.int (accL (vlF p nums) 0 F i)), x1, x2, x3, x4]) ∧ Same (upd H a (.frz od (.dT (enF F)))) H') ?_ ?_ ?_ ?_
  · exact ⟨⟨_, _, _, _, rfl⟩, Same.refl _⟩
  · intro i σ H' hi p1
    exact p1.2 _ _ upd_same
  · intro i x σ H' H2 hi p1 y
    obtain ⟨⟨x1, x2, x3, x4, rfl⟩, sS⟩ := p1
    obtain ⟨rfl, k, v, qk, hk, rfl, hq⟩ := y
    obtain ⟨e, c, hF, rfl, rfl⟩ := enF_get hk
    rw [kV_inK] at hq
    have hmem := List.mem_of_getElem? hF
    have hc := hv _ hmem
    have hex := he _ (keys_mem hmem)
    have dg := dget_at (.inr ⟨od, sS _ _ upd_same⟩) hq nd hmem
    have ht2 := sS _ _ (show upd H a (.frz od (.dT (enF F))) t = some (.tup (nums.map V.int)) by rw [upd_ne hta]; exact ht)
    refine ⟨_, rfl, _, rfl, a, _, rfl, dg, ?_⟩
    refine ⟨_, rfl, _, rfl, qk, t, e.map V.int, nums.map V.int, rfl, .inr ⟨.inl (.inl hq), .inl (.inl ht2), ?_⟩⟩
    refine for_it (walk_zipT (xs := e.map V.int) (ys := nums.map V.int) rfl) (fun j σ H3 => (∃ x3 x4, σ = [some (.int p), some (.ref a), some (.ref t), some (.int (accL (vlF p nums) 0 F i)), some (.ref qk), some (.int (accL (mdF p) c (e.zip nums) j)), x3, x4]) ∧ Same H2 H3) ?_ ?_ ?_ ?_
    · exact ⟨⟨_, _, rfl⟩, Same.refl _⟩
    · intro j σ H3 hj p3
      exact ⟨.inl (.inl (p3.2 _ _ hq)), .inl (.inl (p3.2 _ _ ht2))⟩
    · intro j x σ H3 H4 hj p3 y
      obtain ⟨⟨x3, x4, rfl⟩, s3⟩ := p3
      obtain ⟨T, x, z, rfl, hT, rfl, hx, hz⟩ := y
      obtain ⟨ex, hex2, rfl⟩ := getI hx
      obtain ⟨nx, hnx, rfl⟩ := getI hz
      have hb := hn nx (List.mem_of_getElem? hnx)
      have hb2 := hex ex (List.mem_of_getElem? hex2)
      obtain ⟨n, rfl⟩ : ∃ n : Nat, ex = (n : Int) := ⟨ex.toNat, by omega⟩
      have hm := fold_range hp (mdF p) (mdF_range hp) ((e.zip nums).take j) c hc
      refine ⟨T, _, rfl, .inl (.inl upd_same), rfl, _, _, rfl, _, _, rfl, rfl, ?_⟩
      refine ⟨_, rfl, _, rfl, _, rfl, nx, n, rfl, hb.1, by omega, by omega, ?_⟩
      refine ⟨_, _, rfl, rfl, .inl ⟨by show -(2 ^ 64) < accL (mdF p) c (e.zip nums) j; unfold accL; omega, by show accL (mdF p) c (e.zip nums) j < 2 ^ 64; unfold accL; omega⟩, _, rfl, _, _, rfl, rfl, hp, ⟨some (.int ((n : Nat) : Int)), some (.int nx), ?_⟩, s3.trans (same_upd hT)⟩
      have hz2 : (e.zip nums)[j]? = some ((n : Int), nx) := by
        rw [List.getElem?_zip_eq_some]
        exact ⟨hex2, hnx⟩
      rw [accL_succ _ _ _ hz2]
      rfl
    · intro σ H3 p3
      obtain ⟨⟨x3, x4, rfl⟩, s3⟩ := p3
      have hl : min (e.map V.int).length (nums.map V.int).length = (e.zip nums).length := by simp
      rw [hl, accL_all]
      refine ⟨_, rfl, _, rfl, _, _, rfl, rfl, _, rfl, _, _, rfl, rfl, hp, ⟨some (.ref qk), some (.int ((e.zip nums).foldl (mdF p) c)), x3, x4, ?_⟩, sS.trans s3⟩
      rw [accL_succ _ _ _ hF]
      rfl
  · intro σ H' p1
    obtain ⟨⟨x1, x2, x3, x4, rfl⟩, sS⟩ := p1
    refine ⟨sS _ _ upd_same, _, rfl, ?_⟩
    rw [enF_len, accL_all]
    exact q _ (same_unlock ha sS)
/-! ### _law_gates_drawn -/
theorem sc_law_gates_drawn : FnScope ["_law_dice_here", "_law_field_here", "_law_gates", "_law_turn"] ["_law_dice_here", "_law_field_here"] (defScope s_law_gates_drawn) := ⟨rfl, rfl, rfl, by decide +kernel, rfl, by decide +kernel, by decide +kernel⟩
def sp_law_gates_drawn : Sp := fun vs H Q _ => ∃ (d : Addr) (p : Int), vs = [.ref d, .int p] ∧ DiceAt H d ∧ FieldOk p ∧ ∀ H' t gs, SameX d H H' → DiceAt H' d → GatesAt H' t gs → Drawn gs → Q (.ref t) H'
theorem cal_law_gates_drawn (D : DefM K mg "_law_gates_drawn" "_law_gates_drawn" s_law_gates_drawn) (g : GB mg) (cr : C8.Cal P w K mg base 1 "_law_roll" sp_law_roll []) (cp : C8.Cal P w K mg base 2 "_law_pick" sp_law_pick []) (cg : C8.Cal P w K mg base 4 "_law_dr_gates" sp_law_dr_gates []) : C8.Cal P w K mg base 5 "_law_gates_drawn" sp_law_gates_drawn [] := by
  refine calM D sc_law_gates_drawn (fun vs H Q E h => by obtain ⟨_, _, rfl, _⟩ := h; rfl) (fun _ _ _ _ _ _ us hl => match us, hl with | [_, _], _ => rfl) fun f cdv A outer s H vs Q E hr h => ?_
  refine ⟨_, pss_cons (ps_if (pt_cmpR op_gt (C8.pe_c cr hr (by decide) (by rfl) (pa_cons (pv 0) (pa_cons pe_int pa_nil))) pe_int (nomark _))
      (pss_one (ps_ret (C8.pe_c cg hr (by decide) (by rfl) (pa_cons (pv 0) (pa_cons (pv 1) (pa_cons pe_int (pa_cons (pe_op op_add pe_int (C8.pe_c cr hr (by decide) (by rfl) (pa_cons (pv 0) (pa_cons pe_int pa_nil)))) (pa_cons (pe_op op_add pe_int (C8.pe_c cr hr (by decide) (by rfl) (pa_cons (pv 0) (pa_cons pe_int pa_nil)))) pa_nil)))))))) pss_nil)
    (pss_cons (ps_set (i := 2) sc_law_gates_drawn.nd rfl (Or.inl rfl) (pe_lst (pa_cons (pe_tup (pa_cons pe_str (pa_cons pe_int pa_nil))) (pa_cons (pe_tup (pa_cons pe_str (pa_cons pe_int pa_nil))) (pa_cons (pe_tup (pa_cons pe_str (pa_cons pe_int pa_nil))) pa_nil)))))
    (pss_cons (ps_for PassesOwn.never rfl (pi_range1 (by rfl) g.range (pa_cons pe_int pa_nil)) (pg_name (i := 3) sc_law_gates_drawn.nd rfl (Or.inl rfl))
      (pss_one (ps_expr (pe_bm PySem.F.plainAttrs_list PySem.F.slot_list_append PySem.F.type_list_append mt_append (pv 2) (pa_cons (pe_tup (pa_cons pe_str (pa_cons
        (pe_op op_sub (pe_op op_sub (pe_callB call_len_seq (by rfl) g.len (by decide +kernel) (pa_cons (pv 2) pa_nil)) pe_int) (pe_op op_mul (pe_callTy call_int1 (by rfl) g.int (by decide +kernel) (pa_cons (pe_cmpR op_eq (pv 3) pe_int (nomark _)) pa_nil)) (pe_op op_add pe_int (C8.pe_c cr hr (by decide) (by rfl) (pa_cons (pv 0) (pa_cons pe_int pa_nil))))))
        (pa_cons (C8.pe_c cp hr (by decide) (by rfl) (pa_cons (pv 0) (pa_cons (pe_lst (pa_cons pe_int (pa_cons pe_int (pa_cons (pe_op op_sub (pe_callB call_len_seq (by rfl) g.len (by decide +kernel) (pa_cons (pv 2) pa_nil)) pe_int) pa_nil)))) pa_nil))) pa_nil)))) pa_nil)))))
    (pss_one (ps_ret (pe_callTy call_tuple_of (by rfl) g.tuple (by decide +kernel) (pa_cons (pe_op op_cat (pv 2) (pe_lst (pa_cons (pe_tup (pa_cons pe_str (pa_cons (pe_op op_sub (pe_callB call_len_seq (by rfl) g.len (by decide +kernel) (pa_cons (pv 2) pa_nil)) pe_int) (pa_cons pe_int pa_nil)))) pa_nil))) pa_nil)))))), ?_⟩
  obtain ⟨d, p, rfl, hd, hp, q⟩ := h
  refine ⟨_, rfl, d, 3, rfl, hd, by decide, by decide, fun H1 r s1 D1 r0 r1 => ⟨_, _, rfl, rfl, _, rfl, ?_⟩⟩
  refine ite_dec (fun h => ?_) (fun h => ?_)
  · refine ⟨_, rfl, _, rfl, _, rfl, d, 12, rfl, D1, by decide, by decide, fun H2 r2 s2 D2 r20 r21 => ⟨_, _, rfl, rfl, _, rfl, d, 4, rfl, D2, by decide, by decide, fun H3 r3 s3 D3 r30 r31 => ⟨_, _, rfl, rfl, ?_⟩⟩⟩
    refine ⟨d, p, (1 + r2).toNat, (1 + r3).toNat, ?_, D3, hp, by omega, by omega, fun H' t gs s4 D4 hg dr => q H' t gs (((s1.trans s2).trans s3).trans s4) D4 hg dr⟩
    rw [show (((1 + r2).toNat : Nat) : Int) = 1 + r2 by omega, show (((1 + r3).toNat : Nat) : Int) = 1 + r3 by omega]
    rfl
  · refine ⟨by show 2 ≤ sizeLine; decide, fun t1 ht1 => ⟨by show 2 ≤ sizeLine; decide, fun t2 ht2 => ⟨by show 2 ≤ sizeLine; decide, fun t3 ht3 => ⟨by show 3 ≤ sizeLine; decide, fun fl hfl => ?_⟩⟩⟩⟩
    have u1 := same_upd (o := .tup [.str "input", .int 1]) ht1
    have u2 := same_upd (o := .tup [.str "input", .int 2]) ht2
    have u3 := same_upd (o := .tup [.str "constant", .int 3]) ht3
    have u4 := same_upd (o := .lst [.ref t1, .ref t2, .ref t3]) hfl
    have uu := ((u1.trans u2).trans u3).trans u4
    have sA := s1.trans (Same.x d uu)
    have DA := D1.same uu
    have hfd : fl ≠ d := fun z => DiceAt.ex (D1.same ((u1.trans u2).trans u3)) (by rw [← z]; exact hfl)
    have hfH : H fl = none := by
      cases e : H fl with
      | none => rfl
      | some u =>
        have := (s1.trans (Same.x d ((u1.trans u2).trans u3))) fl u hfd e
        rw [hfl] at this; cases this
    refine ⟨4, rfl, by decide, by decide, ?_⟩
    refine for_it walk_range (fun i σ H' => (∃ y, σ = [some (.ref d), some (.int p), some (.ref fl), y]) ∧ SameX d H H' ∧ DiceAt H' d ∧ ∃ mid, LG H' fl ([Gate.inp 1, Gate.inp 2] ++ ([Gate.const 3] ++ mid)) ∧ mid.length = i ∧ (∀ g ∈ mid, isInp g = false) ∧ ∀ i g, ([Gate.inp 1, Gate.inp 2] ++ ([Gate.const 3] ++ mid))[i]? = some g → GateOk i g) ?_ (fun _ _ _ _ _ => True.intro) ?_ ?_
    · refine ⟨⟨_, rfl⟩, sA, DA, [], ⟨[t1, t2, t3], upd_same, .cons (uu' u2 u3 u4) (.cons (u4 _ _ (u3 _ _ upd_same)) (.cons (u4 _ _ upd_same) .nil))⟩, rfl, fun g hg => (nomatch hg), ?_⟩
      intro i g e
      match i, e with
      | 0, e => cases e; exact ⟨by decide, by decide⟩
      | 1, e => cases e; exact ⟨by decide, by decide⟩
      | 2, e => cases e; exact ⟨by decide, by decide⟩
    · intro i x σ H' H2 hi p1 y
      obtain ⟨rfl, rfl⟩ := y
      obtain ⟨⟨y, rfl⟩, sX, DX, mid, ⟨ts, lg1, lg2⟩, lm, lmi, lok⟩ := p1
      have tl : ts.length = ([Gate.inp 1, Gate.inp 2] ++ ([Gate.const 3] ++ mid)).length := Paired.length lg2
      simp only [List.length_append, List.length_cons, List.length_nil] at tl
      have hi4 : i < 4 := hi
      refine ⟨_, rfl, .inl ⟨rfl, _, .inl (.inl lg1)⟩, _, rfl, fl, _, rfl, .inl (.inl (.inl lg1)), _, _, rfl, rfl, _, rfl, rfl, .inr ⟨_, rfl, _, rfl, d, 2, rfl, DX, by decide, by decide, fun H4 r4 s4 D4 r40 r41 => ⟨_, _, rfl, rfl, _, _, rfl, rfl, .inl ?_, _, _, rfl, rfl, ?_⟩⟩⟩
      · split <;> exact ⟨by decide, by decide⟩
      have e4 := s4 _ _ hfd lg1
      refine ⟨_, rfl, _, rfl, fl, _, rfl, .inl (.inl (.inl e4)), _, _, rfl, rfl, by show 3 ≤ sizeLine; decide, fun l hl => ?_⟩
      have st := same_upd (o := .lst [.int 0, .int 0, .int ((((ts.map V.ref).length : Nat) : Int) - 1)]) hl
      have hld : l ≠ d := fun z => DiceAt.ex D4 (by rw [← z]; exact hl)
      refine ⟨d, l, _, rfl, D4.same st, hld, upd_same, by show 1 ≤ 3; decide, by show 3 ≤ 1000; decide, fun H5 v s5 D5 hv => ⟨by show 3 ≤ sizeLine; decide, fun t5 ht5 => ?_⟩⟩
      obtain ⟨b, rfl, hb⟩ : ∃ b : Nat, v = .int (b : Int) ∧ b < ts.length := by
        simp only [List.mem_cons, List.not_mem_nil, or_false] at hv
        rcases hv with rfl | rfl | rfl
        · exact ⟨0, rfl, by omega⟩
        · exact ⟨0, rfl, by omega⟩
        · refine ⟨ts.length - 1, ?_, by omega⟩
          show V.int ((((ts.map V.ref).length : Nat) : Int) - 1) = _
          congr 1
          rw [List.length_map]
          omega
      obtain ⟨a, ea, hab⟩ : ∃ a : Nat, ((((ts.map V.ref).length : Nat) : Int) - 1 - (if (decide (V.int (0 + (i : Nat)) = V.int 0)) = true then 1 else 0) * (1 + r4)) = (a : Int) ∧ a < ts.length := by
        refine ⟨(((((ts.map V.ref).length : Nat) : Int) - 1 - (if (decide (V.int (0 + (i : Nat)) = V.int 0)) = true then 1 else 0) * (1 + r4))).toNat, ?_, ?_⟩
        · rw [List.length_map]
          split
          · have : r4 ≤ 1 := by omega
            omega
          · omega
        · rw [List.length_map]
          split
          · omega
          · omega
      have st5 := same_upd (o := .tup [.str "product", .int (((((ts.map V.ref).length : Nat) : Int) - 1 - (if (decide (V.int (0 + (i : Nat)) = V.int 0)) = true then 1 else 0) * (1 + r4))), .int (b : Int)]) ht5
      have sB := (Same.x d st).trans s5
      have e5 : (upd H5 t5 (.tup [.str "product", .int (((((ts.map V.ref).length : Nat) : Int) - 1 - (if (decide (V.int (0 + (i : Nat)) = V.int 0)) = true then 1 else 0) * (1 + r4))), .int (b : Int)])) fl = some (.lst (ts.map V.ref)) := st5 _ _ (sB _ _ hfd e4)
      refine ⟨fl, _, _, rfl, rfl, e5, by rw [List.length_map]; exact small1000 (by omega), ⟨_, rfl⟩, sameX_set hfH ((sX.trans (s4.trans sB)).trans (Same.x d st5)), (D5.same st5).set hfd, mid ++ [Gate.prod a b], ?_, by simp [lm], ?_, ?_⟩
      · have e9 : ([Gate.inp 1, Gate.inp 2] ++ ([Gate.const 3] ++ (mid ++ [Gate.prod a b]))) = ([Gate.inp 1, Gate.inp 2] ++ ([Gate.const 3] ++ mid)) ++ [Gate.prod a b] := by simp
        rw [e9]
        refine LG.push e5 (paired_imp (fun t g e => st5 _ _ ((s4.trans sB).tup DX e)) lg2) ?_
        rw [upd_same]
        show _ = some (HO.tup [V.str "product", V.int (a : Int), V.int (b : Int)])
        rw [← ea]
      · intro g hg
        rcases List.mem_append.mp hg with h | h
        · exact lmi g h
        · rw [List.mem_singleton.mp h]; rfl
      · have e9 : ([Gate.inp 1, Gate.inp 2] ++ ([Gate.const 3] ++ (mid ++ [Gate.prod a b]))) = ([Gate.inp 1, Gate.inp 2] ++ ([Gate.const 3] ++ mid)) ++ [Gate.prod a b] := by simp
        rw [e9]
        refine ok_app lok ⟨?_, ?_⟩
        · simp only [List.length_append, List.length_cons, List.length_nil]; omega
        · simp only [List.length_append, List.length_cons, List.length_nil]; omega
    · intro σ H' p1
      obtain ⟨⟨y, rfl⟩, sX, DX, mid, ⟨ts, lg1, lg2⟩, lm, lmi, lok⟩ := p1
      have lm4 : mid.length = 4 := lm
      have tl : ts.length = ([Gate.inp 1, Gate.inp 2] ++ ([Gate.const 3] ++ mid)).length := Paired.length lg2
      simp only [List.length_append, List.length_cons, List.length_nil] at tl
      refine ⟨_, rfl, _, rfl, fl, _, rfl, .inl (.inl (.inl lg1)), _, _, rfl, rfl, by show 3 ≤ sizeLine; decide, fun t5 ht5 => ⟨by show 1 ≤ sizeLine; decide, fun l2 hl2 => ?_⟩⟩
      have v1 := same_upd (o := .tup [.str "sum", .int ((((ts.map V.ref).length : Nat) : Int) - 1), .int 1]) ht5
      have v2 := same_upd (o := .lst [.ref t5]) hl2
      refine ⟨fl, l2, ts.map V.ref, [.ref t5], rfl, rfl, v2 _ _ (v1 _ _ lg1), upd_same, by rw [List.length_map, List.length_singleton]; exact Nat.le_of_lt (small1000 (by omega)), fun l3 hl3 => ?_⟩
      have v3 := same_upd (o := .lst (ts.map V.ref ++ [.ref t5])) hl3
      refine ⟨l3, _, rfl, .inl ⟨.inl (.inl upd_same), fun tt htt => ?_⟩⟩
      have v4 := same_upd (o := .tup (ts.map V.ref ++ [.ref t5])) htt
      have vv := ((v1.trans v2).trans v3).trans v4
      have e6 : ((((ts.map V.ref).length : Nat) : Int) - 1) = ((ts.length - 1 : Nat) : Int) := by rw [List.length_map]; omega
      refine q _ tt ([Gate.inp 1, Gate.inp 2] ++ ([Gate.const 3] ++ mid) ++ [Gate.sum (ts.length - 1) 1]) (sX.trans (Same.x d vv)) (DX.same vv) ⟨ts ++ [t5], by rw [upd_same, List.map_append]; rfl, paired_app (paired_imp (fun t g e => vv _ _ e) lg2) ?_⟩ ⟨ok_app lok ⟨?_, ?_⟩, [Gate.inp 1, Gate.inp 2], [Gate.const 3] ++ mid ++ [Gate.sum (ts.length - 1) 1], [], by simp, ?_⟩
      · refine v4 _ _ (v3 _ _ (v2 _ _ ?_))
        rw [upd_same]
        show some (HO.tup [V.str "sum", V.int ((((ts.map V.ref).length : Nat) : Int) - 1), V.int 1]) = _
        rw [e6]
        rfl
      · simp only [List.length_append, List.length_cons, List.length_nil]; omega
      · simp only [List.length_append, List.length_cons, List.length_nil]; omega
      · have hfm := filt_le (P := isProd) mid
        refine ⟨by decide, by decide, ?_, ?_, ?_, ?_, by decide, fun g hg => nomatch hg⟩
        · intro g hg
          simp only [List.mem_cons, List.not_mem_nil, or_false] at hg
          rcases hg with rfl | rfl <;> rfl
        · simp only [List.length_append, List.length_cons, List.length_nil]; omega
        · intro g hg
          simp only [List.mem_append, List.mem_cons, List.not_mem_nil, or_false] at hg
          rcases hg with (rfl | h) | rfl
          · rfl
          · exact lmi g h
          · rfl
        · rw [List.filter_append, List.filter_append, List.length_append, List.length_append]
          show (([] : List Gate).length + (mid.filter isProd).length + ([] : List Gate).length) ≤ 4
          simp only [List.length_nil]
          omega
end
end K24
end
section
set_option autoImplicit false
set_option Elab.async false
set_option linter.all false
set_option maxRecDepth 100000
set_option maxHeartbeats 1000000
/-! the law's check of one draw -/
namespace K24
open PySem PySem.Spec PyProof.Rows L2 SlX RZ
/-- the mathematics of a drawn circuit -/
structure MathOk (p : Int) (gs : List Gate) : Prop where
  gso : GsOk gs
  wk : WalkOk p gs
  lw : LawOk p gs
  perm : ∀ i, i < gs.length → ((formsC p gs).getD i []).Perm ((formsL p gs).getD i [])
  sort : ∀ i, i < gs.length → (keys ((formsC p gs).getD i [])).Pairwise (fun a b => a ≤ b)
  sk : ∀ i, i < gs.length → SK ((formsC p gs).getD i [])
  nd : ∀ i, i < gs.length → (keys ((formsL p gs).getD i [])).Nodup
  rg : ∀ i, i < gs.length → ∀ x ∈ (formsL p gs).getD i [], 0 ≤ x.2 ∧ x.2 < p
  ex : ∀ i, i < gs.length → ∀ k ∈ keys ((formsL p gs).getD i []), ∀ e ∈ k, 0 ≤ e ∧ e < 2 ^ 30
  val : ∀ i, i < gs.length → ∀ nums : List Int, nums.length = nIn gs → (∀ x ∈ nums, 0 ≤ x ∧ x < p) → valL p ((formsL p gs).getD i []) nums = (meanC p nums gs).getD i 0
def FieldIn (p : Int) : Prop := p = 5 ∨ p = 7 ∨ p = 11 ∨ p = 997
theorem FieldIn.ok {p : Int} (h : FieldIn p) : FieldOk p := by
  refine ⟨by rcases h with h | h | h | h <;> subst h <;> decide, by rcases h with h | h | h | h <;> subst h <;> decide, fun k h2 h3 h4 => ?_⟩
  obtain ⟨n, rfl⟩ : ∃ n : Nat, k = (n : Int) := ⟨k.toNat, by omega⟩
  have all : ∀ q ∈ [5, 7, 11, 997], ∀ n < 32, 2 ≤ n → n < q → (q : Nat) % n ≠ 0 := by decide
  have e : ∀ q : Nat, q ∈ [5, 7, 11, 997] → p = (q : Int) → p % (n : Int) ≠ 0 := fun q hq hp z => by
    subst hp
    have := all q hq n (by omega) (by omega) (by omega)
    omega
  rcases h with h | h | h | h
  · exact e 5 (by simp) h
  · exact e 7 (by simp) h
  · exact e 11 (by simp) h
  · exact e 997 (by simp) h
theorem canLay_keys : ∀ ks : List Ex, PyData.canLayAll0 (ks.map encK) = true
  | [] => rfl
  | k :: ks => by
    have h : ∀ l : Ex, PyData.canLayAll0 (l.map PyData.int) = true := fun l => by
      induction l with
      | nil => rfl
      | cons a l ih => simp only [List.map_cons, PyData.canLayAll0, PyData.canLay0, ih, Bool.and_self]
    simp only [List.map_cons, PyData.canLayAll0, encK, PyData.canLay0, h k, canLay_keys ks, Bool.and_self]
theorem depth_keys : ∀ ks : List Ex, PyData.depthAll (ks.map encK) ≤ 1
  | [] => by simp [PyData.depthAll]
  | k :: ks => by
    have h1 := depth_keys ks
    have h2 := depth_key k
    simp only [List.map_cons, PyData.depthAll]
    omega
theorem shaped_keys (ks : List Ex) : SeqAt.shaped (.list (ks.map encK)) = true := by
  have h1 := depth_keys ks
  have h2 : PyData.depth (.list (ks.map encK)) ≤ 64 := by simp only [PyData.depth]; omega
  show (PyData.canLay0 (.list (ks.map encK)) && decide (PyData.depth (.list (ks.map encK)) ≤ 64)) = true
  rw [Bool.and_eq_true]
  exact ⟨by simp only [PyData.canLay0]; exact canLay_keys ks, decide_eq_true h2⟩
theorem DpAll_keys {K : PySem.W.Frag} {H : Hp} : ∀ {ks : List Ex} {bs : List Addr}, Paired (fun k b => H b = some (.tup (k.map V.int))) ks bs → DpAll K H (bs.map V.ref) (ks.map encK)
  | _, _, .nil => .nil
  | _, _, .cons h t => .cons (.tup (.inl (.inl h)) (DpAll_ints _)) (DpAll_keys t)
theorem keys_of_isKeys {H : Hp} : ∀ {F : Fm} {bs : List Addr}, IsKeys H (enF F) bs → Paired (fun k b => H b = some (.tup (k.map V.int))) (keys F) bs
  | [], bs, h => by
    have h' : Paired (fun (p : List Key × V) b => H b = some (.tup (p.1.map kV))) [] bs := h
    cases h'
    exact .nil
  | a :: F, bs, h => by
    have h' : Paired (fun (p : List Key × V) b => H b = some (.tup (p.1.map kV))) ((inK a.1, V.int a.2) :: enF F) bs := h
    cases h' with
    | cons r t => exact .cons (by rw [← kV_inK]; exact r) (keys_of_isKeys t)
theorem SameX.slt {d : Addr} {H H' : Hp} {a C dx : Addr} {vs : List (Option V)} (s : SameX d H H') (D : DiceAt H d) (h : Slt H a C dx vs) : Slt H' a C dx vs := by
  rcases h with ⟨h1, h2⟩ | ⟨h1, h2⟩
  · exact .inl ⟨s _ _ (D.ne h1 fun _ z => nomatch z) h1, h2⟩
  · exact .inr ⟨s _ _ (D.ne h1 (fun _ z => (by unfold SlO at z; cases z))) h1, s _ _ (D.ne h2 (fun _ z => nomatch z)) h2⟩
theorem CirAt.x {C : Addr} {i0 : Nat} {d : Addr} {H H' : Hp} {x : Addr} {gs : List Gate} (s : SameX d H H') (D : DiceAt H d) (h : CirAt C i0 H x gs) : CirAt C i0 H' x gs := by
  obtain ⟨dx, vs, ga, h1, h2, h3⟩ := h
  exact ⟨dx, vs, ga, s.slt D h1, h2, h3.x s D⟩
theorem FL.x {d : Addr} {H H' : Hp} {l : Addr} {fs : List Fm} (s : SameX d H H') (D : DiceAt H d) (hl : l ≠ d) (h : FL H l fs) : FL H' l fs := by
  obtain ⟨as, h1, h2⟩ := h
  exact ⟨as, s _ _ hl h1, paired_imp (fun a F e => s _ _ (D.ne e (fun _ z => by cases z)) e) h2⟩
theorem FL.ned {d : Addr} {H : Hp} {l : Addr} {fs : List Fm} (D : DiceAt H d) (h : FL H l fs) : l ≠ d := fun z => by
  obtain ⟨as, h1, h2⟩ := h
  obtain ⟨a, x, y, h3, _⟩ := D
  rw [z, h3] at h1
  have e : [V.int a, V.int x, V.int y] = as.map V.ref := HO.lst.inj (Option.some.inj h1)
  cases as with
  | nil => cases e
  | cons b bs => cases e
section
variable {P : Program} {w : World} {K : PySem.W.Frag} {mg : Str → Option Value} {base : Heap} {C p0 p1 pI gI fM fI : Addr} {i0 i1 : Nat}
theorem sc_law_right : FnScope ["_law_dice_here", "_law_field_here", "_law_gates", "_law_told", "_law_due", "_law_at", "_law_form", "_law_turn", "_law_numbers", "_law_meaning"] ["_law_dice_here"] (defScope s_law_right) := ⟨rfl, rfl, rfl, by decide +kernel, rfl, by decide +kernel, by decide +kernel⟩
def sp_law_right : Sp := fun vs H Q _ => ∃ d, vs = [.ref d] ∧ DiceAt H d ∧ ∀ H', SameX d H H' → DiceAt H' d → Q (.bl true) H'
theorem cal_law_right (M : ∀ p gs, FieldIn p → Drawn gs → MathOk p gs) (D : DefM K mg "_law_right" "_law_right" s_law_right) (c : CirF K C p0 p1 pI gI fM i0 i1) (g : GB mg) (cp : C8.Cal P w K mg base 2 "_law_pick" sp_law_pick []) (cg : C8.Cal P w K mg base 5 "_law_gates_drawn" sp_law_gates_drawn [])
    (ck : C8.Mak P w K mg base 5 "Circuit" C (sp_C_init C i0) []) (cfs : C8.Cal P w K mg base 3 "_law_forms" sp_law_forms []) (cfo : C8.Cal P w K mg base 5 "form_of" (sp_form_of C i0) []) (cdi : C8.Cal P w K mg base 4 "_law_dr_inputs" sp_law_dr_inputs [])
    (fm : FnR P w K mg base CX0 8 fM (sp_meaning C i0)) (cfv : C8.Cal P w K mg base 2 "_law_form_value" sp_law_form_value []) : C8.Cal P w K mg base 9 "_law_right" sp_law_right [] := by
  refine calM D sc_law_right (fun vs H Q E h => by obtain ⟨_, rfl, _⟩ := h; rfl) (fun _ _ _ _ _ _ us hl => match us, hl with | [_], _ => rfl) fun f cdv A outer s H vs Q E hr h => ?_
  refine ⟨_, (pss_cons (ps_set (i := 1) sc_law_right.nd rfl (Or.inr rfl) (C8.pe_c cp hr (by decide) (by rfl) (pa_cons (pv 0) (pa_cons (pe_lst (pa_cons pe_int (pa_cons pe_int (pa_cons pe_int (pa_cons pe_int (pa_cons pe_int (pa_cons pe_int pa_nil))))))) pa_nil)))) (pss_cons (ps_set (i := 2) sc_law_right.nd rfl (Or.inl rfl) (C8.pe_c cg hr (by decide) (by rfl) (pa_cons (pv 0) (pa_cons (pv 1) pa_nil)))) (pss_cons (ps_set (i := 3) sc_law_right.nd rfl (Or.inl rfl) (C8.pe_mk ck hr (by decide) (by rfl) (pa_cons (pv 2) (pa_cons (pe_tup (pa_cons (pe_tup (pa_cons (pe_op op_sub (pe_callB call_len_seq (by rfl) g.len (by decide +kernel) (pa_cons (pv 2) pa_nil)) pe_int) (pa_cons (pe_tup (pa_cons pe_int pa_nil)) pa_nil))) pa_nil)) pa_nil)))) (pss_cons (ps_set (i := 4) sc_law_right.nd rfl (Or.inr rfl) (C8.pe_c cfs hr (by decide) (by rfl) (pa_cons (pv 1) (pa_cons (pv 2) pa_nil)))) (pss_cons (ps_for PassesOwn.never rfl (pi_range1 (by rfl) g.range (pa_cons (pe_callB call_len_seq (by rfl) g.len (by decide +kernel) (pa_cons (pv 2) pa_nil)) pa_nil)) (pg_name (i := 5) sc_law_right.nd rfl (Or.inl rfl)) (pss_cons (ps_set (i := 6) sc_law_right.nd rfl (Or.inl rfl) (C8.pe_c cfo hr (by decide) (by rfl) (pa_cons (pv 1) (pa_cons (pv 3) (pa_cons (pv 5) pa_nil))))) (pss_one (ps_if (PW.pt (pw_or (pt_cmpR (op_neT (hu4 hr)) (pv 6) (pe_ix ix_list (pv 4) (pv 5) (fun _ _ => rfl)) (nomark _)) (pw_or1 (pt_cmpR (op_neD (hu64' hr)) (pe_callTy (call_list_dT rfl) (by rfl) g.list (by decide +kernel) (pa_cons (pv 6) pa_nil)) (pe_callB (call_sortedK rfl (hu64 hr)) (by rfl) g.sorted (by decide +kernel) (pa_cons (pv 6) pa_nil)) (nomark _))))) (pss_one (ps_ret pe_bl)) pss_nil)))) (pss_cons (ps_for PassesOwn.never rfl (pi_range1 (by rfl) g.range (pa_cons pe_int pa_nil)) (pg_name (i := 7) sc_law_right.nd rfl (Or.inl rfl)) (pss_cons (ps_set (i := 8) sc_law_right.nd rfl (Or.inr rfl) (C8.pe_c cdi hr (by decide) (by rfl) (pa_cons (pv 0) (pa_cons (pv 1) (pa_cons (pv 2) pa_nil))))) (pss_cons (ps_set (i := 9) sc_law_right.nd rfl (Or.inr rfl) (pe_methSl (pv 3) c.cl c.mm fm (E := C8.E0) (hr.mono (by decide)) pass0 (pa_cons (pv 1) (pa_cons (pv 8) pa_nil)))) (pss_one (ps_if (pt_cmpR (op_neD (hu64' hr)) (pe_lc (own := [("_law_at", 5)]) (g := gName 5) rfl sc_law_right.nd (pi_range1 (by rfl) g.range (pa_cons (pe_callB call_len_seq (by rfl) g.len (by decide +kernel) (pa_cons (pv 2) pa_nil)) pa_nil)) (blkOk_by (N := ["_law_dice_here", "_law_field_here", "_law_gates", "_law_told", "_law_due", "_law_at", "_law_form", "_law_turn", "_law_numbers", "_law_meaning"]) (sc := defScope s_law_right) (by decide +kernel)) (fun _ _ _ _ _ => pg_name (i := 5) sc_law_right.nd rfl (Or.inl rfl)) (fun _ _ _ _ _ => pts_one (pt_cmpR op_ne (C8.pe_c cfv hr (by decide) (by rfl) (pa_cons (pv 1) (pa_cons (pe_ix (r := rIxL K) ix_list (pv 4) (pv 5) (fun _ _ => rfl)) (pa_cons (pv 8) pa_nil)))) (pe_ix (r := rIxT K) ix_tup (pv 9) (pv 5) (fun _ _ => rfl)) (nomark _))) (fun _ _ _ _ _ => pv 5)) (pe_lst pa_nil) (nomark _)) (pss_one (ps_ret pe_bl)) pss_nil))))) (pss_one (ps_ret pe_bl)))))))), ?_⟩
  obtain ⟨d, rfl, hd, q⟩ := h
  -- the field
  refine ⟨_, rfl, by show 6 ≤ sizeLine; decide, fun l0 hl0 => ?_⟩
  have u0 := same_upd (o := .lst [.int 5, .int 5, .int 7, .int 7, .int 11, .int 997]) hl0
  have hl0d : l0 ≠ d := fun z => DiceAt.ex hd (by rw [← z]; exact hl0)
  refine ⟨d, l0, _, rfl, hd.same u0, hl0d, upd_same, by show 1 ≤ 6; decide, by show 6 ≤ 1000; decide, fun H1 pv s1 D1 hpv => ?_⟩
  obtain ⟨p, rfl, hp⟩ : ∃ p : Int, pv = .int p ∧ FieldIn p := by
    simp only [List.mem_cons, List.not_mem_nil, or_false] at hpv
    rcases hpv with h | h | h | h | h | h
    · exact ⟨5, h, .inl rfl⟩
    · exact ⟨5, h, .inl rfl⟩
    · exact ⟨7, h, .inr (.inl rfl)⟩
    · exact ⟨7, h, .inr (.inl rfl)⟩
    · exact ⟨11, h, .inr (.inr (.inl rfl))⟩
    · exact ⟨997, h, .inr (.inr (.inr rfl))⟩
  have s1' : SameX d H H1 := (Same.x d u0).trans s1
  -- the gates
  refine ⟨_, rfl, _, rfl, d, p, rfl, D1, hp.ok, fun H2 ga gs s2 D2 hg2 dr => ?_⟩
  have m := M p gs hp dr
  have ok := m.gso
  have h60 := ok.few
  have hpos := ok.pos
  obtain ⟨ts2, ha2, hpr2⟩ := id hg2
  have tl : ts2.length = gs.length := Paired.length hpr2
  -- the circuit
  refine ⟨_, rfl, _, rfl, ga, _, rfl, .inr (.inl (.inl ha2)), _, _, rfl, rfl, by show 1 ≤ sizeLine; decide, fun th hth => ⟨by show 2 ≤ sizeLine; decide, fun to hto => ⟨by show 1 ≤ sizeLine; decide, fun ta hta => ?_⟩⟩⟩
  have v1 := same_upd (o := .tup [.int 1]) hth
  have v2 := same_upd (o := .tup [.int ((((ts2.map V.ref).length : Nat) : Int) - 1), .ref th]) hto
  have v3 := same_upd (o := .tup [.ref to]) hta
  have v := (v1.trans v2).trans v3
  intro x dx hx hdx hne
  refine ⟨x, dx, ga, ta, gs, rfl, upd_same, hne, by rw [upd_ne hne, upd_same], ?_, ok, ?_, fun H3 hk hc3 => ⟨rfl, ?_⟩⟩
  · exact (hg2.same v).same ((same_upd hdx).trans (same_upd (by rw [upd_ne (Ne.symm hne)]; exact hx)))
  · refine OutsAt.same ((same_upd hdx).trans (same_upd (by rw [upd_ne (Ne.symm hne)]; exact hx))) ⟨to, upd_same, th, [1], _, v3 _ _ upd_same, v3 _ _ (v2 _ _ upd_same), .inl rfl, ?_, ?_⟩
    · rw [List.length_map]; omega
    · rw [List.length_map]; omega
  have s3 : Same H2 H3 := fun b u e => by
    have e2 := v _ _ e
    have hbx : b ≠ x := fun z => by rw [z, hx] at e2; cases e2
    have hbd : b ≠ dx := fun z => by rw [z, hdx] at e2; cases e2
    exact hk b u hbx hbd (by rw [upd_ne hbx, upd_ne hbd]; exact e2)
  have D3 := D2.same s3
  have sH3 : SameX d H H3 := (s1'.trans s2).trans (Same.x d s3)
  -- the law's forms
  refine ⟨_, rfl, _, rfl, p, ga, gs, rfl, hp.ok.gt.1, hg2.same s3, ok, m.lw, fun H4 fl s4 hfl => ?_⟩
  have D4 := D3.same s4
  have hfd : fl ≠ d := hfl.ned D4
  have hg4 := (hg2.same s3).same s4
  have hc4 := hc3.same s4
  have sH4 : SameX d H H4 := sH3.trans (Same.x d s4)
  obtain ⟨ts, ha, hpr⟩ := id hg4
  have tl4 : ts.length = gs.length := Paired.length hpr
  refine ⟨_, rfl, ga, _, rfl, .inr (.inl (.inl ha)), _, rfl, by omega, by rw [List.length_map]; omega, ?_⟩
  have hn : ((((ts.map V.ref).length : Nat) : Int)).toNat = gs.length := by rw [List.length_map, tl4]; omega
  rw [hn]
  refine for_it walk_range (fun i σ H' => (∃ y z, σ = [some (.ref d), some (.int p), some (.ref ga), some (.ref x), some (.ref fl), y, z, none, none, none]) ∧ Same H4 H') ?_ (fun _ _ _ _ _ => True.intro) ?_ ?_
  · exact ⟨⟨_, _, rfl⟩, Same.refl _⟩
  · intro i y σ H' H5 hi p1 y2
    obtain ⟨rfl, rfl⟩ := y2
    obtain ⟨⟨y, z, rfl⟩, s5⟩ := p1
    have e0 : V.int (0 + (i : Nat)) = V.int ((i : Nat) : Int) := by rw [Int.zero_add]
    refine ⟨_, rfl, _, rfl, _, rfl, p, x, gs, i, by rw [← e0]; rfl, hp.ok, hc4.same s5, ok, m.wk, hi, fun H6 r s6 hr6 => ?_⟩
    have sL := s5.trans s6
    obtain ⟨as, b, f1, f2, f3⟩ := hfl.get (i := i) (by rw [formsL_len]; exact hi)
    refine ⟨_, rfl, _, rfl, _, rfl, fl, _, _, .ref b, rfl, rfl, .inl (.inl (sL _ _ f1)), by show atI _ (0 + (i : Nat)) = _; rw [Int.zero_add]; exact atI_nat (by rw [List.getElem?_map, f2]; rfl), ?_⟩
    have hperm := m.perm i hi
    refine ⟨r, b, _, _, rfl, rfl, .inl hr6, .inl (sL _ _ f3), SameT.perm (hperm.map _) (fun q hq => ?_), _, rfl, ?_⟩
    · obtain ⟨kv, _, rfl⟩ := List.mem_map.mp hq
      exact ⟨_, rfl⟩
    refine ⟨_, rfl, r, _, rfl, .inl hr6, fun la bs hla hbs => ?_⟩
    have w1 := same_upd (o := .lst (bs.map V.ref)) hla
    refine ⟨_, rfl, r, enF _, keys _, rfl, .inl (w1 _ _ hr6), enF_keys _, m.sk i hi, fun bs2 lb hbs2 hlb => ?_⟩
    have w2 := same_upd (o := .lst (bs2.map V.ref)) hlb
    rw [sortK_self (m.sort i hi)] at hbs2
    have k1 := DpAll_keys (K := K) (paired_imp (S := fun k b => (upd (upd H6 la (.lst (bs.map V.ref))) lb (.lst (bs2.map V.ref))) b = some (.tup (List.map V.int k))) (fun _ _ e => (w1.trans w2) _ _ e) (keys_of_isKeys (H := H6) hbs))
    have k2 := DpAll_keys (K := K) (paired_imp (S := fun k b => (upd (upd H6 la (.lst (bs.map V.ref))) lb (.lst (bs2.map V.ref))) b = some (.tup (List.map V.int k))) (fun _ _ e => w2 _ _ e) hbs2)
    refine ⟨.list ((keys ((formsC p gs).getD i [])).map encK), .list ((keys ((formsC p gs).getD i [])).map encK), .lst (.inl (.inl (w2 _ _ upd_same))) k1, .lst (.inl (.inl upd_same)) k2, shaped_keys _, shaped_keys _, _, rfl, ?_⟩
    rw [SeqAt.eqv_refl _ (SeqAt.canLay_of_shaped (shaped_keys _))]
    exact ⟨⟨_, _, rfl⟩, sL.trans (w1.trans w2)⟩
  intro σ H5 p5
  obtain ⟨⟨y5, z5, rfl⟩, s5⟩ := p5
  have D5 := D4.same s5
  have hg5 := hg4.same s5
  have hc5 := hc4.same s5
  have hfl5 : FL H5 fl (formsL p gs) := by
    obtain ⟨as, f1, f2⟩ := hfl
    exact ⟨as, s5 _ _ f1, paired_imp (fun _ _ e => s5 _ _ e) f2⟩
  have sH5 : SameX d H H5 := sH4.trans (Same.x d s5)
  refine ⟨4, rfl, by decide, by decide, ?_⟩
  refine for_it walk_range (fun i σ H' => (∃ y z t1 t2 t3, σ = [some (.ref d), some (.int p), some (.ref ga), some (.ref x), some (.ref fl), y, z, t1, t2, t3]) ∧ SameX d H5 H' ∧ DiceAt H' d) ?_ (fun _ _ _ _ _ => True.intro) ?_ ?_
  · exact ⟨⟨_, _, _, _, _, rfl⟩, SameX.refl _ _, D5⟩
  · intro i y σ H' H6 hi p1 y2
    obtain ⟨rfl, rfl⟩ := y2
    obtain ⟨⟨y, z, t1, t2, t3, rfl⟩, sX, DX⟩ := p1
    have hg6 := hg5.x sX D5
    refine ⟨_, rfl, _, rfl, _, rfl, d, p, ga, gs, rfl, DX, hp.ok, hg6, ok, fun H7 tn nums s7 D7 ht7 hl7 hr7 => ?_⟩
    have sX7 := sX.trans s7
    have hc7 := hc5.x sX7 D5
    have hfl7 := hfl5.x sX7 D5 hfd
    obtain ⟨dx7, vs7, ga7, hs7, hv7, hg7⟩ := id hc7
    refine ⟨_, rfl, x, dx7, vs7, rfl, hs7, _, rfl, _, rfl, p, x, tn, gs, nums, rfl, hp.ok, hc7, ok, ht7, hl7, hr7, fun H8 tm s8 ht8 => ?_⟩
    have hg8 := (hg5.x sX7 D5).same s8
    obtain ⟨ts8, ha8, hpr8⟩ := id hg8
    have tl8 : ts8.length = gs.length := Paired.length hpr8
    refine ⟨_, rfl, ga, _, rfl, .inr (.inl (.inl ha8)), _, rfl, by omega, by rw [List.length_map]; omega, fun Lc hLc => ?_⟩
    have hn8 : ((((ts8.map V.ref).length : Nat) : Int)).toNat = gs.length := by rw [List.length_map, tl8]; omega
    rw [hn8]
    refine lc_it walk_range (LcI H8 Lc fun _ => []) (lcI0 hLc rfl) (fun _ _ _ _ => True.intro) (fun j y H9 H10 hj p9 y3 => ?_) (fun H9 p9 => ?_)
    · obtain ⟨rfl, rfl⟩ := y3
      obtain ⟨as, b, f1, f2, f3⟩ := hfl7.get (i := j) (by rw [formsL_len]; exact hj)
      have s9 := s8.trans p9.1
      refine ⟨rfl, _, rfl, _, rfl, _, rfl, fl, _, _, .ref b, rfl, rfl, .inl (.inl (s9 _ _ f1)), by show atI _ (0 + (j : Nat)) = _; rw [Int.zero_add]; exact atI_nat (by rw [List.getElem?_map, f2]; rfl), _, rfl, ?_⟩
      have hmj : j < (meanC p nums gs).length := by unfold meanC; rw [allG_len]; exact hj
      refine ⟨p, b, tn, _, nums, rfl, by have := hp.ok.gt; omega, hp.ok.gt.2, s9 _ _ f3, m.nd j hj, m.rg j hj, m.ex j hj, s9 _ _ ht7, hr7, fun H11 s11 => ?_⟩
      refine ⟨_, rfl, _, rfl, tm, _, _, .int ((meanC p nums gs).getD j 0), rfl, rfl, .inl (.inl (s11 _ _ (p9.1 _ _ ht8))), by show atI _ (0 + (j : Nat)) = _; rw [Int.zero_add]; exact atI_nat (by rw [List.getElem?_map, List.getElem?_eq_getElem hmj]; unfold List.getD; rw [List.getElem?_eq_getElem hmj]; rfl), rfl, _, rfl, ?_⟩
      rw [m.val j hj nums hl7 hr7, int_eq]
      exact lcSkip p9 s11 rfl
    · refine ⟨by show 0 ≤ sizeLine; exact Nat.zero_le _, fun le hle => ?_⟩
      have w1 := same_upd (o := .lst []) hle
      refine ⟨.list [], .list [], .lst (.inl (.inl (w1 _ _ p9.2))) .nil, .lst (.inl (.inl upd_same)) .nil, by decide +kernel, by decide +kernel, _, rfl, ?_⟩
      have sA := (s8.trans p9.1).trans w1
      exact ⟨⟨_, _, _, _, _, rfl⟩, sX7.trans (Same.x d sA), D7.same sA⟩
  · intro σ H' p1
    obtain ⟨⟨y, z, t1, t2, t3, rfl⟩, sX, DX⟩ := p1
    exact q _ (sH5.trans sX) DX

end
end K24
end
section
set_option autoImplicit false
set_option Elab.async false
set_option linter.all false
set_option maxRecDepth 100000
set_option maxHeartbeats 1000000
/-! the law -/
namespace K24
open PySem PySem.Spec PyProof.Rows L2 SlX RZ
def gSome : List Gate := [.inp 2, .inp 1, .sum 0 1, .prod 2 1, .times 3 6]
def gHigh : List Gate := [.inp 1, .prod 0 0, .prod 1 1, .prod 2 0, .prod 3 0]
def gC5 : List Gate := [.const 5]
def litK (F : Fm) (e : Ex) (c : Int) : Prop := F = [(e, c)]
/-- the mathematics of the law's written circuits -/
structure LitOk : Prop where
  some5 : MathOk 5 gSome
  some7 : MathOk 7 gSome
  high5 : MathOk 5 gHigh
  high7 : MathOk 7 gHigh
  c5g : GsOk gC5
  c5w : WalkOk 5 gC5
  s5 : ((formsC 5 gSome).getD 4 []).Perm [([0, 2], 1), ([1, 1], 1)]
  s7 : ((formsC 7 gSome).getD 4 []).Perm [([0, 2], 6), ([1, 1], 6)]
  h5 : ∀ i e, [1, 2, 4, 1, 2][i]? = some e → ((formsC 5 gHigh).getD i []).Perm [([e], 1)]
  h7 : ((formsC 7 gHigh).getD 4 []).Perm [([6], 1)]
  c5 : (formsC 5 gC5).getD 0 [] = []
theorem sameT_perm {A B : Fm} (h : A.Perm B) : SameT (enF A) (enF B) := SameT.perm (h.map _) fun q hq => by
  obtain ⟨kv, _, rfl⟩ := List.mem_map.mp hq
  exact ⟨_, rfl⟩
theorem paired_map {α β γ : Type} {R : α → β → Prop} (f : γ → α) (g : γ → β) : ∀ l : List γ, (∀ x ∈ l, R (f x) (g x)) → Paired R (l.map f) (l.map g)
  | [], _ => .nil
  | x :: l, h => .cons (h x List.mem_cons_self) (paired_map f g l fun y hy => h y (List.mem_cons_of_mem _ hy))
theorem circ_same {Hs Hm H' : Hp} {x dx : Addr} {o1 o2 : HO} (v : Same Hs Hm) (hx : Hm x = none) (hdx : Hm dx = none) (hk : ∀ b u, b ≠ x → b ≠ dx → (upd (upd Hm dx o1) x o2) b = some u → H' b = some u) : Same Hs H' := fun b u e => by
  have e2 := v _ _ e
  have hbx : b ≠ x := fun z => by rw [z, hx] at e2; cases e2
  have hbd : b ≠ dx := fun z => by rw [z, hdx] at e2; cases e2
  exact hk b u hbx hbd (by rw [upd_ne hbx, upd_ne hbd]; exact e2)
theorem DTs.ex {H : Hp} : ∀ {as : List Addr} {kas : List (List (List Key × V))}, DTs H as kas → ∀ c ∈ as, ∃ u, H c = some u
  | [], _, _, c, hc => nomatch hc
  | a :: as, kas, h, c, hc => by
    cases h with
    | cons r t =>
      rcases List.mem_cons.mp hc with e | e
      · subst e
        rcases r with r | ⟨o, r⟩
        · exact ⟨_, r⟩
        · exact ⟨_, r⟩
      · exact DTs.ex t c e
theorem DTs.same {H H' : Hp} {as : List Addr} {kas : List (List (List Key × V))} (h : DTs H as kas) (s : Same H H') : DTs H' as kas := paired_imp (fun _ _ e => Same.rd s e) h
theorem ne_all {HB Hk : Hp} {as : List Addr} {d : Addr} (t : Same HB Hk) (h : ∀ c ∈ as, ∃ u, HB c = some u) (hd : Hk d = none) : ∀ c ∈ as, c ≠ d := fun c hc => by
  obtain ⟨u, e⟩ := h c hc
  exact ne_of_none (t _ _ e) hd
theorem told_dts {H1 H2 H3 : Hp} {r : Addr} {F : Fm} : ∀ {as : List Addr} {fs : List Fm}, Paired (fun a F => H1 a = some (.dT (enF F))) as fs → Same H1 H3 → H2 r = some (.dT (enF F)) → Same H2 H3 → DTs H3 (as ++ [r]) ((fs ++ [F]).map enF)
  | _, _, .nil, s1, hr, s2 => .cons (.inl (s2 _ _ hr)) .nil
  | _, _, .cons h t, s1, hr, s2 => .cons (.inl (s1 _ _ h)) (told_dts t s1 hr s2)
section
variable {P : Program} {w : World} {K : PySem.W.Frag} {mg : Str → Option Value} {base : Heap} {C p0 p1 pI gI fM fI : Addr} {i0 i1 : Nat}
theorem sc_law : FnScope ["_law_script", "_law_spot", "_law_dice_here", "_law_some", "_law_high", "_law_told", "_law_at"] ["_law_script"] (defScope s_law) := ⟨rfl, rfl, rfl, by decide +kernel, rfl, by decide +kernel, by decide +kernel⟩
def sp_law (K : PySem.W.Frag) : Sp := fun vs H Q _ => ∃ (a : Addr) (ns : List Int), vs = [.ref a] ∧ SqL K H a (ns.map V.int) ∧ ∀ H', Q (.bl true) H'
theorem ok_law {f : Addr} {fd : FuncData} (F : L2.Fun K "law" "law" s_law f fd) (L : LitOk) (g : GB mg) (cd : C8.Cal P w K mg base 1 "_law_dice" (sp_law_dice K) []) (cr : C8.Cal P w K mg base 9 "_law_right" sp_law_right [])
    (ck : C8.Mak P w K mg base 5 "Circuit" C (sp_C_init C i0) []) (cfo : C8.Cal P w K mg base 5 "form_of" (sp_form_of C i0) []) : FnOk P w K mg base CX0 10 f fd ["_law_script"] (sp_law K) := by
  refine F.ok sc_law (fun vs H Q E h => by obtain ⟨_, _, rfl, _⟩ := h; rfl) fun cdv A outer s H vs Q E hr h => ?_
  refine ⟨_, (pss_cons (ps_for PassesOwn.never rfl (pi_range1 (by rfl) g.range (pa_cons (pe_callB (call_max2 rfl) (by rfl) g.max (by decide +kernel) (pa_cons pe_int (pa_cons (pe_callB (call_min2 rfl) (by rfl) g.min (by decide +kernel) (pa_cons pe_int (pa_cons (pe_callB call_len_seq (by rfl) g.len (by decide +kernel) (pa_cons (pv 0) pa_nil)) pa_nil))) pa_nil))) pa_nil)) (pg_name (i := 1) sc_law.nd rfl (Or.inl rfl)) (pss_cons (ps_set (i := 2) sc_law.nd rfl (Or.inl rfl) (C8.pe_c cd hr (by decide) (by rfl) (pa_cons (pv 0) (pa_cons (pv 1) pa_nil)))) (pss_one (ps_if (PW.pt (pw_or (pt_not (pt_val (C8.pe_c cr hr (by decide) (by rfl) (pa_cons (pv 2) pa_nil)))) (pw_or1 (pt_not (pt_val (C8.pe_c cr hr (by decide) (by rfl) (pa_cons (pv 2) pa_nil))))))) (pss_one (ps_ret pe_bl)) pss_nil)))) (pss_cons (ps_set (i := 3) sc_law.nd rfl (Or.inl rfl) (C8.pe_mk ck hr (by decide) (by rfl) (pa_cons (pe_tup (pa_cons (pe_tup (pa_cons pe_str (pa_cons pe_int pa_nil))) (pa_cons (pe_tup (pa_cons pe_str (pa_cons pe_int pa_nil))) (pa_cons (pe_tup (pa_cons pe_str (pa_cons pe_int (pa_cons pe_int pa_nil)))) (pa_cons (pe_tup (pa_cons pe_str (pa_cons pe_int (pa_cons pe_int pa_nil)))) (pa_cons (pe_tup (pa_cons pe_str (pa_cons pe_int (pa_cons pe_int pa_nil)))) pa_nil)))))) (pa_cons (pe_tup (pa_cons (pe_tup (pa_cons pe_int (pa_cons (pe_tup (pa_cons pe_int (pa_cons pe_int pa_nil))) pa_nil))) pa_nil)) pa_nil)))) (pss_cons (ps_if (PW.pt (pw_or (pt_cmpR (op_neT (hu4 hr)) (C8.pe_c cfo hr (by decide) (by rfl) (pa_cons pe_int (pa_cons (pv 3) (pa_cons pe_int pa_nil)))) (pe_dispT (hu4 hr) (pps_cons (pe_tup (pa_cons pe_int (pa_cons pe_int pa_nil))) pe_int (pps_cons (pe_tup (pa_cons pe_int (pa_cons pe_int pa_nil))) pe_int pps_nil)) (by rfl) (by rfl) (fun z => by cases z) (by decide)) (nomark _)) (pw_or1 (pt_cmpR (op_neT (hu4 hr)) (C8.pe_c cfo hr (by decide) (by rfl) (pa_cons pe_int (pa_cons (pv 3) (pa_cons pe_int pa_nil)))) (pe_dispT (hu4 hr) (pps_cons (pe_tup (pa_cons pe_int (pa_cons pe_int pa_nil))) pe_int (pps_cons (pe_tup (pa_cons pe_int (pa_cons pe_int pa_nil))) pe_int pps_nil)) (by rfl) (by rfl) (fun z => by cases z) (by decide)) (nomark _))))) (pss_one (ps_ret pe_bl)) pss_nil) (pss_cons (ps_set (i := 4) sc_law.nd rfl (Or.inr rfl) (C8.pe_mk ck hr (by decide) (by rfl) (pa_cons (pe_tup (pa_cons (pe_tup (pa_cons pe_str (pa_cons pe_int pa_nil))) (pa_cons (pe_tup (pa_cons pe_str (pa_cons pe_int (pa_cons pe_int pa_nil)))) (pa_cons (pe_tup (pa_cons pe_str (pa_cons pe_int (pa_cons pe_int pa_nil)))) (pa_cons (pe_tup (pa_cons pe_str (pa_cons pe_int (pa_cons pe_int pa_nil)))) (pa_cons (pe_tup (pa_cons pe_str (pa_cons pe_int (pa_cons pe_int pa_nil)))) pa_nil)))))) (pa_cons (pe_tup (pa_cons (pe_tup (pa_cons pe_int (pa_cons (pe_tup (pa_cons pe_int pa_nil)) pa_nil))) pa_nil)) pa_nil)))) (pss_cons (ps_set (i := 5) sc_law.nd rfl (Or.inl rfl) (pe_op op_cat (pe_lc (own := [("_law_at", 6)]) (g := gName 6) (tt := tYes) rfl sc_law.nd (pi_range1 (by rfl) g.range (pa_cons pe_int pa_nil)) (blkOk_by (N := ["_law_script", "_law_spot", "_law_dice_here", "_law_some", "_law_high", "_law_told", "_law_at"]) (sc := defScope s_law) (by decide +kernel)) (fun _ _ _ _ _ => pg_name (i := 6) sc_law.nd rfl (Or.inl rfl)) (fun _ _ _ _ _ => pts_nil) (fun _ _ _ _ _ => (C8.pe_c cfo hr (by decide) (by rfl) (pa_cons pe_int (pa_cons (pv 4) (pa_cons (pv 6) pa_nil)))))) (pe_lst (pa_cons (C8.pe_c cfo hr (by decide) (by rfl) (pa_cons pe_int (pa_cons (pv 4) (pa_cons pe_int pa_nil)))) pa_nil)))) (pss_one (ps_ret (pe_and (pe_cmpR (op_eqLT (hu4 hr)) (pv 5) (pe_lst (pa_cons (pe_dispT (hu4 hr) (pps_cons (pe_tup (pa_cons pe_int pa_nil)) pe_int pps_nil) (by rfl) (by rfl) (fun z => by cases z) (by decide)) (pa_cons (pe_dispT (hu4 hr) (pps_cons (pe_tup (pa_cons pe_int pa_nil)) pe_int pps_nil) (by rfl) (by rfl) (fun z => by cases z) (by decide)) (pa_cons (pe_dispT (hu4 hr) (pps_cons (pe_tup (pa_cons pe_int pa_nil)) pe_int pps_nil) (by rfl) (by rfl) (fun z => by cases z) (by decide)) (pa_cons (pe_dispT (hu4 hr) (pps_cons (pe_tup (pa_cons pe_int pa_nil)) pe_int pps_nil) (by rfl) (by rfl) (fun z => by cases z) (by decide)) (pa_cons (pe_dispT (hu4 hr) (pps_cons (pe_tup (pa_cons pe_int pa_nil)) pe_int pps_nil) (by rfl) (by rfl) (fun z => by cases z) (by decide)) (pa_cons (pe_dispT (hu4 hr) (pps_cons (pe_tup (pa_cons pe_int pa_nil)) pe_int pps_nil) (by rfl) (by rfl) (fun z => by cases z) (by decide)) pa_nil))))))) (nomark _)) (pe_one (pe_cmpR (op_eqT (hu4 hr)) (C8.pe_c cfo hr (by decide) (by rfl) (pa_cons pe_int (pa_cons (C8.pe_mk ck hr (by decide) (by rfl) (pa_cons (pe_tup (pa_cons (pe_tup (pa_cons pe_str (pa_cons pe_int pa_nil))) pa_nil)) (pa_cons (pe_tup (pa_cons (pe_tup (pa_cons pe_int (pa_cons (pe_tup (pa_cons pe_int pa_nil)) pa_nil))) pa_nil)) pa_nil))) (pa_cons pe_int pa_nil)))) pe_dnewT (nomark _))))))))))), ?_⟩
  obtain ⟨a, ns, rfl, ha, q⟩ := h
  -- the draws
  refine ⟨_, rfl, a, _, rfl, .inl ha, _, _, rfl, _, _, rfl, ?_⟩
  obtain ⟨m, em, hm⟩ : ∃ m : Int, (if (if (((ns.map V.int).length : Nat) : Int) < 3 then (((ns.map V.int).length : Nat) : Int) else 3) > 1 then (if (((ns.map V.int).length : Nat) : Int) < 3 then (((ns.map V.int).length : Nat) : Int) else 3) else 1) = m ∧ 0 ≤ m ∧ m ≤ 3 := ⟨_, rfl, by split <;> split <;> omega, by split <;> split <;> omega⟩
  rw [em]
  refine ⟨m, rfl, by omega, by omega, ?_⟩
  refine for_it walk_range (fun i σ H' => (∃ y z, σ = [some (.ref a), y, z, none, none, none, none]) ∧ Same H H') ?_ (fun _ _ _ _ _ => True.intro) ?_ ?_
  · exact ⟨⟨_, _, rfl⟩, Same.refl _⟩
  · intro i y σ H' H2 hi p1 y2
    obtain ⟨rfl, rfl⟩ := y2
    obtain ⟨⟨y, z, rfl⟩, s0⟩ := p1
    refine ⟨_, rfl, _, rfl, a, ns, i, by show [V.ref a, V.int (0 + (i : Nat))] = _; rw [Int.zero_add], s0.seq ha, fun H3 d s3 hd D3 => ?_⟩
    refine ⟨_, rfl, d, rfl, D3, fun H4 s4 D4 => ⟨_, rfl, ?_⟩⟩
    refine ⟨_, rfl, d, rfl, D4, fun H5 s5 D5 => ⟨_, rfl, ?_⟩⟩
    refine ⟨⟨_, _, rfl⟩, fun b u e => ?_⟩
    have hb : b ≠ d := ne_of_none (s0 _ _ e) hd
    exact s5 _ _ hb (s4 _ _ hb (s3 _ _ (s0 _ _ e)))
  intro σ H1 p1
  obtain ⟨⟨y, z, rfl⟩, s1⟩ := p1
  -- some
  refine ⟨by show 2 ≤ sizeLine; decide, fun ag0 hag0 => ⟨by show 2 ≤ sizeLine; decide, fun ag1 hag1 => ⟨by show 3 ≤ sizeLine; decide, fun ag2 hag2 => ⟨by show 3 ≤ sizeLine; decide, fun ag3 hag3 => ⟨by show 3 ≤ sizeLine; decide, fun ag4 hag4 => ⟨by show 5 ≤ sizeLine; decide, fun aga haga => ⟨by show 2 ≤ sizeLine; decide, fun ahs hahs => ⟨by show 2 ≤ sizeLine; decide, fun aot haot => ⟨by show 1 ≤ sizeLine; decide, fun aos haos => ?_⟩⟩⟩⟩⟩⟩⟩⟩⟩
  have uag0 := same_upd (o := .tup [.str "input", .int 2]) hag0
  have uag1 := same_upd (o := .tup [.str "input", .int 1]) hag1
  have uag2 := same_upd (o := .tup [.str "sum", .int 0, .int 1]) hag2
  have uag3 := same_upd (o := .tup [.str "product", .int 2, .int 1]) hag3
  have uag4 := same_upd (o := .tup [.str "times", .int 3, .int 6]) hag4
  have uaga := same_upd (o := .tup [.ref ag0, .ref ag1, .ref ag2, .ref ag3, .ref ag4]) haga
  have uahs := same_upd (o := .tup [.int 1, .int 3]) hahs
  have uaot := same_upd (o := .tup [.int 4, .ref ahs]) haot
  have uaos := same_upd (o := .tup [.ref aot]) haos
  have va := ((((((((uag0.trans uag1).trans uag2).trans uag3).trans uag4).trans uaga).trans uahs).trans uaot).trans uaos)
  intro xa dxa hxa hdxa hnea
  have ya := (same_upd (o := .own xa) hdxa).trans (same_upd (o := .ins C dxa []) (by rw [upd_ne (Ne.symm hnea)]; exact hxa))
  refine ⟨xa, dxa, aga, aos, gSome, rfl, upd_same, hnea, by rw [upd_ne hnea, upd_same], ⟨[ag0, ag1, ag2, ag3, ag4], ya _ _ (((uahs.trans uaot).trans uaos) _ _ upd_same), .cons (ya _ _ ((((((((uag1.trans uag2).trans uag3).trans uag4).trans uaga).trans uahs).trans uaot).trans uaos) _ _ upd_same)) (.cons (ya _ _ (((((((uag2.trans uag3).trans uag4).trans uaga).trans uahs).trans uaot).trans uaos) _ _ upd_same)) (.cons (ya _ _ ((((((uag3.trans uag4).trans uaga).trans uahs).trans uaot).trans uaos) _ _ upd_same)) (.cons (ya _ _ (((((uag4.trans uaga).trans uahs).trans uaot).trans uaos) _ _ upd_same)) (.cons (ya _ _ ((((uaga.trans uahs).trans uaot).trans uaos) _ _ upd_same)) (.nil)))))⟩, L.some5.gso, ?_, fun Ha hka ca => ⟨rfl, ?_⟩⟩
  · exact ⟨aot, ya _ _ (upd_same), ahs, [1, 3], 4, ya _ _ (uaos _ _ upd_same), ya _ _ ((uaot.trans uaos) _ _ upd_same), .inr rfl, by decide, by decide⟩
  have sa := circ_same va hxa hdxa hka

  refine ⟨_, rfl, 5, xa, gSome, 4, rfl, FieldIn.ok (.inl rfl), ca, L.some5.gso, L.some5.wk, by decide, fun H5 r5 s5 hr5 => ?_⟩
  refine fun bd hbd => ⟨by show 2 ≤ sizeLine; decide, fun bk0 hbk0 => ⟨by show 2 ≤ sizeLine; decide, fun bk1 hbk1 => ?_⟩⟩
  have ubk0 := same_upd (o := .tup [.int 0, .int 2]) hbk0
  have ubk1 := same_upd (o := .tup [.int 1, .int 1]) hbk1
  have eb := (ubk0.trans ubk1)
  refine ⟨eb _ _ upd_same, enF [([0, 2], 1), ([1, 1], 1)], .cons ⟨bk0, rfl, ubk1 _ _ upd_same, rfl⟩ (.cons ⟨bk1, rfl, upd_same, rfl⟩ (.nil)), by show 2 ≤ 15; decide, True.intro, ?_⟩
  rw [mergeT_nil (by decide : (keys [([0, 2], 1), ([1, 1], 1)]).Nodup)]
  have wb := (same_upd hbd).trans eb

  refine ⟨r5, bd, _, _, rfl, rfl, .inl (same_set hbd wb _ _ hr5), .inl upd_same, sameT_perm L.s5, _, rfl, ?_⟩
  have sb := s5.trans (same_set (o := .dT (enF [([0, 2], 1), ([1, 1], 1)])) hbd wb)
  refine ⟨_, rfl, 7, xa, gSome, 4, rfl, FieldIn.ok (.inr (.inl rfl)), ca.same sb, L.some7.gso, L.some7.wk, by decide, fun H6 r6 s6 hr6 => ?_⟩
  refine fun cd' hcd' => ⟨by show 2 ≤ sizeLine; decide, fun ck0 hck0 => ⟨by show 2 ≤ sizeLine; decide, fun ck1 hck1 => ?_⟩⟩
  have uck0 := same_upd (o := .tup [.int 0, .int 2]) hck0
  have uck1 := same_upd (o := .tup [.int 1, .int 1]) hck1
  have ec := (uck0.trans uck1)
  refine ⟨ec _ _ upd_same, enF [([0, 2], 6), ([1, 1], 6)], .cons ⟨ck0, rfl, uck1 _ _ upd_same, rfl⟩ (.cons ⟨ck1, rfl, upd_same, rfl⟩ (.nil)), by show 2 ≤ 15; decide, True.intro, ?_⟩
  rw [mergeT_nil (by decide : (keys [([0, 2], 6), ([1, 1], 6)]).Nodup)]
  have wc := (same_upd hcd').trans ec

  refine ⟨r6, cd', _, _, rfl, rfl, .inl (same_set hcd' wc _ _ hr6), .inl upd_same, sameT_perm L.s7, _, rfl, ?_⟩
  -- high
  refine ⟨by show 2 ≤ sizeLine; decide, fun eg0 heg0 => ⟨by show 3 ≤ sizeLine; decide, fun eg1 heg1 => ⟨by show 3 ≤ sizeLine; decide, fun eg2 heg2 => ⟨by show 3 ≤ sizeLine; decide, fun eg3 heg3 => ⟨by show 3 ≤ sizeLine; decide, fun eg4 heg4 => ⟨by show 5 ≤ sizeLine; decide, fun ega hega => ⟨by show 1 ≤ sizeLine; decide, fun ehs hehs => ⟨by show 2 ≤ sizeLine; decide, fun eot heot => ⟨by show 1 ≤ sizeLine; decide, fun eos heos => ?_⟩⟩⟩⟩⟩⟩⟩⟩⟩
  have ueg0 := same_upd (o := .tup [.str "input", .int 1]) heg0
  have ueg1 := same_upd (o := .tup [.str "product", .int 0, .int 0]) heg1
  have ueg2 := same_upd (o := .tup [.str "product", .int 1, .int 1]) heg2
  have ueg3 := same_upd (o := .tup [.str "product", .int 2, .int 0]) heg3
  have ueg4 := same_upd (o := .tup [.str "product", .int 3, .int 0]) heg4
  have uega := same_upd (o := .tup [.ref eg0, .ref eg1, .ref eg2, .ref eg3, .ref eg4]) hega
  have uehs := same_upd (o := .tup [.int 1]) hehs
  have ueot := same_upd (o := .tup [.int 4, .ref ehs]) heot
  have ueos := same_upd (o := .tup [.ref eot]) heos
  have ve := ((((((((ueg0.trans ueg1).trans ueg2).trans ueg3).trans ueg4).trans uega).trans uehs).trans ueot).trans ueos)
  intro xe dxe hxe hdxe hnee
  have ye := (same_upd (o := .own xe) hdxe).trans (same_upd (o := .ins C dxe []) (by rw [upd_ne (Ne.symm hnee)]; exact hxe))
  refine ⟨xe, dxe, ega, eos, gHigh, rfl, upd_same, hnee, by rw [upd_ne hnee, upd_same], ⟨[eg0, eg1, eg2, eg3, eg4], ye _ _ (((uehs.trans ueot).trans ueos) _ _ upd_same), .cons (ye _ _ ((((((((ueg1.trans ueg2).trans ueg3).trans ueg4).trans uega).trans uehs).trans ueot).trans ueos) _ _ upd_same)) (.cons (ye _ _ (((((((ueg2.trans ueg3).trans ueg4).trans uega).trans uehs).trans ueot).trans ueos) _ _ upd_same)) (.cons (ye _ _ ((((((ueg3.trans ueg4).trans uega).trans uehs).trans ueot).trans ueos) _ _ upd_same)) (.cons (ye _ _ (((((ueg4.trans uega).trans uehs).trans ueot).trans ueos) _ _ upd_same)) (.cons (ye _ _ ((((uega.trans uehs).trans ueot).trans ueos) _ _ upd_same)) (.nil)))))⟩, L.high5.gso, ?_, fun He hke ce => ⟨rfl, ?_⟩⟩
  · exact ⟨eot, ye _ _ (upd_same), ehs, [1], 4, ye _ _ (ueos _ _ upd_same), ye _ _ ((ueot.trans ueos) _ _ upd_same), .inl rfl, by decide, by decide⟩
  have se := circ_same ve hxe hdxe hke

  refine ⟨5, rfl, by decide, by decide, fun Dl hDl => ?_⟩
  refine lc_it walk_range (fun i H' => Same He H' ∧ FL H' Dl ((formsC 5 gHigh).take i)) ⟨same_upd hDl, [], upd_same, .nil⟩ (fun _ _ _ _ => True.intro) (fun i y H7 H8 hi p1 y2 => ?_) (fun H7 p1 => ?_)
  · obtain ⟨rfl, rfl⟩ := y2
    obtain ⟨s7, fL⟩ := p1
    have hi5 : i < 5 := hi
    refine ⟨rfl, _, rfl, _, rfl, 5, xe, gHigh, i, by show [V.int 5, V.ref xe, V.int (0 + (i : Nat))] = _; rw [Int.zero_add], FieldIn.ok (.inl rfl), ce.same s7, L.high5.gso, L.high5.wk, hi5, fun H9 r9 s9 hr9 => ?_⟩
    obtain ⟨acc, b1, b2, b3⟩ := fL.push s9 hr9
    have hf : (formsC 5 gHigh)[i]? = some ((formsC 5 gHigh).getD i []) := by
      unfold List.getD
      rw [List.getElem?_eq_getElem (by rw [formsC_len]; exact hi5)]
      rfl
    refine ⟨acc, b1, by rw [b2, List.length_take]; exact small1000 (by omega), same_set hDl (s7.trans s9), ?_⟩
    rw [List.take_succ, hf]
    exact b3
  obtain ⟨s7, as, fl1, fl2⟩ := p1
  have htk : (formsC 5 gHigh).take (5 : Int).toNat = formsC 5 gHigh := List.take_of_length_le (by rw [formsC_len]; decide)
  rw [htk] at fl2
  have hal : as.length = 5 := by
    have := Paired.length fl2
    rw [formsC_len] at this
    exact this
  refine ⟨_, rfl, 7, xe, gHigh, 4, rfl, FieldIn.ok (.inr (.inl rfl)), ce.same s7, L.high7.gso, L.high7.wk, by decide, fun H8 r8 s8 hr8 => ?_⟩
  refine ⟨by show 1 ≤ sizeLine; decide, fun l2 hl2 => ?_⟩
  have k2 := same_upd (o := .lst [.ref r8]) hl2
  refine ⟨Dl, l2, as.map V.ref, [.ref r8], rfl, rfl, k2 _ _ (s8 _ _ fl1), upd_same, by rw [List.length_map, hal]; show 5 + 1 ≤ sizeLine; decide, fun lt hlt => ?_⟩
  have k3 := same_upd (o := .lst (as.map V.ref ++ [.ref r8])) hlt
  have dts := told_dts fl2 (s8.trans (k2.trans k3)) hr8 (k2.trans k3)
  have hex := DTs.ex dts
  refine ⟨_, rfl, ?_⟩
  refine fun f0d hf0d => ⟨by show 1 ≤ sizeLine; decide, fun f0k0 hf0k0 => ?_⟩
  have uf0k0 := same_upd (o := .tup [.int 1]) hf0k0
  have ef0 := uf0k0
  refine ⟨ef0 _ _ upd_same, enF [([1], 1)], .cons ⟨f0k0, rfl, upd_same, rfl⟩ (.nil), by show 1 ≤ 15; decide, True.intro, ?_⟩
  rw [mergeT_nil (by decide : (keys [([1], 1)]).Nodup)]
  have wf0 := (same_upd hf0d).trans ef0
  have nf0 := ne_all (Same.refl _) hex hf0d
  have zf0 := same_set (o := .dT (enF [([1], 1)])) hf0d wf0
  refine fun f1d hf1d => ⟨by show 1 ≤ sizeLine; decide, fun f1k0 hf1k0 => ?_⟩
  have uf1k0 := same_upd (o := .tup [.int 2]) hf1k0
  have ef1 := uf1k0
  refine ⟨ef1 _ _ upd_same, enF [([2], 1)], .cons ⟨f1k0, rfl, upd_same, rfl⟩ (.nil), by show 1 ≤ 15; decide, True.intro, ?_⟩
  rw [mergeT_nil (by decide : (keys [([2], 1)]).Nodup)]
  have wf1 := (same_upd hf1d).trans ef1
  have nf1 := ne_all zf0 hex hf1d
  have zf1 := same_set (o := .dT (enF [([2], 1)])) hf1d wf1
  refine fun f2d hf2d => ⟨by show 1 ≤ sizeLine; decide, fun f2k0 hf2k0 => ?_⟩
  have uf2k0 := same_upd (o := .tup [.int 4]) hf2k0
  have ef2 := uf2k0
  refine ⟨ef2 _ _ upd_same, enF [([4], 1)], .cons ⟨f2k0, rfl, upd_same, rfl⟩ (.nil), by show 1 ≤ 15; decide, True.intro, ?_⟩
  rw [mergeT_nil (by decide : (keys [([4], 1)]).Nodup)]
  have wf2 := (same_upd hf2d).trans ef2
  have nf2 := ne_all (zf0.trans zf1) hex hf2d
  have zf2 := same_set (o := .dT (enF [([4], 1)])) hf2d wf2
  refine fun f3d hf3d => ⟨by show 1 ≤ sizeLine; decide, fun f3k0 hf3k0 => ?_⟩
  have uf3k0 := same_upd (o := .tup [.int 1]) hf3k0
  have ef3 := uf3k0
  refine ⟨ef3 _ _ upd_same, enF [([1], 1)], .cons ⟨f3k0, rfl, upd_same, rfl⟩ (.nil), by show 1 ≤ 15; decide, True.intro, ?_⟩
  rw [mergeT_nil (by decide : (keys [([1], 1)]).Nodup)]
  have wf3 := (same_upd hf3d).trans ef3
  have nf3 := ne_all ((zf0.trans zf1).trans zf2) hex hf3d
  have zf3 := same_set (o := .dT (enF [([1], 1)])) hf3d wf3
  refine fun f4d hf4d => ⟨by show 1 ≤ sizeLine; decide, fun f4k0 hf4k0 => ?_⟩
  have uf4k0 := same_upd (o := .tup [.int 2]) hf4k0
  have ef4 := uf4k0
  refine ⟨ef4 _ _ upd_same, enF [([2], 1)], .cons ⟨f4k0, rfl, upd_same, rfl⟩ (.nil), by show 1 ≤ 15; decide, True.intro, ?_⟩
  rw [mergeT_nil (by decide : (keys [([2], 1)]).Nodup)]
  have wf4 := (same_upd hf4d).trans ef4
  have nf4 := ne_all (((zf0.trans zf1).trans zf2).trans zf3) hex hf4d
  have zf4 := same_set (o := .dT (enF [([2], 1)])) hf4d wf4
  refine fun f5d hf5d => ⟨by show 1 ≤ sizeLine; decide, fun f5k0 hf5k0 => ?_⟩
  have uf5k0 := same_upd (o := .tup [.int 6]) hf5k0
  have ef5 := uf5k0
  refine ⟨ef5 _ _ upd_same, enF [([6], 1)], .cons ⟨f5k0, rfl, upd_same, rfl⟩ (.nil), by show 1 ≤ 15; decide, True.intro, ?_⟩
  rw [mergeT_nil (by decide : (keys [([6], 1)]).Nodup)]
  have wf5 := (same_upd hf5d).trans ef5
  have nf5 := ne_all ((((zf0.trans zf1).trans zf2).trans zf3).trans zf4) hex hf5d
  have zf5 := same_set (o := .dT (enF [([6], 1)])) hf5d wf5
  have tt := (((((zf0.trans zf1).trans zf2).trans zf3).trans zf4).trans zf5)

  refine ⟨by show 6 ≤ sizeLine; decide, fun ll hll => ?_⟩
  have tL := same_upd (o := .lst [.ref f0d, .ref f1d, .ref f2d, .ref f3d, .ref f4d, .ref f5d]) hll
  refine ⟨lt, ll, as ++ [r8], [f0d, f1d, f2d, f3d, f4d, f5d], _, [enF [([1], 1)], enF [([2], 1)], enF [([4], 1)], enF [([1], 1)], enF [([2], 1)], enF [([6], 1)]], rfl, rfl, ?_, upd_same, dts.same (tt.trans tL), ?_, ?_, ?_, _, rfl, ?_⟩
  · rw [(tt.trans tL) _ _ upd_same, List.map_append]
    rfl
  · exact .cons (.inl ((((((zf1.trans zf2).trans zf3).trans zf4).trans zf5).trans tL) _ _ upd_same)) (.cons (.inl (((((zf2.trans zf3).trans zf4).trans zf5).trans tL) _ _ upd_same)) (.cons (.inl ((((zf3.trans zf4).trans zf5).trans tL) _ _ upd_same)) (.cons (.inl (((zf4.trans zf5).trans tL) _ _ upd_same)) (.cons (.inl ((zf5.trans tL) _ _ upd_same)) (.cons (.inl (tL _ _ upd_same)) (.nil))))))

  · have e6 : ((formsC 5 gHigh) ++ [(formsC 7 gHigh).getD 4 []]).map enF = [enF ((formsC 5 gHigh).getD 0 []), enF ((formsC 5 gHigh).getD 1 []), enF ((formsC 5 gHigh).getD 2 []), enF ((formsC 5 gHigh).getD 3 []), enF ((formsC 5 gHigh).getD 4 []), enF ((formsC 7 gHigh).getD 4 [])] := by
      have h5 : (formsC 5 gHigh).length = 5 := formsC_len 5 gHigh
      match hq : formsC 5 gHigh, h5 with
      | [q0, q1, q2, q3, q4], _ => rfl
    rw [e6]
    exact .cons (sameT_perm (L.h5 0 1 rfl)) (.cons (sameT_perm (L.h5 1 2 rfl)) (.cons (sameT_perm (L.h5 2 4 rfl)) (.cons (sameT_perm (L.h5 3 1 rfl)) (.cons (sameT_perm (L.h5 4 2 rfl)) (.cons (sameT_perm L.h7) .nil)))))
  · intro c hc b hb
    simp only [List.mem_cons, List.not_mem_nil, or_false] at hb
    rcases hb with rfl | rfl | rfl | rfl | rfl | rfl
    · exact nf0 c hc
    · exact nf1 c hc
    · exact nf2 c hc
    · exact nf3 c hc
    · exact nf4 c hc
    · exact nf5 c hc
  -- the constant
  refine ⟨by show 2 ≤ sizeLine; decide, fun mg0 hmg0 => ⟨by show 1 ≤ sizeLine; decide, fun mga hmga => ⟨by show 1 ≤ sizeLine; decide, fun mhs hmhs => ⟨by show 2 ≤ sizeLine; decide, fun mot hmot => ⟨by show 1 ≤ sizeLine; decide, fun mos hmos => ?_⟩⟩⟩⟩⟩
  have umg0 := same_upd (o := .tup [.str "constant", .int 5]) hmg0
  have umga := same_upd (o := .tup [.ref mg0]) hmga
  have umhs := same_upd (o := .tup [.int 1]) hmhs
  have umot := same_upd (o := .tup [.int 0, .ref mhs]) hmot
  have umos := same_upd (o := .tup [.ref mot]) hmos
  have vm := ((((umg0.trans umga).trans umhs).trans umot).trans umos)
  intro xm dxm hxm hdxm hnem
  have ym := (same_upd (o := .own xm) hdxm).trans (same_upd (o := .ins C dxm []) (by rw [upd_ne (Ne.symm hnem)]; exact hxm))
  refine ⟨xm, dxm, mga, mos, gC5, rfl, upd_same, hnem, by rw [upd_ne hnem, upd_same], ⟨[mg0], ym _ _ (((umhs.trans umot).trans umos) _ _ upd_same), .cons (ym _ _ ((((umga.trans umhs).trans umot).trans umos) _ _ upd_same)) (.nil)⟩, L.c5g, ?_, fun Hm hkm cm => ⟨rfl, ?_⟩⟩
  · exact ⟨mot, ym _ _ (upd_same), mhs, [1], 0, ym _ _ (umos _ _ upd_same), ym _ _ ((umot.trans umos) _ _ upd_same), .inl rfl, by decide, by decide⟩
  have sm := circ_same vm hxm hdxm hkm

  refine ⟨5, xm, gC5, 0, rfl, FieldIn.ok (.inl rfl), cm, L.c5g, L.c5w, by decide, fun H9 r9 s9 hr9 => ?_⟩
  refine fun dn hdn => ?_
  refine ⟨r9, dn, enF ((formsC 5 gC5).getD 0 []), [], rfl, rfl, .inl ((same_upd hdn) _ _ hr9), .inl upd_same, ?_, ?_⟩
  · rw [L.c5]
    exact ⟨rfl, fun q hq => hq, fun q hq => nomatch hq⟩
  · exact q _

end
end K24
end
section
set_option Elab.async false
set_option linter.all false
set_option maxRecDepth 100000
set_option maxHeartbeats 0
/-! the head: what the top leaves -/
namespace K24
open PySem PySem.Spec PyProof.Rows L2
abbrev RL : PySem.W.OpenLaw := PySem.Challenge.rw_evencoins_k24_whole_forms_of_gates
abbrev R : PySem.W.OpenRow := PySem.W.OpenLaw.row RL
def loose0 : List PySem.Str := ["_wall", "EvenError", "InvalidInputs", "InvalidCircuit", "InvalidNumber", "TooMany", "LEAST_FIELD", "MAX_FIELD", "MOST_PART", "is_integer", "is_within", "require_field"]
def loose1 : List PySem.Str := ["require_field_field", "is_field", "is_number", "lowered", "cleaned", "constant_form", "letter_form", "form_sum", "form_scaled", "form_product", "MAX_GATES", "MAX_PRODUCTS"]
def loose2 : List PySem.Str := ["MAX_INPUTS", "MAX_OUTPUTS", "MAX_TERMS", "MOST_NUMBER", "MOST_HOUSE", "INPUT", "CONSTANT", "SUM", "MULTIPLE", "PRODUCT", "is_from", "is_gate"]
def loose3 : List PySem.Str := ["are_houses", "is_output", "many_of", "are_gates", "are_outputs", "Circuit", "meaning_in", "looks_of", "hanging", "gate_form", "forms_to", "require_field_circuits"]
def loose4 : List PySem.Str := ["require_circuit", "are_numbers", "require_numbers", "form_of", "_law_dice", "_law_roll", "_law_pick", "_law_dr_gate", "_law_dr_gates", "_law_dr_numbers", "_law_dr_inputs", "_law_fd_times"]
def loose5 : List PySem.Str := ["_law_ci_inputs", "_law_lowered", "_law_form_sum", "_law_form_product", "_law_forms", "_law_form_value", "_law_gates_drawn", "_law_right"]
def loose : List PySem.Str := loose0 ++ loose1 ++ loose2 ++ loose3 ++ loose4 ++ loose5

/-- the class Circuit, its parts -/
def cC (K : PySem.W.Frag) : Addr := He.ga K "Circuit"
def pG (K : PySem.W.Frag) : Addr := He.ma K (cC K) "own_gates"
def pO (K : PySem.W.Frag) : Addr := He.ma K (cC K) "own_outputs"
def pIn (K : PySem.W.Frag) : Addr := He.ma K (cC K) "inputs"
def gIn (K : PySem.W.Frag) : Addr := match PySem.W.recIn K (pIn K) "property" with
  | some (.ref g :: _) => g
  | _ => 0
def slotB (K : PySem.W.Frag) (f : Str) (p : Addr) (i : Nat) : Bool := He.eqO (PySem.W.findIn K (.ref (cC K)) f) (some (some (.ref p))) && (He.eqO (PySem.W.specialIn K (.ref p) "__get__") (some (some (.builtin "member_descriptor.__get__"))) && (decide (PySem.W.takesIn K (.ref p) = some true) && (decide (PySem.W.typeIn K (.ref p) = some (.type "member_descriptor")) && (decide (PySem.W.slotIn K p (cC K) = some i) && decide (i < 1000)))))
theorem slotB_ok {K : PySem.W.Frag} {f : Str} {p : Addr} {i : Nat} (h : slotB K f p i = true) : SlX.Slot1 K (cC K) f p i := by
  obtain ⟨h1, h⟩ := He.ba h
  obtain ⟨h2, h⟩ := He.ba h
  obtain ⟨h3, h⟩ := He.ba h
  obtain ⟨h4, h⟩ := He.ba h
  obtain ⟨h5, h6⟩ := He.ba h
  exact ⟨He.eqO_ok h1, He.eqO_ok h2, of_decide_eq_true h3, of_decide_eq_true h4, of_decide_eq_true h5, of_decide_eq_true h6⟩
def clsB (K : PySem.W.Frag) : Bool := PySem.W.plainGet K (cC K) Str.empty && (PySem.W.isClsIn K (cC K) && (PySem.W.plainOver K (cC K) && He.eqO (PySem.W.findIn K (.ref (cC K)) "__setattr__") (some (some (.builtin "object.__setattr__")))))
theorem clsB_ok {K : PySem.W.Frag} (h : clsB K = true) : SlX.SCls K (cC K) := by
  obtain ⟨h1, h⟩ := He.ba h
  obtain ⟨h2, h⟩ := He.ba h
  obtain ⟨h3, h4⟩ := He.ba h
  exact ⟨h1, h2, h3, He.eqO_ok h4⟩
def isiB (K : PySem.W.Frag) : Bool := He.eqO (PySem.W.findIn K (.ref (cC K)) "__class__") (some (some (.builtin "object.__class__"))) && (He.eqO (PySem.W.specialIn K (.builtin "object.__class__") "__get__") (some (some (.builtin "getset_descriptor.__get__"))) && (decide (PySem.W.takesIn K (.builtin "object.__class__") = some true) && (decide (PySem.W.mroIn K (cC K) (.type "object") = some true) && decide (PySem.W.kitOne K (.ref (cC K)) (.ref (cC K)) = some true))))
theorem isiB_ok {K : PySem.W.Frag} (h : isiB K = true) : SlX.SIsi K (cC K) ∧ PySem.W.kitOne K (.ref (cC K)) (.ref (cC K)) = some true := by
  obtain ⟨h1, h⟩ := He.ba h
  obtain ⟨h2, h⟩ := He.ba h
  obtain ⟨h3, h⟩ := He.ba h
  obtain ⟨h4, h5⟩ := He.ba h
  exact ⟨⟨He.eqO_ok h1, He.eqO_ok h2, of_decide_eq_true h3, of_decide_eq_true h4⟩, of_decide_eq_true h5⟩
def propB (K : PySem.W.Frag) : Bool := He.eqO (PySem.W.findIn K (.ref (cC K)) "inputs") (some (some (.ref (pIn K)))) && (He.eqO (PySem.W.specialIn K (.ref (pIn K)) "__get__") (some (some (.builtin "property.__get__"))) && (decide (PySem.W.takesIn K (.ref (pIn K)) = some true) && (match PySem.W.recIn K (pIn K) "property" with
  | some (.ref g :: _) => decide (g = gIn K)
  | _ => false)))
theorem propB_ok {K : PySem.W.Frag} (h : propB K = true) : PySem.W.findIn K (.ref (cC K)) "inputs" = some (some (.ref (pIn K))) ∧ PySem.W.specialIn K (.ref (pIn K)) "__get__" = some (some (.builtin "property.__get__")) ∧ PySem.W.takesIn K (.ref (pIn K)) = some true ∧
    ∃ rest, PySem.W.recIn K (pIn K) "property" = some (.ref (gIn K) :: rest) := by
  obtain ⟨h1, h⟩ := He.ba h
  obtain ⟨h2, h⟩ := He.ba h
  obtain ⟨h3, h4⟩ := He.ba h
  refine ⟨He.eqO_ok h1, He.eqO_ok h2, of_decide_eq_true h3, ?_⟩
  cases q : PySem.W.recIn K (pIn K) "property" with
  | none => rw [q] at h4; cases h4
  | some l =>
    rw [q] at h4
    cases l with
    | nil => cases h4
    | cons v r =>
      cases v with
      | ref g =>
        have e : g = gIn K := of_decide_eq_true h4
        exact ⟨r, by rw [e]⟩
      | _ => cases h4
def exB (K : PySem.W.Frag) : Bool := clsB K && (isiB K && (propB K && (slotB K "own_gates" (pG K) 0 && slotB K "own_outputs" (pO K) 1)))
def dm (g x : Str) (st : Stmt) : He5.DefA := ⟨fun K => He.ga K g, x, x, defArgs st, defBody st, defScope st, [], []⟩
def dc (a : PySem.W.Frag → Addr) (x q : Str) (st : Stmt) : He5.DefA := ⟨a, x, q, defArgs st, defBody st, defScope st, [], []⟩
def fa0 : List He.Fa := [.free "isinstance", .free "int", .free "bool", .free "all", .free "range", .free "min", .free "max", .free "abs", .free "tuple", .free "str", .free "sorted", .free "zip"]
def fa1 : List He.Fa := [.free "dict", .free "len", .free "enumerate", .free "list", .int "LEAST_FIELD" 5, .int "MAX_FIELD" 997, .int "MOST_PART" 32, .int "MAX_GATES" 60, .int "MAX_PRODUCTS" 12, .int "MAX_INPUTS" 8, .int "MAX_OUTPUTS" 6, .int "MAX_TERMS" 2000]
def fa2 : List He.Fa := [.int "MOST_NUMBER" 996, .int "MOST_HOUSE" 9, .str "INPUT" "input", .str "CONSTANT" "constant", .str "SUM" "sum", .str "MULTIPLE" "times", .str "PRODUCT" "product", .glo "is_integer", .glo "is_within", .glo "require_field_field", .glo "is_field", .glo "is_number"]
def fa3 : List He.Fa := [.glo "lowered", .glo "cleaned", .glo "constant_form", .glo "letter_form", .glo "form_sum", .glo "form_scaled", .glo "form_product", .glo "is_from", .glo "is_gate", .glo "are_houses", .glo "is_output", .glo "many_of"]
def fa4 : List He.Fa := [.glo "are_gates", .glo "are_outputs", .glo "meaning_in", .glo "looks_of", .glo "hanging", .glo "gate_form", .glo "forms_to", .glo "require_field_circuits", .glo "require_circuit", .glo "are_numbers", .glo "require_numbers", .glo "form_of"]
def fa5 : List He.Fa := [.glo "_law_dice", .glo "_law_roll", .glo "_law_pick", .glo "_law_dr_gate", .glo "_law_dr_gates", .glo "_law_dr_numbers", .glo "_law_dr_inputs", .glo "_law_fd_times", .glo "_law_ci_inputs", .glo "_law_lowered", .glo "_law_form_sum", .glo "_law_form_product"]
def fa6 : List He.Fa := [.glo "_law_forms", .glo "_law_form_value", .glo "_law_gates_drawn", .glo "_law_right", .glo "law", .glo "Circuit", .meth "Circuit" "meaning", .mkr "Circuit"]
def fa : List He.Fa := fa0 ++ fa1 ++ fa2 ++ fa3 ++ fa4 ++ fa5 ++ fa6
def fn0 : List He5.DefA := [dm "is_integer" "is_integer" s_is_integer, dm "is_within" "is_within" s_is_within, dm "require_field_field" "require_field" s_require_field_field, dm "is_field" "is_field" s_is_field, dm "is_number" "is_number" s_is_number, dm "lowered" "lowered" s_lowered, dm "cleaned" "cleaned" s_cleaned, dm "constant_form" "constant_form" s_constant_form, dm "letter_form" "letter_form" s_letter_form, dm "form_sum" "form_sum" s_form_sum, dm "form_scaled" "form_scaled" s_form_scaled, dm "form_product" "form_product" s_form_product]
def fn1 : List He5.DefA := [dm "is_from" "is_from" s_is_from, dm "is_gate" "is_gate" s_is_gate, dm "are_houses" "are_houses" s_are_houses, dm "is_output" "is_output" s_is_output, dm "many_of" "many_of" s_many_of, dm "are_gates" "are_gates" s_are_gates, dm "are_outputs" "are_outputs" s_are_outputs, dm "meaning_in" "meaning_in" s_meaning_in, dm "looks_of" "looks_of" s_looks_of, dm "hanging" "hanging" s_hanging, dm "gate_form" "gate_form" s_gate_form, dm "forms_to" "forms_to" s_forms_to]
def fn2 : List He5.DefA := [dm "require_field_circuits" "require_field" s_require_field_circuits, dm "require_circuit" "require_circuit" s_require_circuit, dm "are_numbers" "are_numbers" s_are_numbers, dm "require_numbers" "require_numbers" s_require_numbers, dm "form_of" "form_of" s_form_of, dm "_law_dice" "_law_dice" s_law_dice, dm "_law_roll" "_law_roll" s_law_roll, dm "_law_pick" "_law_pick" s_law_pick, dm "_law_dr_gate" "_law_dr_gate" s_law_dr_gate, dm "_law_dr_gates" "_law_dr_gates" s_law_dr_gates, dm "_law_dr_numbers" "_law_dr_numbers" s_law_dr_numbers, dm "_law_dr_inputs" "_law_dr_inputs" s_law_dr_inputs]
def fn3 : List He5.DefA := [dm "_law_fd_times" "_law_fd_times" s_law_fd_times, dm "_law_ci_inputs" "_law_ci_inputs" s_law_ci_inputs, dm "_law_lowered" "_law_lowered" s_law_lowered, dm "_law_form_sum" "_law_form_sum" s_law_form_sum, dm "_law_form_product" "_law_form_product" s_law_form_product, dm "_law_forms" "_law_forms" s_law_forms, dm "_law_form_value" "_law_form_value" s_law_form_value, dm "_law_gates_drawn" "_law_gates_drawn" s_law_gates_drawn, dm "_law_right" "_law_right" s_law_right, dm "law" "law" s_law, dc (fun K => He.ma K (cC K) "__init__") "__init__" "Circuit.__init__" s_C_init, dc gIn "inputs" "Circuit.inputs" s_C_inputs]
def fn4 : List He5.DefA := [dc (fun K => He.ma K (cC K) "meaning") "meaning" "Circuit.meaning" s_C_meaning]
def fn : List He5.DefA := fn0 ++ fn1 ++ fn2 ++ fn3 ++ fn4

abbrev AlX : Type := Bool × He.AlD
def obX (n : Nat) (g : Addr → Option Obj) : AlX := (exB (He.frG g (He5.asA g n)), He5.obsA fa fn (He.frG g (He5.asA g n)))
def hookX (n : Nat) : PySem.W.Hook where
  α := AlX
  obs := fun s => obX n s.heap.get?
  val := fun _ => (true, He5.valA fn)
  says := fun _ h => ∃ K : PySem.W.Frag, K.In h ∧ exB K = true ∧ He5.SaysA fa fn K
  of := fun _ _ e => ⟨_, He.frG_in, congrArg Prod.fst e, congrArg Prod.snd e⟩
  keeps := fun _ _ _ ⟨K, hK, c⟩ k => ⟨K, PySem.W.Frag.In.keeps hK k, c⟩
abbrev hk : PySem.W.Hook := hookX 7
def ob (s : PySem.W.SharedT) : AlX := obX 7 (HandSHeadRun.getT s)
theorem ob_eq (s : PySem.W.SharedT) : ob s = hk.obs s.abs := by
  have e : HandSHeadRun.getT s = s.abs.heap.get? := funext (HandSHeadRun.getT_eq s)
  show obX 7 (HandSHeadRun.getT s) = obX 7 s.abs.heap.get?
  rw [e]
theorem run (w : World) : HandSHeadRun.RunEq R (PySem.W.view R.prog [74]) hk ob 6000 loose w := by
  intro os
  kernel_rfl

end K24
end
section
set_option autoImplicit false
set_option Elab.async false
set_option linter.all false
set_option maxRecDepth 100000
/-! keys of small exponents: few, and their hashes unlike -/
namespace K24
open PySem
def duos : List (Nat × Nat) := (List.range 17).flatMap fun a => (List.range (17 - a)).map fun b => (a, b)
theorem hash1 : chk (fun a : Nat => codeH 32 [(a : Int)]) (List.range 17) 0 = true := by decide +kernel
theorem hash2 : chk (fun t : Nat × Nat => codeH 796 [(t.1 : Int), (t.2 : Int)]) duos 0 = true := by decide +kernel
theorem duos_length : duos.length = 153 := by decide +kernel
/-- a key of n exponents, in sum at most 16, the fourth 0 -/
structure SmallK (n : Nat) (k : List Int) : Prop where
  len : k.length = n
  pos : ∀ e ∈ k, 0 ≤ e
  sum : k.sum ≤ 16
  four : ∀ j e, 3 ≤ j → k[j]? = some e → e = 0
theorem inj_of_nodup {α β : Type} {g : α → β} : ∀ {l : List α}, (l.map g).Nodup → ∀ a ∈ l, ∀ b ∈ l, g a = g b → a = b
  | [], _, a, ha, _, _, _ => nomatch ha
  | x :: l, h, a, ha, b, hb, e => by
    rw [List.map_cons, List.nodup_cons] at h
    rcases List.mem_cons.mp ha with ha | ha
    · rcases List.mem_cons.mp hb with hb | hb
      · rw [ha, hb]
      · rw [ha] at e
        exact absurd (List.mem_map.mpr ⟨b, hb, e.symm⟩) h.1
    · rcases List.mem_cons.mp hb with hb | hb
      · rw [hb] at e
        exact absurd (List.mem_map.mpr ⟨a, ha, e⟩) h.1
      · exact inj_of_nodup h.2 a ha b hb e
/-- keys out of a list whose hashes are unlike -/
theorem hash_sub {α : Type} {f : α → List Int} {l : List α} (h : (l.map fun t => hashK (f t)).Nodup) {ks : List (List Int)} (nd : ks.Nodup) (hk : ∀ k ∈ ks, ∃ t ∈ l, k = f t) : (ks.map hashK).Nodup := by
  rw [List.nodup_iff_pairwise_ne, List.pairwise_map]
  rw [List.nodup_iff_pairwise_ne] at nd
  refine nd.imp_of_mem fun {a b} ha hb hne e => ?_
  obtain ⟨s, hs, rfl⟩ := hk a ha
  obtain ⟨t, ht, rfl⟩ := hk b hb
  exact hne (by rw [inj_of_nodup h s hs t ht e])
theorem len_sub {β : Type} [DecidableEq β] : ∀ {l ks : List β}, ks.Nodup → (∀ k ∈ ks, k ∈ l) → ks.length ≤ l.length
  | [], ks, _, h => by
    cases ks with
    | nil => exact Nat.le_refl _
    | cons k ks => exact nomatch h k List.mem_cons_self
  | x :: l, ks, nd, h => by
    have ih := len_sub (l := l) (ks := ks.filter fun k => !(k == x)) (nd.sublist List.filter_sublist) fun k hk => by
      obtain ⟨h1, h2⟩ := List.mem_filter.mp hk
      rcases List.mem_cons.mp (h k h1) with e | e
      · rw [e] at h2; simp at h2
      · exact e
    have e := List.length_eq_countP_add_countP (p := fun k => k == x) (l := ks)
    have c : List.countP (fun k => k == x) ks ≤ 1 := (List.nodup_iff_count.mp nd) x
    have f : List.countP (fun a => decide ¬(a == x) = true) ks = (ks.filter fun k => !(k == x)).length := by
      rw [List.countP_eq_length_filter]
      congr 1
      refine List.filter_congr fun k _ => ?_
      cases (k == x) <;> rfl
    rw [List.length_cons]
    omega
theorem mem_trips {a b c : Nat} (h : a + b + c ≤ 16) : (a, b, c) ∈ trips := by
  unfold trips
  refine List.mem_flatMap.mpr ⟨a, List.mem_range.mpr (by omega), List.mem_flatMap.mpr ⟨b, List.mem_range.mpr (by omega), List.mem_map.mpr ⟨c, List.mem_range.mpr (by omega), rfl⟩⟩⟩
theorem mem_duos {a b : Nat} (h : a + b ≤ 16) : (a, b) ∈ duos := by
  unfold duos
  exact List.mem_flatMap.mpr ⟨a, List.mem_range.mpr (by omega), List.mem_map.mpr ⟨b, List.mem_range.mpr (by omega), rfl⟩⟩
theorem nat_of {x : Int} (h : 0 ≤ x) : ∃ n : Nat, x = (n : Int) := ⟨x.toNat, by omega⟩
theorem small_keys {n : Nat} (h1 : 1 ≤ n) (h4 : n ≤ 4) {ks : List (List Int)} (nd : ks.Nodup) (hk : ∀ k ∈ ks, SmallK n k) : (ks.map hashK).Nodup ∧ ks.length ≤ 969 := by
  have fin : ∀ {α : Type} (f : α → List Int) (l : List α), (l.map fun t => hashK (f t)).Nodup → l.length ≤ 969 → (∀ k ∈ ks, ∃ t ∈ l, k = f t) → (ks.map hashK).Nodup ∧ ks.length ≤ 969 := fun f l hh hl hm => by
    refine ⟨hash_sub hh nd hm, ?_⟩
    have := len_sub (l := l.map f) nd fun k hk => by
      obtain ⟨t, ht, e⟩ := hm k hk
      exact List.mem_map.mpr ⟨t, ht, e.symm⟩
    rw [List.length_map] at this
    omega
  rcases (show n = 1 ∨ n = 2 ∨ n = 3 ∨ n = 4 by omega) with e | e | e | e
  · subst e
    refine fin (fun a : Nat => [(a : Int)]) (List.range 17) (nodup_hash hash1) (by rw [List.length_range]; omega) fun k hk' => ?_
    have S := hk k hk'
    match k, S with
    | [x], S =>
      obtain ⟨a, rfl⟩ := nat_of (S.pos x (by simp))
      have := S.sum
      simp at this
      exact ⟨a, List.mem_range.mpr (by omega), rfl⟩
    | [], S => exact absurd S.len (by simp)
    | _ :: _ :: _, S => exact absurd S.len (by simp)
  · subst e
    refine fin (fun t : Nat × Nat => [(t.1 : Int), (t.2 : Int)]) duos (nodup_hash hash2) (by rw [duos_length]; omega) fun k hk' => ?_
    have S := hk k hk'
    match k, S with
    | [x, y], S =>
      obtain ⟨a, rfl⟩ := nat_of (S.pos x (by simp))
      obtain ⟨b, rfl⟩ := nat_of (S.pos y (by simp))
      have := S.sum
      simp at this
      exact ⟨(a, b), mem_duos (by omega), rfl⟩
    | [], S => exact absurd S.len (by simp)
    | [_], S => exact absurd S.len (by simp)
    | _ :: _ :: _ :: _, S => exact absurd S.len (by simp)
  · subst e
    refine fin (fun t : Nat × Nat × Nat => [(t.1 : Int), (t.2.1 : Int), (t.2.2 : Int)]) trips (nodup_hash hash3) (by rw [trips_length]; omega) fun k hk' => ?_
    have S := hk k hk'
    match k, S with
    | [x, y, z], S =>
      obtain ⟨a, rfl⟩ := nat_of (S.pos x (by simp))
      obtain ⟨b, rfl⟩ := nat_of (S.pos y (by simp))
      obtain ⟨c, rfl⟩ := nat_of (S.pos z (by simp))
      have := S.sum
      simp at this
      exact ⟨(a, b, c), mem_trips (by omega), rfl⟩
    | [], S => exact absurd S.len (by simp)
    | [_], S => exact absurd S.len (by simp)
    | [_, _], S => exact absurd S.len (by simp)
    | _ :: _ :: _ :: _ :: _, S => exact absurd S.len (by simp)
  · subst e
    refine fin (fun t : Nat × Nat × Nat => [(t.1 : Int), (t.2.1 : Int), (t.2.2 : Int), 0]) trips (nodup_hash hash4) (by rw [trips_length]; omega) fun k hk' => ?_
    have S := hk k hk'
    match k, S with
    | [x, y, z, u], S =>
      obtain ⟨a, rfl⟩ := nat_of (S.pos x (by simp))
      obtain ⟨b, rfl⟩ := nat_of (S.pos y (by simp))
      obtain ⟨c, rfl⟩ := nat_of (S.pos z (by simp))
      have h0 : u = 0 := S.four 3 u (Nat.le_refl _) rfl
      subst h0
      have := S.sum
      simp at this
      exact ⟨(a, b, c), mem_trips (by omega), rfl⟩
    | [], S => exact absurd S.len (by simp)
    | [_], S => exact absurd S.len (by simp)
    | [_, _], S => exact absurd S.len (by simp)
    | [_, _, _], S => exact absurd S.len (by simp)
    | _ :: _ :: _ :: _ :: _ :: _, S => exact absurd S.len (by simp)
end K24
end
section
set_option autoImplicit false
set_option Elab.async false
set_option linter.all false
/-! the shapes of the forms -/
namespace K24
/-- keys of n exponents from 0 to p - 1, none but the first q, in sum at most d -/
structure KS (p : Int) (n q : Nat) (d : Int) (k : Ex) : Prop where
  len : k.length = n
  rg : ∀ e ∈ k, 0 ≤ e ∧ e < p
  sum : k.sum ≤ d
  z : ∀ j e, q ≤ j → k[j]? = some e → e = 0
structure Gd (p : Int) (n q : Nat) (d : Int) (F : Fm) : Prop where
  tab : Tab p F
  ks : ∀ k ∈ keys F, KS p n q d k
section
variable {p : Int} {n q : Nat} {d d' : Int} {F G : Fm}
theorem Gd.mono (h : Gd p n q d F) (hd : d ≤ d') : Gd p n q d' F := ⟨h.tab, fun k hk => ⟨(h.ks k hk).len, (h.ks k hk).rg, Int.le_trans (h.ks k hk).sum hd, (h.ks k hk).z⟩⟩
theorem Gd.perm (h : Gd p n q d F) (e : F.Perm G) : Gd p n q d G := ⟨h.tab.perm e, fun k hk => h.ks k ((perm_keys e).mem_iff.mpr hk)⟩
theorem Gd.keyOk (h : Gd p n q d F) : KeyOk p n F := fun k hk => ⟨(h.ks k hk).len, (h.ks k hk).rg⟩
theorem keys_clean_sub {A : Fm} {k : Ex} (h : k ∈ keys (cleanC p A)) : k ∈ keys A := by
  rw [keys_cleanC] at h
  exact (sortK_perm _).mem_iff.mp (List.mem_filter.mp h).1
theorem Gd.sumC (hp : 0 < p) (h1 : Gd p n q d F) (h2 : Gd p n q d G) : Gd p n q d (sumC p F G) := by
  refine ⟨Tab.sumC hp h1.tab G, fun k hk => ?_⟩
  have := (mem_keys_addAll G F k).mp (keys_clean_sub hk)
  rcases this with h | h
  · exact h1.ks k h
  · exact h2.ks k h
theorem Gd.scaleC (hp : 0 < p) (h1 : Gd p n q d F) (c : Int) : Gd p n q d (scaleC p F c) := by
  refine ⟨Tab.scaleC hp h1.tab c, fun k hk => ?_⟩
  have h := keys_clean_sub hk
  rw [show keys (mapV (fun v => c * v) F) = keys F by simp [keys, mapV, Function.comp_def]] at h
  exact h1.ks k h
theorem sum_zeros (n : Nat) : (zeros n).sum = 0 := by
  unfold zeros
  induction n with
  | zero => rfl
  | succ n ih => rw [List.replicate_succ, List.sum_cons, ih]; rfl
theorem ks_zeros (hp : 0 < p) (hd : 0 ≤ d) : KS p n q d (zeros n) := by
  refine ⟨by unfold zeros; rw [List.length_replicate], fun e he => ?_, by rw [sum_zeros]; exact hd, fun j e _ he => ?_⟩
  · unfold zeros at he
    rw [(List.mem_replicate.mp he).2]
    exact ⟨Int.le_refl _, hp⟩
  · have := List.mem_of_getElem? he
    unfold zeros at this
    exact (List.mem_replicate.mp this).2
theorem Gd.constC (hp : 0 < p) (hd : 0 ≤ d) (c : Int) : Gd p n q d (constC p n c) := by
  refine ⟨Tab.constC hp n c, fun k hk => ?_⟩
  have h := keys_clean_sub hk
  have : k = zeros n := by simpa [keys] using h
  rw [this]
  exact ks_zeros hp hd
theorem letter_get {n idx j : Nat} (hj : j < n) : (letter n idx)[j]? = some (if j = idx then 1 else 0) := by
  unfold letter
  rw [List.getElem?_map, List.getElem?_range hj]
  rfl
theorem letter_len (n idx : Nat) : (letter n idx).length = n := by unfold letter; rw [List.length_map, List.length_range]
theorem letter_sum (idx : Nat) : ∀ n, (letter n idx).sum = if idx < n then 1 else 0
  | 0 => rfl
  | n + 1 => by
    have ih := letter_sum idx n
    unfold letter at ih ⊢
    rw [List.range_succ, List.map_append, List.sum_append, ih, List.map_cons, List.map_nil, List.sum_cons, List.sum_nil]
    rcases Nat.lt_trichotomy idx n with h | h | h
    · rw [if_pos h, if_neg (show ¬ n = idx by omega), if_pos (show idx < n + 1 by omega)]; rfl
    · rw [if_neg (show ¬ idx < n by omega), if_pos (show n = idx by omega), if_pos (show idx < n + 1 by omega)]; rfl
    · rw [if_neg (show ¬ idx < n by omega), if_neg (show ¬ n = idx by omega), if_neg (show ¬ idx < n + 1 by omega)]; rfl
theorem ks_letter {idx : Nat} (hp : 1 < p) (hd : 1 ≤ d) (hi : idx < q) : KS p n q d (letter n idx) := by
  refine ⟨letter_len n idx, fun e he => ?_, ?_, fun j e hj he => ?_⟩
  · unfold letter at he
    obtain ⟨j, _, rfl⟩ := List.mem_map.mp he
    split <;> omega
  · rw [letter_sum]
    split <;> omega
  · have hj2 : j < n := by have := (List.getElem?_eq_some_iff.mp he).1; rw [letter_len] at this; exact this
    rw [letter_get hj2, if_neg (by omega)] at he
    exact (Option.some.inj he).symm
theorem Gd.letterC {idx : Nat} (hp : 1 < p) (hd : 1 ≤ d) (hi : idx < q) : Gd p n q d (letterC n idx) := by
  refine ⟨Tab.letterC hp n idx, fun k hk => ?_⟩
  have : k = letter n idx := by simpa [keys, K24.letterC] using hk
  rw [this]
  exact ks_letter hp hd hi
theorem low_range (hp : 1 < p) {e : Int} (h : 0 ≤ e) : 0 ≤ low p e ∧ low p e < p ∧ low p e ≤ e := by
  unfold low
  split
  · rename_i h1
    exact ⟨h, h1, Int.le_refl _⟩
  · rename_i h1
    have a := Int.emod_nonneg (e - 1) (show p - 1 ≠ 0 by omega)
    have b := Int.emod_lt_of_pos (e - 1) (show 0 < p - 1 by omega)
    have c : (e - 1) % (p - 1) ≤ e - 1 := by
      have h3 := Int.emod_add_mul_ediv (e - 1) (p - 1)
      have h4 : 0 ≤ (p - 1) * ((e - 1) / (p - 1)) := Int.mul_nonneg (by omega) (Int.ediv_nonneg (by omega) (by omega))
      omega
    omega
theorem low_zero (hp : 1 < p) : low p 0 = 0 := by
  unfold low
  rw [if_pos (by omega)]
theorem addk_sum (hp : 1 < p) : ∀ {i j : Ex}, (∀ e ∈ i, 0 ≤ e) → (∀ e ∈ j, 0 ≤ e) → (addk p i j).sum ≤ i.sum + j.sum
  | [], j, hi, hj => by
    have : ∀ l : Ex, (∀ e ∈ l, 0 ≤ e) → 0 ≤ l.sum := fun l hl => by
      induction l with
      | nil => exact Int.le_refl _
      | cons a l ih =>
        have h1 := ih fun e he => hl e (List.mem_cons_of_mem _ he)
        have h2 := hl a List.mem_cons_self
        rw [List.sum_cons]; omega
    have h := this j hj
    show (0 : Int) ≤ _
    simpa using h
  | a :: i, [], hi, hj => by
    have : ∀ l : Ex, (∀ e ∈ l, 0 ≤ e) → 0 ≤ l.sum := fun l hl => by
      induction l with
      | nil => exact Int.le_refl _
      | cons a l ih =>
        have h1 := ih fun e he => hl e (List.mem_cons_of_mem _ he)
        have h2 := hl a List.mem_cons_self
        rw [List.sum_cons]; omega
    have h := this _ hi
    show (0 : Int) ≤ _
    simpa using h
  | a :: i, b :: j, hi, hj => by
    have ih := addk_sum hp (i := i) (j := j) (fun e he => hi e (List.mem_cons_of_mem _ he)) (fun e he => hj e (List.mem_cons_of_mem _ he))
    have h1 := hi a List.mem_cons_self
    have h2 := hj b List.mem_cons_self
    have h3 := (low_range hp (e := a + b) (by omega)).2.2
    show (low p (a + b) :: addk p i j).sum ≤ _
    rw [List.sum_cons, List.sum_cons, List.sum_cons]
    omega
theorem ks_addk (hp : 1 < p) {i j : Ex} (h1 : KS p n q d i) (h2 : KS p n q d' j) : KS p n q (d + d') (addk p i j) := by
  refine ⟨by unfold addk; rw [List.length_zipWith, h1.len, h2.len, Nat.min_self], fun e he => ?_, ?_, fun t e ht he => ?_⟩
  · obtain ⟨t, ht⟩ := List.getElem?_of_mem he
    unfold addk at ht
    rw [List.getElem?_zipWith] at ht
    cases a : i[t]? with
    | none => rw [a] at ht; cases ht
    | some x =>
      cases b : j[t]? with
      | none => rw [a, b] at ht; cases ht
      | some y =>
        rw [a, b] at ht
        have e1 : low p (x + y) = e := Option.some.inj ht
        have r1 := h1.rg x (List.mem_of_getElem? a)
        have r2 := h2.rg y (List.mem_of_getElem? b)
        have := low_range hp (e := x + y) (by omega)
        rw [e1] at this
        exact ⟨this.1, this.2.1⟩
  · have := addk_sum hp (fun e he => (h1.rg e he).1) (fun e he => (h2.rg e he).1)
    have a := h1.sum
    have b := h2.sum
    omega
  · unfold addk at he
    rw [List.getElem?_zipWith] at he
    cases a : i[t]? with
    | none => rw [a] at he; cases he
    | some x =>
      cases b : j[t]? with
      | none => rw [a, b] at he; cases he
      | some y =>
        rw [a, b] at he
        have e1 : low p (x + y) = e := Option.some.inj he
        rw [← e1, h1.z t x ht a, h2.z t y ht b]
        exact low_zero hp
theorem keys_pairs {k : Ex} (h : k ∈ keys (pairs p F G)) : ∃ i ∈ keys F, ∃ j ∈ keys G, k = addk p i j := by
  obtain ⟨a, ha, rfl⟩ := List.mem_map.mp h
  obtain ⟨x, hx, hy0⟩ := List.mem_flatMap.mp ha
  obtain ⟨y, hy, rfl⟩ := List.mem_map.mp hy0
  exact ⟨x.1, keys_mem hx, y.1, keys_mem hy, rfl⟩
theorem Gd.pairs (hp : 1 < p) (h1 : Gd p n q d F) (h2 : Gd p n q d' G) : ∀ k ∈ keys (pairs p F G), KS p n q (d + d') k := fun k hk => by
  obtain ⟨i, hi, j, hj, rfl⟩ := keys_pairs hk
  exact ks_addk hp (h1.ks i hi) (h2.ks j hj)
theorem keys_addAll_nil {L : Fm} {k : Ex} (h : k ∈ keys (addAll [] L)) : k ∈ keys L := by
  rcases (mem_keys_addAll L [] k).mp h with h | h
  · exact nomatch h
  · exact h
theorem Gd.prodC (hp : 1 < p) (h1 : Gd p n q d F) (h2 : Gd p n q d' G) : Gd p n q (d + d') (prodC p F G) :=
  ⟨Tab.prodC (by omega) F G, fun k hk => Gd.pairs hp h1 h2 k (keys_addAll_nil (keys_clean_sub hk))⟩
end
/-! ### all forms of a drawn circuit -/
def dg (gs : List Gate) (i : Nat) : Int := 2 ^ ((gs.take i).filter isProd).length
theorem dg_pos (gs : List Gate) (i : Nat) : 1 ≤ dg gs i := by
  unfold dg
  exact Int.pow_pos (n := _) (by decide : (0 : Int) < 2)
theorem pow2_mono {a b : Nat} (h : a ≤ b) : (2 : Int) ^ a ≤ 2 ^ b := by
  obtain ⟨c, rfl⟩ := Nat.exists_eq_add_of_le h
  rw [Int.pow_add]
  have h1 : (0 : Int) < 2 ^ c := Int.pow_pos (by decide)
  have h2 : (0 : Int) < 2 ^ a := Int.pow_pos (by decide)
  have h3 := Int.mul_le_mul_of_nonneg_left (show (1 : Int) ≤ 2 ^ c from h1) (Int.le_of_lt h2)
  rw [Int.mul_one] at h3
  exact h3
theorem dg_mono (gs : List Gate) {i j : Nat} (h : i ≤ j) : dg gs i ≤ dg gs j := by
  unfold dg
  refine pow2_mono ?_
  have e : gs.take i = (gs.take j).take i := by rw [List.take_take, Nat.min_eq_left h]
  rw [e]
  exact ((List.take_sublist i (gs.take j)).filter isProd).length_le
theorem dg_prod {gs : List Gate} {i : Nat} {a b : Nat} (h : gs[i]? = some (.prod a b)) : dg gs (i + 1) = dg gs i + dg gs i := by
  have e : gs.take (i + 1) = gs.take i ++ [.prod a b] := by rw [List.take_succ, h]; rfl
  unfold dg
  rw [e, List.filter_append, List.length_append]
  show (2 : Int) ^ (_ + 1) = _
  rw [Int.pow_succ]
  omega
theorem getD_of {fs : List Fm} {i : Nat} {F : Fm} (h : fs[i]? = some F) : fs.getD i [] = F := by
  unfold List.getD
  rw [h]
  rfl
section
variable {p : Int} {ins mid last : List Gate}
theorem at_ins {i : Nat} {g : Gate} (S : Shape ins mid last) (h : (ins ++ mid ++ last)[i]? = some g) (hi : i < ins.length + mid.length) (hg : isInp g = true) : i < ins.length := by
  rcases Nat.lt_or_ge i ins.length with h1 | h1
  · exact h1
  · exfalso
    rw [List.append_assoc, List.getElem?_append_right h1, List.getElem?_append_left (by omega)] at h
    rw [S.mi g (List.mem_of_getElem? h)] at hg
    cases hg
theorem nIn_le_len (l : List Gate) : nIn l ≤ l.length := List.length_filter_le _ _
/-- the shape of every form but the last input's -/
theorem gd_all (hp : 1 < p) (D : Drawn (ins ++ mid ++ last)) (S : Shape ins mid last) : ∀ i, i < ins.length + mid.length → Gd p (nIn (ins ++ mid ++ last)) ins.length (dg (ins ++ mid ++ last) (i + 1)) ((formsC p (ins ++ mid ++ last)).getD i []) := by
  intro i
  induction i using Nat.strongRecOn with
  | _ i ih =>
    intro hi
    have hlen : i < (ins ++ mid ++ last).length := by simp only [List.length_append]; omega
    obtain ⟨g, hg⟩ : ∃ g, (ins ++ mid ++ last)[i]? = some g := ⟨_, List.getElem?_eq_getElem hlen⟩
    have hf := formsC_get (p := p) D.gsok hg
    rw [getD_of hf]
    have ok := D.ok i g hg
    have dm := dg_mono (ins ++ mid ++ last) (Nat.le_succ i)
    have d1 := dg_pos (ins ++ mid ++ last) (i + 1)
    have prev : ∀ l, l < i → Gd p (nIn (ins ++ mid ++ last)) ins.length (dg (ins ++ mid ++ last) i) ((formsC p (ins ++ mid ++ last)).getD l []) := fun l hl => (ih l hl (by omega)).mono (dg_mono _ hl)
    cases g with
    | inp h =>
      have h1 := at_ins S hg hi rfl
      refine Gd.letterC hp d1 ?_
      have h2 := nIn_le_len ((ins ++ mid ++ last).take i)
      rw [List.length_take] at h2
      omega
    | const c => exact Gd.constC (by omega) (by omega) c
    | sum a b =>
      have ok2 : a < i ∧ b < i := ok
      exact (Gd.sumC (by omega) (prev a ok2.1) (prev b ok2.2)).mono dm
    | times a c =>
      have ok2 : a < i ∧ _ := ok
      exact (Gd.scaleC (by omega) (prev a ok2.1) c).mono dm
    | prod a b =>
      have ok2 : a < i ∧ b < i := ok
      rw [dg_prod hg]
      exact Gd.prodC hp (prev a ok2.1) (prev b ok2.2)
theorem dg_16 (S : Shape ins mid last) (i : Nat) : dg (ins ++ mid ++ last) i ≤ 16 := by
  have h : ((((ins ++ mid ++ last).take i)).filter isProd).length ≤ 4 := by
    refine Nat.le_trans ((List.take_sublist i _).filter isProd).length_le ?_
    rw [List.filter_append, List.filter_append, List.length_append, List.length_append, filt_none fun g hg => prod_not_inp (S.ii g hg), filt_none fun g hg => prod_not_inp (S.li g hg)]
    simp only [List.length_nil]
    have := S.mp
    omega
  exact pow2_mono h
/-- a gate at the last place, beyond the others: an input -/
theorem at_last {i : Nat} {g : Gate} (S : Shape ins mid last) (h : (ins ++ mid ++ last)[i]? = some g) (hi : ins.length + mid.length ≤ i) : isInp g = true := by
  rw [List.getElem?_append_right (by simp only [List.length_append]; omega)] at h
  exact S.li g (List.mem_of_getElem? h)
/-- the law's forms are the program's, up to the order -/
theorem perm_all (hp : 1 < p) (D : Drawn (ins ++ mid ++ last)) (S : Shape ins mid last) : ∀ i, i < (ins ++ mid ++ last).length → ((formsL p (ins ++ mid ++ last)).getD i []).Perm ((formsC p (ins ++ mid ++ last)).getD i []) := by
  intro i
  induction i using Nat.strongRecOn with
  | _ i ih =>
    intro hlen
    obtain ⟨g, hg⟩ : ∃ g, (ins ++ mid ++ last)[i]? = some g := ⟨_, List.getElem?_eq_getElem hlen⟩
    rw [getD_of (formsC_get (p := p) D.gsok hg), getD_of (formsL_get (p := p) D.gsok hg)]
    have ok := D.ok i g hg
    have hlook : ∀ l, l < i → l ∈ looks g → Gd p (nIn (ins ++ mid ++ last)) ins.length (dg (ins ++ mid ++ last) (l + 1)) ((formsC p (ins ++ mid ++ last)).getD l []) := fun l hl hlg => by
      refine gd_all hp D S l ?_
      rcases Nat.lt_or_ge i (ins.length + mid.length) with h | h
      · omega
      · have := at_last S hg h
        cases g with
        | inp h => exact nomatch hlg
        | _ => cases this
    cases g with
    | inp h => exact List.Perm.refl _
    | const c => exact cst_perm (by omega) _ c
    | sum a b =>
      have ok2 : a < i ∧ b < i := ok
      exact sum_perm (by omega) (hlook a ok2.1 (by simp [looks])).tab (hlook b ok2.2 (by simp [looks])).tab (ih a ok2.1 (by omega)) (ih b ok2.2 (by omega))
    | times a c =>
      have ok2 : a < i ∧ _ := ok
      have G := hlook a ok2.1 (by simp [looks])
      exact scale_perm (by omega) G.tab G.keyOk (ih a ok2.1 (by omega)) c
    | prod a b =>
      have ok2 : a < i ∧ b < i := ok
      exact prod_perm (by omega) (ih a ok2.1 (by omega)) (ih b ok2.2 (by omega))
/-- every form, the last input's too -/
theorem any_form (hp : 1 < p) (D : Drawn (ins ++ mid ++ last)) (S : Shape ins mid last) {i : Nat} (hi : i < (ins ++ mid ++ last).length) :
    Gd p (nIn (ins ++ mid ++ last)) ins.length 16 ((formsC p (ins ++ mid ++ last)).getD i []) ∨ ∃ idx, (formsC p (ins ++ mid ++ last)).getD i [] = letterC (nIn (ins ++ mid ++ last)) idx := by
  rcases Nat.lt_or_ge i (ins.length + mid.length) with h | h
  · exact .inl ((gd_all hp D S i h).mono (dg_16 S _))
  · right
    obtain ⟨g, hg⟩ : ∃ g, (ins ++ mid ++ last)[i]? = some g := ⟨_, List.getElem?_eq_getElem hi⟩
    have h1 := at_last S hg h
    rw [getD_of (formsC_get (p := p) D.gsok hg)]
    cases g with
    | inp h => exact ⟨_, rfl⟩
    | _ => cases h1
end
end K24
end
section
set_option autoImplicit false
set_option Elab.async false
set_option linter.all false
set_option maxRecDepth 100000
/-! the values of the forms -/
namespace K24
def mon : Ex → List Int → Int
  | e :: k, x :: xs => x ^ e.toNat * mon k xs
  | _, _ => 1
theorem mon_cons (e : Int) (k : Ex) (x : Int) (xs : List Int) : mon (e :: k) (x :: xs) = x ^ e.toNat * mon k xs := rfl
def ES (nums : List Int) (L : Fm) : Int := (L.map fun kv => kv.2 * mon kv.1 nums).sum
abbrev Cg (p a b : Int) : Prop := a % p = b % p
section
variable {p a b c d : Int}
theorem Cg.add (h1 : Cg p a b) (h2 : Cg p c d) : Cg p (a + c) (b + d) := by
  show (a + c) % p = (b + d) % p
  rw [Int.add_emod, h1, h2, ← Int.add_emod]
theorem Cg.mul (h1 : Cg p a b) (h2 : Cg p c d) : Cg p (a * c) (b * d) := by
  show (a * c) % p = (b * d) % p
  rw [Int.mul_emod, h1, h2, ← Int.mul_emod]
theorem Cg.mod (p a : Int) : Cg p (a % p) a := Int.emod_emod_of_dvd _ (Int.dvd_refl p)
end
/-! ### the law's value -/
theorem made_cg (p : Int) : ∀ (k : Ex) (nums : List Int) (c : Int), Cg p (madeL p c k nums) (c * mon k nums)
  | [], nums, c => by
    show c % p = (c * 1) % p
    rw [Int.mul_one]
  | e :: k, [], c => by
    show c % p = (c * 1) % p
    rw [Int.mul_one]
  | e :: k, x :: xs, c => by
    have ih := made_cg p k xs (c * x ^ e.toNat % p)
    have h : madeL p c (e :: k) (x :: xs) = madeL p (c * x ^ e.toNat % p) k xs := rfl
    rw [h, mon_cons, ← Int.mul_assoc]
    exact ih.trans (Cg.mul (Cg.mod p _) rfl)
theorem val_cg (p : Int) (nums : List Int) : ∀ (F : Fm) (acc : Int), Cg p (F.foldl (fun acc kv => (acc + madeL p kv.2 kv.1 nums) % p) acc) (acc + ES nums F)
  | [], acc => by
    show acc % p = (acc + 0) % p
    rw [Int.add_zero]
  | a :: F, acc => by
    have ih := val_cg p nums F ((acc + madeL p a.2 a.1 nums) % p)
    rw [List.foldl_cons]
    refine ih.trans ?_
    show _ = (acc + (a.2 * mon a.1 nums + ES nums F)) % p
    rw [← Int.add_assoc]
    exact Cg.add ((Cg.mod p _).trans (Cg.add rfl (made_cg p a.1 nums a.2))) rfl
theorem fold_rg {α : Type} {p : Int} (hp : 0 < p) (f : Int → α → Int) (hf : ∀ m a, 0 ≤ f m a ∧ f m a < p) : ∀ (xs : List α) (c : Int), 0 ≤ c ∧ c < p → 0 ≤ xs.foldl f c ∧ xs.foldl f c < p
  | [], c, h => h
  | x :: xs, c, h => fold_rg hp f hf xs _ (hf c x)
theorem valL_eq {p : Int} (hp : 0 < p) (F : Fm) (nums : List Int) : valL p F nums = ES nums F % p := by
  have h1 := val_cg p nums F 0
  have h2 := fold_rg hp (fun acc (kv : Ex × Int) => (acc + madeL p kv.2 kv.1 nums) % p) (fun m a => ⟨Int.emod_nonneg _ (by omega), Int.emod_lt_of_pos _ hp⟩) F 0 ⟨Int.le_refl _, hp⟩
  rw [Int.zero_add] at h1
  have h3 : valL p F nums % p = valL p F nums := Int.emod_eq_of_lt h2.1 h2.2
  rw [← h3]
  exact h1
/-! ### sums over tables -/
theorem ES_nil (nums : List Int) : ES nums [] = 0 := rfl
theorem ES_cons (nums : List Int) (a : Ex × Int) (L : Fm) : ES nums (a :: L) = a.2 * mon a.1 nums + ES nums L := rfl
theorem ES_append (nums : List Int) (L M : Fm) : ES nums (L ++ M) = ES nums L + ES nums M := by
  unfold ES
  rw [List.map_append, List.sum_append]
theorem ES_perm (nums : List Int) {L M : Fm} (h : L.Perm M) : ES nums L = ES nums M := by
  induction h with
  | nil => rfl
  | cons a _ ih => rw [ES_cons, ES_cons, ih]
  | swap a b L => rw [ES_cons, ES_cons, ES_cons, ES_cons]; omega
  | trans _ _ h1 h2 => exact h1.trans h2
theorem sum_add (K : List Ex) (f g : Ex → Int) : (K.map fun k => f k + g k).sum = (K.map f).sum + (K.map g).sum := by
  induction K with
  | nil => rfl
  | cons k K ih =>
    rw [List.map_cons, List.map_cons, List.map_cons, List.sum_cons, List.sum_cons, List.sum_cons, ih]
    omega
theorem sum_one (m : Ex → Int) (v : Int) (a : Ex) : ∀ K : List Ex, K.Nodup → (K.map fun k => (if a = k then v else 0) * m k).sum = if a ∈ K then v * m a else 0
  | [], _ => rfl
  | k :: K, nd => by
    have nd' := List.nodup_cons.mp nd
    have ih := sum_one m v a K nd'.2
    rw [List.map_cons, List.sum_cons, ih]
    by_cases e : a = k
    · subst e
      rw [if_pos rfl, if_neg nd'.1, if_pos List.mem_cons_self, Int.add_zero]
    · rw [if_neg e, Int.zero_mul, Int.zero_add]
      by_cases h : a ∈ K
      · rw [if_pos h, if_pos (List.mem_cons_of_mem _ h)]
      · rw [if_neg h, if_neg]
        intro z
        rcases List.mem_cons.mp z with z | z
        · exact e z
        · exact h z
theorem sumK (nums : List Int) {K : List Ex} (nd : K.Nodup) : ∀ L : Fm, (∀ k ∈ keys L, k ∈ K) → (K.map fun k => tot L k * mon k nums).sum = ES nums L
  | [], _ => by
    have : ∀ K : List Ex, (K.map fun k => tot [] k * mon k nums).sum = 0 := fun K => by
      induction K with
      | nil => rfl
      | cons k K ih => rw [List.map_cons, List.sum_cons, ih, tot_nil, Int.zero_mul]; rfl
    exact this K
  | a :: L, h => by
    have ih := sumK nums nd L fun k hk => h k (by rw [keys_cons]; exact List.mem_cons_of_mem _ hk)
    have e : (fun k => tot (a :: L) k * mon k nums) = fun k => (if a.1 = k then a.2 else 0) * mon k nums + tot L k * mon k nums := by
      funext k
      rw [tot_cons, Int.add_mul]
    rw [e, sum_add, ih, sum_one (fun k => mon k nums) a.2 a.1 K nd, if_pos (h a.1 (by rw [keys_cons]; exact List.mem_cons_self)), ES_cons]
theorem sum_cg {p : Int} (f g : Ex → Int) : ∀ K : List Ex, (∀ k, Cg p (f k) (g k)) → Cg p (K.map f).sum (K.map g).sum
  | [], _ => rfl
  | k :: K, h => by
    rw [List.map_cons, List.map_cons, List.sum_cons, List.sum_cons]
    exact Cg.add (h k) (sum_cg f g K h)
section
variable {p : Int} {nums : List Int}
theorem ES_clean {A : Fm} (nd : (keys A).Nodup) : Cg p (ES nums (cleanC p A)) (ES nums A) := by
  rw [← sumK nums nd (cleanC p A) fun k hk => keys_clean_sub hk, ← sumK nums nd A fun k hk => hk]
  refine sum_cg _ _ _ fun k => ?_
  rw [tot_co (nodup_cleanC p nd), tot_co nd, co_cleanC nd]
  exact Cg.mul (Cg.mod p _) rfl
theorem ES_addAll {A L : Fm} (nd : (keys A).Nodup) : ES nums (addAll A L) = ES nums A + ES nums L := by
  have nd2 := nodup_addAll L A nd
  rw [← sumK nums nd2 (addAll A L) fun k hk => hk, ← sumK nums nd2 A fun k hk => (mem_keys_addAll L A k).mpr (.inl hk), ← sumK nums nd2 L fun k hk => (mem_keys_addAll L A k).mpr (.inr hk), ← sum_add]
  congr 2
  funext k
  rw [tot_co nd2, co_addAll, tot_co nd, Int.add_mul]
theorem ES_mapV (c : Int) (F : Fm) : ES nums (mapV (fun v => c * v) F) = c * ES nums F := by
  induction F with
  | nil => show (0 : Int) = c * 0; rw [Int.mul_zero]
  | cons a F ih =>
    show (c * a.2) * mon a.1 nums + ES nums (mapV (fun v => c * v) F) = c * (a.2 * mon a.1 nums + ES nums F)
    rw [ih, Int.mul_add, Int.mul_assoc]
theorem mon_zeros (n : Nat) : ∀ nums : List Int, mon (zeros n) nums = 1 := by
  induction n with
  | zero => intro nums; rfl
  | succ n ih =>
    intro nums
    cases nums with
    | nil => rfl
    | cons x xs =>
      show x ^ (0 : Int).toNat * mon (zeros n) xs = 1
      rw [ih xs]
      show x ^ 0 * 1 = 1
      rw [Int.pow_zero]; rfl
theorem letter_zero (n : Nat) : letter (n + 1) 0 = 1 :: zeros n := by
  unfold letter zeros
  rw [List.range_succ_eq_map, List.map_cons, List.map_map]
  congr 1
  refine List.ext_getElem (by simp) fun i h1 h2 => ?_
  simp
theorem letter_succ (n idx : Nat) : letter (n + 1) (idx + 1) = 0 :: letter n idx := by
  unfold letter
  rw [List.range_succ_eq_map, List.map_cons, List.map_map]
  congr 1
  refine List.map_congr_left fun j _ => ?_
  show (if j + 1 = idx + 1 then (1 : Int) else 0) = if j = idx then 1 else 0
  by_cases e : j = idx
  · rw [if_pos e, if_pos (by omega)]
  · rw [if_neg e, if_neg (by omega)]
theorem mon_letter : ∀ (n idx : Nat) (nums : List Int), nums.length = n → idx < n → mon (letter n idx) nums = nums.getD idx 0
  | 0, _, _, _, h => absurd h (Nat.not_lt_zero _)
  | n + 1, idx, [], h, _ => by simp at h
  | n + 1, 0, x :: xs, h, _ => by
    rw [letter_zero, mon_cons, mon_zeros]
    show x ^ 1 * 1 = x
    rw [Int.mul_one, Int.pow_succ, Int.pow_zero, Int.one_mul]
  | n + 1, idx + 1, x :: xs, h, hi => by
    have ih := mon_letter n idx xs (by simpa using h) (by omega)
    rw [letter_succ, mon_cons, ih]
    show x ^ 0 * _ = _
    rw [Int.pow_zero, Int.one_mul]
    rfl
/-- exponents may be brought down -/
def Fmt (p : Int) : Prop := ∀ x : Int, 0 ≤ x → x < p → Cg p (x ^ p.toNat) x
theorem pow_red {x : Int} {P : Nat} (hP : 1 ≤ P) (h : Cg p (x ^ P) x) (r : Nat) : ∀ t : Nat, Cg p (x ^ (r + 1 + t * (P - 1))) (x ^ (r + 1))
  | 0 => by rw [Nat.zero_mul, Nat.add_zero]
  | t + 1 => by
    have ih := pow_red hP h r t
    have e : r + 1 + (t + 1) * (P - 1) = r + t * (P - 1) + P := by rw [Nat.succ_mul]; omega
    have e2 : r + 1 + t * (P - 1) = r + t * (P - 1) + 1 := by omega
    rw [e, Int.pow_add]
    rw [e2, Int.pow_succ] at ih
    exact (Cg.mul rfl h).trans ih
theorem pow_low (hp : 1 < p) (hf : Fmt p) {x : Int} (h0 : 0 ≤ x) (h1 : x < p) {e : Int} (he : 0 ≤ e) : Cg p (x ^ (low p e).toNat) (x ^ e.toNat) := by
  unfold low
  split
  · rfl
  · rename_i hlt
    have hm := Int.emod_add_mul_ediv (e - 1) (p - 1)
    have h2 := Int.emod_nonneg (e - 1) (show p - 1 ≠ 0 by omega)
    have h3 : 0 ≤ (e - 1) / (p - 1) := Int.ediv_nonneg (by omega) (by omega)
    obtain ⟨r, hr⟩ : ∃ r : Nat, (e - 1) % (p - 1) = (r : Int) := ⟨((e - 1) % (p - 1)).toNat, by omega⟩
    obtain ⟨t, ht⟩ : ∃ t : Nat, (e - 1) / (p - 1) = (t : Int) := ⟨((e - 1) / (p - 1)).toNat, by omega⟩
    obtain ⟨P, hP⟩ : ∃ P : Nat, p = (P : Int) := ⟨p.toNat, by omega⟩
    rw [hr, ht] at hm
    rw [hr]
    have hP1 : 1 ≤ P := by omega
    have e1 : ((r : Int) + 1).toNat = r + 1 := by omega
    have e2 : e.toNat = r + 1 + t * (P - 1) := by
      have e3 : (p - 1) * (t : Int) = ((t * (P - 1) : Nat) : Int) := by
        rw [hP, Int.mul_comm]
        have : ((P : Int) - 1) = ((P - 1 : Nat) : Int) := by omega
        rw [this, Int.natCast_mul]
      rw [e3] at hm
      omega
    rw [e1, e2]
    have hb := hf x h0 h1
    have e4 : p.toNat = P := by omega
    rw [e4] at hb
    exact (pow_red hP1 hb r t).symm
theorem mon_addk (hp : 1 < p) (hf : Fmt p) : ∀ (i j : Ex) (nums : List Int), i.length = nums.length → j.length = nums.length → (∀ e ∈ i, 0 ≤ e) → (∀ e ∈ j, 0 ≤ e) → (∀ x ∈ nums, 0 ≤ x ∧ x < p) → Cg p (mon (addk p i j) nums) (mon i nums * mon j nums)
  | [], j, nums, h1, h2, _, _, _ => by
    cases nums with
    | nil => cases j with
      | nil => show (1 : Int) % p = (1 * 1) % p; rw [Int.mul_one]
      | cons _ _ => simp at h2
    | cons _ _ => simp at h1
  | a :: i, [], nums, h1, h2, _, _, _ => by
    cases nums with
    | nil => simp at h1
    | cons _ _ => simp at h2
  | a :: i, b :: j, [], h1, _, _, _, _ => by simp at h1
  | a :: i, b :: j, x :: xs, h1, h2, h3, h4, h5 => by
    have ih := mon_addk hp hf i j xs (by simpa using h1) (by simpa using h2) (fun e he => h3 e (List.mem_cons_of_mem _ he)) (fun e he => h4 e (List.mem_cons_of_mem _ he)) (fun y hy => h5 y (List.mem_cons_of_mem _ hy))
    have ha := h3 a List.mem_cons_self
    have hb := h4 b List.mem_cons_self
    have hx := h5 x List.mem_cons_self
    have e : addk p (a :: i) (b :: j) = low p (a + b) :: addk p i j := rfl
    rw [e, mon_cons, mon_cons, mon_cons]
    have h6 := pow_low hp hf hx.1 hx.2 (e := a + b) (by omega)
    have e2 : (a + b).toNat = a.toNat + b.toNat := by omega
    rw [e2, Int.pow_add] at h6
    have h7 := Cg.mul h6 ih
    have e3 : x ^ a.toNat * mon i xs * (x ^ b.toNat * mon j xs) = x ^ a.toNat * x ^ b.toNat * (mon i xs * mon j xs) := by
      rw [Int.mul_assoc, Int.mul_assoc]
      congr 1
      rw [← Int.mul_assoc, ← Int.mul_assoc, Int.mul_comm (mon i xs)]
    rw [e3]
    exact h7
theorem ES_row (hp : 1 < p) (hf : Fmt p) (hn : ∀ x ∈ nums, 0 ≤ x ∧ x < p) {i : Ex} (c : Int) (hi : i.length = nums.length) (h0 : ∀ e ∈ i, 0 ≤ e) : ∀ G : Fm, (∀ k ∈ keys G, k.length = nums.length ∧ ∀ e ∈ k, 0 ≤ e) →
    Cg p (ES nums (G.map fun y => (addk p i y.1, c * y.2))) (c * mon i nums * ES nums G)
  | [], _ => by show (0 : Int) % p = (_ * 0) % p; rw [Int.mul_zero]
  | y :: G, h => by
    have ih := ES_row hp hf hn c hi h0 G fun k hk => h k (by rw [keys_cons]; exact List.mem_cons_of_mem _ hk)
    have hy := h y.1 (by rw [keys_cons]; exact List.mem_cons_self)
    rw [List.map_cons, ES_cons, ES_cons, Int.mul_add]
    refine Cg.add ?_ ih
    have h1 := mon_addk hp hf i y.1 nums hi hy.1 h0 hy.2 hn
    have e : c * mon i nums * (y.2 * mon y.1 nums) = c * y.2 * (mon i nums * mon y.1 nums) := by
      rw [Int.mul_assoc, Int.mul_assoc]
      congr 1
      rw [← Int.mul_assoc, ← Int.mul_assoc, Int.mul_comm (mon i nums)]
    rw [e]
    exact Cg.mul rfl h1
theorem ES_pairs (hp : 1 < p) (hf : Fmt p) (hn : ∀ x ∈ nums, 0 ≤ x ∧ x < p) {G : Fm} (hG : ∀ k ∈ keys G, k.length = nums.length ∧ ∀ e ∈ k, 0 ≤ e) : ∀ F : Fm, (∀ k ∈ keys F, k.length = nums.length ∧ ∀ e ∈ k, 0 ≤ e) →
    Cg p (ES nums (pairs p F G)) (ES nums F * ES nums G)
  | [], _ => by show (0 : Int) % p = (0 * _) % p; rw [Int.zero_mul]
  | a :: F, h => by
    have ih := ES_pairs hp hf hn hG F fun k hk => h k (by rw [keys_cons]; exact List.mem_cons_of_mem _ hk)
    have ha := h a.1 (by rw [keys_cons]; exact List.mem_cons_self)
    have e : pairs p (a :: F) G = (G.map fun y => (addk p a.1 y.1, a.2 * y.2)) ++ pairs p F G := by unfold pairs; rw [List.flatMap_cons]
    rw [e, ES_append, ES_cons, Int.add_mul]
    exact Cg.add (ES_row hp hf hn a.2 ha.1 ha.2 G hG) ih
end
theorem kp_of {p : Int} {n q : Nat} {d : Int} {F : Fm} (h : Gd p n q d F) : ∀ k ∈ keys F, k.length = n ∧ ∀ e ∈ k, 0 ≤ e := fun k hk => ⟨(h.ks k hk).len, fun e he => ((h.ks k hk).rg e he).1⟩
section
variable {p : Int} {ins mid last : List Gate} {nums : List Int}
theorem val_all (hp : 1 < p) (hf : Fmt p) (D : Drawn (ins ++ mid ++ last)) (S : Shape ins mid last) (hl : nums.length = nIn (ins ++ mid ++ last)) (hn : ∀ x ∈ nums, 0 ≤ x ∧ x < p) :
    ∀ i, i < (ins ++ mid ++ last).length → Cg p (ES nums ((formsC p (ins ++ mid ++ last)).getD i [])) ((meanC p nums (ins ++ mid ++ last)).getD i 0) := by
  intro i
  induction i using Nat.strongRecOn with
  | _ i ih =>
    intro hlen
    obtain ⟨g, hg⟩ : ∃ g, (ins ++ mid ++ last)[i]? = some g := ⟨_, List.getElem?_eq_getElem hlen⟩
    have hm : (meanC p nums (ins ++ mid ++ last)).getD i 0 = fmean p nums (nIn ((ins ++ mid ++ last).take i)) ((meanC p nums (ins ++ mid ++ last)).take i) g := by
      have := allG_get (f := fmean p nums) (ins ++ mid ++ last) hg
      unfold meanC List.getD
      rw [this]
      rfl
    rw [getD_of (formsC_get (p := p) D.gsok hg), hm]
    have ok := D.ok i g hg
    have tk : ∀ l, l < i → ((meanC p nums (ins ++ mid ++ last)).take i).getD l 0 = (meanC p nums (ins ++ mid ++ last)).getD l 0 := fun l hl => by
      unfold List.getD
      rw [List.getElem?_take, if_pos hl]
    have hlook : ∀ l, l < i → l ∈ looks g → Gd p (nIn (ins ++ mid ++ last)) ins.length (dg (ins ++ mid ++ last) (l + 1)) ((formsC p (ins ++ mid ++ last)).getD l []) := fun l hl hlg => by
      refine gd_all hp D S l ?_
      rcases Nat.lt_or_ge i (ins.length + mid.length) with h | h
      · omega
      · have := at_last S hg h
        cases g with
        | inp h => exact nomatch hlg
        | _ => cases this
    cases g with
    | inp h =>
      show ES nums [(letter _ _, 1)] % p = (nums.getD _ 0) % p
      have hidx : nIn ((ins ++ mid ++ last).take i) < nIn (ins ++ mid ++ last) := by
        have h1 := nIn_take_le (ins ++ mid ++ last) (i + 1)
        rw [nIn_succ hg] at h1
        have e : (if isInp (Gate.inp h) = true then 1 else 0) = 1 := rfl
        rw [e] at h1
        omega
      rw [ES_cons, ES_nil, Int.add_zero, Int.one_mul, mon_letter _ _ nums hl hidx]
    | const c =>
      show ES nums (cleanC p [(zeros _, c)]) % p = (c % p) % p
      rw [ES_clean (by simp [keys]), ES_cons, ES_nil, Int.add_zero, mon_zeros, Int.mul_one]
      exact (Cg.mod p c).symm
    | sum a b =>
      have ok2 : a < i ∧ b < i := ok
      have Ga := hlook a ok2.1 (by simp [looks])
      show ES nums (cleanC p (addAll _ _)) % p = ((((meanC p nums (ins ++ mid ++ last)).take i).getD a 0 + ((meanC p nums (ins ++ mid ++ last)).take i).getD b 0) % p) % p
      rw [ES_clean (nodup_addAll _ _ Ga.tab.nd), ES_addAll Ga.tab.nd, tk a ok2.1, tk b ok2.2]
      exact (Cg.add (ih a ok2.1 (by omega)) (ih b ok2.2 (by omega))).trans (Cg.mod p _).symm
    | times a c =>
      have ok2 : a < i ∧ _ := ok
      have Ga := hlook a ok2.1 (by simp [looks])
      show ES nums (cleanC p (mapV (fun v => c * v) _)) % p = ((((meanC p nums (ins ++ mid ++ last)).take i).getD a 0 * c) % p) % p
      rw [ES_clean (nd_mapV Ga.tab.nd), ES_mapV, tk a ok2.1, Int.mul_comm c]
      exact (Cg.mul (ih a ok2.1 (by omega)) rfl).trans (Cg.mod p _).symm
    | prod a b =>
      have ok2 : a < i ∧ b < i := ok
      have Ga := hlook a ok2.1 (by simp [looks])
      have Gb := hlook b ok2.2 (by simp [looks])
      show ES nums (cleanC p (addAll [] (pairs p _ _))) % p = ((((meanC p nums (ins ++ mid ++ last)).take i).getD a 0 * ((meanC p nums (ins ++ mid ++ last)).take i).getD b 0) % p) % p
      rw [ES_clean (nodup_addAll _ [] List.nodup_nil), ES_addAll (A := []) List.nodup_nil, ES_nil, Int.zero_add, tk a ok2.1, tk b ok2.2]
      have h1 := ES_pairs hp hf hn (G := (formsC p (ins ++ mid ++ last)).getD b []) (by rw [hl]; exact kp_of Gb) ((formsC p (ins ++ mid ++ last)).getD a []) (by rw [hl]; exact kp_of Ga)
      exact (h1.trans (Cg.mul (ih a ok2.1 (by omega)) (ih b ok2.2 (by omega)))).trans (Cg.mod p _).symm
theorem val_ok (hp : 1 < p) (hf : Fmt p) (D : Drawn (ins ++ mid ++ last)) (S : Shape ins mid last) (hl : nums.length = nIn (ins ++ mid ++ last)) (hn : ∀ x ∈ nums, 0 ≤ x ∧ x < p) {i : Nat} (hi : i < (ins ++ mid ++ last).length) :
    valL p ((formsL p (ins ++ mid ++ last)).getD i []) nums = (meanC p nums (ins ++ mid ++ last)).getD i 0 := by
  rw [valL_eq (by omega), ES_perm nums (perm_all hp D S i hi)]
  have h1 := val_all hp hf D S hl hn i hi
  have h2 := meanC_range (p := p) (by omega) hn (ins ++ mid ++ last) (i := (ins ++ mid ++ last).length) (Nat.le_refl _)
  rw [List.take_length] at h2
  have hm : i < (meanC p nums (ins ++ mid ++ last)).length := by unfold meanC; rw [allG_len]; exact hi
  have h3 : (meanC p nums (ins ++ mid ++ last)).getD i 0 ∈ meanC p nums (ins ++ mid ++ last) := by
    unfold List.getD
    rw [List.getElem?_eq_getElem hm]
    exact List.getElem_mem hm
  have h4 := h2 _ h3
  rw [h1]
  exact Int.emod_eq_of_lt h4.1 h4.2
end
/-! ### the four fields -/
theorem fmt_nat (q : Nat) (h : ∀ x, x < q → x ^ q % q = x % q) : Fmt (q : Int) := fun x h0 h1 => by
  obtain ⟨n, rfl⟩ : ∃ n : Nat, x = (n : Int) := ⟨x.toNat, by omega⟩
  have h2 := h n (by omega)
  show ((n : Int) ^ ((q : Int)).toNat) % (q : Int) = (n : Int) % (q : Int)
  rw [show ((q : Int)).toNat = q by omega]
  exact_mod_cast h2
theorem fmt5 : Fmt 5 := fmt_nat 5 (by decide +kernel)
theorem fmt7 : Fmt 7 := fmt_nat 7 (by decide +kernel)
theorem fmt11 : Fmt 11 := fmt_nat 11 (by decide +kernel)
theorem fmt997 : Fmt 997 := fmt_nat 997 (by decide +kernel)
end K24
end
section
set_option autoImplicit false
set_option Elab.async false
set_option linter.all false
set_option maxRecDepth 100000
/-! every drawn circuit, and the law's written ones -/
namespace K24
open PySem PySem.Spec PyProof.Rows L2
theorem FieldIn.fmt {p : Int} (h : FieldIn p) : Fmt p := by
  rcases h with h | h | h | h <;> subst h
  · exact fmt5
  · exact fmt7
  · exact fmt11
  · exact fmt997
theorem FieldIn.gt {p : Int} (h : FieldIn p) : 1 < p ∧ p ≤ 997 := ⟨by have := h.ok.gt; omega, h.ok.2.1⟩
/-- few terms, hashes unlike -/
theorem gd_small {p : Int} {n q : Nat} {d : Int} {F : Fm} (h : Gd p n q d F) (h1 : 1 ≤ n) (h4 : n ≤ 4) (hq : q ≤ 3) (hd : d ≤ 16) : ((keys F).map hashK).Nodup ∧ (keys F).length ≤ 969 :=
  small_keys h1 h4 h.tab.nd fun k hk => ⟨(h.ks k hk).len, fun e he => ((h.ks k hk).rg e he).1, Int.le_trans (h.ks k hk).sum hd, fun j e hj he => (h.ks k hk).z j e (by omega) he⟩
theorem hashOk_of {F : Fm} (h : ((keys F).map hashK).Nodup) : HashOk F := fun P w => by
  have e : (enF F).map (fun p => hashT P w p.1) = (keys F).map hashK := by
    unfold enF keys
    rw [List.map_map, List.map_map]
    refine List.map_congr_left fun kv _ => ?_
    exact hashK_eq P w kv.1
  rw [e]
  exact h
theorem keys_len (F : Fm) : (keys F).length = F.length := by unfold keys; rw [List.length_map]
theorem ne_of_len {n : Nat} (h1 : 1 ≤ n) {k : Ex} (h : k.length = n) : k ≠ [] := fun z => by rw [z] at h; simp at h; omega
theorem pairs_le (p : Int) {F G : Fm} (hF : F.length ≤ 969) (hG : G.length ≤ 969) : (pairs p F G).length ≤ 1000000 := by
  rw [pairs_len]
  exact Nat.le_trans (Nat.mul_le_mul hF hG) (by decide)
theorem tab_bound {p : Int} (hp : p ≤ 997) {F : Fm} (h : Tab p F) : ∀ x ∈ F, -(2 ^ 64) < x.2 ∧ x.2 < 2 ^ 64 := fun x hx => by
  have := h.rg x hx
  omega
theorem cst_len (p : Int) (n : Nat) (c : Int) : (cstL p n c).length ≤ 1 := by
  unfold cstL sumL nz
  refine Nat.le_trans (List.length_filter_le _ _) ?_
  exact length_addAllM p [(zeros n, c % p)] []
section
variable {p : Int} {ins mid last : List Gate}
theorem math_shape (hp : FieldIn p) (D : Drawn (ins ++ mid ++ last)) (S : Shape ins mid last) : MathOk p (ins ++ mid ++ last) := by
  have hp1 := hp.gt.1
  have hp9 := hp.gt.2
  have hn1 : 1 ≤ nIn (ins ++ mid ++ last) := by
    unfold nIn
    rw [List.filter_append, List.filter_append, List.length_append, List.length_append]
    have : (ins.filter isInp) = ins := List.filter_eq_self.mpr S.ii
    rw [this]
    have := S.i1
    omega
  have hn4 : nIn (ins ++ mid ++ last) ≤ 4 := by
    unfold nIn
    rw [List.filter_append, List.filter_append, List.length_append, List.length_append, filt_none S.mi]
    have a := filt_le (P := isInp) ins
    have b := filt_le (P := isInp) last
    have c := S.i3
    have d := S.l1
    simp only [List.length_nil]
    omega
  have hq3 := S.i3
  have tk : ∀ i, i < (ins ++ mid ++ last).length → Tab p ((formsC p (ins ++ mid ++ last)).getD i []) ∧ (∀ k ∈ keys ((formsC p (ins ++ mid ++ last)).getD i []), k.length = nIn (ins ++ mid ++ last) ∧ ∀ e ∈ k, 0 ≤ e ∧ e < p) ∧ ((formsC p (ins ++ mid ++ last)).getD i []).length ≤ 969 := fun i hi => by
    rcases any_form hp1 D S hi with h | ⟨idx, h⟩
    · refine ⟨h.tab, fun k hk => ⟨(h.ks k hk).len, (h.ks k hk).rg⟩, ?_⟩
      have := (gd_small h hn1 hn4 hq3 (Int.le_refl _)).2
      rw [keys_len] at this
      exact this
    · rw [h]
      refine ⟨Tab.letterC hp1 _ _, fun k hk => ?_, by show 1 ≤ 969; decide⟩
      have e : k = letter (nIn (ins ++ mid ++ last)) idx := by simpa [keys, letterC] using hk
      rw [e]
      refine ⟨letter_len _ _, fun e he => ?_⟩
      unfold letter at he
      obtain ⟨j, _, rfl⟩ := List.mem_map.mp he
      split <;> omega
  have perm := perm_all hp1 D S
  have look : ∀ (i : Nat) (g : Gate), (ins ++ mid ++ last)[i]? = some g → ∀ l ∈ looks g, l < (ins ++ mid ++ last).length ∧ Gd p (nIn (ins ++ mid ++ last)) ins.length 16 ((formsC p (ins ++ mid ++ last)).getD l []) := fun i g hg l hl => by
    have hi := (List.getElem?_eq_some_iff.mp hg).1
    have ok := D.ok i g hg
    have hli : l < i := by
      cases g with
      | inp h => exact nomatch hl
      | const c => exact nomatch hl
      | sum a b =>
        have ok2 : a < i ∧ b < i := ok
        simp [looks] at hl
        omega
      | times a c =>
        have ok2 : a < i ∧ _ := ok
        simp [looks] at hl
        omega
      | prod a b =>
        have ok2 : a < i ∧ b < i := ok
        simp [looks] at hl
        omega
    refine ⟨by omega, (gd_all hp1 D S l ?_).mono (dg_16 S _)⟩
    rcases Nat.lt_or_ge i (ins.length + mid.length) with h | h
    · omega
    · have := at_last S hg h
      cases g with
      | inp h => exact nomatch hl
      | _ => cases this
  have gd2 : ∀ {l : Nat}, l < (ins ++ mid ++ last).length → Gd p (nIn (ins ++ mid ++ last)) ins.length 16 ((formsC p (ins ++ mid ++ last)).getD l []) → Gd p (nIn (ins ++ mid ++ last)) ins.length 16 ((formsL p (ins ++ mid ++ last)).getD l []) := fun hl h => h.perm (perm _ hl).symm
  have len9 : ∀ {F : Fm}, Gd p (nIn (ins ++ mid ++ last)) ins.length 16 F → F.length ≤ 969 := fun h => by
    have := (gd_small h hn1 hn4 hq3 (Int.le_refl _)).2
    rw [keys_len] at this
    exact this
  have kl : ∀ {F : Fm}, Gd p (nIn (ins ++ mid ++ last)) ins.length 16 F → ∀ k ∈ keys F, k.length ≤ 100 := fun h k hk => by rw [(h.ks k hk).len]; omega
  refine ⟨D.gsok, ⟨fun i g hg => ?_, fun F hF => ?_⟩, ⟨fun i g hg => ?_⟩, fun i hi => (perm i hi).symm, fun i hi => ?_, fun i hi => ?_, fun i hi => ?_, fun i hi => ?_, fun i hi => ?_, fun i hi nums hl hn => val_ok hp1 hp.fmt D S hl hn hi⟩
  · have lk := look i g hg
    cases g with
    | inp h => exact True.intro
    | const c => exact True.intro
    | sum a b =>
      have A := (lk a (by simp [looks])).2
      have B := (lk b (by simp [looks])).2
      refine ⟨A.tab.nd, hashOk_of (gd_small A hn1 hn4 hq3 (Int.le_refl _)).1, .inr fun k hk => ?_, by have := len9 A; omega, by have := len9 B; omega⟩
      rcases (mem_keys_addAll _ _ k).mp hk with h | h
      · exact ne_of_len hn1 (A.ks k h).len
      · exact ne_of_len hn1 (B.ks k h).len
    | times a c =>
      have A := (lk a (by simp [looks])).2
      exact ⟨A.tab.nd, .inr fun k hk => ne_of_len hn1 (A.ks k hk).len, by have := len9 A; omega⟩
    | prod a b =>
      have A := (lk a (by simp [looks])).2
      have B := (lk b (by simp [looks])).2
      exact ⟨tab_bound hp9 A.tab, kl A, .inr fun k hk => ne_of_len hn1 (Gd.pairs hp1 A B k (keys_addAll_nil hk)).len, by have := len9 A; omega, by have := len9 B; omega, pairs_le p (len9 A) (len9 B)⟩
  · obtain ⟨i, hi⟩ := List.getElem?_of_mem hF
    have hil : i < (ins ++ mid ++ last).length := by have := (List.getElem?_eq_some_iff.mp hi).1; rw [formsC_len] at this; exact this
    have := (tk i hil).2.2
    rw [getD_of hi] at this
    omega
  · have lk := look i g hg
    cases g with
    | inp h => exact True.intro
    | const c => exact True.intro
    | sum a b =>
      have A := gd2 (lk a (by simp [looks])).1 (lk a (by simp [looks])).2
      have B := gd2 (lk b (by simp [looks])).1 (lk b (by simp [looks])).2
      exact ⟨A.tab.nd, B.tab.nd, by have := len9 A; omega, by have := len9 B; omega⟩
    | times a c =>
      have A := gd2 (lk a (by simp [looks])).1 (lk a (by simp [looks])).2
      have hc := cst_len p (nIn (ins ++ mid ++ last)) c
      exact ⟨A.tab.nd, (Tab.sumL (by omega) (Tab.nil p) _).nd, tab_bound hp9 A.tab, kl A, by have := len9 A; omega, by omega, pairs_le p (len9 A) (by omega)⟩
    | prod a b =>
      have A := gd2 (lk a (by simp [looks])).1 (lk a (by simp [looks])).2
      have B := gd2 (lk b (by simp [looks])).1 (lk b (by simp [looks])).2
      exact ⟨A.tab.nd, B.tab.nd, tab_bound hp9 A.tab, kl A, by have := len9 A; omega, by have := len9 B; omega, pairs_le p (len9 A) (len9 B)⟩
  · obtain ⟨g, hg⟩ : ∃ g, (ins ++ mid ++ last)[i]? = some g := ⟨_, List.getElem?_eq_getElem hi⟩
    rw [getD_of (formsC_get (p := p) D.gsok hg)]
    cases g with
    | inp h => exact List.pairwise_singleton _ _
    | _ => exact cleanC_pair p _
  · exact .inr fun k hk => ne_of_len hn1 ((tk i hi).2.1 k hk).1
  · exact ((tk i hi).1.perm (perm i hi).symm).nd
  · exact ((tk i hi).1.perm (perm i hi).symm).rg
  · intro k hk e he
    have := ((tk i hi).2.1 k ((perm_keys (perm i hi)).mem_iff.mp hk)).2 e he
    omega
end
theorem math_ok : ∀ p gs, FieldIn p → Drawn gs → MathOk p gs := fun p gs hp D => by
  obtain ⟨ins, mid, last, rfl, S⟩ := id D.sh
  exact math_shape hp D S
/-! ### the written circuits -/
theorem gsome_drawn : Drawn gSome := by
  refine ⟨fun i g h => ?_, [.inp 2, .inp 1], [.sum 0 1, .prod 2 1, .times 3 6], [], rfl, ⟨by decide, by decide, ?_, by decide, ?_, by decide, by decide, fun g hg => nomatch hg⟩⟩
  · match i, h with
    | 0, h => cases h; exact ⟨by decide, by decide⟩
    | 1, h => cases h; exact ⟨by decide, by decide⟩
    | 2, h => cases h; exact ⟨by decide, by decide⟩
    | 3, h => cases h; exact ⟨by decide, by decide⟩
    | 4, h => cases h; exact ⟨by decide, by decide, by decide⟩
    | i + 5, h => simp [gSome] at h
  · intro g hg
    simp only [List.mem_cons, List.not_mem_nil, or_false] at hg
    rcases hg with rfl | rfl <;> rfl
  · intro g hg
    simp only [List.mem_cons, List.not_mem_nil, or_false] at hg
    rcases hg with rfl | rfl | rfl <;> rfl
theorem ghigh_drawn : Drawn gHigh := by
  refine ⟨fun i g h => ?_, [.inp 1], [.prod 0 0, .prod 1 1, .prod 2 0, .prod 3 0], [], rfl, ⟨by decide, by decide, ?_, by decide, ?_, by decide, by decide, fun g hg => nomatch hg⟩⟩
  · match i, h with
    | 0, h => cases h; exact ⟨by decide, by decide⟩
    | 1, h => cases h; exact ⟨by decide, by decide⟩
    | 2, h => cases h; exact ⟨by decide, by decide⟩
    | 3, h => cases h; exact ⟨by decide, by decide⟩
    | 4, h => cases h; exact ⟨by decide, by decide⟩
    | i + 5, h => simp [gHigh] at h
  · intro g hg
    simp only [List.mem_cons, List.not_mem_nil, or_false] at hg
    rcases hg with rfl; rfl
  · intro g hg
    simp only [List.mem_cons, List.not_mem_nil, or_false] at hg
    rcases hg with rfl | rfl | rfl | rfl <;> rfl
theorem c5_form : formsC 5 gC5 = [[]] := by
  show [cleanC 5 [(zeros 0, 5)]] = [[]]
  have h : cleanC 5 [(zeros 0, 5)] = [] := by
    refine List.eq_nil_iff_forall_not_mem.mpr fun a ha => ?_
    obtain ⟨h1, h2, h3⟩ := mem_cleanC.mp ha
    have e : a.1 = zeros 0 := by simpa [keys] using h1
    rw [e] at h2
    exact h3 (h2.trans (by decide))
  rw [h]
theorem lit_ok : LitOk := by
  have s5 := math_ok 5 gSome (.inl rfl) gsome_drawn
  have s7 := math_ok 7 gSome (.inr (.inl rfl)) gsome_drawn
  have h5 := math_ok 5 gHigh (.inl rfl) ghigh_drawn
  have h7 := math_ok 7 gHigh (.inr (.inl rfl)) ghigh_drawn
  refine ⟨s5, s7, h5, h7, ⟨fun i g h => ?_, by decide, by decide, by decide, by decide⟩, ⟨fun i g h => ?_, fun F hF => ?_⟩, (s5.perm 4 (by decide)).trans ?_, (s7.perm 4 (by decide)).trans ?_, fun i e he => ?_, (h7.perm 4 (by decide)).trans ?_, by rw [c5_form]; rfl⟩
  · match i, h with
    | 0, h => cases h; exact ⟨by decide, by decide⟩
    | i + 1, h => simp [gC5] at h
  · match i, h with
    | 0, h => cases h; exact True.intro
    | i + 1, h => simp [gC5] at h
  · rw [c5_form] at hF
    rw [List.mem_singleton.mp hF]
    exact Nat.zero_le _
  · exact (by decide +kernel : ((formsL 5 gSome).getD 4 []).isPerm [([0, 2], 1), ([1, 1], 1)] = true) |> List.isPerm_iff.mp
  · exact (by decide +kernel : ((formsL 7 gSome).getD 4 []).isPerm [([0, 2], 6), ([1, 1], 6)] = true) |> List.isPerm_iff.mp
  · have hi : i < 5 := by have := (List.getElem?_eq_some_iff.mp he).1; exact this
    refine (h5.perm i hi).trans ?_
    match i, he with
    | 0, he => cases he; exact (by decide +kernel : ((formsL 5 gHigh).getD 0 []).isPerm [([1], 1)] = true) |> List.isPerm_iff.mp
    | 1, he => cases he; exact (by decide +kernel : ((formsL 5 gHigh).getD 1 []).isPerm [([2], 1)] = true) |> List.isPerm_iff.mp
    | 2, he => cases he; exact (by decide +kernel : ((formsL 5 gHigh).getD 2 []).isPerm [([4], 1)] = true) |> List.isPerm_iff.mp
    | 3, he => cases he; exact (by decide +kernel : ((formsL 5 gHigh).getD 3 []).isPerm [([1], 1)] = true) |> List.isPerm_iff.mp
    | 4, he => cases he; exact (by decide +kernel : ((formsL 5 gHigh).getD 4 []).isPerm [([2], 1)] = true) |> List.isPerm_iff.mp
  · exact (by decide +kernel : ((formsL 7 gHigh).getD 4 []).isPerm [([6], 1)] = true) |> List.isPerm_iff.mp
end K24
end
section
set_option Elab.async false
set_option linter.all false
set_option maxRecDepth 100000
set_option maxHeartbeats 0
/-! the facts of the head, joined with the walk -/
namespace K24
open PySem PySem.Spec PyProof.Rows L2
theorem defM_of {K : PySem.W.Frag} {h : Heap} {mg : Str → Option Value} (X : K.In h) (G : h.Ns mainGlobals mg) (c : He5.SaysA fa fn K) {g x : Str} {st : Stmt} (i j : Nat) (hi : fn[i]? = some (dm g x st)) (hj : fa[j]? = some (.glo g)) : DefM K mg g x st := by
  obtain ⟨fd, F⟩ := c.def_ i hi
  exact ⟨_, fd, He5.fun_of F, He.glo_ok X G (c.fact j hj)⟩
theorem con_int {K : PySem.W.Frag} {h : Heap} {mg : Str → Option Value} (X : K.In h) (G : h.Ns mainGlobals mg) (c : He5.SaysA fa fn K) {x : Str} {i : Int} (j : Nat) (hj : fa[j]? = some (.int x i)) : Con mg x (.int i) := by
  obtain ⟨t, e⟩ := He.int_ok X G (c.fact j hj)
  exact ⟨_, e, t, rfl⟩
theorem con_str {K : PySem.W.Frag} {h : Heap} {mg : Str → Option Value} (X : K.In h) (G : h.Ns mainGlobals mg) (c : He5.SaysA fa fn K) {x z : Str} (j : Nat) (hj : fa[j]? = some (.str x z)) : Con mg x (.str z) := by
  obtain ⟨t, e⟩ := He.str_ok X G (c.fact j hj)
  exact ⟨_, e, t, rfl⟩
theorem facts {P : Program} {w : World} {K : PySem.W.Frag} {h : Heap} {mg : Str → Option Value} {f : Addr} (X : K.In h) (G : h.Ns mainGlobals mg) (hfa : mg ("law" : Str) = some (.ref f)) (hx : exB K = true) (c : He5.SaysA fa fn K) (M : ∀ p gs, FieldIn p → Drawn gs → MathOk p gs) (L : LitOk) :
    ∃ fd : FuncData, (∀ (s : Shared) (v : Value), BindsTo s fd ⟨[v], []⟩ [("_law_script", v)]) ∧ ∀ base : Heap, K.In base → base.Ns mainGlobals mg → FnOk P w K mg base CX0 10 f fd ["_law_script"] (sp_law K) := by
  have gb : GB mg := ⟨He.free_ok X G (c.fact 0 (f := .free "isinstance") rfl), He.free_ok X G (c.fact 1 (f := .free "int") rfl), He.free_ok X G (c.fact 2 (f := .free "bool") rfl), He.free_ok X G (c.fact 3 (f := .free "all") rfl), He.free_ok X G (c.fact 4 (f := .free "range") rfl), He.free_ok X G (c.fact 5 (f := .free "min") rfl), He.free_ok X G (c.fact 6 (f := .free "max") rfl), He.free_ok X G (c.fact 7 (f := .free "abs") rfl), He.free_ok X G (c.fact 8 (f := .free "tuple") rfl), He.free_ok X G (c.fact 9 (f := .free "str") rfl), He.free_ok X G (c.fact 10 (f := .free "sorted") rfl), He.free_ok X G (c.fact 11 (f := .free "zip") rfl), He.free_ok X G (c.fact 12 (f := .free "dict") rfl), He.free_ok X G (c.fact 13 (f := .free "len") rfl), He.free_ok X G (c.fact 14 (f := .free "enumerate") rfl), He.free_ok X G (c.fact 15 (f := .free "list") rfl)⟩
  have gc : GC mg := ⟨gb, con_int X G c 16 rfl, con_int X G c 17 rfl, con_int X G c 18 rfl, con_int X G c 19 rfl, con_int X G c 20 rfl, con_int X G c 21 rfl, con_int X G c 22 rfl, con_int X G c 23 rfl, con_int X G c 24 rfl, con_int X G c 25 rfl, con_str X G c 26 rfl, con_str X G c 27 rfl, con_str X G c 28 rfl, con_str X G c 29 rfl, con_str X G c 30 rfl⟩
  have d0 : DefM K mg "is_integer" "is_integer" s_is_integer := defM_of X G c 0 31 rfl rfl
  have d1 : DefM K mg "is_within" "is_within" s_is_within := defM_of X G c 1 32 rfl rfl
  have d2 : DefM K mg "require_field_field" "require_field" s_require_field_field := defM_of X G c 2 33 rfl rfl
  have d3 : DefM K mg "is_field" "is_field" s_is_field := defM_of X G c 3 34 rfl rfl
  have d4 : DefM K mg "is_number" "is_number" s_is_number := defM_of X G c 4 35 rfl rfl
  have d5 : DefM K mg "lowered" "lowered" s_lowered := defM_of X G c 5 36 rfl rfl
  have d6 : DefM K mg "cleaned" "cleaned" s_cleaned := defM_of X G c 6 37 rfl rfl
  have d7 : DefM K mg "constant_form" "constant_form" s_constant_form := defM_of X G c 7 38 rfl rfl
  have d8 : DefM K mg "letter_form" "letter_form" s_letter_form := defM_of X G c 8 39 rfl rfl
  have d9 : DefM K mg "form_sum" "form_sum" s_form_sum := defM_of X G c 9 40 rfl rfl
  have d10 : DefM K mg "form_scaled" "form_scaled" s_form_scaled := defM_of X G c 10 41 rfl rfl
  have d11 : DefM K mg "form_product" "form_product" s_form_product := defM_of X G c 11 42 rfl rfl
  have d12 : DefM K mg "is_from" "is_from" s_is_from := defM_of X G c 12 43 rfl rfl
  have d13 : DefM K mg "is_gate" "is_gate" s_is_gate := defM_of X G c 13 44 rfl rfl
  have d14 : DefM K mg "are_houses" "are_houses" s_are_houses := defM_of X G c 14 45 rfl rfl
  have d15 : DefM K mg "is_output" "is_output" s_is_output := defM_of X G c 15 46 rfl rfl
  have d16 : DefM K mg "many_of" "many_of" s_many_of := defM_of X G c 16 47 rfl rfl
  have d17 : DefM K mg "are_gates" "are_gates" s_are_gates := defM_of X G c 17 48 rfl rfl
  have d18 : DefM K mg "are_outputs" "are_outputs" s_are_outputs := defM_of X G c 18 49 rfl rfl
  have d19 : DefM K mg "meaning_in" "meaning_in" s_meaning_in := defM_of X G c 19 50 rfl rfl
  have d20 : DefM K mg "looks_of" "looks_of" s_looks_of := defM_of X G c 20 51 rfl rfl
  have d21 : DefM K mg "hanging" "hanging" s_hanging := defM_of X G c 21 52 rfl rfl
  have d22 : DefM K mg "gate_form" "gate_form" s_gate_form := defM_of X G c 22 53 rfl rfl
  have d23 : DefM K mg "forms_to" "forms_to" s_forms_to := defM_of X G c 23 54 rfl rfl
  have d24 : DefM K mg "require_field_circuits" "require_field" s_require_field_circuits := defM_of X G c 24 55 rfl rfl
  have d25 : DefM K mg "require_circuit" "require_circuit" s_require_circuit := defM_of X G c 25 56 rfl rfl
  have d26 : DefM K mg "are_numbers" "are_numbers" s_are_numbers := defM_of X G c 26 57 rfl rfl
  have d27 : DefM K mg "require_numbers" "require_numbers" s_require_numbers := defM_of X G c 27 58 rfl rfl
  have d28 : DefM K mg "form_of" "form_of" s_form_of := defM_of X G c 28 59 rfl rfl
  have d29 : DefM K mg "_law_dice" "_law_dice" s_law_dice := defM_of X G c 29 60 rfl rfl
  have d30 : DefM K mg "_law_roll" "_law_roll" s_law_roll := defM_of X G c 30 61 rfl rfl
  have d31 : DefM K mg "_law_pick" "_law_pick" s_law_pick := defM_of X G c 31 62 rfl rfl
  have d32 : DefM K mg "_law_dr_gate" "_law_dr_gate" s_law_dr_gate := defM_of X G c 32 63 rfl rfl
  have d33 : DefM K mg "_law_dr_gates" "_law_dr_gates" s_law_dr_gates := defM_of X G c 33 64 rfl rfl
  have d34 : DefM K mg "_law_dr_numbers" "_law_dr_numbers" s_law_dr_numbers := defM_of X G c 34 65 rfl rfl
  have d35 : DefM K mg "_law_dr_inputs" "_law_dr_inputs" s_law_dr_inputs := defM_of X G c 35 66 rfl rfl
  have d36 : DefM K mg "_law_fd_times" "_law_fd_times" s_law_fd_times := defM_of X G c 36 67 rfl rfl
  have d37 : DefM K mg "_law_ci_inputs" "_law_ci_inputs" s_law_ci_inputs := defM_of X G c 37 68 rfl rfl
  have d38 : DefM K mg "_law_lowered" "_law_lowered" s_law_lowered := defM_of X G c 38 69 rfl rfl
  have d39 : DefM K mg "_law_form_sum" "_law_form_sum" s_law_form_sum := defM_of X G c 39 70 rfl rfl
  have d40 : DefM K mg "_law_form_product" "_law_form_product" s_law_form_product := defM_of X G c 40 71 rfl rfl
  have d41 : DefM K mg "_law_forms" "_law_forms" s_law_forms := defM_of X G c 41 72 rfl rfl
  have d42 : DefM K mg "_law_form_value" "_law_form_value" s_law_form_value := defM_of X G c 42 73 rfl rfl
  have d43 : DefM K mg "_law_gates_drawn" "_law_gates_drawn" s_law_gates_drawn := defM_of X G c 43 74 rfl rfl
  have d44 : DefM K mg "_law_right" "_law_right" s_law_right := defM_of X G c 44 75 rfl rfl
  have hC : mg ("Circuit" : Str) = some (.ref (cC K)) := He.glo_ok X G (c.fact 77 (f := .glo "Circuit") rfl)
  obtain ⟨x1, hx⟩ := He.ba hx
  obtain ⟨x2, hx⟩ := He.ba hx
  obtain ⟨x3, hx⟩ := He.ba hx
  obtain ⟨x4, x5⟩ := He.ba hx
  have pr := propB_ok x3
  have cir : CirF K (cC K) (pG K) (pO K) (pIn K) (gIn K) (He.ma K (cC K) "meaning") 0 1 := ⟨clsB_ok x1, (isiB_ok x2).1, slotB_ok x4, slotB_ok x5, by decide, (isiB_ok x2).2, pr.1, pr.2.1, pr.2.2.1, pr.2.2.2, He.meth_ok (c.fact 78 (f := .meth "Circuit" "meaning") rfl)⟩
  have mk : Mk K (cC K) (He.ma K (cC K) "__init__") := He.mkr_ok (c.fact 79 (f := .mkr "Circuit") rfl)
  obtain ⟨fdI, FI⟩ := c.def_ 46 (d := dc (fun K => He.ma K (cC K) "__init__") "__init__" "Circuit.__init__" s_C_init) rfl
  obtain ⟨fdP, FP⟩ := c.def_ 47 (d := dc gIn "inputs" "Circuit.inputs" s_C_inputs) rfl
  obtain ⟨fdM, FM⟩ := c.def_ 48 (d := dc (fun K => He.ma K (cC K) "meaning") "meaning" "Circuit.meaning" s_C_meaning) rfl
  obtain ⟨fd, FL⟩ := c.def_ 45 (d := dm "law" "law" s_law) rfl
  have e := hfa.symm.trans (He.glo_ok X G (c.fact 76 (f := .glo "law") rfl))
  cases e
  have b := FunD.bindsA (ps := ["_law_script"]) FL fun _ _ _ _ _ _ us hl => match us, hl with | [_], _ => rfl
  refine ⟨fd, fun s v => b s [v] rfl, fun base _ _ => ?_⟩
  have c1 : C8.Cal P w K mg base 1 "is_integer" sp_is_integer [] := cal_is_integer d0 gb
  have c2 : C8.Cal P w K mg base 2 "is_within" sp_is_within [] := cal_is_within d1 c1
  have c3 : C8.Cal P w K mg base 3 "is_field" sp_is_field [] := cal_is_field d3 gc c2
  have c4 : C8.Cal P w K mg base 4 "require_field_field" sp_require_field [] := cal_require_field_field d2 c3
  have c5 : C8.Cal P w K mg base 4 "require_field_circuits" sp_require_field [] := cal_require_field_circuits d24 c3
  have c6 : C8.Cal P w K mg base 5 "is_number" sp_is_number [] := cal_is_number d4 c4 c2
  have c7 : C8.Cal P w K mg base 1 "lowered" sp_lowered [] := cal_lowered d5
  have c8 : C8.Cal P w K mg base 1 "cleaned" sp_cleaned [] := cal_cleaned d6 gb
  have c9 : C8.Cal P w K mg base 2 "constant_form" sp_constant_form [] := cal_constant_form d7 gb c8
  have c10 : C8.Cal P w K mg base 1 "letter_form" sp_letter_form [] := cal_letter_form d8 gb
  have c11 : C8.Cal P w K mg base 2 "form_sum" sp_form_sum [] := cal_form_sum d9 gb c8
  have c12 : C8.Cal P w K mg base 2 "form_scaled" sp_form_scaled [] := cal_form_scaled d10 gb c8
  have c13 : C8.Cal P w K mg base 2 "form_product" sp_form_product [] := cal_form_product d11 gb c8 c7
  have c14 : C8.Cal P w K mg base 1 "is_from" sp_is_within [] := cal_is_from d12 gb
  have c15 : C8.Cal P w K mg base 2 "is_gate" sp_is_gate [] := cal_is_gate d13 gc c14
  have c16 : C8.Cal P w K mg base 2 "are_houses" sp_are_houses [] := cal_are_houses d14 gc c14
  have c17 : C8.Cal P w K mg base 3 "is_output" sp_is_output [] := cal_is_output d15 gc c14 c16
  have c18 : C8.Cal P w K mg base 1 "many_of" sp_many_of [] := cal_many_of d16 gb
  have c19 : C8.Cal P w K mg base 3 "are_gates" sp_are_gates [] := cal_are_gates d17 gc c15 c18
  have c20 : C8.Cal P w K mg base 4 "are_outputs" sp_are_outputs [] := cal_are_outputs d18 gc c17
  have FI2 : L2.Fun K "__init__" "Circuit.__init__" s_C_init (He.ma K (cC K) "__init__") fdI := He5.fun_of FI
  have bI : Binds K fdI ["self", "gates", "outputs"] [] := FI2.binds fun _ _ _ _ _ _ us hl => match us, hl with | [_, _, _], _ => rfl
  have kI : C8.Mak P w K mg base 5 "Circuit" (cC K) (sp_C_init (cC K) 0) [] := ⟨_, fdI, _, [], mk, ok_C_init FI2 cir gc c19 c20, hC, bI, .nil⟩
  have gi := ok_C_inputs (P := P) (w := w) (mg := mg) (base := base) (He5.fun_of FP) cir gc
  have c21 : C8.Cal P w K mg base 1 "meaning_in" (sp_meaning_in (cC K) 0) [] := cal_meaning_in d19 cir gc
  have c22 : C8.Cal P w K mg base 1 "looks_of" sp_looks_of [] := cal_looks_of d20 gc
  have c23 : C8.Cal P w K mg base 2 "hanging" sp_hanging [] := cal_hanging d21 gc c22
  have c24 : C8.Cal P w K mg base 3 "gate_form" sp_gate_form [] := cal_gate_form d22 gc c10 c9 c11 c12 c13
  have c25 : C8.Cal P w K mg base 4 "forms_to" (sp_forms_to (cC K) 0) [] := cal_forms_to d23 cir gc gi c23 c24
  have c26 : C8.Cal P w K mg base 1 "require_circuit" (sp_require_circuit (cC K) 0) [] := cal_require_circuit d25 cir hC gb
  have c27 : C8.Cal P w K mg base 6 "are_numbers" sp_are_numbers [] := cal_are_numbers d26 gb c6
  have c28 : C8.Cal P w K mg base 7 "require_numbers" (sp_require_numbers (cC K) 0) [] := cal_require_numbers d27 cir gb c5 c27 gi
  have fm := ok_C_meaning (P := P) (w := w) (mg := mg) (base := base) (He5.fun_of FM) cir gb c28 c21
  have c29 : C8.Cal P w K mg base 5 "form_of" (sp_form_of (cC K) 0) [] := cal_form_of d28 cir gb c5 c26 c14 c25
  have l1 : C8.Cal P w K mg base 1 "_law_dice" (sp_law_dice K) [] := cal_law_dice d29 gb
  have l2 : C8.Cal P w K mg base 1 "_law_roll" sp_law_roll [] := cal_law_roll d30 gb
  have l3 : C8.Cal P w K mg base 2 "_law_pick" sp_law_pick [] := cal_law_pick d31 gb l2
  have l4 : C8.Cal P w K mg base 3 "_law_dr_gate" sp_law_dr_gate [] := cal_law_dr_gate d32 gb l2 l3
  have l5 : C8.Cal P w K mg base 4 "_law_dr_gates" sp_law_dr_gates [] := cal_law_dr_gates d33 gb l2 l4
  have l6 : C8.Cal P w K mg base 3 "_law_dr_numbers" sp_law_dr_numbers [] := cal_law_dr_numbers d34 gb l2 l3
  have l7 : C8.Cal P w K mg base 4 "_law_dr_inputs" sp_law_dr_inputs [] := cal_law_dr_inputs d35 gb l6
  have l8 : C8.Cal P w K mg base 1 "_law_fd_times" sp_law_fd_times [] := cal_law_fd_times d36 gb
  have l9 : C8.Cal P w K mg base 1 "_law_ci_inputs" sp_law_ci_inputs [] := cal_law_ci_inputs d37 gb
  have l10 : C8.Cal P w K mg base 1 "_law_lowered" sp_lowered [] := cal_law_lowered d38
  have l11 : C8.Cal P w K mg base 1 "_law_form_sum" sp_law_form_sum [] := cal_law_form_sum d39 gb
  have l12 : C8.Cal P w K mg base 2 "_law_form_product" sp_law_form_product [] := cal_law_form_product d40 gb l10
  have l13 : C8.Cal P w K mg base 3 "_law_forms" sp_law_forms [] := cal_law_forms d41 gb l9 l11 l12
  have l14 : C8.Cal P w K mg base 2 "_law_form_value" sp_law_form_value [] := cal_law_form_value d42 gb l8
  have l15 : C8.Cal P w K mg base 5 "_law_gates_drawn" sp_law_gates_drawn [] := cal_law_gates_drawn d43 gb l2 l3 l5
  have l16 : C8.Cal P w K mg base 9 "_law_right" sp_law_right [] := cal_law_right M d44 cir gb l3 l15 kI l13 c29 l7 fm l14
  exact ok_law (He5.fun_of FL) L gb l1 l16 kI c29
end K24
open PySem PySem.W PySem.Calls PyProof.Rows
theorem PySem.Challenge.cw_evencoins_k24_whole_forms_of_gates_holds : PySem.Challenge.rw_evencoins_k24_whole_forms_of_gates.Holds := by
  w_on; o_law
  refine HandSHeadRun.head_any (r := OpenLaw.row PySem.Challenge.rw_evencoins_k24_whole_forms_of_gates) (q := view (OpenLaw.row PySem.Challenge.rw_evencoins_k24_whole_forms_of_gates).prog [74]) (H := K24.hk) (ob := K24.ob) (M := 6000) (loose := K24.loose) (d := HandSHeadRun.topDef (OpenLaw.row PySem.Challenge.rw_evencoins_k24_whole_forms_of_gates).prog 74) (kwd := []) K24.ob_eq
    (by kernel_rfl) (fun s => by kernel_rfl) K24.run (by kernel_rfl) (by kernel_rfl) (by kernel_rfl) (by rfl) (by first | assumption | decide +kernel) (by decide +kernel) ⟨rfl, rfl, rfl, rfl, rfl, by decide +kernel⟩ ?hw ?hc
  case hw => w_witness2
  case hc =>
    refine L2.walk_ofE (l := PySem.Challenge.rw_evencoins_k24_whole_forms_of_gates) (n := 63) (k := 10) (x := "_law_script") (CX := L2.CX0) rfl (by decide) (by kernel_rfl) ⟨rfl, by decide, by decide⟩ ?F (fun _ _ _ _ z => z)
    intro w mg fa h Y G hmg0
    obtain ⟨K, KX, hx, c⟩ := Y
    have hmg : mg ("law" : PySem.Str) = some (.ref fa) := by
      have e : (HandSHeadRun.topDef (OpenLaw.row PySem.Challenge.rw_evencoins_k24_whole_forms_of_gates).prog 74).name = ("law" : PySem.Str) := by kernel_rfl
      rw [← e]
      exact hmg0
    obtain ⟨fd, hb, hF⟩ := K24.facts (P := (PySem.Challenge.rw_evencoins_k24_whole_forms_of_gates).prog) (w := w) KX G hmg hx c K24.math_ok K24.lit_ok
    exact ⟨K, fd, K24.sp_law K, KX, hb, fun H a ns hl _ hS => ⟨a, ns, rfl, hS, fun _ => rfl⟩, hF⟩
end
