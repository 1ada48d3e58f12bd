import PyProof.Rows.All
import Wide.All
import OpenK.AllK
import Wide.FinOn
import PyProof.EqAt
import PyProof.EqKinds
import PyProof.TupleCall
import PyProof.ReprRoads
import KE.KLam
import HandS.ForMost
import HandS.Exc
import HandS.TryOnly
import HandS.TryMany
import HandS.ExcOwn
import HandS.ExcInit
import HandS.CallSlots
import HandS.Lambda
import HandS.Walk
import HandS.Deep
import HandS.Conv
import HandS.Codes
import HandS.Wide
import HandS.WideBits
import HandS.WideMore
import HandS.Zip
import HandS.TupAny
import HandS.TupMul
import HandS.TupLe
import HandS.SortInts
import HandS.Remove
import HandS.Style
import HandS.Flow
import HandS.Small
import HandS.RaiseMore
import HandS.Defaults
import HandS.MakeKw
import HandS.IsInst
import HandS.Words
import HandS.WordsList
import HandS.WordsExc
import HandS.Head0
import HandS.Head1
import HandS.Head2
import HandS.HeadEnd
import HandS.HeadHook1
import HandS.HeadHook2
import HandS.HeadHook3
import HandS.HeadHook4
import HandS.HeadWalk
import HandS.EndTab
import KE.KIndexWalk
import KE.DataFind
import HandS.ExcValue
import HandS.ExcIs
import HandS.ExcField
import HandS.HotCalls
import HandS.NestedK
import HandS.CallLocal
import KE.GoesEnum
import KE.GoesZip
import HandS.SetFor
import HandS.TupLen
import HandS.NoneIn
import KE.KExcIs
import HandS.Iter
import KE.DataMinMax
import KE.SortData
import KE.KDictCopyH
import KE.KDictPairs
import HandS.Text
import PySem.Challenge.RW_onceeach_k74_functions_and_polynomials_r
set_option Elab.async false
set_option linter.all false
set_option maxRecDepth 100000
set_option maxHeartbeats 4000000
namespace Q
open PySem PySem.Spec PyProof.Rows L2
def Nd (o : Obj) : Prop := o.cls = .type "tuple" ∧ o.dict = none
/-- a tuple of the module -/
def KTup (K : PySem.W.Frag) (a : Addr) (xs : List V) : Prop := ∃ (o : Obj) (its : Array Value) (n : Nat), K.lookup a = some o ∧ Nd o ∧ o.data = .seq its n ∧ its.size ≤ sizeLine ∧ Vals xs its.toList
/-- a new tuple comes -/
def NewT (H : Hp) (xs : List V) (Q : VK) : Prop := ∀ p o, H p = none → Nd o → Q (.ref p) (upd H p (.frz o (.tup xs)))
section
variable {X : Cx} {pins : List (Addr × Obj)} {σ : L2.St} {H : Hp} {s : Shared} {Qv : VK} {xs : List V} {us : List Value} {e e2 : Expr} {te : TE} {t : TA} {es : List Expr} {pos p : Pos}
theorem new_tup {o : Obj} {n : Nat} {tk : Nat} {h : Heap} (I : Inv X pins σ H { s with heap := h }) (hc : o.cls = .type "tuple") (hd : o.dict = none) (hs : o.data = .seq us.toArray n) (r : Vals xs us) (hz : xs.length ≤ sizeLine) (q : NewT H xs Qv) (hf : o.isFreed = false := by rfl) :
    EP X pins σ Qv (.ref h.objs.size) { s with heap := h.push o, toks := tk } := by
  refine ⟨.ref h.objs.size, upd H h.objs.size (.frz o (.tup xs)), I.laid (t' := tk) (fun b ob z => Heap.get?_push_of_some _ z) (Nat.le_refl _) ?_, rfl, q _ _ (I.hok.fresh (Nat.le_refl _)) ⟨hc, hd⟩⟩
  exact ⟨Heap.get?_push_size _ hf, hz, us, r, ⟨o, Heap.get?_push_size _ hf, hc, n, hs⟩⟩
def tTupN (t : TA) : TE := fun σ H Q => t σ H fun xs H1 => xs.length ≤ sizeLine ∧ NewT H1 xs Q
theorem pe_tupN {x1} (h : PA X es t) : PE X (.Tuple es x1 pos) (tTupN t) := by
  refine ⟨fun pins s σ H Q I hq => ?_⟩
  refine wpAny_Tuple_spliced (thn (h.run pos pins s σ H _ I hq) fun us s1 ⟨xs, H1, I1, r, z, q⟩ => ⟨by rw [← r.length]; exact z, ?_⟩)
  exact new_tup (s := s1) (tk := s1.toks) I1 rfl rfl rfl r z q
def rCatN (K : PySem.W.Frag) : R2 := fun x y H Q => ∃ a b xs ys, x = .ref a ∧ y = .ref b ∧ SqT K H a xs ∧ SqT K H b ys ∧ xs.length + ys.length ≤ sizeLine ∧
  (xs = [] → Q (.ref b) H) ∧ (xs ≠ [] → ys = [] → Q (.ref a) H) ∧ (xs ≠ [] → ys ≠ [] → NewT H (xs ++ ys) Q)
theorem op_catN : OpR X (binaryOp .Add) (rCatN X.K) := by
  intro pins s σ H x y v u Q I rx ry h
  obtain ⟨a, b, xs, ys, rfl, rfl, ha, hb, hz, q0, q1, q2⟩ := h
  by_cases hx : xs = []
  · exact op_catA pins s σ H _ _ v u Q I rx ry ⟨a, b, xs, ys, rfl, rfl, ha, hb, hz, q0, q1, fun z => absurd hx z⟩
  · cases rx
    cases ry
    obtain ⟨its, r1, p1, _⟩ := I.tuple ha
    obtain ⟨its2, r2, p2, _⟩ := I.tuple hb
    refine HT.cat_tup p1 p2 (fun z => hx (r1.nil_iff.mp z)) (fun z => ⟨.ref a, H, I, rfl, q1 hx (r2.nil_iff.mp z)⟩) (fun z => ?_) (by rw [← r1.length, ← r2.length]; exact hz)
    exact new_tup (s := s) (tk := s.toks) I rfl rfl rfl (r1.append r2) (by rw [List.length_append]; exact hz) (q2 hx fun w => z (r2.nil_iff.mpr w))
def rSlN (K : PySem.W.Frag) : V → Option Int → Option Int → Hp → VK → Prop := fun x lo hi H Q => ∃ a xs, x = .ref a ∧ SqT K H a xs ∧
  (HT.sIx xs.length 0 lo = 0 ∧ HT.sIx xs.length xs.length hi = xs.length → Q (.ref a) H) ∧ (¬ (HT.sIx xs.length 0 lo = 0 ∧ HT.sIx xs.length xs.length hi = xs.length) → NewT H (cutV xs lo hi) Q)
theorem sl_tupN : SlR X (rSlN X.K) := by
  intro pins s σ H x v vl vu lo hi sl Q I rx hs pl pu h
  obtain ⟨a, xs, rfl, hx, q1, q2⟩ := h
  by_cases hw : HT.sIx xs.length 0 lo = 0 ∧ HT.sIx xs.length xs.length hi = xs.length
  · exact sl_tupA pins s σ H _ v vl vu lo hi sl Q I rx hs pl pu ⟨a, xs, rfl, hx, q1, fun z => absurd hw z⟩
  · cases rx
    obtain ⟨its, r, ht, hz⟩ := I.tuple hx
    have hlen : its.toArray.size = xs.length := by rw [List.size_toArray]; exact r.length.symm
    refine ⟨"tuple", _, PyProof.Rows.slot_tuple_getitem.lookup, ht.typeIs, ?_⟩
    refine HT.getItem_tuple_cut ht hs pl pu (by rw [hlen]; exact hw) ?_ (by rw [hlen]; exact hz)
    rw [hlen]
    exact new_tup (s := s) (tk := s.toks) I rfl rfl rfl ((r.drop (HT.sIx xs.length 0 lo)).take (HT.sIx xs.length xs.length hi - HT.sIx xs.length 0 lo)) (Nat.le_trans (cutV_length xs lo hi) hz) (q2 hw)
theorem call_divmodN : CallR X (.builtin "divmod") (fun xs H Q => ∃ i j, xs = [.int i, .int j] ∧ CDivP i j ∧ NewT H [.int (i / j), .int (i % j)] Q) := by
  intro pins s σ H xs us Q I r h
  obtain ⟨i, j, rfl, ⟨h1, h2⟩, q⟩ := h
  obtain ⟨u, w', rfl, ⟨t, rfl⟩, ⟨t', rfl⟩⟩ := vals2 r
  refine divmod_int (by omega) ?_ (.inl h2)
  rw [Int.fdiv_eq_ediv_of_nonneg i (by omega), Int.fmod_eq_emod_of_nonneg i (by omega)]
  exact new_tup (us := [.int (i / j) s.toks, .int (i % j) (s.toks + 1)]) (s := s) I rfl rfl rfl (.cons (show RelV (.int (i / j)) _ from ⟨_, rfl⟩) (.cons (show RelV (.int (i % j)) _ from ⟨_, rfl⟩) .nil)) (by simp only [List.length_cons, List.length_nil]; rw [sizeLine_eq]; decide) q
theorem call_tupleN : CallR X (.type "tuple") (fun xs H Q => ∃ p ys, xs = [.ref p] ∧ ((SqL X.K H p ys ∧ NewT H ys Q) ∨ (SqT X.K H p ys ∧ Q (.ref p) H))) := by
  intro pins s σ H xs us Q I r h
  obtain ⟨p, ys, rfl, h⟩ := h
  rcases h with ⟨hq, q⟩ | h
  · obtain ⟨u, rfl, rx⟩ := vals1 r
    cases rx
    obtain ⟨its, r', pl, hz⟩ := I.list hq
    have hlen := r'.length
    refine call_tuple_list pl.isList (fun h' kp => ?_) (by simp only [List.size_toArray] <;> omega)
    have I1 : Inv X pins σ H { s with heap := h' } := I.kept (t' := s.toks) kp
    exact new_tup (s := s) (tk := s.toks) I1 rfl rfl rfl r' hz q
  · exact call_tuple_of pins s σ H _ us Q I r ⟨p, ys, rfl, .inr h⟩
def tTupRgN (te : L2.St → Hp → (Int → Int → Hp → Prop) → Prop) : TE := fun σ H Q => te σ H fun a b H1 => RgOk a b ∧ NewT H1 (rgV a b) Q
theorem pe_tupRgN {te : L2.St → Hp → (Int → Int → Hp → Prop) → Prop} (hc : X.calm = true) (hg : Gl X "tuple") (hm : X.mg "tuple" = none) (he : PRg X e te) (na : starEach [e] X.env = (false, eval e X.env) :: starEach [] X.env := by rfl) : PE X (.Call (.Name "tuple" p) [e] [] pos) (tTupRgN te) := by
  refine ⟨fun pins s σ H Q I h => ?_⟩
  refine Call_ (ld_blt I hg hm boot_tuple (PyProof.Rows.callWith_type1 (args_cons (thn (he pins s σ H _ I h) fun x s1 ⟨r, a, b, t, u, v, H1, ex, hr, I1, ok, q⟩ => args_nil ?_) na) na))
  subst ex
  obtain ⟨b1, b2, b3, b4, b5⟩ := ok
  refine call_tuple_range (n := (b - a).toNat) (I1.ok.hd hc) hr (small_one b1 b2 b3 b4) (rangeSize_nat a b) b5 fun h' tk acc hk hi => ?_
  have I2 : Inv X pins σ H1 { s1 with heap := h', toks := tk } := I1.kept hk
  exact new_tup (s := { s1 with toks := tk }) (us := acc.toList) I2 rfl rfl (by rw [Array.toArray_toList]) (vals_rg hi) (by rw [rgV_length, sizeLine_eq]; omega) q
def tBT (K : PySem.W.Frag) (r : V → List V → Hp → VK → Prop) (to : TE) (t : TA) : TE := fun σ H Q => to σ H fun x H1 => (∃ a o, x = .ref a ∧ Nd o ∧ ((∃ xs, H1 a = some (.frz o (.tup xs))) ∨ K.lookup a = some o)) ∧ t σ H1 fun xs H2 => r x xs H2 Q
variable {o : Expr} {to : TE} {name : Str} {apos cpos : Pos} {id : String} {r : V → List V → Hp → VK → Prop}
theorem pe_bt (slot : Slot "tuple" name id) (hty : typeOf (.builtin id) = pure (.type "method_descriptor")) (hm : MtR X id r) (ho : PE X o to) (ha : PA X (e :: es) t)
    (hbase : attributeBase o name X.env (eval o X.env) = eval o X.env := by rfl)
    (hfew : ((backTo cpos (starEach (e :: es) X.env)).all (fun x => !x.1) && (backToKw cpos (keywordEach [] X.env)).all (fun x => x.1.isSome)
      && decide ((e :: es).length + ([] : List Keyword).length + (if ([] : List Keyword).isEmpty then 0 else 1) < 30)) = true := by rfl)
    (hline : (apos.endLine == cpos.line) = true := by rfl) (hs : starEach (e :: es) X.env = (false, eval e X.env) :: starEach es X.env := by rfl) (hplain : (backTo cpos (starEach es X.env)).any (·.1) = false := by rfl) :
    PE X (.Call (.Attribute o name apos) (e :: es) [] cpos) (tBT X.K r to t) := by
  refine ⟨fun pins s σ H Q I h => ?_⟩
  refine wpAny_Call_method_late hbase hfew hline rfl (thn (ho.run pins s σ H _ I h) fun v s1 ⟨x, H1, I1, r1, ⟨a, ob, ex, hn, hx⟩, q1⟩ => ?_)
  subst ex
  cases r1
  have g : s1.heap.get? a = some ob := by
    rcases hx with ⟨xs, hx⟩ | hx
    · exact (I1.hok a _ hx).1
    · exact I1.kIn _ _ hx
  refine ⟨"tuple", id, PySem.F.plainAttrs_tuple, slot, hty, ⟨ob, g, hn.1⟩, fun b z => (by cases z; exact ⟨ob, g, hn.2⟩), ?_⟩
  have hA := ha.run cpos pins s1 σ H1 _ I1 q1
  rw [hs] at hA ⊢
  refine Calls.callWith_builtin (by show (false || (backTo cpos (starEach es X.env)).any (·.1)) = false; rw [hplain] <;> rfl) (Calls.evalArgs_plain ?_)
  exact thn hA fun us s2 ⟨vs, H2, I2, r2, q2⟩ => hm pins s2 σ H2 (.ref a) vs (.ref a) us Q I2 rfl r2 q2
def rTIdx (K : PySem.W.Frag) : V → List V → Hp → VK → Prop := fun x vs H Q => ∃ (a : Addr) (ns : List Int) (k : Int), x = .ref a ∧ vs = [.int k] ∧ SqT K H a (ns.map V.int) ∧ k ∈ ns ∧ Q (.int (ns.idxOf k : Nat)) H
theorem mt_tidx : MtR X "tuple.index" (rTIdx X.K) := by
  intro pins s σ H x xs v us Q I rx r h
  obtain ⟨a, ns, k, rfl, rfl, hT, hk, q⟩ := h
  cases rx
  obtain ⟨u, rfl, ⟨t, rfl⟩⟩ := vals1 r
  obtain ⟨its, r', pl, hz⟩ := I.tuple hT
  exact PySem.SeqAt.tuple_index_ints pl (intsAre_of r') hk ⟨.int _, H, I.tok _, ⟨_, rfl⟩, q⟩
theorem cnt_ints {k : Int} : ∀ {ns : List Int} {us : List Value}, Vals (ns.map V.int) us → us.countP (eqU (.int k)) = ns.countP fun n => n == k
  | [], _, .nil => rfl
  | n :: ns, _ :: us, .cons r t => by
    rw [List.countP_cons, List.countP_cons, cnt_ints t, eqU_of r rfl]
    rfl
theorem flat_ints (ns : List Int) : (ns.map V.int).all flatV = true := by
  rw [List.all_map]
  exact List.all_eq_true.mpr fun _ _ => rfl
def rTCnt (K : PySem.W.Frag) : V → List V → Hp → VK → Prop := fun x vs H Q => ∃ (a : Addr) (ns : List Int) (k : Int), x = .ref a ∧ vs = [.int k] ∧ SqT K H a (ns.map V.int) ∧ Q (.int ((ns.countP fun n => n == k : Nat) : Int)) H
theorem mt_tcnt : MtR X "tuple.count" (rTCnt X.K) := by
  intro pins s σ H x xs v us Q I rx r h
  obtain ⟨a, ns, k, rfl, rfl, hT, q⟩ := h
  cases rx
  obtain ⟨u, rfl, ⟨t, rfl⟩⟩ := vals1 r
  obtain ⟨its, r', pl, hz⟩ := I.tuple hT
  obtain ⟨⟨cls, dd, dt, sl⟩, ho, hc, n, hd⟩ := pl
  simp only at hc hd
  subst hc
  subst hd
  refine call_meets PySem.F.slot_tuple_count ⟨_, ho, rfl⟩ PySem.F.entry_tuple_count (PySem.F.args_tuple_count_2 _ _) (SeqAt.tuple_countAt a its.toArray n dd sl (.int k t) (eqU (.int k)))
    ⟨ho, fun w hw => mem_eqAt (x := .int k) ⟨t, rfl⟩ rfl r' (flat_ints ns) w (by simpa using hw), ?_⟩
  rw [cnt_ints r']
  exact ⟨.int _, H, I.tok _, ⟨_, rfl⟩, q⟩
end
end Q
namespace Q
open PySem PySem.Spec PyProof.Rows L2
abbrev ik (k : List Int) : List Key := k.map Sum.inl
/-- the entries: key, its tuple, value -/
abbrev DE := List (List Int × Addr × V)
abbrev KX (es : DE) (xs : List (List Key × Addr × Value)) : Prop := Paired (fun (p : List Int × Addr × V) (q : List Key × Addr × Value) => ik p.1 = q.1 ∧ p.2.1 = q.2.1 ∧ RelV p.2.2 q.2.2) es xs
/-- what the dict's one object holds -/
def DzRaw (a : Addr) (es : DE) : Heap → Prop := fun h =>
  es.length ≤ sizeLine ∧ (a == sysModules) = false ∧ ∃ xs, KX es xs ∧ (xs.map (·.1)).Nodup ∧ ∃ o as ep, h.get? a = some o ∧ o.ExactDict ∧ o.data = .dict as ep ∧ ∀ (P : Program) (w : World), as.toList = xs.map (entryOfKey (tupleKind (mixKind P w)))
def dzO (a : Addr) (es : DE) : HO := .ext (DzRaw a es)
theorem DzRaw.stays {a : Addr} {es : DE} {h1 h2 : Heap} (x : DzRaw a es h1) (k : ∀ o, h1.get? a = some o → h2.get? a = some o) : DzRaw a es h2 := by
  obtain ⟨z, y, xs, r, n, o, as, ep, e, h3⟩ := x
  exact ⟨z, y, xs, r, n, o, as, ep, k o e, h3⟩
theorem DzRaw.ok {P : Program} {w : World} {H : Hp} {a : Addr} {es : DE} {h : Heap} (x : DzRaw a es h) : ObjOk P w H h a (dzO a es) := by
  refine ⟨x, ?_, fun h1 h2 y k => y.stays k⟩
  obtain ⟨_, _, _, _, _, o, _, _, e, _⟩ := x
  exact ⟨o, e⟩
theorem keyH_int (w : World) (i : Int) : keyH w (.inl i) = hashInt i := by simp only [keyH]
theorem mix_hash (P : Program) (w : World) : (mixKind P w).hash = keyH w := by simp only [mixKind]
theorem mixH_int (P : Program) (w : World) (k : List Int) : (ik k).map (mixKind P w).hash = k.map hashInt := by
  rw [mix_hash]
  unfold ik
  rw [List.map_map]
  exact List.map_congr_left fun i _ => by
    simp only [Function.comp_apply]
    exact keyH_int w i
theorem hash_any (P P' : Program) (w w' : World) (k : List Int) : tupleKeyHash (mixKind P w) (ik k) = tupleKeyHash (mixKind P' w') (ik k) := by
  unfold tupleKeyHash
  rw [mixH_int, mixH_int]
theorem tk_hash (P : Program) (w : World) (k : List Key) : (tupleKind (mixKind P w)).hash k = tupleKeyHash (mixKind P w) k := by simp only [tupleKind]
theorem ent_any (P P' : Program) (w w' : World) (k : List Int) (x : Addr × Value) : entryOfKey (tupleKind (mixKind P w)) (ik k, x) = entryOfKey (tupleKind (mixKind P' w')) (ik k, x) := by
  unfold entryOfKey
  rw [tk_hash, tk_hash, hash_any P P' w w' k]
theorem entry_any {P P' : Program} {w w' : World} {es : DE} {xs : List (List Key × Addr × Value)} (r : KX es xs) : xs.map (entryOfKey (tupleKind (mixKind P w))) = xs.map (entryOfKey (tupleKind (mixKind P' w'))) := by
  induction r with
  | nil => rw [List.map_nil, List.map_nil]
  | @cons p q ps qs h t ih =>
    obtain ⟨q1, q2⟩ := q
    obtain ⟨h1, -⟩ := h
    simp only at h1
    subst h1
    rw [List.map_cons, List.map_cons, ih, ent_any P P' w w' p.1 q2]
/-- a dict's object is told otherwise than a code object's -/
theorem dz_ne_code {a c : Addr} {es : DE} {q : Str} : dzO a es ≠ LamX.CodeO c q := fun e => by
  have e1 := HO.ext.inj e
  let oc : Obj := { cls := .none, data := .fields #[.none, .str q 0] }
  let h : Heap := { objs := Array.replicate (max a c + 1) oc }
  have get : ∀ b, b ≤ max a c → h.get? b = some oc := fun b hb => by
    have e : h.objs[b]? = some oc := by
      show (Array.replicate (max a c + 1) oc)[b]? = some oc
      rw [Array.getElem?_replicate, if_pos (Nat.lt_succ_of_le hb)]
    unfold Heap.get?
    rw [e]
  have k : LamX.CodeO c q = .ext (fun h => ∃ (oc : Obj) (vs : Array Value) (t : Tok), h.get? c = some oc ∧ oc.data = .fields vs ∧ vs[1]? = some (.str q t)) := rfl
  have y : DzRaw a es h := by
    rw [e1]
    exact ⟨oc, _, 0, get c (Nat.le_max_right _ _), rfl, rfl⟩
  obtain ⟨_, _, xs, _, _, o, as, ep, h1, _, h3, _⟩ := y
  rw [get a (Nat.le_max_left _ _)] at h1
  cases h1
  cases h3
end Q
namespace Q
open PySem PySem.Spec PyProof.Rows L2
/-- a value without addresses; cel n: the n-th shared object -/
inductive T where
  | non | bl (b : Bool) | int (i : Int) | str (x : Str) | tup (ts : List T) | lst (ts : List T) | scr (ts : List T) | dct (ks : List Str) (vs : List T) | cel (n : Nat) | adr (a : Addr) | glo (x : Str) | exo (a d : Addr) (ks : List Str) (vs : List T) | dtu (ks : List (List Int)) (vs : List T)
/-- a tuple, its object known to be a plain one -/
def SqD (K : PySem.W.Frag) (F : Hp) (a : Addr) (xs : List V) : Prop := (∃ o, F a = some (.frz o (.tup xs)) ∧ Nd o) ∨ KTup K a xs
theorem SqD.new {K : PySem.W.Frag} {F : Hp} {a : Addr} {xs : List V} {o : Obj} (n : Nd o) : SqD K (upd F a (.frz o (.tup xs))) a xs := .inl ⟨o, upd_same, n⟩
mutual
inductive Rep (K : PySem.W.Frag) (F : Hp) (k : List Addr) : T → V → Prop
  | non : Rep K F k .non .non
  | bl (b : Bool) : Rep K F k (.bl b) (.bl b)
  | int (i : Int) : Rep K F k (.int i) (.int i)
  | str (x : Str) : Rep K F k (.str x) (.str x)
  | tup {a : Addr} {xs : List V} {ts : List T} : SqD K F a xs → Reps K F k ts xs → Rep K F k (.tup ts) (.ref a)
  | lst {a : Addr} {xs : List V} {ts : List T} : F a = some (.lst xs) → Reps K F k ts xs → Rep K F k (.lst ts) (.ref a)
  | scr {a : Addr} {xs : List V} {ts : List T} : SqL K F a xs → Reps K F k ts xs → Rep K F k (.scr ts) (.ref a)
  | dct {a : Addr} {kvs : List (Key × V)} {ks : List Str} {vs : List T} : F a = some (.dK kvs) → kvs.map Prod.fst = ks.map Sum.inr → Reps K F k vs (kvs.map Prod.snd) → Rep K F k (.dct ks vs) (.ref a)
  | cel {n : Nat} {a : Addr} : k[n]? = some a → Rep K F k (.cel n) (.ref a)
  | adr (a : Addr) : Rep K F k (.adr a) (.ref a)
  | glo (x : Str) : Rep K F k (.glo x) (.ref (He.ga K x))
  | exo {a d : Addr} {kvs : List (Str × V)} {ks : List Str} {vs : List T} : F d = some (.xd kvs) → kvs.map Prod.fst = ks → Reps K F k vs (kvs.map Prod.snd) → Rep K F k (.exo a d ks vs) (.ref a)
  | dtu {a : Addr} {es : DE} {ks : List (List Int)} {vs : List T} : F a = some (dzO a es) → (∀ e ∈ es, SqD K F e.2.1 (e.1.map V.int)) → es.map (·.1) = ks → Reps K F k vs (es.map (·.2.2)) → Rep K F k (.dtu ks vs) (.ref a)
inductive Reps (K : PySem.W.Frag) (F : Hp) (k : List Addr) : List T → List V → Prop
  | nil : Reps K F k [] []
  | cons {t : T} {v : V} {ts : List T} {vs : List V} : Rep K F k t v → Reps K F k ts vs → Reps K F k (t :: ts) (v :: vs)
end
section
variable {K : PySem.W.Frag} {F F' G H H' : Hp} {k k' : List Addr}
theorem Reps.length : ∀ {ts : List T} {vs : List V}, Reps K F k ts vs → ts.length = vs.length
  | _, _, .nil => rfl
  | _, _, .cons _ r => by simp [Reps.length r]
theorem Reps.get : ∀ {ts : List T} {vs : List V} {i : Nat} {t : T}, Reps K F k ts vs → ts[i]? = some t → ∃ v, vs[i]? = some v ∧ Rep K F k t v
  | _, _, _, _, .nil, e => by simp at e
  | _, _, 0, _, .cons r _, e => by simp at e; subst e; exact ⟨_, rfl, r⟩
  | _, _, i + 1, t, .cons _ r, e => by
    obtain ⟨v, h1, h2⟩ := Reps.get (i := i) (t := t) r (by simpa using e)
    exact ⟨v, by simpa using h1, h2⟩
theorem Reps.getV {ts : List T} {vs : List V} {i : Nat} {v : V} (r : Reps K F k ts vs) (e : vs[i]? = some v) : ∃ t, ts[i]? = some t ∧ Rep K F k t v := by
  have hl := r.length
  have hi : i < vs.length := (List.getElem?_eq_some_iff.mp e).1
  obtain ⟨v', h1, h2⟩ := r.get (i := i) (t := ts[i]'(by omega)) (by simp)
  rw [e] at h1; cases h1
  exact ⟨_, by simp, h2⟩
theorem Reps.append : ∀ {ts us : List T} {vs ws : List V}, Reps K F k ts vs → Reps K F k us ws → Reps K F k (ts ++ us) (vs ++ ws)
  | _, _, _, _, .nil, s => s
  | _, _, _, _, .cons r t, s => .cons r (Reps.append t s)
theorem Reps.take : ∀ {ts : List T} {vs : List V} (n : Nat), Reps K F k ts vs → Reps K F k (ts.take n) (vs.take n)
  | _, _, 0, _ => .nil
  | _, _, _ + 1, .nil => .nil
  | _, _, n + 1, .cons r t => .cons r (Reps.take n t)
theorem Reps.drop : ∀ {ts : List T} {vs : List V} (n : Nat), Reps K F k ts vs → Reps K F k (ts.drop n) (vs.drop n)
  | _, _, 0, r => r
  | _, _, _ + 1, .nil => .nil
  | _, _, n + 1, .cons _ t => Reps.drop n t
theorem Reps.set {t : T} {v : V} (r : Rep K F k t v) : ∀ {ts : List T} {vs : List V} (i : Nat), Reps K F k ts vs → Reps K F k (ts.set i t) (vs.set i v)
  | _, _, _, .nil => .nil
  | _, _, 0, .cons _ s => .cons r s
  | _, _, i + 1, .cons q s => .cons q (Reps.set r i s)
theorem Reps.reverse {ts : List T} {vs : List V} (h : Reps K F k ts vs) : Reps K F k ts.reverse vs.reverse := by
  induction ts generalizing vs with
  | nil => cases h; exact .nil
  | cons t ts ih => cases h with
    | cons r s => rw [List.reverse_cons, List.reverse_cons]; exact (ih s).append (.cons r .nil)
theorem Reps.dropLast {ts : List T} {vs : List V} (h : Reps K F k ts vs) : Reps K F k ts.dropLast vs.dropLast := by
  rw [List.dropLast_eq_take, List.dropLast_eq_take, h.length]; exact h.take _
theorem Reps.eraseIdx : ∀ {ts : List T} {vs : List V} (i : Nat), Reps K F k ts vs → Reps K F k (ts.eraseIdx i) (vs.eraseIdx i)
  | _, _, _, .nil => .nil
  | _, _, 0, .cons _ s => s
  | _, _, i + 1, .cons q s => .cons q (Reps.eraseIdx i s)
theorem Reps.rep {ts : List T} {vs : List V} (h : Reps K F k ts vs) : ∀ n : Nat, Reps K F k (List.replicate n ts).flatten (List.replicate n vs).flatten
  | 0 => .nil
  | n + 1 => by rw [List.replicate_succ, List.replicate_succ, List.flatten_cons, List.flatten_cons]; exact h.append (Reps.rep h n)
theorem Reps.insertIdx {t : T} {v : V} (r : Rep K F k t v) {ts : List T} {vs : List V} (i : Nat) (h : Reps K F k ts vs) : Reps K F k (ts.take i ++ t :: ts.drop i) (vs.take i ++ v :: vs.drop i) :=
  (h.take i).append (.cons r (h.drop i))
theorem nodup_at {α : Type} : ∀ {l : List α} {i j : Nat} {x : α}, l.Nodup → l[i]? = some x → l[j]? = some x → i = j
  | [], _, _, _, _, a, _ => by simp at a
  | y :: l, 0, 0, _, _, _, _ => rfl
  | y :: l, 0, j + 1, x, h, a, b => by
    simp at a b
    subst a
    exact absurd (List.mem_of_getElem? b) (List.nodup_cons.mp h).1
  | y :: l, i + 1, 0, x, h, a, b => by
    simp at a b
    subst b
    exact absurd (List.mem_of_getElem? a) (List.nodup_cons.mp h).1
  | y :: l, i + 1, j + 1, x, h, a, b => by
    rw [nodup_at (List.nodup_cons.mp h).2 (i := i) (j := j) (x := x) (by simpa using a) (by simpa using b)]
abbrev Sub (F G : Hp) : Prop := ∀ a o, F a = some o → G a = some o
theorem Rd.sub {a : Addr} {u : HO} (h : Rd F a u) (s : Sub F G) : Rd G a u := by
  rcases h with h | ⟨o, h⟩
  · exact .inl (s _ _ h)
  · exact .inr ⟨o, s _ _ h⟩
theorem SqL.sub {a : Addr} {xs : List V} (h : SqL K F a xs) (s : Sub F G) : SqL K G a xs := by
  rcases h with h | h
  · exact .inl (Rd.sub h s)
  · exact .inr h
theorem SqT.sub {a : Addr} {xs : List V} (h : SqT K F a xs) (s : Sub F G) : SqT K G a xs := by
  rcases h with h | h
  · exact .inl (Rd.sub h s)
  · exact .inr h
theorem SqD.sub {a : Addr} {xs : List V} (h : SqD K F a xs) (s : Sub F G) : SqD K G a xs := by
  rcases h with ⟨o, h, n⟩ | h
  · exact .inl ⟨o, s _ _ h, n⟩
  · exact .inr h
theorem SqD.t {a : Addr} {xs : List V} (h : SqD K F a xs) : SqT K F a xs := by
  rcases h with ⟨o, h, n⟩ | ⟨o, its, n, h1, h2, h3, h4, h5⟩
  · exact .inl (.inr ⟨o, h⟩)
  · exact .inr ⟨o, its, n, h1, h2.1, h3, h4, h5⟩
theorem pre_get {n : Nat} {a : Addr} (h : k <+: k') (e : k[n]? = some a) : k'[n]? = some a := by
  obtain ⟨r, rfl⟩ := h
  have hn : n < k.length := (List.getElem?_eq_some_iff.mp e).1
  rw [List.getElem?_append_left hn]; exact e
mutual
theorem Rep.mono (s : Sub F F') (p : k <+: k') : ∀ {t : T} {v : V}, Rep K F k t v → Rep K F' k' t v
  | _, _, .non => .non
  | _, _, .bl b => .bl b
  | _, _, .int i => .int i
  | _, _, .str x => .str x
  | _, _, .tup h r => .tup (SqD.sub h s) (Reps.mono s p r)
  | _, _, .lst h r => .lst (s _ _ h) (Reps.mono s p r)
  | _, _, .scr h r => .scr (SqL.sub h s) (Reps.mono s p r)
  | _, _, .dct h e r => .dct (s _ _ h) e (Reps.mono s p r)
  | _, _, .cel e => .cel (pre_get p e)
  | _, _, .adr a => .adr a
  | _, _, .glo x => .glo x
  | _, _, .exo h e r => .exo (s _ _ h) e (Reps.mono s p r)
  | _, _, .dtu h q e r => .dtu (s _ _ h) (fun x hx => SqD.sub (q x hx) s) e (Reps.mono s p r)
theorem Reps.mono (s : Sub F F') (p : k <+: k') : ∀ {ts : List T} {vs : List V}, Reps K F k ts vs → Reps K F' k' ts vs
  | _, _, .nil => .nil
  | _, _, .cons h r => .cons (Rep.mono s p h) (Reps.mono s p r)
end
abbrev Cs := List (List T)
/-- the defs of the laws that make lambdas -/
def lamNames : List Str := ["law", "_law_right", "_law_told_row", "_law_two_words", "_law_one_words", "_law_function_words", "_law_poly_words", "_law_bound_words", "_law_numbers_right", "_law_functions_right", "_law_words", "_law_parts_right", "_law_all", "_law_all_right", "_law_several_right", "_law_refused_right", "_law_desk_right"]
def here (K : PySem.W.Frag) (x : Str) : Bool := match PySem.W.nsIn K mainGlobals x with
  | some (some (.ref _)) => true
  | _ => false
def lamsOf (K : PySem.W.Frag) : List Str := lamNames.filter (here K)
def tabOf (K : PySem.W.Frag) (x : Str) : Addr := (He.cT K (x, none)).2
def tabsOf (K : PySem.W.Frag) : List (Addr × Str) := (lamsOf K).map fun x => (tabOf K x, x ++ ".<locals>." ++ "<lambda>")
theorem fr0_mono {H H' : Hp} {a : Addr} (h : Fr0 H' a) (g : ∀ o, H a = some o → (∀ ps, o ≠ .tbl ps) → ∃ o', H' a = some o' ∧ ∀ ps, o' ≠ .tbl ps) : Fr0 H a := fun o e => by
  by_cases q : ∃ ps, o = .tbl ps
  · exact q
  · obtain ⟨o', e', n⟩ := g o e fun ps z => q ⟨ps, z⟩
    obtain ⟨ps, z⟩ := h o' e'
    exact absurd z (n ps)
theorem fr0_lst {H : Hp} {a : Addr} {xs : List V} (h : Fr0 H a) (e : H a = some (.lst xs)) : False := by
  obtain ⟨ps, z⟩ := h _ e
  cases z
theorem fr0_ne {H : Hp} {a b : Addr} {o : HO} (h : Fr0 H a) (e : H b = some o) (n : ∀ ps, o ≠ .tbl ps) : b ≠ a := fun z => by
  subst z
  obtain ⟨ps, q⟩ := h _ e
  exact n ps q
/-- a shared list, no dict -/
def noDt : List T → Option (List T)
  | [.dtu _ _] => none
  | ts => some ts
theorem noDt_eq {ts us : List T} (h : noDt ts = some us) : us = ts ∧ ∀ ks vs, ts ≠ [.dtu ks vs] := by
  unfold noDt at h
  split at h
  · cases h
  · rename_i n
    exact ⟨(Option.some.inj h).symm, fun ks vs z => n ks vs z⟩
theorem noDt_self {ts : List T} (h : ∀ ks vs, ts ≠ [.dtu ks vs]) : noDt ts = some ts := by
  unfold noDt
  split
  · exact absurd rfl (h _ _)
  · rfl
/-- what a shared object holds: a list, or a dict whose keys are tuples of ints -/
def CelH (K : PySem.W.Frag) (F : Hp) (k : List Addr) (H : Hp) (a : Addr) (ts : List T) : Prop :=
  (∃ xs, H a = some (.lst xs) ∧ Reps K F k ts xs ∧ noDt ts = some ts) ∨ ∃ es ks vs, ts = [.dtu ks vs] ∧ H a = some (dzO a es) ∧ (∀ e ∈ es, SqD K F e.2.1 (e.1.map V.int)) ∧ es.map (·.1) = ks ∧ Reps K F k vs (es.map (·.2.2))
theorem CelH.there {K : PySem.W.Frag} {F H : Hp} {k : List Addr} {a : Addr} {ts : List T} (h : CelH K F k H a ts) : ∃ o, H a = some o ∧ (∀ ps, o ≠ .tbl ps) ∧ ∀ c q, o ≠ LamX.CodeO c q := by
  rcases h with ⟨xs, h, _⟩ | ⟨es, ks, vs, _, h, _⟩
  · exact ⟨_, h, fun ps z => (by cases z), fun c q z => (by cases z)⟩
  · exact ⟨_, h, fun ps z => (by cases z), fun c q => dz_ne_code⟩
theorem CelH.ne {K : PySem.W.Frag} {F H : Hp} {k : List Addr} {a : Addr} {ts : List T} (h : CelH K F k H a ts) (z : H a = none) : False := by
  obtain ⟨o, e, _⟩ := h.there
  rw [z] at e
  cases e
theorem CelH.mono {K : PySem.W.Frag} {F F' H H' : Hp} {k k' : List Addr} {a : Addr} {ts : List T} (h : CelH K F k H a ts) (s : Sub F F') (p : k <+: k') (e : H' a = H a) : CelH K F' k' H' a ts := by
  rcases h with ⟨xs, h, r⟩ | ⟨es, ks, vs, h1, h2, h3, h4, h5⟩
  · exact .inl ⟨xs, by rw [e]; exact h, r.1.mono s p, r.2⟩
  · exact .inr ⟨es, ks, vs, h1, by rw [e]; exact h2, fun x hx => SqD.sub (h3 x hx) s, h4, h5.mono s p⟩
theorem CelH.lst {K : PySem.W.Frag} {F H : Hp} {k : List Addr} {a : Addr} {ts : List T} (h : CelH K F k H a ts) (n : ∀ ks vs, ts ≠ [.dtu ks vs]) : ∃ xs, H a = some (.lst xs) ∧ Reps K F k ts xs := by
  rcases h with ⟨xs, h, r, _⟩ | ⟨es, ks, vs, h1, _⟩
  · exact ⟨xs, h, r⟩
  · exact absurd h1 (n ks vs)
structure Ok (K : PySem.W.Frag) (F : Hp) (k : List Addr) (c : Cs) (H : Hp) : Prop where
  sub : Sub F H
  cel : ∀ (n : Nat) (a : Addr), k[n]? = some a → ∃ ts, c[n]? = some ts ∧ CelH K F k H a ts ∧ F a = none
  len : k.length = c.length
  nd : k.Nodup
  nt : ∀ a ps, F a ≠ some (.tbl ps)
  tb : LamX.Tabs (tabsOf K) H
/-- what a run may do: F grows by new objects, shared ones come, all else stays -/
structure Ge (F : Hp) (k : List Addr) (H F' : Hp) (k' : List Addr) (H' : Hp) : Prop where
  f : Sub F F'
  fn : ∀ a o, F' a = some o → F a = some o ∨ Fr0 H a
  pk : k <+: k'
  kn : ∀ a ∈ k', a ∈ k ∨ Fr0 H a
  hs : ∀ a o, H a = some o → a ∉ k → (∀ ps, o ≠ .tbl ps) → H' a = some o
  hd : ∀ a o, H a = some o → (∀ ps, o ≠ .tbl ps) → ∃ o', H' a = some o' ∧ ∀ ps, o' ≠ .tbl ps
theorem Ge.refl : Ge F k H F k H := ⟨fun _ _ h => h, fun _ _ h => .inl h, List.prefix_rfl, fun _ h => .inl h, fun _ _ h _ _ => h, fun _ o h n => ⟨o, h, n⟩⟩
theorem Ge.none_of (g : Ge F k H F' k' H') {a : Addr} (h : Fr0 H' a) : Fr0 H a := fr0_mono h (g.hd a)
theorem Ge.trans {F1 F2 H1 H2 : Hp} {k1 k2 : List Addr} (a : Ge F k H F1 k1 H1) (b : Ge F1 k1 H1 F2 k2 H2) : Ge F k H F2 k2 H2 where
  f := fun x o h => b.f x o (a.f x o h)
  fn := fun x o h => by
    rcases b.fn x o h with h | h
    · exact a.fn x o h
    · exact .inr (a.none_of h)
  pk := a.pk.trans b.pk
  kn := fun x h => by
    rcases b.kn x h with h | h
    · exact a.kn x h
    · exact .inr (a.none_of h)
  hs := fun x o h hx ht => by
    refine b.hs x o (a.hs x o h hx ht) (fun hm => ?_) ht
    rcases a.kn x hm with z | z
    · exact hx z
    · obtain ⟨ps, q⟩ := z o h
      exact ht ps q
  hd := fun x o h n => by
    obtain ⟨o', e, n'⟩ := a.hd x o h n
    exact b.hd x o' e n'
/-- a new frozen object -/
theorem Ok.push {c : Cs} {p : Addr} {o : HO} (ok : Ok K F k c H) (np : H p = none) (ht : ∀ ps, o ≠ .tbl ps := by intro _ z; cases z) : Ok K (upd F p o) k c (upd H p o) := by
  have nF : F p = none := by
    cases e : F p with
    | none => rfl
    | some u => have := ok.sub p u e; rw [np] at this; cases this
  have sF : Sub F (upd F p o) := fun a u e => by rw [upd_ne (ne_of_none e nF)]; exact e
  refine ⟨fun a u e => ?_, fun n a e => ?_, ok.len, ok.nd, fun a ps e => ?_, ok.tb.ext fun b u e => by rw [upd_ne (ne_of_none e np)]; exact e⟩
  · by_cases h : a = p
    · subst h; rw [upd_same] at e ⊢; exact e
    · rw [upd_ne h] at e ⊢; exact ok.sub a u e
  · obtain ⟨ts, h1, h2, h4⟩ := ok.cel n a e
    have h : a ≠ p := fun z => h2.ne (by rw [z]; exact np)
    exact ⟨ts, h1, h2.mono sF List.prefix_rfl (by rw [upd_ne h]), by rw [upd_ne h]; exact h4⟩
  · by_cases h : a = p
    · subst h; rw [upd_same] at e; exact ht ps (Option.some.inj e)
    · rw [upd_ne h] at e; exact ok.nt a ps e
theorem Ge.push {c : Cs} {p : Addr} {o : HO} (ok : Ok K F k c H) (np : H p = none) (ht : ∀ ps, o ≠ .tbl ps := by intro _ z; cases z) : Ge F k H (upd F p o) k (upd H p o) := by
  have nF : F p = none := by
    cases e : F p with
    | none => rfl
    | some u => have := ok.sub p u e; rw [np] at this; cases this
  refine ⟨fun a u e => by rw [upd_ne (ne_of_none e nF)]; exact e, fun a u e => ?_, List.prefix_rfl, fun _ h => .inl h, fun a u e _ _ => by rw [upd_ne (ne_of_none e np)]; exact e, fun a u e n => ⟨u, by rw [upd_ne (ne_of_none e np)]; exact e, n⟩⟩
  by_cases h : a = p
  · subst h; exact .inr (fr0_none np)
  · rw [upd_ne h] at e; exact .inl e
/-- a new object that is not frozen -/
theorem Ok.add {c : Cs} {p : Addr} {o : HO} (ok : Ok K F k c H) (np : H p = none) : Ok K F k c (upd H p o) := by
  refine ⟨fun a u e => by rw [upd_ne (ne_of_none (ok.sub a u e) np)]; exact ok.sub a u e, fun n a e => ?_, ok.len, ok.nd, ok.nt, ok.tb.ext fun b u e => by rw [upd_ne (ne_of_none e np)]; exact e⟩
  obtain ⟨ts, h1, h2, h4⟩ := ok.cel n a e
  have h : a ≠ p := fun z => h2.ne (by rw [z]; exact np)
  exact ⟨ts, h1, h2.mono (fun _ _ z => z) List.prefix_rfl (by rw [upd_ne h]), h4⟩
theorem Ge.add {c : Cs} {p : Addr} {o : HO} (ok : Ok K F k c H) (np : H p = none) : Ge F k H F k (upd H p o) :=
  ⟨fun a u e => e, fun a u e => .inl e, List.prefix_rfl, fun _ h => .inl h, fun a u e _ _ => by rw [upd_ne (ne_of_none e np)]; exact e, fun a u e n => ⟨u, by rw [upd_ne (ne_of_none e np)]; exact e, n⟩⟩
/-- an object frozen -/
theorem Ok.freeze {c : Cs} {p : Addr} {o : HO} (ok : Ok K F k c H) (hp : H p = some o) (hk : p ∉ k) (nF : F p = none) (ht : ∀ ps, o ≠ .tbl ps := by intro _ z; cases z) : Ok K (upd F p o) k c H := by
  have sF : Sub F (upd F p o) := fun a u e => by rw [upd_ne (ne_of_none e nF)]; exact e
  refine ⟨fun a u e => ?_, fun n a e => ?_, ok.len, ok.nd, fun a ps e => ?_, ok.tb⟩
  · by_cases h : a = p
    · subst h; rw [upd_same] at e; cases e; exact hp
    · rw [upd_ne h] at e; exact ok.sub a u e
  · obtain ⟨ts, h1, h2, h4⟩ := ok.cel n a e
    have h : a ≠ p := fun z => hk (z ▸ List.mem_of_getElem? e)
    exact ⟨ts, h1, h2.mono sF List.prefix_rfl rfl, by rw [upd_ne h]; exact h4⟩
  · by_cases h : a = p
    · subst h; rw [upd_same] at e; exact ht ps (Option.some.inj e)
    · rw [upd_ne h] at e; exact ok.nt a ps e
/-- a list is no table, no code object -/
theorem tabs_writeO {TT : List (Addr × Str)} {p : Addr} {o0 o : HO} (t : LamX.Tabs TT H) (hp : H p = some o0) (m1 : ∀ ps, o0 ≠ .tbl ps) (m2 : ∀ c q, o0 ≠ LamX.CodeO c q) : LamX.Tabs TT (upd H p o) := fun q hq => by
  obtain ⟨ps, h1, h2, h3⟩ := t q hq
  have n1 : q.1 ≠ p := fun z => by rw [z, hp] at h1; exact m1 _ (Option.some.inj h1)
  refine ⟨ps, by rw [upd_ne n1]; exact h1, h2, fun pos cv hc => ?_⟩
  obtain ⟨c, e1, e2⟩ := h3 pos cv hc
  have n2 : c ≠ p := fun z => by
    have e3 : H p = some (LamX.CodeO c q.2) := by rw [← z]; exact e2
    rw [hp] at e3
    exact m2 _ _ (Option.some.inj e3)
  exact ⟨c, e1, by rw [upd_ne n2]; exact e2⟩
theorem tabs_write {TT : List (Addr × Str)} {p : Addr} {ys : List V} {o : HO} (t : LamX.Tabs TT H) (hp : H p = some (.lst ys)) : LamX.Tabs TT (upd H p o) := tabs_writeO t hp (fun ps z => by cases z) fun c q z => by cases z
/-- an object that is none of these is written -/
theorem Ok.write {c : Cs} {p : Addr} {o : HO} {ys : List V} (ok : Ok K F k c H) (hp : H p = some (.lst ys)) (hk : p ∉ k) (nF : F p = none) : Ok K F k c (upd H p o) := by
  refine ⟨fun a u e => by rw [upd_ne (ne_of_none e nF)]; exact ok.sub a u e, fun n a e => ?_, ok.len, ok.nd, ok.nt, tabs_write ok.tb hp⟩
  obtain ⟨ts, h1, h2, h4⟩ := ok.cel n a e
  have h : a ≠ p := fun z => hk (z ▸ List.mem_of_getElem? e)
  exact ⟨ts, h1, h2.mono (fun _ _ z => z) List.prefix_rfl (by rw [upd_ne h]), h4⟩
/-- a shared object is written -/
theorem Ok.writeO {c : Cs} {n : Nat} {p : Addr} {ts : List T} {o : HO} (ok : Ok K F k c H) (hn : k[n]? = some p) (r : CelH K F k (upd H p o) p ts) : Ok K F k (c.set n ts) (upd H p o) := by
  obtain ⟨ts0, h1, h2, h4⟩ := ok.cel n p hn
  obtain ⟨o0, w1, w2, w3⟩ := h2.there
  have hlt : n < c.length := (List.getElem?_eq_some_iff.mp h1).1
  refine ⟨fun a u e => by rw [upd_ne (ne_of_none e h4)]; exact ok.sub a u e, fun m a e => ?_, by simp [ok.len], ok.nd, ok.nt, tabs_writeO ok.tb w1 w2 w3⟩
  obtain ⟨ts1, g1, g2, g4⟩ := ok.cel m a e
  by_cases hm : m = n
  · subst hm
    rw [hn] at e; cases e
    exact ⟨ts, by simp [hlt], r, h4⟩
  · have hne : a ≠ p := by
      intro z
      subst z
      exact hm (nodup_at ok.nd e hn)
    exact ⟨ts1, by rw [List.getElem?_set_ne (Ne.symm hm)]; exact g1, g2.mono (fun _ _ z => z) List.prefix_rfl (by rw [upd_ne hne]), g4⟩
theorem Ok.writeC {c : Cs} {n : Nat} {p : Addr} {ts : List T} {xs : List V} (ok : Ok K F k c H) (hn : k[n]? = some p) (r : Reps K F k ts xs) (hd : noDt ts = some ts) : Ok K F k (c.set n ts) (upd H p (.lst xs)) :=
  ok.writeO hn (.inl ⟨xs, upd_same, r, hd⟩)
theorem Ge.writeO {c : Cs} {n : Nat} {p : Addr} {o : HO} (ok : Ok K F k c H) (hn : k[n]? = some p) (ho : ∀ ps, o ≠ .tbl ps) : Ge F k H F k (upd H p o) := by
  refine ⟨fun a u e => e, fun a u e => .inl e, List.prefix_rfl, fun _ h => .inl h, fun a u e ha _ => ?_, fun a u e nt => ?_⟩
  · rw [upd_ne (fun z => ha (by rw [z]; exact List.mem_of_getElem? hn))]; exact e
  · by_cases h : a = p
    · subst h; exact ⟨_, upd_same, ho⟩
    · exact ⟨u, by rw [upd_ne h]; exact e, nt⟩
theorem Ge.writeC {c : Cs} {n : Nat} {p : Addr} {xs : List V} (ok : Ok K F k c H) (hn : k[n]? = some p) : Ge F k H F k (upd H p (.lst xs)) := by
  refine ⟨fun a u e => e, fun a u e => .inl e, List.prefix_rfl, fun _ h => .inl h, fun a u e ha _ => ?_, fun a u e nt => ?_⟩
  · rw [upd_ne (fun z => ha (by rw [z]; exact List.mem_of_getElem? hn))]; exact e
  · by_cases h : a = p
    · subst h; exact ⟨_, upd_same, fun ps z => by cases z⟩
    · exact ⟨u, by rw [upd_ne h]; exact e, nt⟩
/-- a new shared object -/
theorem Ok.newO {c : Cs} {p : Addr} {ts : List T} {o : HO} (ok : Ok K F k c H) (np : H p = none) (r : CelH K F (k ++ [p]) (upd H p o) p ts) : Ok K F (k ++ [p]) (c ++ [ts]) (upd H p o) := by
  have nF : F p = none := by
    cases e : F p with
    | none => rfl
    | some u => have := ok.sub p u e; rw [np] at this; cases this
  have npk : p ∉ k := fun hm => by
    obtain ⟨n, hn, e⟩ := List.getElem_of_mem hm
    obtain ⟨ts0, h1, h2, h4⟩ := ok.cel n p (by rw [List.getElem?_eq_getElem hn, e])
    exact h2.ne np
  refine ⟨fun a u e => by rw [upd_ne (ne_of_none e nF)]; exact ok.sub a u e, fun m a e => ?_, by simp [ok.len], ?_, ok.nt, ok.tb.ext fun b u e => by rw [upd_ne (ne_of_none e np)]; exact e⟩
  · by_cases hm : m < k.length
    · rw [List.getElem?_append_left hm] at e
      obtain ⟨ts1, g1, g2, g4⟩ := ok.cel m a e
      have h : a ≠ p := fun z => g2.ne (by rw [z]; exact np)
      exact ⟨ts1, by rw [List.getElem?_append_left (by rw [← ok.len]; exact hm)]; exact g1, g2.mono (fun _ _ h => h) (List.prefix_append _ _) (by rw [upd_ne h]), g4⟩
    · rw [List.getElem?_append_right (by omega)] at e
      have e2 := List.getElem?_eq_some_iff.mp e
      obtain ⟨hl, e3⟩ := e2
      have hm0 : m - k.length = 0 := by simp at hl; omega
      have e4 : p = a := by simpa [hm0] using e3
      subst e4
      refine ⟨ts, ?_, r, nF⟩
      have hme : m = c.length := by have := ok.len; omega
      rw [hme]; simp
  · rw [List.nodup_append]
    refine ⟨ok.nd, by simp, ?_⟩
    intro a ha b hb e
    have e' : b = p := by simpa using hb
    exact npk (by rw [← e', ← e]; exact ha)
theorem Ok.newC {c : Cs} {p : Addr} {ts : List T} {xs : List V} (ok : Ok K F k c H) (np : H p = none) (r : Reps K F k ts xs) (hd : noDt ts = some ts) : Ok K F (k ++ [p]) (c ++ [ts]) (upd H p (.lst xs)) :=
  ok.newO np (.inl ⟨xs, upd_same, r.mono (fun _ _ h => h) (List.prefix_append _ _), hd⟩)
theorem Ge.newC {c : Cs} {p : Addr} {o : HO} (ok : Ok K F k c H) (np : H p = none) : Ge F k H F (k ++ [p]) (upd H p o) := by
  refine ⟨fun a u e => e, fun a u e => .inl e, List.prefix_append _ _, fun a h => ?_, fun a u e _ _ => by rw [upd_ne (ne_of_none e np)]; exact e, fun a u e n => ⟨u, by rw [upd_ne (ne_of_none e np)]; exact e, n⟩⟩
  rcases List.mem_append.mp h with h | h
  · exact .inl h
  · have e : a = p := by simpa using h
    subst e; exact .inr (fr0_none np)
end
structure Er where
  cls : Str
  fs : List (Str × T)
inductive Out (α : Type) where
  | stk
  | ok (a : α) (c : Cs)
  | err (e : Er) (c : Cs)
namespace Out
def bind {α β : Type} : Out α → (α → Cs → Out β) → Out β
  | .stk, _ => .stk
  | .ok a c, f => f a c
  | .err e c, _ => .err e c
end Out
/-- a slot -/
inductive B where
  | un
  | val (t : T)
  | own (ts : List T)
  | len (ts : List T)
abbrev Env := List B
abbrev D := Env → Cs → Out T
abbrev DB := Env → Cs → Out Bool
abbrev DA := Env → Cs → Out (List T)
inductive Flow where
  | nxt (r : Env)
  | ret (t : T)
abbrev DS := Env → Cs → Out Flow
end Q
namespace Q
open PySem PySem.Spec PyProof.Rows L2
/-- the entry of a def -/
structure Ent where
  H : Hp
  F : Hp
  k : List Addr
def OwnAt (r : Env) (σ : L2.St) (i : Nat) (a : Addr) : Prop := (∃ ts, r[i]? = some (.own ts)) ∧ σ[i]? = some (some (.ref a))
structure SR (K : PySem.W.Frag) (N : Ent) (F : Hp) (k : List Addr) (c : Cs) (r : Env) (σ : L2.St) (H : Hp) : Prop where
  ok : Ok K F k c H
  ge : Ge N.F N.k N.H F k H
  len : r.length = σ.length
  val : ∀ (i : Nat) (t : T), r[i]? = some (.val t) → ∃ v, σ[i]? = some (some v) ∧ Rep K F k t v
  own : ∀ (i : Nat) (ts : List T), r[i]? = some (.own ts) → ∃ a xs, σ[i]? = some (some (.ref a)) ∧ H a = some (.lst xs) ∧ Reps K F k ts xs ∧ F a = none ∧ a ∉ k ∧ Fr0 N.H a
  dis : ∀ (i j : Nat) (a : Addr), OwnAt r σ i a → OwnAt r σ j a → i = j
  lnt : ∀ (i : Nat) (ts : List T), r[i]? = some (.len ts) → ∃ a xs, σ[i]? = some (some (.ref a)) ∧ F a = some (.lst xs) ∧ Reps K F k ts xs ∧ a ∉ k ∧ Fr0 N.H a ∧ N.F a = none
section
variable {K : PySem.W.Frag} {mg : Str → Option Value} {N : Ent} {F F' H H' : Hp} {k k' : List Addr} {c c' : Cs} {r : Env} {σ : L2.St}
theorem SR.step (S : SR K N F k c r σ H) (ok : Ok K F' k' c' H') (g : Ge F k H F' k' H') : SR K N F' k' c' r σ H' := by
  refine ⟨ok, S.ge.trans g, S.len, fun i t e => ?_, fun i ts e => ?_, S.dis, fun i ts e => ?_⟩
  · obtain ⟨v, h1, h2⟩ := S.val i t e
    exact ⟨v, h1, h2.mono g.f g.pk⟩
  · obtain ⟨a, xs, h1, h2, h3, h4, h5, h6⟩ := S.own i ts e
    refine ⟨a, xs, h1, g.hs a _ h2 h5 (fun ps z => by cases z), h3.mono g.f g.pk, ?_, ?_, h6⟩
    · cases e : F' a with
      | none => rfl
      | some o =>
        rcases g.fn a o e with z | z
        · rw [h4] at z; cases z
        · exact (fr0_lst z h2).elim
    · intro hm
      rcases g.kn a hm with z | z
      · exact h5 z
      · exact fr0_lst z h2
  · obtain ⟨a, xs, h1, h2, h3, h4, h5⟩ := S.lnt i ts e
    refine ⟨a, xs, h1, g.f a _ h2, h3.mono g.f g.pk, fun hm => ?_, h5⟩
    rcases g.kn a hm with z | z
    · exact h4 z
    · exact fr0_lst z (S.ok.sub a _ h2)
/-- a slot gets a value -/
theorem SR.setV {i : Nat} {t : T} {v : V} (S : SR K N F k c r σ H) (hr : Rep K F k t v) (hi : i < r.length) : SR K N F k c (r.set i (.val t)) (σ.set i (some v)) H := by
  have hσ : i < σ.length := by rw [← S.len]; exact hi
  have own : ∀ (j : Nat) (a : Addr), OwnAt (r.set i (.val t)) (σ.set i (some v)) j a → OwnAt r σ j a := fun j a ⟨⟨ts, e1⟩, e2⟩ => by
    by_cases h : i = j
    · subst h; rw [List.getElem?_set_self hi] at e1; cases e1
    · rw [List.getElem?_set_ne h] at e1 e2; exact ⟨⟨ts, e1⟩, e2⟩
  refine ⟨S.ok, S.ge, by simp [S.len], fun j u e => ?_, fun j ts e => ?_, fun j l a h1 h2 => S.dis j l a (own j a h1) (own l a h2), fun j ts e => ?_⟩
  · by_cases h : i = j
    · subst h
      rw [List.getElem?_set_self hi] at e
      cases e
      exact ⟨v, by rw [List.getElem?_set_self hσ], hr⟩
    · rw [List.getElem?_set_ne h] at e ⊢; exact S.val j u e
  · by_cases h : i = j
    · subst h; rw [List.getElem?_set_self hi] at e; cases e
    · rw [List.getElem?_set_ne h] at e ⊢; exact S.own j ts e
  · by_cases h : i = j
    · subst h; rw [List.getElem?_set_self hi] at e; cases e
    · rw [List.getElem?_set_ne h] at e ⊢; exact S.lnt j ts e
/-- a slot gets a new list of its own -/
theorem SR.setO {i : Nat} {ts : List T} {a : Addr} {xs : List V} (S : SR K N F k c r σ H) (hi : i < r.length) (ha : H a = some (.lst xs)) (hr : Reps K F k ts xs) (hF : F a = none) (hk : a ∉ k) (hN : Fr0 N.H a)
    (hd : ∀ j, j ≠ i → ¬ OwnAt r σ j a) : SR K N F k c (r.set i (.own ts)) (σ.set i (some (.ref a))) H := by
  have hσ : i < σ.length := by rw [← S.len]; exact hi
  have own : ∀ (j : Nat) (b : Addr), j ≠ i → OwnAt (r.set i (.own ts)) (σ.set i (some (.ref a))) j b → OwnAt r σ j b := fun j b h ⟨⟨us, e1⟩, e2⟩ => by
    rw [List.getElem?_set_ne (Ne.symm h)] at e1 e2; exact ⟨⟨us, e1⟩, e2⟩
  have ati : ∀ b, OwnAt (r.set i (.own ts)) (σ.set i (some (.ref a))) i b → b = a := fun b ⟨_, e2⟩ => by
    rw [List.getElem?_set_self hσ] at e2; cases e2; rfl
  refine ⟨S.ok, S.ge, by simp [S.len], fun j u e => ?_, fun j us e => ?_, fun j l b h1 h2 => ?_, fun j ts e => ?_⟩
  · by_cases h : i = j
    · subst h; rw [List.getElem?_set_self hi] at e; cases e
    · rw [List.getElem?_set_ne h] at e ⊢; exact S.val j u e
  · by_cases h : i = j
    · subst h
      rw [List.getElem?_set_self hi] at e
      cases e
      exact ⟨a, xs, by rw [List.getElem?_set_self hσ], ha, hr, hF, hk, hN⟩
    · rw [List.getElem?_set_ne h] at e ⊢; exact S.own j us e
  · by_cases hj : j = i
    · by_cases hl : l = i
      · omega
      · subst hj
        have e := ati b h1
        subst e
        exact absurd (own l b hl h2) (hd l hl)
    · by_cases hl : l = i
      · subst hl
        have e := ati b h2
        subst e
        exact absurd (own j b hj h1) (hd j hj)
      · exact S.dis j l b (own j b hj h1) (own l b hl h2)
  · by_cases h : i = j
    · subst h; rw [List.getElem?_set_self hi] at e; cases e
    · rw [List.getElem?_set_ne h] at e ⊢; exact S.lnt j ts e
/-- a slot forgotten -/
theorem SR.setU {i : Nat} {v : Option V} (S : SR K N F k c r σ H) (hi : i < r.length) : SR K N F k c (r.set i .un) (σ.set i v) H := by
  have own : ∀ (j : Nat) (a : Addr), OwnAt (r.set i .un) (σ.set i v) j a → OwnAt r σ j a := fun j a ⟨⟨ts, e1⟩, e2⟩ => by
    by_cases h : i = j
    · subst h; rw [List.getElem?_set_self hi] at e1; cases e1
    · rw [List.getElem?_set_ne h] at e1 e2; exact ⟨⟨ts, e1⟩, e2⟩
  refine ⟨S.ok, S.ge, by simp [S.len], fun j u e => ?_, fun j ts e => ?_, fun j l a h1 h2 => S.dis j l a (own j a h1) (own l a h2), fun j ts e => ?_⟩
  · by_cases h : i = j
    · subst h; rw [List.getElem?_set_self hi] at e; cases e
    · rw [List.getElem?_set_ne h] at e ⊢; exact S.val j u e
  · by_cases h : i = j
    · subst h; rw [List.getElem?_set_self hi] at e; cases e
    · rw [List.getElem?_set_ne h] at e ⊢; exact S.own j ts e
  · by_cases h : i = j
    · subst h; rw [List.getElem?_set_self hi] at e; cases e
    · rw [List.getElem?_set_ne h] at e ⊢; exact S.lnt j ts e
/-- a slot's own list is written -/
theorem SR.wr {i : Nat} {ts us : List T} {ys : List V} {a : Addr} (S : SR K N F k c r σ H) (e : r[i]? = some (.own ts)) (ea : σ[i]? = some (some (.ref a))) (hr : Reps K F k us ys) : SR K N F k c (r.set i (.own us)) σ (upd H a (.lst ys)) := by
  have hi : i < r.length := (List.getElem?_eq_some_iff.mp e).1
  obtain ⟨a', xs, h1, h2, h3, h4, h5, h6⟩ := S.own i ts e
  rw [ea] at h1; cases h1
  have own : ∀ (j : Nat) (b : Addr), OwnAt (r.set i (.own us)) σ j b → OwnAt r σ j b := fun j b ⟨⟨vs, e1⟩, e2⟩ => by
    by_cases h : i = j
    · subst h; exact ⟨⟨ts, e⟩, e2⟩
    · rw [List.getElem?_set_ne h] at e1; exact ⟨⟨vs, e1⟩, e2⟩
  refine ⟨S.ok.write h2 h5 h4, ⟨S.ge.f, S.ge.fn, S.ge.pk, S.ge.kn, fun b o hb hk ht => ?_, fun b o hb ht => ?_⟩, by simp [S.len], fun j u ej => ?_, fun j vs ej => ?_, fun j l b x y => S.dis j l b (own j b x) (own l b y), fun j vs ej => ?_⟩
  · rw [upd_ne (fr0_ne h6 hb ht)]; exact S.ge.hs b o hb hk ht
  · rw [upd_ne (fr0_ne h6 hb ht)]; exact S.ge.hd b o hb ht
  · by_cases h : i = j
    · subst h; rw [List.getElem?_set_self hi] at ej; cases ej
    · rw [List.getElem?_set_ne h] at ej; exact S.val j u ej
  · by_cases h : i = j
    · subst h
      rw [List.getElem?_set_self hi] at ej
      cases ej
      exact ⟨a, ys, ea, upd_same, hr, h4, h5, h6⟩
    · rw [List.getElem?_set_ne h] at ej
      obtain ⟨b, zs, g1, g2, g3, g4, g5, g6⟩ := S.own j vs ej
      have hne : b ≠ a := fun z => by
        subst z
        exact h (S.dis i j b ⟨⟨ts, e⟩, ea⟩ ⟨⟨vs, ej⟩, g1⟩)
      exact ⟨b, zs, g1, by rw [upd_ne hne]; exact g2, g3, g4, g5, g6⟩
  · by_cases h : i = j
    · subst h; rw [List.getElem?_set_self hi] at ej; cases ej
    · rw [List.getElem?_set_ne h] at ej; exact S.lnt j vs ej
/-- a slot's own list is frozen -/
theorem SR.frz {i : Nat} {ts : List T} (S : SR K N F k c r σ H) (e : r[i]? = some (.own ts)) : ∃ F', SR K N F' k c (r.set i (.val (.lst ts))) σ H ∧ Sub F F' := by
  have hi : i < r.length := (List.getElem?_eq_some_iff.mp e).1
  obtain ⟨a, xs, h1, h2, h3, h4, h5, h6⟩ := S.own i ts e
  have sF : Sub F (upd F a (.lst xs)) := fun b u q => by rw [upd_ne (ne_of_none q h4)]; exact q
  have own : ∀ (j : Nat) (b : Addr), OwnAt (r.set i (.val (.lst ts))) σ j b → OwnAt r σ j b ∧ j ≠ i := fun j b ⟨⟨vs, e1⟩, e2⟩ => by
    by_cases h : i = j
    · subst h; rw [List.getElem?_set_self hi] at e1; cases e1
    · rw [List.getElem?_set_ne h] at e1; exact ⟨⟨⟨vs, e1⟩, e2⟩, Ne.symm h⟩
  refine ⟨upd F a (.lst xs), ⟨S.ok.freeze h2 h5 h4, ⟨fun b o q => sF b o (S.ge.f b o q), fun b o q => ?_, S.ge.pk, S.ge.kn, S.ge.hs, S.ge.hd⟩, by simp [S.len], fun j u ej => ?_, fun j vs ej => ?_, fun j l b x y => S.dis j l b (own j b x).1 (own l b y).1, fun j vs ej => ?_⟩, sF⟩
  · by_cases h : b = a
    · subst h; exact .inr h6
    · rw [upd_ne h] at q; exact S.ge.fn b o q
  · by_cases h : i = j
    · subst h
      rw [List.getElem?_set_self hi] at ej
      cases ej
      exact ⟨_, h1, .lst upd_same (h3.mono sF List.prefix_rfl)⟩
    · rw [List.getElem?_set_ne h] at ej
      obtain ⟨v, g1, g2⟩ := S.val j u ej
      exact ⟨v, g1, g2.mono sF List.prefix_rfl⟩
  · by_cases h : i = j
    · subst h; rw [List.getElem?_set_self hi] at ej; cases ej
    · rw [List.getElem?_set_ne h] at ej
      obtain ⟨b, zs, g1, g2, g3, g4, g5, g6⟩ := S.own j vs ej
      have hne : b ≠ a := fun z => by
        subst z
        exact h (S.dis i j b ⟨⟨ts, e⟩, h1⟩ ⟨⟨vs, ej⟩, g1⟩)
      exact ⟨b, zs, g1, g2, g3.mono sF List.prefix_rfl, by rw [upd_ne hne]; exact g4, g5, g6⟩
  · by_cases h : i = j
    · subst h; rw [List.getElem?_set_self hi] at ej; cases ej
    · rw [List.getElem?_set_ne h] at ej
      obtain ⟨b, zs, g1, g2, g3, g4, g5⟩ := S.lnt j vs ej
      exact ⟨b, zs, g1, sF b _ g2, g3.mono sF List.prefix_rfl, g4, g5⟩
/-- an exception, as it is told by a plain run -/
def RepX (K : PySem.W.Frag) (mg : Str → Option Value) (F : Hp) (k : List Addr) (H : Hp) (e : Er) (cls : Value) (d : Option Addr) : Prop :=
  (∃ C, mg e.cls = some (.ref C) ∧ cls = .ref C) ∧ match e.fs with
    | [] => d = none
    | fs => ∃ (dd : Addr) (fvs : List (Str × V)), d = some dd ∧ F dd = some (.xd fvs) ∧ fvs.map Prod.fst = fs.map Prod.fst ∧ Reps K F k (fs.map Prod.snd) (fvs.map Prod.snd)
abbrev RR (α β : Type) := α → Hp → List Addr → Hp → β → Prop
def Post {α β : Type} (K : PySem.W.Frag) (mg : Str → Option Value) (R : RR α β) (F : Hp) (k : List Addr) (H : Hp) (o : Out α) (Q : β → Hp → Prop) (E : XK) : Prop := match o with
  | .stk => False
  | .ok a c => ∀ b F' k' H', Ok K F' k' c H' → Ge F k H F' k' H' → R a F' k' H' b → Q b H'
  | .err e c => ∀ cls d F' k' H', Ok K F' k' c H' → Ge F k H F' k' H' → RepX K mg F' k' H' e cls d → E cls d H'
abbrev RV (K : PySem.W.Frag) : RR T V := fun t F k _ v => Rep K F k t v
abbrev RB : RR Bool Bool := fun b _ _ _ b' => b' = b
abbrev RA (K : PySem.W.Frag) : RR (List T) (List V) := fun ts F k _ vs => Reps K F k ts vs
/-- a value that is looked at here and now: a list may be a slot's own -/
def SeqR (K : PySem.W.Frag) (F : Hp) (k : List Addr) (H : Hp) (t : T) (v : V) : Prop := match t with
  | .lst ts => ∃ a xs, v = .ref a ∧ H a = some (.lst xs) ∧ a ∉ k ∧ Reps K F k ts xs
  | t => Rep K F k t v
abbrev RS (K : PySem.W.Frag) : RR T V := fun t F k H v => SeqR K F k H t v
/-- a new list that nobody else has -/
abbrev RF (K : PySem.W.Frag) (H0 : Hp) : RR (List T) V := fun ts F k H v => ∃ a xs, v = .ref a ∧ H a = some (.lst xs) ∧ Reps K F k ts xs ∧ F a = none ∧ a ∉ k ∧ Fr0 H0 a
variable {α β γ δ : Type}
theorem Post.ge {R : RR α β} {o : Out α} {Q : β → Hp → Prop} {E : XK} (h : Post K mg R F k H o Q E) (g : Ge F k H F' k' H') : Post K mg R F' k' H' o Q E := by
  cases o with
  | stk => exact h
  | ok a c => exact fun b F2 k2 H2 ok g2 r => h b F2 k2 H2 ok (g.trans g2) r
  | err e c => exact fun cls d F2 k2 H2 ok g2 r => h cls d F2 k2 H2 ok (g.trans g2) r
theorem Post.seq {R : RR γ δ} {R0 : RR α β} {o : Out α} {f : α → Cs → Out γ} {Q : δ → Hp → Prop} {Q0 : β → Hp → Prop} {E : XK} (h : Post K mg R F k H (o.bind f) Q E)
    (hk : ∀ a c b F1 k1 H1, o = .ok a c → Ok K F1 k1 c H1 → Ge F k H F1 k1 H1 → R0 a F1 k1 H1 b → Post K mg R F1 k1 H1 (f a c) Q E → Q0 b H1) : Post K mg R0 F k H o Q0 E := by
  cases o with
  | stk => exact h
  | ok a c => exact fun b F1 k1 H1 ok g r => hk a c b F1 k1 H1 rfl ok g r (Post.ge h g)
  | err e c => exact h
theorem Post.seq0 {R : RR γ δ} {R0 : RR α β} {o : Out α} {f : α → Cs → Out γ} {Q : δ → Hp → Prop} {Q0 : β → Hp → Prop} {E : XK} (h : Post K mg R F k H (o.bind f) Q E)
    (hk : ∀ a c b F1 k1 H1, o = .ok a c → Ok K F1 k1 c H1 → Ge F k H F1 k1 H1 → R0 a F1 k1 H1 b → Post K mg R F k H (f a c) Q E → Q0 b H1) : Post K mg R0 F k H o Q0 E := by
  cases o with
  | stk => exact h
  | ok a c => exact fun b F1 k1 H1 ok g r => hk a c b F1 k1 H1 rfl ok g r h
  | err e c => exact h
theorem Post.imp {R : RR α β} {R0 : RR α δ} {o : Out α} {Q : β → Hp → Prop} {Q0 : δ → Hp → Prop} {E : XK} (h : Post K mg R F k H o Q E)
    (hk : ∀ a c b F1 k1 H1, Ok K F1 k1 c H1 → Ge F k H F1 k1 H1 → R0 a F1 k1 H1 b → (∀ b', R a F1 k1 H1 b' → Q b' H1) → Q0 b H1) : Post K mg R0 F k H o Q0 E := by
  cases o with
  | stk => exact h
  | ok a c => exact fun b F1 k1 H1 ok g r => hk a c b F1 k1 H1 ok g r fun b' r' => h b' F1 k1 H1 ok g r'
  | err e c => exact h
theorem Rep.seq {t : T} {v : V} (ok : Ok K F k c H) (h : Rep K F k t v) : SeqR K F k H t v := by
  cases h with
  | lst h r =>
    refine ⟨_, _, rfl, ok.sub _ _ h, fun hm => ?_, r⟩
    obtain ⟨n, hn, e⟩ := List.getElem_of_mem hm
    obtain ⟨_, _, _, z⟩ := ok.cel n _ (by rw [List.getElem?_eq_getElem hn])
    rw [e, h] at z; cases z
  | non => exact .non
  | bl b => exact .bl b
  | int i => exact .int i
  | str x => exact .str x
  | tup h r => exact .tup h r
  | scr h r => exact .scr h r
  | dct h e r => exact .dct h e r
  | cel e => exact .cel e
  | adr a => exact .adr a
  | glo x => exact .glo x
  | exo h e r => exact .exo h e r
  | dtu h q e r => exact .dtu h q e r
theorem SeqR.step {t : T} {v : V} (h : SeqR K F k H t v) (g : Ge F k H F' k' H') : SeqR K F' k' H' t v := by
  cases t with
  | lst ts =>
    obtain ⟨a, xs, rfl, h1, h2, h3⟩ := h
    refine ⟨a, xs, rfl, g.hs a _ h1 h2 (fun ps z => by cases z), fun hm => ?_, h3.mono g.f g.pk⟩
    rcases g.kn a hm with z | z
    · exact h2 z
    · exact fr0_lst z h1
  | _ => exact Rep.mono g.f g.pk h
end
def Rd (K : PySem.W.Frag) (mg : Str → Option Value) (W : XK) (te : TE) (d : D) : Prop :=
  ∀ N r c F k σ H Q, SR K N F k c r σ H → Post K mg (RV K) F k H (d r c) Q W → te σ H Q
/-- .. looked at here and now -/
def RdS (K : PySem.W.Frag) (mg : Str → Option Value) (W : XK) (te : TE) (d : D) : Prop :=
  ∀ N r c F k σ H Q, SR K N F k c r σ H → Post K mg (RS K) F k H (d r c) Q W → te σ H Q
def RdF (K : PySem.W.Frag) (mg : Str → Option Value) (W : XK) (te : TE) (d : DA) : Prop :=
  ∀ N r c F k σ H Q, SR K N F k c r σ H → Post K mg (RF K H) F k H (d r c) Q W → te σ H Q
def RdB (K : PySem.W.Frag) (mg : Str → Option Value) (W : XK) (te : TT) (d : DB) : Prop :=
  ∀ N r c F k σ H Q, SR K N F k c r σ H → Post K mg RB F k H (d r c) Q W → te σ H Q
def RdA (K : PySem.W.Frag) (mg : Str → Option Value) (W : XK) (te : TA) (d : DA) : Prop :=
  ∀ N r c F k σ H Q, SR K N F k c r σ H → Post K mg (RA K) F k H (d r c) Q W → te σ H Q
structure EE (X : Cx) (W : XK) (e : Expr) (te : TE) (d : D) : Prop where
  pe : PE X e te
  rd : Rd X.K X.mg W te d
structure ES (X : Cx) (W : XK) (e : Expr) (te : TE) (d : D) : Prop where
  pe : PE X e te
  rd : RdS X.K X.mg W te d
structure EF (X : Cx) (W : XK) (e : Expr) (te : TE) (d : DA) : Prop where
  pe : PE X e te
  rd : RdF X.K X.mg W te d
structure ET (X : Cx) (W : XK) (e : Expr) (te : TT) (d : DB) : Prop where
  pe : PT X e te
  rd : RdB X.K X.mg W te d
structure EA (X : Cx) (W : XK) (es : List Expr) (te : TA) (d : DA) : Prop where
  pe : PA X es te
  rd : RdA X.K X.mg W te d
section
variable {X : Cx} {W : XK} {e : Expr} {te : TE} {d : D}
theorem EE.es (h : EE X W e te d) : ES X W e te d :=
  ⟨h.pe, fun N r c F k σ H Q S p => h.rd N r c F k σ H Q S (p.imp fun a c b F1 k1 H1 ok g rr hq => hq b (Rep.seq ok rr))⟩
/-- a new list, frozen -/
def dFrz (d : DA) : D := fun r c => (d r c).bind fun ts c => .ok (.lst ts) c
theorem EF.ee {d : DA} (h : EF X W e te d) : EE X W e te (dFrz d) := by
  refine ⟨h.pe, fun N r c F k σ H Q S p => h.rd N r c F k σ H Q S ?_⟩
  refine p.seq0 fun ts c1 v F1 k1 H1 _ ok g rr q => ?_
  obtain ⟨a, xs, rfl, h1, h2, h3, h4, h5⟩ := rr
  have sF : Sub F1 (upd F1 a (.lst xs)) := fun b u q => by rw [upd_ne (ne_of_none q h3)]; exact q
  refine q (.ref a) (upd F1 a (.lst xs)) k1 H1 (ok.freeze h1 h4 h3) ⟨fun b o z => sF b o (g.f b o z), fun b o z => ?_, g.pk, g.kn, g.hs, g.hd⟩ (.lst upd_same (h2.mono sF List.prefix_rfl))
  by_cases hb : b = a
  · subst hb; exact .inr h5
  · rw [upd_ne hb] at z; exact g.fn b o z
end
end Q
namespace Q
open PySem PySem.Spec PyProof.Rows L2
def lift {α : Type} (o : Option α) (c : Cs) : Out α := match o with
  | some t => .ok t c
  | none => .stk
def smallI (i : Int) : Bool := decide (-(2 ^ 64) < i) && decide (i < 2 ^ 64)
mutual
def pyT : T → PyData
  | .non => .none
  | .bl b => .bool b
  | .int i => .int i
  | .str x => .str x
  | .tup ts => .tuple (pyTs ts)
  | .lst ts => .list (pyTs ts)
  | .scr ts => .list (pyTs ts)
  | .dct _ _ => .none
  | .cel _ => .none
  | .adr _ => .none
  | .glo _ => .none
  | .exo _ _ _ _ => .none
  | .dtu _ _ => .none
def pyTs : List T → List PyData
  | [] => []
  | t :: ts => pyT t :: pyTs ts
end
theorem pyTs_map (ts : List T) : pyTs ts = ts.map pyT := by
  induction ts with
  | nil => rfl
  | cons t ts ih => rw [pyTs, ih]; rfl
/-- plain data, at most n deep -/
def plT : Nat → T → Bool
  | _, .non => true
  | _, .bl _ => true
  | _, .int _ => true
  | _, .str x => PyData.strOk x
  | n + 1, .tup ts => ts.all (plT n)
  | n + 1, .lst ts => ts.all (plT n)
  | n + 1, .scr ts => ts.all (plT n)
  | _, _ => false
theorem plT_lay : ∀ (n : Nat) (t : T), plT n t = true → (pyT t).canLay0 = true ∧ (pyT t).depth ≤ n
  | _, .non, _ => by simp [pyT, PyData.canLay0, PyData.depth]
  | _, .bl _, _ => by simp [pyT, PyData.canLay0, PyData.depth]
  | _, .int _, _ => by simp [pyT, PyData.canLay0, PyData.depth]
  | _, .str x, h => by
    have h' : PyData.strOk x = true := by cases ‹Nat› <;> exact h
    simp [pyT, PyData.canLay0, PyData.depth, h']
  | 0, .tup ts, h => by cases h
  | 0, .lst ts, h => by cases h
  | 0, .scr ts, h => by cases h
  | n + 1, .tup ts, h => by
    have a := all n ts h
    simp only [pyT, PyData.canLay0, PyData.depth]
    exact ⟨a.1, by have := a.2; omega⟩
  | n + 1, .lst ts, h => by
    have a := all n ts h
    simp only [pyT, PyData.canLay0, PyData.depth]
    exact ⟨a.1, by have := a.2; omega⟩
  | n + 1, .scr ts, h => by
    have a := all n ts h
    simp only [pyT, PyData.canLay0, PyData.depth]
    exact ⟨a.1, by have := a.2; omega⟩
  | 0, .dct _ _, h => by cases h
  | n + 1, .dct _ _, h => by cases h
  | 0, .cel _, h => by cases h
  | n + 1, .cel _, h => by cases h
  | 0, .adr _, h => by cases h
  | n + 1, .adr _, h => by cases h
  | 0, .glo _, h => by cases h
  | n + 1, .glo _, h => by cases h
  | 0, .exo _ _ _ _, h => by cases h
  | n + 1, .exo _ _ _ _, h => by cases h
  | 0, .dtu _ _, h => by cases h
  | n + 1, .dtu _ _, h => by cases h
where
  all (n : Nat) : ∀ ts : List T, ts.all (plT n) = true → PyData.canLayAll0 (pyTs ts) = true ∧ PyData.depthAll (pyTs ts) ≤ n
    | [], _ => by simp [pyTs, PyData.canLayAll0, PyData.depthAll]
    | t :: ts, h => by
      rw [List.all_cons, Bool.and_eq_true] at h
      have a := plT_lay n t h.1
      have b := all n ts h.2
      simp only [pyTs, PyData.canLayAll0, PyData.depthAll, a.1, b.1]
      exact ⟨rfl, by have := a.2; have := b.2; omega⟩
def plain (t : T) : Bool := plT 20 t
theorem plain_shaped {t : T} (h : plain t = true) : SeqAt.shaped (pyT t) = true := by
  have a := plT_lay 20 t h
  unfold SeqAt.shaped
  rw [a.1, Bool.true_and]
  exact decide_eq_true (by have := a.2; omega)
section
variable {K : PySem.W.Frag} {mg : Str → Option Value} {F F' H H' : Hp} {k k' : List Addr} {c : Cs}
mutual
theorem Rep.dp (s : Sub F H) : ∀ (n : Nat) {t : T} {v : V}, plT n t = true → Rep K F k t v → Dp K H v (pyT t)
  | _, .non, _, _, h => by cases h; exact .non
  | _, .bl _, _, _, h => by cases h; exact .bl _
  | _, .int _, _, _, h => by cases h; exact .int _
  | _, .str _, _, _, h => by cases h; exact .str _
  | 0, .tup _, _, p, _ => by cases p
  | 0, .lst _, _, p, _ => by cases p
  | 0, .scr _, _, p, _ => by cases p
  | 0, .dct _ _, _, p, _ => by cases p
  | 0, .cel _, _, p, _ => by cases p
  | n + 1, .tup ts, _, p, h => by cases h with
    | tup q r => exact .tup (SqT.sub q.t s) (Reps.dp s n p r)
  | n + 1, .lst ts, _, p, h => by cases h with
    | lst q r => exact .lst (SqL.of (s _ _ q)) (Reps.dp s n p r)
  | n + 1, .scr ts, _, p, h => by cases h with
    | scr q r => exact .lst (SqL.sub q s) (Reps.dp s n p r)
  | n + 1, .dct _ _, _, p, _ => by cases p
  | n + 1, .cel _, _, p, _ => by cases p
  | 0, .adr _, _, p, _ => by cases p
  | n + 1, .adr _, _, p, _ => by cases p
  | 0, .glo _, _, p, _ => by cases p
  | n + 1, .glo _, _, p, _ => by cases p
  | 0, .exo _ _ _ _, _, p, _ => by cases p
  | n + 1, .exo _ _ _ _, _, p, _ => by cases p
  | 0, .dtu _ _, _, p, _ => by cases p
  | n + 1, .dtu _ _, _, p, _ => by cases p
theorem Reps.dp (s : Sub F H) : ∀ (n : Nat) {ts : List T} {vs : List V}, ts.all (plT n) = true → Reps K F k ts vs → DpAll K H vs (pyTs ts)
  | _, [], _, _, h => by cases h; exact .nil
  | n, t :: ts, _, p, h => by cases h with
    | cons a b =>
      rw [List.all_cons, Bool.and_eq_true] at p
      exact .cons (Rep.dp s n p.1 a) (Reps.dp s n p.2 b)
end
theorem SeqR.dp {t : T} {v : V} (ok : Ok K F k c H) (p : plain t = true) (h : SeqR K F k H t v) : Dp K H v (pyT t) := by
  cases t with
  | lst ts =>
    obtain ⟨a, xs, rfl, h1, h2, h3⟩ := h
    exact .lst (SqL.of h1) (Reps.dp ok.sub 19 p h3)
  | _ => exact Rep.dp ok.sub 20 p h
theorem SeqR.int_of {i : Int} {v : V} (h : SeqR K F k H (.int i) v) : v = .int i := by cases h; rfl
theorem SeqR.str_of {x : Str} {v : V} (h : SeqR K F k H (.str x) v) : v = .str x := by cases h; rfl
theorem SeqR.bl_of {b : Bool} {v : V} (h : SeqR K F k H (.bl b) v) : v = .bl b := by cases h; rfl
theorem SeqR.tup_of {ts : List T} {v : V} (ok : Ok K F k c H) (h : SeqR K F k H (.tup ts) v) : ∃ a xs, v = .ref a ∧ SqD K F a xs ∧ SqT K H a xs ∧ Reps K F k ts xs := by
  cases h with
  | tup q r => exact ⟨_, _, rfl, q, SqT.sub q.t ok.sub, r⟩
theorem SeqR.scr_of {ts : List T} {v : V} (ok : Ok K F k c H) (h : SeqR K F k H (.scr ts) v) : ∃ a xs, v = .ref a ∧ SqL K H a xs ∧ Reps K F k ts xs := by
  cases h with
  | scr q r => exact ⟨_, _, rfl, SqL.sub q ok.sub, r⟩
theorem SeqR.non_iff {t : T} {v : V} (h : SeqR K F k H t v) : decide (v = .non) = (match t with | .non => true | _ => false) := by
  cases t with
  | lst ts => obtain ⟨a, xs, rfl, _⟩ := h; rfl
  | non => cases h; rfl
  | bl _ => cases h; rfl
  | int _ => cases h; rfl
  | str _ => cases h; rfl
  | tup _ => cases h; rfl
  | scr _ => cases h; rfl
  | dct _ _ => cases h; rfl
  | cel _ => cases h; rfl
  | adr _ => cases h; rfl
  | glo _ => cases h; rfl
  | exo _ _ _ _ => cases h; rfl
  | dtu _ _ => cases h; rfl
end
/-- t comes, by some heap -/
abbrev Gives (K : PySem.W.Frag) (F : Hp) (k : List Addr) (c : Cs) (H : Hp) (t : T) (Q : VK) : Prop := ∀ b F' k' H', Ok K F' k' c H' → Ge F k H F' k' H' → Rep K F' k' t b → Q b H'
abbrev GivesF (K : PySem.W.Frag) (F : Hp) (k : List Addr) (c : Cs) (H : Hp) (ts : List T) (Q : VK) : Prop := ∀ b F' k' H', Ok K F' k' c H' → Ge F k H F' k' H' → RF K H ts F' k' H' b → Q b H'
def Op2 (K : PySem.W.Frag) (r : R2) (f : T → T → Option T) : Prop :=
  ∀ x y t v u c F k H Q, f x y = some t → Ok K F k c H → SeqR K F k H x v → SeqR K F k H y u → Gives K F k c H t Q → r v u H Q
def Op1 (K : PySem.W.Frag) (r : V → Hp → VK → Prop) (f : T → Option T) : Prop :=
  ∀ x t v c F k H Q, f x = some t → Ok K F k c H → SeqR K F k H x v → Gives K F k c H t Q → r v H Q
def OpF2 (K : PySem.W.Frag) (r : R2) (f : T → T → Option (List T)) : Prop :=
  ∀ x y ts v u c F k H Q, f x y = some ts → Ok K F k c H → SeqR K F k H x v → SeqR K F k H y u → GivesF K F k c H ts Q → r v u H Q
def OpF1 (K : PySem.W.Frag) (r : V → Hp → VK → Prop) (f : T → Option (List T)) : Prop :=
  ∀ x ts v c F k H Q, f x = some ts → Ok K F k c H → SeqR K F k H x v → GivesF K F k c H ts Q → r v H Q
section
variable {K : PySem.W.Frag} {mg : Str → Option Value} {F F' H H' : Hp} {k k' : List Addr} {c : Cs} {Q : VK}
theorem Gives.same {t : T} {v : V} (g : Gives K F k c H t Q) (ok : Ok K F k c H) (h : Rep K F k t v) : Q v H := g v F k H ok Ge.refl h
theorem Gives.tup {ts : List T} {vs : List V} (g : Gives K F k c H (.tup ts) Q) (ok : Ok K F k c H) (h : Reps K F k ts vs) : NewT H vs Q := fun p o np nd => by
  refine g _ (upd F p (.frz o (.tup vs))) k _ (ok.push np) (Ge.push ok np) (.tup (SqD.new nd) (h.mono (Ge.push (o := .frz o (.tup vs)) ok np).f List.prefix_rfl))
theorem GivesF.lst {ts : List T} {vs : List V} (g : GivesF K F k c H ts Q) (ok : Ok K F k c H) (h : Reps K F k ts vs) : ∀ p, H p = none → Q (.ref p) (upd H p (.lst vs)) := fun p np => by
  have nF : F p = none := by
    cases e : F p with
    | none => rfl
    | some u => have := ok.sub p u e; rw [np] at this; cases this
  have nk : p ∉ k := fun hm => by
    obtain ⟨n, hn, e⟩ := List.getElem_of_mem hm
    obtain ⟨_, _, h2, _⟩ := ok.cel n p (by rw [List.getElem?_eq_getElem hn, e])
    exact h2.ne np
  exact g _ F k _ (ok.add np) (Ge.add ok np) ⟨p, vs, rfl, upd_same, h, nF, nk, fr0_none np⟩
theorem GivesF.of {ts : List T} (g : Gives K F k c H (.lst ts) Q) : GivesF K F k c H ts Q := fun b F1 k1 H1 ok ge ⟨a, xs, e, h1, h2, h3, h4, h5⟩ => by
  subst e
  have sF : Sub F1 (upd F1 a (.lst xs)) := fun b u q => by rw [upd_ne (ne_of_none q h3)]; exact q
  refine g (.ref a) (upd F1 a (.lst xs)) k1 H1 (ok.freeze h1 h4 h3) ⟨fun b o z => sF b o (ge.f b o z), fun b o z => ?_, ge.pk, ge.kn, ge.hs, ge.hd⟩ (.lst upd_same (h2.mono sF List.prefix_rfl))
  by_cases hb : b = a
  · subst hb; exact .inr h5
  · rw [upd_ne hb] at z; exact ge.fn b o z
/-- a new list as a value -/
theorem OpF2.op2 {r : R2} {f : T → T → Option (List T)} (h : OpF2 K r f) : Op2 K r (fun x y => (f x y).map T.lst) := fun x y t v u c F k H Q e ok rx ry g => by
  replace e : Option.map T.lst (f x y) = some t := e
  cases e1 : f x y with
  | none => rw [e1] at e; cases e
  | some ts => rw [e1] at e; cases e; exact h x y ts v u c F k H Q e1 ok rx ry (.of g)
theorem OpF1.op1 {r : V → Hp → VK → Prop} {f : T → Option (List T)} (h : OpF1 K r f) : Op1 K r (fun x => (f x).map T.lst) := fun x t v c F k H Q e ok rx g => by
  replace e : Option.map T.lst (f x) = some t := e
  cases e1 : f x with
  | none => rw [e1] at e; cases e
  | some ts => rw [e1] at e; cases e; exact h x ts v c F k H Q e1 ok rx (.of g)
theorem Op2.or {r r' : R2} {f f' : T → T → Option T} (h : Op2 K r f) (h' : Op2 K r' f') : Op2 K (fun x y H Q => r x y H Q ∨ r' x y H Q) (fun x y => (f x y).or (f' x y)) := fun x y t v u c F k H Q e ok rx ry g => by
  replace e : (f x y).or (f' x y) = some t := e
  cases e1 : f x y with
  | none => rw [e1] at e; exact .inr (h' x y t v u c F k H Q e ok rx ry g)
  | some t' => rw [e1] at e; cases e; exact .inl (h x y t v u c F k H Q e1 ok rx ry g)
theorem Op1.or {r r' : V → Hp → VK → Prop} {f f' : T → Option T} (h : Op1 K r f) (h' : Op1 K r' f') : Op1 K (fun x H Q => r x H Q ∨ r' x H Q) (fun x => (f x).or (f' x)) := fun x t v c F k H Q e ok rx g => by
  replace e : (f x).or (f' x) = some t := e
  cases e1 : f x with
  | none => rw [e1] at e; exact .inr (h' x t v c F k H Q e ok rx g)
  | some t' => rw [e1] at e; cases e; exact .inl (h x t v c F k H Q e1 ok rx g)
end
def dVar (i : Nat) : D := fun r c => match r[i]? with
  | some (.val t) => .ok t c
  | _ => .stk
/-- .. looked at here and now -/
def dPeek (i : Nat) : D := fun r c => match r[i]? with
  | some (.val t) => .ok t c
  | some (.own ts) => .ok (.lst ts) c
  | _ => .stk
def dC (t : T) : D := fun _ c => .ok t c
def d2 (f : T → T → Option T) (a b : D) : D := fun r c => (a r c).bind fun x c => (b r c).bind fun y c => lift (f x y) c
def d1 (f : T → Option T) (a : D) : D := fun r c => (a r c).bind fun x c => lift (f x) c
def dF2 (f : T → T → Option (List T)) (a b : D) : DA := fun r c => (a r c).bind fun x c => (b r c).bind fun y c => lift (f x y) c
def dF1 (f : T → Option (List T)) (a : D) : DA := fun r c => (a r c).bind fun x c => lift (f x) c
def dNil : DA := fun _ c => .ok [] c
def dCons (a : D) (b : DA) : DA := fun r c => (a r c).bind fun x c => (b r c).bind fun y c => .ok (x :: y) c
def dTup (a : DA) : D := fun r c => (a r c).bind fun xs c => if xs.length ≤ 1000000 then .ok (.tup xs) c else .stk
def dLst (a : DA) : DA := fun r c => (a r c).bind fun xs c => if xs.length ≤ 1000000 then .ok xs c else .stk
def dTest (a : D) : DB := fun r c => (a r c).bind fun x c => match x with
  | .bl b => .ok b c
  | _ => .stk
def dBool (a : DB) : D := fun r c => (a r c).bind fun b c => .ok (.bl b) c
def dAndB (a b : DB) : DB := fun r c => (a r c).bind fun x c => if x = true then b r c else .ok false c
def dOrB (a b : DB) : DB := fun r c => (a r c).bind fun x c => if x = true then .ok true c else b r c
def dNotB (a : DB) : DB := fun r c => (a r c).bind fun x c => .ok (!x) c
def dAndV (a b : D) : D := fun r c => (a r c).bind fun x c => match x with
  | .bl true => b r c
  | .bl false => .ok (.bl false) c
  | _ => .stk
def dOrV (a b : D) : D := fun r c => (a r c).bind fun x c => match x with
  | .bl true => .ok (.bl true) c
  | .bl false => b r c
  | _ => .stk
def dIf (t : DB) (a b : D) : D := fun r c => (t r c).bind fun x c => if x = true then a r c else b r c
section
variable {X : Cx} {W : XK} {e a b : Expr} {te ta tb : TE} {d da db : D} {pos : Pos}
theorem line1m : (1000000 : Nat) ≤ sizeLine := by rw [sizeLine_eq]; decide
theorem ee_var {i : Nat} (h : PE X e (tVar i)) : EE X W e (tVar i) (dVar i) := by
  refine ⟨h, fun N r c F k σ H Q S p => ?_⟩
  unfold dVar at p
  split at p
  · rename_i t e1
    obtain ⟨v, h1, h2⟩ := S.val i t e1
    exact ⟨v, h1, p v F k H S.ok Ge.refl h2⟩
  · exact p.elim
theorem es_var {i : Nat} (h : PE X e (tVar i)) : ES X W e (tVar i) (dPeek i) := by
  refine ⟨h, fun N r c F k σ H Q S p => ?_⟩
  unfold dPeek at p
  split at p
  · rename_i t e1
    obtain ⟨v, h1, h2⟩ := S.val i t e1
    exact ⟨v, h1, p v F k H S.ok Ge.refl (Rep.seq S.ok h2)⟩
  · rename_i ts e1
    obtain ⟨a, xs, h1, h2, h3, h4, h5, h6⟩ := S.own i ts e1
    exact ⟨_, h1, p _ F k H S.ok Ge.refl ⟨a, xs, rfl, h2, h5, h3⟩⟩
  · exact p.elim
theorem ee_c {t : T} {v : V} (h : PE X e (tC v)) (hr : ∀ F k, Rep X.K F k t v) : EE X W e (tC v) (dC t) :=
  ⟨h, fun N r c F k σ H Q S p => p v F k H S.ok Ge.refl (hr F k)⟩
theorem ee_int {i j pos} : EE X W (.Constant (.int i) j pos) (tC (.int i)) (dC (.int i)) := ee_c pe_int fun _ _ => .int i
theorem ee_bl {i j pos} : EE X W (.Constant (.bool i) j pos) (tC (.bl i)) (dC (.bl i)) := ee_c pe_bl fun _ _ => .bl i
theorem ee_non {j pos} : EE X W (.Constant .none j pos) (tC .non) (dC .non) := ee_c pe_non fun _ _ => .non
theorem ee_str {x j pos} : EE X W (.Constant (.str x) j pos) (tC (.str x)) (dC (.str x)) := ee_c pe_str fun _ _ => .str x
/-- an int that the module has -/
theorem ee_gint {x : Str} {i : Int} {pos : Pos} (hm : ∃ t, X.mg x = some (.int i t)) (hg : Gl X x := by rfl) (hd : (x == ("__debug__" : Str)) = false := by decide) : EE X W (.Name x pos) (tC (.int i)) (dC (.int i)) := by
  obtain ⟨t, hm⟩ := hm
  exact ee_c (pe_glob hg hm ⟨t, rfl⟩ hd) fun _ _ => .int i
theorem ee_gstr {x : Str} {i : Str} {pos : Pos} (hm : ∃ t, X.mg x = some (.str i t)) (hg : Gl X x := by rfl) (hd : (x == ("__debug__" : Str)) = false := by decide) : EE X W (.Name x pos) (tC (.str i)) (dC (.str i)) := by
  obtain ⟨t, hm⟩ := hm
  exact ee_c (pe_glob hg hm ⟨t, rfl⟩ hd) fun _ _ => .str i
theorem rd_op2 {K : PySem.W.Frag} {mg : Str → Option Value} {r : R2} {f : T → T → Option T} (h : Op2 K r f) (ha : RdS K mg W ta da) (hb : RdS K mg W tb db) : Rd K mg W (tOp r ta tb) (d2 f da db) := fun N ρ c F k σ H Q S p => by
  refine ha N ρ c F k σ H _ S (p.seq fun x c1 v F1 k1 H1 _ ok1 g1 r1 p1 => ?_)
  have S1 := S.step ok1 g1
  refine hb N ρ c1 F1 k1 σ H1 _ S1 (p1.seq fun y c2 u F2 k2 H2 _ ok2 g2 r2 p2 => ?_)
  cases e : f x y with
  | none => rw [e] at p2; exact p2.elim
  | some t => rw [e] at p2; exact h x y t v u c2 F2 k2 H2 Q e ok2 (r1.step g2) r2 p2
theorem rd_opF2 {K : PySem.W.Frag} {mg : Str → Option Value} {r : R2} {f : T → T → Option (List T)} (h : OpF2 K r f) (ha : RdS K mg W ta da) (hb : RdS K mg W tb db) : RdF K mg W (tOp r ta tb) (dF2 f da db) := fun N ρ c F k σ H Q S p => by
  refine ha N ρ c F k σ H _ S (p.seq0 fun x c1 v F1 k1 H1 _ ok1 g1 r1 p1 => ?_)
  have S1 := S.step ok1 g1
  refine hb N ρ c1 F1 k1 σ H1 _ S1 ((p1.ge g1).seq0 fun y c2 u F2 k2 H2 _ ok2 g2 r2 p2 => ?_)
  cases e : f x y with
  | none => rw [e] at p2; exact p2.elim
  | some t =>
    rw [e] at p2
    refine h x y t v u c2 F2 k2 H2 Q e ok2 (r1.step g2) r2 fun b F3 k3 H3 ok3 g3 ⟨a, xs, e1, h1, h2, h3, h4, h5⟩ => p2 b F3 k3 H3 ok3 (g2.trans g3) ⟨a, xs, e1, h1, h2, h3, h4, (g1.trans g2).none_of h5⟩
theorem rd_op1 {K : PySem.W.Frag} {mg : Str → Option Value} {r : V → Hp → VK → Prop} {f : T → Option T} (h : Op1 K r f) (ha : RdS K mg W ta da) : Rd K mg W (fun σ H Q => ta σ H fun x H1 => r x H1 Q) (d1 f da) := fun N ρ c F k σ H Q S p => by
  refine ha N ρ c F k σ H _ S (p.seq fun x c1 v F1 k1 H1 _ ok1 g1 r1 p1 => ?_)
  cases e : f x with
  | none => rw [e] at p1; exact p1.elim
  | some t => rw [e] at p1; exact h x t v c1 F1 k1 H1 Q e ok1 r1 p1
theorem rd_opF1 {K : PySem.W.Frag} {mg : Str → Option Value} {r : V → Hp → VK → Prop} {f : T → Option (List T)} (h : OpF1 K r f) (ha : RdS K mg W ta da) : RdF K mg W (fun σ H Q => ta σ H fun x H1 => r x H1 Q) (dF1 f da) := fun N ρ c F k σ H Q S p => by
  refine ha N ρ c F k σ H _ S (p.seq0 fun x c1 v F1 k1 H1 _ ok1 g1 r1 p1 => ?_)
  cases e : f x with
  | none => rw [e] at p1; exact p1.elim
  | some t =>
    rw [e] at p1
    exact h x t v c1 F1 k1 H1 Q e ok1 r1 fun b F3 k3 H3 ok3 g3 ⟨a, xs, e1, h1, h2, h3, h4, h5⟩ => p1 b F3 k3 H3 ok3 (g1.trans g3) ⟨a, xs, e1, h1, h2, h3, h4, g1.none_of h5⟩
theorem ee_op {op : Operator} {r : R2} {f : T → T → Option T} (ho : OpR X (binaryOp op) r) (h : Op2 X.K r f) (ha : ES X W a ta da) (hb : ES X W b tb db) : EE X W (.BinOp a op b pos) (tOp r ta tb) (d2 f da db) :=
  ⟨pe_op ho ha.pe hb.pe, rd_op2 h ha.rd hb.rd⟩
theorem ef_op {op : Operator} {r : R2} {f : T → T → Option (List T)} (ho : OpR X (binaryOp op) r) (h : OpF2 X.K r f) (ha : ES X W a ta da) (hb : ES X W b tb db) : EF X W (.BinOp a op b pos) (tOp r ta tb) (dF2 f da db) :=
  ⟨pe_op ho ha.pe hb.pe, rd_opF2 h ha.rd hb.rd⟩
theorem ee_un {op : UnaryOp} {r : V → Hp → VK → Prop} {f : T → Option T} (ho : UnR X (unaryOp op) r) (h : Op1 X.K r f) (ha : ES X W a ta da) : EE X W (.UnaryOp op a pos) (tUn r ta) (d1 f da) :=
  ⟨pe_un ho ha.pe, rd_op1 (r := r) h ha.rd⟩
theorem ee_cmp {op : CmpOp} {r : R2} {f : T → T → Option T} (ho : OpR X (compareOp op) r) (h : Op2 X.K r f) (ha : ES X W a ta da) (hb : ES X W b tb db) (hm : behindInMarks op b = false := by first | exact nomark _ | rfl) : EE X W (.Compare a [op] [b] pos) (tOp r ta tb) (d2 f da db) :=
  ⟨pe_cmpR ho ha.pe hb.pe hm, rd_op2 h ha.rd hb.rd⟩
theorem rdB_of {K : PySem.W.Frag} {mg : Str → Option Value} (h : Rd K mg W te d) : RdB K mg W (tTest te) (dTest d) := fun N ρ c F k σ H Q S p => by
  refine h N ρ c F k σ H _ S (p.seq0 fun x c1 v F1 k1 H1 _ ok1 g1 r1 p1 => ?_)
  cases x with
  | bl b => cases r1; exact ⟨b, rfl, p1 b F1 k1 H1 ok1 g1 rfl⟩
  | _ => exact p1.elim
theorem et_cmp {op : CmpOp} {r : R2} {f : T → T → Option T} (ho : OpR X (compareOp op) r) (h : Op2 X.K r f) (ha : ES X W a ta da) (hb : ES X W b tb db) (hm : behindInMarks op b = false := by first | exact nomark _ | rfl) : ET X W (.Compare a [op] [b] pos) (tTest (tOp r ta tb)) (dTest (d2 f da db)) :=
  ⟨pt_cmpR ho ha.pe hb.pe hm, rdB_of (rd_op2 h ha.rd hb.rd)⟩
/-- a value as a test: a bool -/
theorem et_val (h : EE X W e te d) (he : ∀ whole, isTrue e X.env whole = (do let v ← whole; standAt e.pos; holding [v] (truthy v)) := by intro _; rfl) : ET X W e (tB te) (dTest d) :=
  ⟨pt_val h.pe he, rdB_of h.rd⟩
/-- a op b op' c over ints -/
def dChain (f f' : T → T → Option T) (a b c : D) : D := fun r s => (a r s).bind fun x s => (b r s).bind fun y s => match f x y with
  | some (.bl true) => (c r s).bind fun z s => lift (f' y z) s
  | some (.bl false) => .ok (.bl false) s
  | _ => .stk
theorem ee_chain {op op' : CmpOp} {r r' : R2} {f f' : T → T → Option T} {e3 : Expr} {tc : TE} {dc : D} (ho : OpR X (compareOp op) r) (ho' : OpR X (compareOp op') r')
    (hf : ∀ x y v u c F k H Q b, f x y = some (.bl b) → Ok X.K F k c H → SeqR X.K F k H x v → SeqR X.K F k H y u → Q (.bl b) H → r v u H Q) (hf' : Op2 X.K r' f')
    (ha : ES X W a ta da) (hb : ES X W b tb db) (hc : ES X W e3 tc dc) (h1 : lastMarks [op, op'] [b, e3] = false := by rfl) :
    EE X W (.Compare a [op, op'] [b, e3] pos) (tChain r r' ta tb tc) (dChain f f' da db dc) := by
  refine ⟨pe_chain ho ho' ha.pe hb.pe hc.pe h1, fun N ρ c F k σ H Q S p => ?_⟩
  refine ha.rd N ρ c F k σ H _ S (p.seq fun x c1 v F1 k1 H1 _ ok1 g1 r1 p1 => ?_)
  have S1 := S.step ok1 g1
  refine hb.rd N ρ c1 F1 k1 σ H1 _ S1 (p1.seq fun y c2 u F2 k2 H2 _ ok2 g2 r2 p2 => ?_)
  have S2 := S1.step ok2 g2
  cases e : f x y with
  | none => rw [e] at p2; exact p2.elim
  | some t =>
    rw [e] at p2
    cases t with
    | bl t =>
      refine hf x y v u c2 F2 k2 H2 _ t e ok2 (r1.step g2) r2 ⟨t, rfl, ?_⟩
      cases t with
      | true =>
        rw [if_pos rfl]
        refine hc.rd N ρ c2 F2 k2 σ H2 _ S2 (Post.seq (f := fun z s => lift (f' y z) s) p2 fun z c3 w F3 k3 H3 _ ok3 g3 r3 p3 => ?_)
        cases e' : f' y z with
        | none => rw [e'] at p3; exact p3.elim
        | some t => rw [e'] at p3; exact hf' y z t u w c3 F3 k3 H3 Q e' ok3 (r2.step g3) r3 p3
      | false =>
        rw [if_neg Bool.false_ne_true]
        exact p2 (.bl false) F2 k2 H2 ok2 Ge.refl (.bl false)
    | _ => exact p2.elim
structure EW (X : Cx) (W : XK) (e : Expr) (te : TT) (d : DB) : Prop where
  pe : PW X e te
  rd : RdB X.K X.mg W te d
variable {tA tB' : TT} {dA dB' : DB} {rest : List Expr}
theorem EW.et (h : EW X W e tA dA) : ET X W e tA dA := ⟨h.pe.pt, h.rd⟩
theorem ew_and1 (h : ET X W a tA dA) : EW X W (.BoolOp .And [a] pos) tA dA := ⟨pw_and1 h.pe, h.rd⟩
theorem ew_or1 (h : ET X W a tA dA) : EW X W (.BoolOp .Or [a] pos) tA dA := ⟨pw_or1 h.pe, h.rd⟩
theorem ew_and (ha : ET X W a tA dA) (hb : EW X W (.BoolOp .And (b :: rest) pos) tB' dB') : EW X W (.BoolOp .And (a :: b :: rest) pos) (tAnd tA tB') (dAndB dA dB') := by
  refine ⟨pw_and ha.pe hb.pe, fun N ρ c F k σ H Q S p => ?_⟩
  refine ha.rd N ρ c F k σ H _ S (p.seq fun x c1 v F1 k1 H1 _ ok1 g1 r1 p1 => ?_)
  cases (show v = x from r1)
  cases x with
  | true => exact hb.rd N ρ c1 F1 k1 σ H1 _ (S.step ok1 g1) p1
  | false => exact p1 false F1 k1 H1 ok1 Ge.refl rfl
theorem ew_or (ha : ET X W a tA dA) (hb : EW X W (.BoolOp .Or (b :: rest) pos) tB' dB') : EW X W (.BoolOp .Or (a :: b :: rest) pos) (tOr tA tB') (dOrB dA dB') := by
  refine ⟨pw_or ha.pe hb.pe, fun N ρ c F k σ H Q S p => ?_⟩
  refine ha.rd N ρ c F k σ H _ S (p.seq fun x c1 v F1 k1 H1 _ ok1 g1 r1 p1 => ?_)
  cases (show v = x from r1)
  cases x with
  | true => exact p1 true F1 k1 H1 ok1 Ge.refl rfl
  | false => exact hb.rd N ρ c1 F1 k1 σ H1 _ (S.step ok1 g1) p1
theorem et_not (ha : ET X W a tA dA) : ET X W (.UnaryOp .Not a pos) (tNot tA) (dNotB dA) := by
  refine ⟨pt_not ha.pe, fun N ρ c F k σ H Q S p => ?_⟩
  refine ha.rd N ρ c F k σ H _ S (p.seq fun x c1 v F1 k1 H1 _ ok1 g1 r1 p1 => ?_)
  cases (show v = x from r1)
  exact p1 _ F1 k1 H1 ok1 Ge.refl rfl
theorem ee_one {op} (h : EE X W a ta da) : EE X W (.BoolOp op [a] pos) ta da := ⟨pe_one h.pe, h.rd⟩
theorem ee_and (ha : EE X W a ta da) (hb : EE X W (.BoolOp .And (b :: rest) pos) tb db) : EE X W (.BoolOp .And (a :: b :: rest) pos) (tAndV ta tb) (dAndV da db) := by
  refine ⟨pe_and ha.pe hb.pe, fun N ρ c F k σ H Q S p => ?_⟩
  refine ha.rd N ρ c F k σ H _ S (p.seq fun x c1 v F1 k1 H1 _ ok1 g1 r1 p1 => ?_)
  cases x with
  | bl x =>
    cases r1
    refine ⟨x, rfl, ?_⟩
    cases x with
    | true => rw [if_pos rfl]; exact hb.rd N ρ c1 F1 k1 σ H1 _ (S.step ok1 g1) p1
    | false => rw [if_neg Bool.false_ne_true]; exact p1 _ F1 k1 H1 ok1 Ge.refl (.bl false)
  | _ => exact p1.elim
theorem ee_or (ha : EE X W a ta da) (hb : EE X W (.BoolOp .Or (b :: rest) pos) tb db) : EE X W (.BoolOp .Or (a :: b :: rest) pos) (tOrV ta tb) (dOrV da db) := by
  refine ⟨pe_or ha.pe hb.pe, fun N ρ c F k σ H Q S p => ?_⟩
  refine ha.rd N ρ c F k σ H _ S (p.seq fun x c1 v F1 k1 H1 _ ok1 g1 r1 p1 => ?_)
  cases x with
  | bl x =>
    cases r1
    refine ⟨x, rfl, ?_⟩
    cases x with
    | true => rw [if_pos rfl]; exact p1 _ F1 k1 H1 ok1 Ge.refl (.bl true)
    | false => rw [if_neg Bool.false_ne_true]; exact hb.rd N ρ c1 F1 k1 σ H1 _ (S.step ok1 g1) p1
  | _ => exact p1.elim
def dNotV (a : D) : D := d1 (fun x => match x with | .bl b => some (.bl (!b)) | _ => none) a
theorem ee_not (ha : EE X W a ta da) : EE X W (.UnaryOp .Not a pos) (tNotV ta) (dNotV da) := by
  refine ⟨pe_not ha.pe, fun N ρ c F k σ H Q S p => ?_⟩
  refine ha.rd N ρ c F k σ H _ S (p.seq fun x c1 v F1 k1 H1 _ ok1 g1 r1 p1 => ?_)
  cases x with
  | bl x => cases r1; exact ⟨x, rfl, p1 _ F1 k1 H1 ok1 Ge.refl (.bl _)⟩
  | _ => exact p1.elim
theorem ee_if {t : Expr} (ht : ET X W t tA dA) (ha : EE X W a ta da) (hb : EE X W b tb db) : EE X W (.IfExp t a b pos) (tIf tA ta tb) (dIf dA da db) := by
  refine ⟨pe_ifExp ht.pe ha.pe hb.pe, fun N ρ c F k σ H Q S p => ?_⟩
  refine ht.rd N ρ c F k σ H _ S (p.seq fun x c1 v F1 k1 H1 _ ok1 g1 r1 p1 => ?_)
  cases (show v = x from r1)
  cases x with
  | true => rw [if_pos rfl] at p1 ⊢; exact ha.rd N ρ c1 F1 k1 σ H1 _ (S.step ok1 g1) p1
  | false => rw [if_neg Bool.false_ne_true] at p1 ⊢; exact hb.rd N ρ c1 F1 k1 σ H1 _ (S.step ok1 g1) p1
variable {es : List Expr} {t : TA} {dd : DA}
theorem ea_nil : EA X W [] tNil dNil := ⟨pa_nil, fun N ρ c F k σ H Q S p => p [] F k H S.ok Ge.refl .nil⟩
theorem ea_cons (ha : EE X W a ta da) (hr : EA X W es t dd) (hs : starEach (a :: es) X.env = (false, eval a X.env) :: starEach es X.env := by rfl) : EA X W (a :: es) (tCons ta t) (dCons da dd) := by
  refine ⟨pa_cons ha.pe hr.pe hs, fun N ρ c F k σ H Q S p => ?_⟩
  refine ha.rd N ρ c F k σ H _ S (p.seq fun x c1 v F1 k1 H1 _ ok1 g1 r1 p1 => ?_)
  refine hr.rd N ρ c1 F1 k1 σ H1 _ (S.step ok1 g1) (p1.seq fun y c2 u F2 k2 H2 _ ok2 g2 r2 p2 => ?_)
  exact p2 _ F2 k2 H2 ok2 Ge.refl (.cons (r1.mono g2.f g2.pk) r2)
theorem ee_tup {x1} (h : EA X W es t dd) : EE X W (.Tuple es x1 pos) (tTupN t) (dTup dd) := by
  refine ⟨pe_tupN h.pe, fun N ρ c F k σ H Q S p => ?_⟩
  refine h.rd N ρ c F k σ H _ S (p.seq fun xs c1 vs F1 k1 H1 _ ok1 g1 r1 p1 => ?_)
  by_cases hl : xs.length ≤ 1000000
  · rw [if_pos hl] at p1
    exact ⟨by rw [← r1.length]; exact Nat.le_trans hl line1m, Gives.tup p1 ok1 r1⟩
  · rw [if_neg hl] at p1; exact p1.elim
theorem ef_lst (h : EA X W es t dd) : EF X W (.List es pos) (tLst t) (dLst dd) := by
  refine ⟨pe_lst h.pe, fun N ρ c F k σ H Q S p => ?_⟩
  refine h.rd N ρ c F k σ H _ S (p.seq0 fun xs c1 vs F1 k1 H1 _ ok1 g1 r1 p1 => ?_)
  by_cases hl : xs.length ≤ 1000000
  · rw [if_pos hl] at p1
    refine ⟨by rw [← r1.length]; exact Nat.le_trans hl line1m, GivesF.lst (fun b F3 k3 H3 ok3 g3 ⟨a, xs, e1, h1, h2, h3, h4, h5⟩ => p1 b F3 k3 H3 ok3 (g1.trans g3) ⟨a, xs, e1, h1, h2, h3, h4, g1.none_of h5⟩) ok1 r1⟩
  · rw [if_neg hl] at p1; exact p1.elim
/-- one argument, looked at here and now -/
theorem rdS_one {K : PySem.W.Frag} {mg : Str → Option Value} {N : Ent} {ρ : Env} {c : Cs} {F : Hp} {k : List Addr} {σ : L2.St} {H : Hp} {Q : List V → Hp → Prop} (h : te σ H fun x H1 => Q [x] H1) : tCons te tNil σ H Q := h
end
end Q
namespace Q
open PySem PySem.Spec PyProof.Rows L2
section
variable {K : PySem.W.Frag} {X : Cx} {W : XK}
def addT : T → T → Option T
  | .int i, .int j => some (.int (i + j))
  | .str x, .str y => if x.length + y.length ≤ 1000000 then some (.str (x ++ y)) else none
  | .tup ts, .tup us => if ts.length + us.length ≤ 1000000 then some (.tup (ts ++ us)) else none
  | _, _ => none
def rAddQ (K : PySem.W.Frag) : R2 := fun x y H Q => (∃ i j, x = .int i ∧ y = .int j ∧ Q (.int (i + j)) H) ∨ ((∃ i j, x = .str i ∧ y = .str j ∧ i.length + j.length ≤ sizeLine ∧ Q (.str (i ++ j)) H) ∨ rCatN K x y H Q)
theorem opr_add : OpR X (binaryOp .Add) (rAddQ X.K) := op_add.or (op_add_str.or op_catN)
theorem op2_add : Op2 K (rAddQ K) addT := fun x y t v u c F k H Q e ok rx ry g => by
  cases x <;> cases y <;> try (first | cases e)
  case int.int i j => exact .inl ⟨i, j, rx.int_of, ry.int_of, g.same ok (.int _)⟩
  case str.str i j =>
    simp only [addT] at e
    split at e
    · cases e; exact .inr (.inl ⟨i, j, rx.str_of, ry.str_of, Nat.le_trans ‹_› line1m, g.same ok (.str _)⟩)
    · cases e
  case tup.tup ts us =>
    simp only [addT] at e
    split at e
    · cases e
      obtain ⟨a, xs, rfl, a0, a1, a2⟩ := rx.tup_of ok
      obtain ⟨b, ys, rfl, b0, b1, b2⟩ := ry.tup_of ok
      refine .inr (.inr ⟨a, b, xs, ys, rfl, rfl, a1, b1, by rw [← a2.length, ← b2.length]; exact Nat.le_trans ‹_› line1m, fun z => ?_, fun _ z => ?_, fun _ _ => g.tup ok (a2.append b2)⟩)
      · subst z
        cases a2
        exact g.same ok (.tup b0 b2)
      · subst z
        cases b2
        rw [List.append_nil] at g
        exact g.same ok (.tup a0 a2)
    · cases e
def catT : T → T → Option (List T)
  | .lst ts, .lst us => if ts.length + us.length ≤ 1000000 then some (ts ++ us) else none
  | _, _ => none
theorem op2_cat : OpF2 K rCat catT := fun x y t v u c F k H Q e ok rx ry g => by
  cases x <;> cases y <;> try (first | cases e)
  case lst.lst ts us =>
    simp only [catT] at e
    split at e
    · cases e
      obtain ⟨a, xs, rfl, a1, a2, a3⟩ := rx
      obtain ⟨b, ys, rfl, b1, b2, b3⟩ := ry
      exact ⟨a, b, xs, ys, rfl, rfl, a1, b1, by rw [← a3.length, ← b3.length]; exact Nat.le_trans ‹_› line1m, g.lst ok (a3.append b3)⟩
    · cases e
def subT : T → T → Option T
  | .int i, .int j => some (.int (i - j))
  | _, _ => none
theorem op2_sub : Op2 K (rI0 fun i j => .int (i - j)) subT := fun x y t v u c F k H Q e ok rx ry g => by
  cases x <;> cases y <;> try (first | cases e)
  case int.int i j => exact ⟨i, j, rx.int_of, ry.int_of, g.same ok (.int _)⟩
def mulOk (i j : Int) : Bool := smallI i || smallI j
theorem mulOk.ok {i j : Int} (h : mulOk i j = true) : CMul i j := by
  unfold mulOk smallI at h
  simp only [Bool.or_eq_true, Bool.and_eq_true, decide_eq_true_eq] at h
  exact h
def mulT : T → T → Option T
  | .int i, .int j => if mulOk i j = true then some (.int (i * j)) else none
  | _, _ => none
theorem op2_mul : Op2 K (rI CMul fun i j => .int (i * j)) mulT := fun x y t v u c F k H Q e ok rx ry g => by
  cases x <;> cases y <;> try (first | cases e)
  case int.int i j =>
    simp only [mulT] at e
    split at e
    · cases e; exact ⟨i, j, rx.int_of, ry.int_of, mulOk.ok ‹_›, g.same ok (.int _)⟩
    · cases e
def divOk (j : Int) : Bool := decide (0 < j) && decide (j < 2 ^ 200)
theorem divOk.pos {j : Int} (h : divOk j = true) : 0 < j := by
  unfold divOk at h; rw [Bool.and_eq_true] at h; exact of_decide_eq_true h.1
theorem divOk.ok {i j : Int} (h : divOk j = true) : CDivW i j := by
  have hp := divOk.pos h
  unfold divOk at h
  rw [Bool.and_eq_true] at h
  have h2 : j < 2 ^ 200 := of_decide_eq_true h.2
  exact wide_div hp (b := 200) (by omega) (by decide) (by decide)
def divT : T → T → Option T
  | .int i, .int j => if divOk j = true then some (.int (i / j)) else none
  | _, _ => none
theorem op2_div : Op2 K (rI CDivW fun i j => .int (i / j)) divT := fun x y t v u c F k H Q e ok rx ry g => by
  cases x <;> cases y <;> try (first | cases e)
  case int.int i j =>
    simp only [divT] at e
    split at e
    · cases e; exact ⟨i, j, rx.int_of, ry.int_of, divOk.ok ‹_›, g.same ok (.int _)⟩
    · cases e
def modT : T → T → Option T
  | .int i, .int j => if 0 < j then some (.int (i % j)) else none
  | _, _ => none
theorem op2_mod : Op2 K (rI (fun _ j => 0 < j) fun i j => .int (i % j)) modT := fun x y t v u c F k H Q e ok rx ry g => by
  cases x <;> cases y <;> try (first | cases e)
  case int.int i j =>
    simp only [modT] at e
    split at e
    · cases e; exact ⟨i, j, rx.int_of, ry.int_of, ‹_›, g.same ok (.int _)⟩
    · cases e
def powT : T → T → Option T
  | .int i, .int j => if (decide (0 ≤ j) && decide (j ≤ 1000) && decide (i.natAbs < 2 ^ 64)) = true then some (.int (i ^ j.toNat)) else none
  | _, _ => none
theorem op2_pow : Op2 K (rI CPow fun i j => .int (i ^ j.toNat)) powT := fun x y t v u c F k H Q e ok rx ry g => by
  cases x <;> cases y <;> try (first | cases e)
  case int.int i j =>
    simp only [powT] at e
    split at e
    · rename_i hh
      simp only [Bool.and_eq_true, decide_eq_true_eq] at hh
      cases e; exact ⟨i, j, rx.int_of, ry.int_of, ⟨hh.1.1, by omega, hh.2⟩, g.same ok (.int _)⟩
    · cases e
def negT : T → Option T
  | .int i => some (.int (-i))
  | _ => none
theorem op1_neg : Op1 K (rU fun i => .int (-i)) negT := fun x t v c F k H Q e ok rx g => by
  cases x <;> try (first | cases e)
  case int i => exact ⟨i, rx.int_of, g.same ok (.int _)⟩
def cmpT (p : Int → Int → Bool) : T → T → Option T
  | .int i, .int j => some (.bl (p i j))
  | _, _ => none
theorem op2_cmp {p : Int → Int → Bool} : Op2 K (rI0 fun i j => .bl (p i j)) (cmpT p) := fun x y t v u c F k H Q e ok rx ry g => by
  cases x <;> cases y <;> try (first | cases e)
  case int.int i j => exact ⟨i, j, rx.int_of, ry.int_of, g.same ok (.bl _)⟩
theorem opc_cmp {p : Int → Int → Bool} : ∀ x y v u c F k H (Q : VK) b, cmpT p x y = some (.bl b) → Ok K F k c H → SeqR K F k H x v → SeqR K F k H y u → Q (.bl b) H → rI0 (fun i j => .bl (p i j)) v u H Q := fun x y v u c F k H Q b e ok rx ry q => by
  cases x <;> cases y <;> try (first | cases e)
  case int.int i j => exact ⟨i, j, rx.int_of, ry.int_of, q⟩
abbrev ltT := cmpT fun i j => decide (i < j)
abbrev leT := cmpT fun i j => decide (i ≤ j)
abbrev gtT := cmpT fun i j => decide (j < i)
abbrev geT := cmpT fun i j => decide (j ≤ i)
/-- == of plain data -/
def eqD (x y : T) : Bool := PyData.eqv (pyT x) (pyT y)
def eqT (x y : T) : Option T := if (plain x && plain y) = true then some (.bl (eqD x y)) else none
def neT (x y : T) : Option T := if (plain x && plain y) = true then some (.bl (!eqD x y)) else none
theorem op2_eq : Op2 K (rEqD K) eqT := fun x y t v u c F k H Q e ok rx ry g => by
  unfold eqT at e
  split at e
  · rename_i hh
    rw [Bool.and_eq_true] at hh
    cases e
    exact ⟨pyT x, pyT y, rx.dp ok hh.1, ry.dp ok hh.2, plain_shaped hh.1, plain_shaped hh.2, g.same ok (.bl _)⟩
  · cases e
theorem op2_ne : Op2 K (rNeD K) neT := fun x y t v u c F k H Q e ok rx ry g => by
  unfold neT at e
  split at e
  · rename_i hh
    rw [Bool.and_eq_true] at hh
    cases e
    exact ⟨pyT x, pyT y, rx.dp ok hh.1, ry.dp ok hh.2, plain_shaped hh.1, plain_shaped hh.2, g.same ok (.bl _)⟩
  · cases e
def isNon : T → Bool
  | .non => true
  | _ => false
def isT (x y : T) : Option T := if isNon y = true then some (.bl (isNon x)) else none
def notT (x y : T) : Option T := if isNon y = true then some (.bl (!isNon x)) else none
theorem SeqR.isN {F H : Hp} {k : List Addr} {t : T} {v : V} (h : SeqR K F k H t v) : decide (v = .non) = isNon t := by
  rw [h.non_iff]; cases t <;> rfl
theorem op2_is : Op2 K (fun x y H Q => y = .non ∧ Q (.bl (decide (x = .non))) H) isT := fun x y t v u c F k H Q e ok rx ry g => by
  unfold isT at e
  split at e
  · cases e
    refine ⟨of_decide_eq_true (by rw [ry.isN]; assumption), ?_⟩
    rw [rx.isN]; exact g.same ok (.bl _)
  · cases e
theorem op2_notIs : Op2 K (fun x y H Q => y = .non ∧ Q (.bl (!decide (x = .non))) H) notT := fun x y t v u c F k H Q e ok rx ry g => by
  unfold notT at e
  split at e
  · cases e
    refine ⟨of_decide_eq_true (by rw [ry.isN]; assumption), ?_⟩
    rw [rx.isN]; exact g.same ok (.bl _)
  · cases e
def flatT : T → Bool
  | .non => true
  | .bl _ => true
  | .int _ => true
  | .str _ => true
  | _ => false
def inD (x : T) (ys : List T) : Bool := ys.any fun y => eqD y x
theorem flat_rep {F : Hp} {k : List Addr} {t : T} {v : V} (f : flatT t = true) (h : Rep K F k t v) : flatV v = true ∧ ∀ {t' : T} {v' : V}, flatT t' = true → Rep K F k t' v' → eqV v' v = eqD t' t := by
  cases t <;> first | (cases f; done) | skip
  all_goals (cases h; refine ⟨rfl, fun {t' v'} f' h' => ?_⟩; cases t' <;> first | (cases f'; done) | (cases h'; rfl) | (cases h'; simp [eqV, eqD, pyT, PyData.eqv]))
theorem flat_reps {F : Hp} {k : List Addr} {t : T} {v : V} (f : flatT t = true) (h : Rep K F k t v) : ∀ {us : List T} {ys : List V}, us.all flatT = true → Reps K F k us ys → ys.all flatV = true ∧ inV v ys = inD t us
  | [], _, _, r => by cases r; exact ⟨rfl, rfl⟩
  | u :: us, _, g, r => by cases r with
    | cons a b =>
      rw [List.all_cons, Bool.and_eq_true] at g
      have q := flat_reps f h g.2 b
      refine ⟨by rw [List.all_cons, (flat_rep g.1 a).1, q.1]; rfl, ?_⟩
      unfold inV inD at q ⊢
      rw [List.any_cons, List.any_cons, (flat_rep f h).2 g.1 a, q.2]
theorem seq_flat {F H : Hp} {k : List Addr} {t : T} {v : V} (f : flatT t = true) (h : SeqR K F k H t v) : Rep K F k t v := by
  cases t <;> first | (cases f; done) | exact h
/-- x in ys: flat things in a tuple (or what the text has), any data in a list -/
def inB (x y : T) : Option Bool := match y with
  | .tup us => if (flatT x && us.all flatT) = true then some (inD x us) else none
  | .lst us => if (plain x && plain (.lst us)) = true then some (inD x us) else none
  | _ => none
def inT (x y : T) : Option T := (inB x y).map T.bl
def ninT (x y : T) : Option T := (inB x y).map fun b => T.bl (!b)
def rInQ (K : PySem.W.Frag) : R2 := fun x y H Q => rInD K x y H Q ∨ rIn K false x y H Q
def rNinQ (K : PySem.W.Frag) : R2 := fun x y H Q => rNotInD K x y H Q ∨ rIn K true x y H Q
theorem in_any (x : T) (us : List T) : ((pyTs us).any fun z => PyData.eqv z (pyT x)) = inD x us := by
  rw [pyTs_map, List.any_map]; rfl
theorem op2_in : Op2 K (rInQ K) inT := fun x y t v u c F k H Q e ok rx ry g => by
  unfold inT inB at e
  cases y <;> try (cases e; done)
  case tup us =>
    simp only at e
    split at e
    · rename_i hh
      rw [Bool.and_eq_true] at hh
      cases e
      obtain ⟨b, ys, rfl, b0, b1, b2⟩ := ry.tup_of ok
      have q := flat_reps hh.1 (seq_flat hh.1 rx) hh.2 b2
      refine .inr ⟨b, ys, rfl, .inr b1, (flat_rep hh.1 (seq_flat hh.1 rx)).1, q.1, ?_⟩
      rw [if_neg Bool.false_ne_true, q.2]; exact g.same ok (.bl _)
    · cases e
  case lst us =>
    simp only at e
    split at e
    · rename_i hh
      rw [Bool.and_eq_true] at hh
      cases e
      refine .inl ⟨pyT x, pyTs us, rx.dp ok hh.1, ry.dp ok hh.2, plain_shaped hh.1, plain_shaped (t := .lst us) hh.2, ?_⟩
      rw [in_any]; exact g.same ok (.bl _)
    · cases e
theorem op2_nin : Op2 K (rNinQ K) ninT := fun x y t v u c F k H Q e ok rx ry g => by
  unfold ninT inB at e
  cases y <;> try (cases e; done)
  case tup us =>
    simp only at e
    split at e
    · rename_i hh
      rw [Bool.and_eq_true] at hh
      cases e
      obtain ⟨b, ys, rfl, b0, b1, b2⟩ := ry.tup_of ok
      have q := flat_reps hh.1 (seq_flat hh.1 rx) hh.2 b2
      refine .inr ⟨b, ys, rfl, .inr b1, (flat_rep hh.1 (seq_flat hh.1 rx)).1, q.1, ?_⟩
      rw [if_pos rfl, q.2]; exact g.same ok (.bl _)
    · cases e
  case lst us =>
    simp only at e
    split at e
    · rename_i hh
      rw [Bool.and_eq_true] at hh
      cases e
      refine .inl ⟨pyT x, pyTs us, rx.dp ok hh.1, ry.dp ok hh.2, plain_shaped hh.1, plain_shaped (t := .lst us) hh.2, ?_⟩
      rw [in_any]; exact g.same ok (.bl _)
    · cases e
theorem opr_in (hu : X.A.units + 65 < cLine) : OpR X (compareOp .In) (rInQ X.K) := (op_inD hu).or op_in_seq
theorem opr_nin (hu : X.A.units + 65 < cLine) : OpR X (compareOp .NotIn) (rNinQ X.K) := (op_notInD hu).or op_notIn_seq
def ixT (c : Cs) : T → T → Option T
  | .tup ts, .int i => atI ts i
  | .lst ts, .int i => atI ts i
  | .scr ts, .int i => atI ts i
  | .cel n, .int i => (c[n]?).bind fun ts => (noDt ts).bind fun ts => atI ts i
  | _, _ => none
theorem atI_reps {F : Hp} {k : List Addr} {ts : List T} {xs : List V} {i : Int} {t : T} (r : Reps K F k ts xs) (h : atI ts i = some t) : ∃ v, atI xs i = some v ∧ Rep K F k t v := by
  unfold atI at h ⊢
  rw [← r.length]
  cases e : ixN ts.length i with
  | none => rw [e] at h; cases h
  | some j =>
    rw [e] at h
    obtain ⟨v, h1, h2⟩ := r.get (i := j) h
    exact ⟨v, h1, h2⟩
def rIxQ (K : PySem.W.Frag) : R2 := fun x y H Q => rIxL K x y H Q ∨ rIxT K x y H Q
theorem ixr_q : IxR X (rIxQ X.K) := ix_list.or ix_tup
def dIx (a b : D) : D := fun r c => (a r c).bind fun x c => (b r c).bind fun y c => lift (ixT c x y) c
theorem rd_ix {mg : Str → Option Value} {ta tb : TE} {da db : D} (ha : RdS K mg W ta da) (hb : RdS K mg W tb db) : Rd K mg W (tOp (rIxQ K) ta tb) (dIx da db) := fun N ρ c F k σ H Q S p => by
  refine ha N ρ c F k σ H _ S (p.seq fun x c1 v F1 k1 H1 q1 ok1 g1 r1 p1 => ?_)
  have S1 := S.step ok1 g1
  refine hb N ρ c1 F1 k1 σ H1 _ S1 (p1.seq fun y c2 u F2 k2 H2 q2 ok2 g2 r2 p2 => ?_)
  replace r1 := r1.step g2
  cases e : ixT c2 x y with
  | none => rw [e] at p2; exact p2.elim
  | some t =>
    rw [e] at p2
    clear q1 q2
    cases x <;> cases y <;> try (cases e; done)
    case tup.int ts i =>
      obtain ⟨a, xs, rfl, a0, a1, a2⟩ := r1.tup_of ok2
      obtain ⟨w, h1, h2⟩ := atI_reps a2 e
      exact .inr ⟨a, xs, i, w, rfl, r2.int_of, a1, h1, p2 w F2 k2 H2 ok2 Ge.refl h2⟩
    case lst.int ts i =>
      obtain ⟨a, xs, rfl, a1, a2, a3⟩ := r1
      obtain ⟨w, h1, h2⟩ := atI_reps a3 e
      exact .inl ⟨a, xs, i, w, rfl, r2.int_of, SqL.of a1, h1, p2 w F2 k2 H2 ok2 Ge.refl h2⟩
    case scr.int ts i =>
      obtain ⟨a, xs, rfl, a1, a2⟩ := r1.scr_of ok2
      obtain ⟨w, h1, h2⟩ := atI_reps a2 e
      exact .inl ⟨a, xs, i, w, rfl, r2.int_of, a1, h1, p2 w F2 k2 H2 ok2 Ge.refl h2⟩
    case cel.int n i =>
      cases r1 with
      | cel hn =>
        rename_i a
        obtain ⟨ts, h1, hc, h4⟩ := ok2.cel n a hn
        have e' : (noDt ts).bind (fun us => atI us i) = some t := by
          have q : ixT c2 (.cel n) (.int i) = (c2[n]?).bind fun ts => (noDt ts).bind fun ts => atI ts i := rfl
          rw [q, h1] at e
          exact e
        clear e
        cases hu : noDt ts with
        | none => rw [hu] at e'; cases e'
        | some us =>
        rw [hu] at e'
        have e : atI us i = some t := e'
        obtain ⟨rfl, hu2⟩ := noDt_eq hu
        obtain ⟨xs, h2, h3⟩ := hc.lst hu2
        obtain ⟨w, g1, g2⟩ := atI_reps h3 e
        exact .inl ⟨a, xs, i, w, rfl, r2.int_of, SqL.of h2, g1, p2 w F2 k2 H2 ok2 Ge.refl g2⟩
theorem ee_ix {a b : Expr} {ta tb : TE} {da db : D} {pos : Pos} (ha : ES X W a ta da) (hb : ES X W b tb db) (hs : PlainIx b := by exact fun _ _ => rfl) : EE X W (.Subscript a b pos) (tOp (rIxQ X.K) ta tb) (dIx da db) :=
  ⟨pe_ix ixr_q ha.pe hb.pe hs, rd_ix ha.rd hb.rd⟩
def cutT (ts : List T) (lo hi : Option Int) : List T := (ts.drop (HT.sIx ts.length 0 lo)).take (HT.sIx ts.length ts.length hi - HT.sIx ts.length 0 lo)
theorem cut_reps {F : Hp} {k : List Addr} {ts : List T} {xs : List V} (lo hi : Option Int) (r : Reps K F k ts xs) : Reps K F k (cutT ts lo hi) (cutV xs lo hi) := by
  unfold cutT cutV
  rw [← r.length]
  exact (r.drop _).take _
/-- a part of a slice: left out, or an int -/
abbrev DO := Env → Cs → Out (Option Int)
def dNo : DO := fun _ c => .ok none c
def dPart (a : D) : DO := fun r c => (a r c).bind fun x c => match x with
  | .int i => .ok (some i) c
  | _ => .stk
abbrev RO : RR (Option Int) (Option Int) := fun b _ _ _ b' => b' = b
def RdO (K : PySem.W.Frag) (mg : Str → Option Value) (W : XK) (te : TO) (d : DO) : Prop :=
  ∀ N r c F k σ H Q, SR K N F k c r σ H → Post K mg RO F k H (d r c) Q W → te σ H Q
structure EO (X : Cx) (W : XK) (e : Option Expr) (te : TO) (d : DO) : Prop where
  pe : PO X e te
  rd : RdO X.K X.mg W te d
theorem eo_no : EO X W none tNoPart dNo := ⟨po_none, fun N ρ c F k σ H Q S p => p none F k H S.ok Ge.refl rfl⟩
theorem eo_some {e : Expr} {te : TE} {d : D} (h : EE X W e te d) : EO X W (some e) (tPart te) (dPart d) := by
  refine ⟨po_some h.pe, fun N ρ c F k σ H Q S p => h.rd N ρ c F k σ H _ S (p.seq fun x c1 v F1 k1 H1 q1 ok1 g1 r1 p1 => ?_)⟩
  clear q1
  cases x <;> try (exact p1.elim)
  case int i => cases r1; exact ⟨i, rfl, p1 _ F1 k1 H1 ok1 Ge.refl rfl⟩
/-- of a tuple: a tuple -/
def dSlT (a : D) (l h : DO) : D := fun r c => (a r c).bind fun x c => (l r c).bind fun lo c => (h r c).bind fun hi c => match x with
  | .tup ts => .ok (.tup (cutT ts lo hi)) c
  | _ => .stk
/-- of a list: a new list -/
def dSlL (a : D) (l h : DO) : DA := fun r c => (a r c).bind fun x c => (l r c).bind fun lo c => (h r c).bind fun hi c => match x with
  | .lst ts => .ok (cutT ts lo hi) c
  | .scr ts => .ok (cutT ts lo hi) c
  | _ => .stk
theorem cut_whole {α : Type} (ts : List α) (lo hi : Option Int) (h : HT.sIx ts.length 0 lo = 0 ∧ HT.sIx ts.length ts.length hi = ts.length) : (ts.drop (HT.sIx ts.length 0 lo)).take (HT.sIx ts.length ts.length hi - HT.sIx ts.length 0 lo) = ts := by
  rw [h.1, h.2]; simp
theorem ee_slT {e : Expr} {te : TE} {d : D} {lo hi : Option Expr} {tl th : TO} {dl dh : DO} {pos p2 : Pos} (he : ES X W e te d) (hl : EO X W lo tl dl) (hh : EO X W hi th dh) :
    EE X W (.Subscript e (.Slice lo hi none p2) pos) (tSl (rSlN X.K) te tl th) (dSlT d dl dh) := by
  refine ⟨pe_slice sl_tupN he.pe hl.pe hh.pe, fun N ρ c F k σ H Q S p => ?_⟩
  refine he.rd N ρ c F k σ H _ S (p.seq fun x c1 v F1 k1 H1 q1 ok1 g1 r1 p1 => ?_)
  have S1 := S.step ok1 g1
  refine hl.rd N ρ c1 F1 k1 σ H1 _ S1 (p1.seq fun lo c2 lo' F2 k2 H2 q2 ok2 g2 r2 p2 => ?_)
  cases (show lo' = lo from r2)
  have S2 := S1.step ok2 g2
  refine hh.rd N ρ c2 F2 k2 σ H2 _ S2 (p2.seq fun hi c3 hi' F3 k3 H3 q3 ok3 g3 r3 p3 => ?_)
  cases (show hi' = hi from r3)
  replace r1 := (r1.step g2).step g3
  clear q1 q2 q3
  cases x <;> try (exact p3.elim)
  case tup ts =>
    obtain ⟨a, xs, rfl, a0, a1, a2⟩ := r1.tup_of ok3
    have g : Gives X.K F3 k3 c3 H3 (.tup (cutT ts lo hi)) Q := p3
    refine ⟨a, xs, rfl, a1, fun z => ?_, fun z => g.tup ok3 (cut_reps lo hi a2)⟩
    have e : cutT ts lo hi = ts := cut_whole ts lo hi (by rw [a2.length]; exact z)
    rw [e] at g
    exact g.same ok3 (.tup a0 a2)
theorem ef_slL {e : Expr} {te : TE} {d : D} {lo hi : Option Expr} {tl th : TO} {dl dh : DO} {pos p2 : Pos} (he : ES X W e te d) (hl : EO X W lo tl dl) (hh : EO X W hi th dh) :
    EF X W (.Subscript e (.Slice lo hi none p2) pos) (tSl (rSlL X.K) te tl th) (dSlL d dl dh) := by
  refine ⟨pe_slice sl_list he.pe hl.pe hh.pe, fun N ρ c F k σ H Q S p => ?_⟩
  refine he.rd N ρ c F k σ H _ S (p.seq0 fun x c1 v F1 k1 H1 q1 ok1 g1 r1 p1 => ?_)
  have S1 := S.step ok1 g1
  refine hl.rd N ρ c1 F1 k1 σ H1 _ S1 ((p1.ge g1).seq0 fun lo c2 lo' F2 k2 H2 q2 ok2 g2 r2 p2 => ?_)
  cases (show lo' = lo from r2)
  have S2 := S1.step ok2 g2
  refine hh.rd N ρ c2 F2 k2 σ H2 _ S2 ((p2.ge g2).seq0 fun hi c3 hi' F3 k3 H3 q3 ok3 g3 r3 p3 => ?_)
  cases (show hi' = hi from r3)
  replace r1 := (r1.step g2).step g3
  have gg := (g1.trans g2).trans g3
  have fin : ∀ {us : List T} {ys : List V}, Post X.K X.mg (RF X.K H) F2 k2 H2 (.ok us c3) Q W → Reps X.K F3 k3 us ys → ∀ p, H3 p = none → Q (.ref p) (upd H3 p (.lst ys)) := fun {us ys} p3 r =>
    GivesF.lst (fun b F4 k4 H4 ok4 g4 ⟨a, xs, e1, h1, h2, h3, h4, h5⟩ => p3 b F4 k4 H4 ok4 (g3.trans g4) ⟨a, xs, e1, h1, h2, h3, h4, gg.none_of h5⟩) ok3 r
  clear q1 q2 q3
  cases x <;> try (exact p3.elim)
  case lst ts =>
    obtain ⟨a, xs, rfl, a1, a2, a3⟩ := r1
    exact ⟨a, xs, rfl, SqL.of a1, fin p3 (cut_reps lo hi a3)⟩
  case scr ts =>
    obtain ⟨a, xs, rfl, a1, a2⟩ := r1.scr_of ok3
    exact ⟨a, xs, rfl, a1, fin p3 (cut_reps lo hi a2)⟩
end
end Q
namespace Q
open PySem PySem.Spec PyProof.Rows L2
section
variable {K : PySem.W.Frag} {mg : Str → Option Value} {X : Cx} {W : XK} {e e2 : Expr} {te te2 : TE} {d d' : D} {x : Str} {p pos : Pos} {bid Ty : String} {r : List V → Hp → VK → Prop}
theorem rd_call1 {f : T → Option T} (h : Op1 K (fun x H Q => r [x] H Q) f) (ha : RdS K mg W te d) : Rd K mg W (tCB r (tCons te tNil)) (d1 f d) := rd_op1 (r := fun x H Q => r [x] H Q) h ha
theorem rd_callF1 {f : T → Option (List T)} (h : OpF1 K (fun x H Q => r [x] H Q) f) (ha : RdS K mg W te d) : RdF K mg W (tCB r (tCons te tNil)) (dF1 f d) := rd_opF1 (r := fun x H Q => r [x] H Q) h ha
theorem rd_call2 {f : T → T → Option T} (h : Op2 K (fun x y H Q => r [x, y] H Q) f) (ha : RdS K mg W te d) (hb : RdS K mg W te2 d') : Rd K mg W (tCB r (tCons te (tCons te2 tNil))) (d2 f d d') := rd_op2 (r := fun x y H Q => r [x, y] H Q) h ha hb
theorem ee_call1 {f : T → Option T} (hc : CallR X (.builtin bid) r) (h : Op1 X.K (fun x H Q => r [x] H Q) f) (hm : X.mg x = none) (hv : bootBuiltins x = some (.builtin bid)) (ha : ES X W e te d) (hg : Gl X x := by rfl) (hn : x ≠ "__name__" := by decide) (hdb : (x == ("__debug__" : Str)) = false := by decide)
    (he : starEach [e] X.env = (false, eval e X.env) :: starEach [] X.env := by rfl) (hpl : (backTo pos (starEach [] X.env)).any (·.1) = false := by rfl) : EE X W (.Call (.Name x p) [e] [] pos) (tCB r (tCons te tNil)) (d1 f d) :=
  ⟨pe_callB hc hg hm hv (pa_cons ha.pe pa_nil he) hn hdb he hpl, rd_call1 h ha.rd⟩
theorem ef_call1 {f : T → Option (List T)} (hc : CallR X (.builtin bid) r) (h : OpF1 X.K (fun x H Q => r [x] H Q) f) (hm : X.mg x = none) (hv : bootBuiltins x = some (.builtin bid)) (ha : ES X W e te d) (hg : Gl X x := by rfl) (hn : x ≠ "__name__" := by decide) (hdb : (x == ("__debug__" : Str)) = false := by decide)
    (he : starEach [e] X.env = (false, eval e X.env) :: starEach [] X.env := by rfl) (hpl : (backTo pos (starEach [] X.env)).any (·.1) = false := by rfl) : EF X W (.Call (.Name x p) [e] [] pos) (tCB r (tCons te tNil)) (dF1 f d) :=
  ⟨pe_callB hc hg hm hv (pa_cons ha.pe pa_nil he) hn hdb he hpl, rd_callF1 h ha.rd⟩
theorem ee_ty1 {f : T → Option T} (hc : CallR X (.type Ty) r) (h : Op1 X.K (fun x H Q => r [x] H Q) f) (hm : X.mg x = none) (hv : bootBuiltins x = some (.type Ty)) (ha : ES X W e te d) (hg : Gl X x := by rfl) (hn : x ≠ "__name__" := by decide) (hdb : (x == ("__debug__" : Str)) = false := by decide)
    (he : starEach [e] X.env = (false, eval e X.env) :: starEach [] X.env := by rfl) (hpl : (backTo pos (starEach [] X.env)).any (·.1) = false := by rfl) : EE X W (.Call (.Name x p) [e] [] pos) (tCB r (tCons te tNil)) (d1 f d) :=
  ⟨pe_callTy hc hg hm hv (pa_cons ha.pe pa_nil he) hn hdb he hpl, rd_call1 h ha.rd⟩
theorem ef_ty1 {f : T → Option (List T)} (hc : CallR X (.type Ty) r) (h : OpF1 X.K (fun x H Q => r [x] H Q) f) (hm : X.mg x = none) (hv : bootBuiltins x = some (.type Ty)) (ha : ES X W e te d) (hg : Gl X x := by rfl) (hn : x ≠ "__name__" := by decide) (hdb : (x == ("__debug__" : Str)) = false := by decide)
    (he : starEach [e] X.env = (false, eval e X.env) :: starEach [] X.env := by rfl) (hpl : (backTo pos (starEach [] X.env)).any (·.1) = false := by rfl) : EF X W (.Call (.Name x p) [e] [] pos) (tCB r (tCons te tNil)) (dF1 f d) :=
  ⟨pe_callTy hc hg hm hv (pa_cons ha.pe pa_nil he) hn hdb he hpl, rd_callF1 h ha.rd⟩
theorem ee_call2 {f : T → T → Option T} (hc : CallR X (.builtin bid) r) (h : Op2 X.K (fun x y H Q => r [x, y] H Q) f) (hm : X.mg x = none) (hv : bootBuiltins x = some (.builtin bid)) (ha : ES X W e te d) (hb : ES X W e2 te2 d') (hg : Gl X x := by rfl) (hn : x ≠ "__name__" := by decide) (hdb : (x == ("__debug__" : Str)) = false := by decide)
    (he : starEach [e, e2] X.env = (false, eval e X.env) :: starEach [e2] X.env := by rfl) (he2 : starEach [e2] X.env = (false, eval e2 X.env) :: starEach [] X.env := by rfl) (hpl : (backTo pos (starEach [e2] X.env)).any (·.1) = false := by rfl) :
    EE X W (.Call (.Name x p) [e, e2] [] pos) (tCB r (tCons te (tCons te2 tNil))) (d2 f d d') :=
  ⟨pe_callB hc hg hm hv (pa_cons ha.pe (pa_cons hb.pe pa_nil he2) he) hn hdb he hpl, rd_call2 h ha.rd hb.rd⟩
def lenT : T → Option T
  | .tup ts => some (.int ts.length)
  | .lst ts => some (.int ts.length)
  | .scr ts => some (.int ts.length)
  | .str z => if z.length ≤ 1000000 then some (.int z.length) else none
  | _ => none
def rLenQ (K : PySem.W.Frag) : List V → Hp → VK → Prop := fun xs H Q => (∃ p ys, xs = [.ref p] ∧ (SqL K H p ys ∨ SqT K H p ys) ∧ Q (.int ys.length) H) ∨ (∃ z, xs = [.str z] ∧ z.length ≤ sizeLine ∧ Q (.int z.length) H)
theorem cr_len : CallR X (.builtin "len") (rLenQ X.K) := call_len_seq.or call_len_str
theorem op1_len : Op1 K (fun x H Q => rLenQ K [x] H Q) lenT := fun x t v c F k H Q e ok rx g => by
  cases x <;> try (first | (cases e; done))
  case tup ts =>
    cases e
    obtain ⟨a, xs, rfl, a0, a1, a2⟩ := rx.tup_of ok
    refine .inl ⟨a, xs, rfl, .inr a1, ?_⟩
    rw [← a2.length]; exact g.same ok (.int _)
  case lst ts =>
    cases e
    obtain ⟨a, xs, rfl, a1, a2, a3⟩ := rx
    refine .inl ⟨a, xs, rfl, .inl (SqL.of a1), ?_⟩
    rw [← a3.length]; exact g.same ok (.int _)
  case scr ts =>
    cases e
    obtain ⟨a, xs, rfl, a1, a2⟩ := rx.scr_of ok
    refine .inl ⟨a, xs, rfl, .inl a1, ?_⟩
    rw [← a2.length]; exact g.same ok (.int _)
  case str z =>
    simp only [lenT] at e
    split at e
    · cases e; exact .inr ⟨z, by rw [rx.str_of], Nat.le_trans ‹_› line1m, g.same ok (.int _)⟩
    · cases e
theorem ee_len (hm : X.mg "len" = none) (ha : ES X W e te d) (hg : Gl X "len" := by rfl) (he : starEach [e] X.env = (false, eval e X.env) :: starEach [] X.env := by rfl) (hpl : (backTo pos (starEach [] X.env)).any (·.1) = false := by rfl) :
    EE X W (.Call (.Name "len" p) [e] [] pos) (tCB (rLenQ X.K) (tCons te tNil)) (d1 lenT d) := ee_call1 cr_len op1_len hm boot_len ha hg (by decide) (by decide) he hpl
def maxT : T → T → Option T
  | .int i, .int j => some (.int (if j > i then j else i))
  | _, _ => none
def minT : T → T → Option T
  | .int i, .int j => some (.int (if j < i then j else i))
  | _, _ => none
theorem op2_max : Op2 K (fun x y H Q => ∃ i j, [x, y] = [V.int i, V.int j] ∧ Q (.int (if j > i then j else i)) H) maxT := fun x y t v u c F k H Q e ok rx ry g => by
  cases x <;> cases y <;> try (first | (cases e; done))
  case int.int i j => cases e; exact ⟨i, j, by rw [rx.int_of, ry.int_of], g.same ok (.int _)⟩
theorem op2_min : Op2 K (fun x y H Q => ∃ i j, [x, y] = [V.int i, V.int j] ∧ Q (.int (if j < i then j else i)) H) minT := fun x y t v u c F k H Q e ok rx ry g => by
  cases x <;> cases y <;> try (first | (cases e; done))
  case int.int i j => cases e; exact ⟨i, j, by rw [rx.int_of, ry.int_of], g.same ok (.int _)⟩
def intT : T → Option T
  | .int i => some (.int i)
  | .bl b => some (.int (if b then 1 else 0))
  | _ => none
theorem op1_int : Op1 K (fun x H Q => (∃ i, [x] = [V.int i] ∧ Q (.int i) H) ∨ ∃ k, [x] = [V.bl k] ∧ Q (.int (if k then 1 else 0)) H) intT := fun x t v c F k H Q e ok rx g => by
  cases x <;> try (first | (cases e; done))
  case int i => cases e; exact .inl ⟨i, by rw [rx.int_of], g.same ok (.int _)⟩
  case bl i => cases e; exact .inr ⟨i, by rw [rx.bl_of], g.same ok (.int _)⟩
def divmodT : T → T → Option T
  | .int i, .int j => if divOk j = true then some (.tup [.int (i / j), .int (i % j)]) else none
  | _, _ => none
theorem op2_divmod : Op2 K (fun x y H Q => ∃ i j, [x, y] = [V.int i, V.int j] ∧ CDivP i j ∧ NewT H [.int (i / j), .int (i % j)] Q) divmodT := fun x y t v u c F k H Q e ok rx ry g => by
  cases x <;> cases y <;> try (first | (cases e; done))
  case int.int i j =>
    simp only [divmodT] at e
    split at e
    · rename_i hh
      cases e
      exact ⟨i, j, by rw [rx.int_of, ry.int_of], ⟨divOk.pos hh, PyProof.noPylong_of_log2 (divOk.ok (i := 0) hh).2⟩, g.tup ok (.cons (.int _) (.cons (.int _) .nil))⟩
    · cases e
def intsOf : List T → Option (List Int)
  | [] => some []
  | .int i :: ts => (intsOf ts).map (i :: ·)
  | _ => none
theorem intsOf_map (ns : List Int) : intsOf (ns.map T.int) = some ns := by
  induction ns with
  | nil => rfl
  | cons n ns ih => rw [List.map_cons, intsOf, ih]; rfl
theorem intsOf_eq : ∀ {ts : List T} {ns : List Int}, intsOf ts = some ns → ts = ns.map T.int
  | [], _, h => by cases h; rfl
  | .int i :: ts, _, h => by
    rw [intsOf] at h
    cases e : intsOf ts with
    | none => rw [e] at h; cases h
    | some ms => rw [e] at h; cases h; rw [intsOf_eq e]; rfl
  | .non :: _, _, h => by cases h
  | .bl _ :: _, _, h => by cases h
  | .str _ :: _, _, h => by cases h
  | .tup _ :: _, _, h => by cases h
  | .lst _ :: _, _, h => by cases h
  | .scr _ :: _, _, h => by cases h
  | .dct _ _ :: _, _, h => by cases h
  | .cel _ :: _, _, h => by cases h
  | .adr _ :: _, _, h => by cases h
  | .glo _ :: _, _, h => by cases h
  | .exo _ _ _ _ :: _, _, h => by cases h
  | .dtu _ _ :: _, _, h => by cases h
theorem Reps.ints {F : Hp} {k : List Addr} : ∀ {ns : List Int} {xs : List V}, Reps K F k (ns.map T.int) xs → xs = ns.map V.int
  | [], _, h => by cases h; rfl
  | n :: ns, _, h => by
    cases h with
    | cons a b => cases a; rw [Reps.ints b]; rfl
theorem reps_ints {F : Hp} {k : List Addr} : ∀ (ns : List Int), Reps K F k (ns.map T.int) (ns.map V.int)
  | [] => .nil
  | n :: ns => .cons (.int n) (reps_ints ns)
def blsOf : List T → Option (List Bool)
  | [] => some []
  | .bl i :: ts => (blsOf ts).map (i :: ·)
  | _ => none
theorem blsOf_map (ns : List Bool) : blsOf (ns.map T.bl) = some ns := by
  induction ns with
  | nil => rfl
  | cons n ns ih => rw [List.map_cons, blsOf, ih]; rfl
theorem blsOf_eq : ∀ {ts : List T} {ns : List Bool}, blsOf ts = some ns → ts = ns.map T.bl
  | [], _, h => by cases h; rfl
  | .bl i :: ts, _, h => by
    rw [blsOf] at h
    cases e : blsOf ts with
    | none => rw [e] at h; cases h
    | some ms => rw [e] at h; cases h; rw [blsOf_eq e]; rfl
  | .non :: _, _, h => by cases h
  | .int _ :: _, _, h => by cases h
  | .str _ :: _, _, h => by cases h
  | .tup _ :: _, _, h => by cases h
  | .lst _ :: _, _, h => by cases h
  | .scr _ :: _, _, h => by cases h
  | .dct _ _ :: _, _, h => by cases h
  | .cel _ :: _, _, h => by cases h
  | .adr _ :: _, _, h => by cases h
  | .glo _ :: _, _, h => by cases h
  | .exo _ _ _ _ :: _, _, h => by cases h
  | .dtu _ _ :: _, _, h => by cases h
theorem Reps.bls {F : Hp} {k : List Addr} : ∀ {ns : List Bool} {xs : List V}, Reps K F k (ns.map T.bl) xs → xs = ns.map V.bl
  | [], _, h => by cases h; rfl
  | n :: ns, _, h => by
    cases h with
    | cons a b => cases a; rw [Reps.bls b]; rfl
def allT : T → Option T
  | .lst ts => (blsOf ts).map fun bs => .bl (bs.all id)
  | _ => none
def anyT : T → Option T
  | .lst ts => (blsOf ts).map fun bs => .bl (bs.any id)
  | _ => none
theorem op1_all : Op1 K (fun x H Q => rAll K [x] H Q) allT := fun x t v c F k H Q e ok rx g => by
  cases x <;> try (first | (cases e; done))
  case lst ts =>
    simp only [allT] at e
    cases e1 : blsOf ts with
    | none => rw [e1] at e; cases e
    | some bs =>
      rw [e1] at e; cases e
      obtain ⟨a, xs, rfl, a1, a2, a3⟩ := rx
      rw [blsOf_eq e1] at a3
      have ex := a3.bls
      subst ex
      exact ⟨a, bs, rfl, SqL.of a1, g.same ok (.bl _)⟩
theorem op1_any : Op1 K (fun x H Q => rAny K [x] H Q) anyT := fun x t v c F k H Q e ok rx g => by
  cases x <;> try (first | (cases e; done))
  case lst ts =>
    simp only [anyT] at e
    cases e1 : blsOf ts with
    | none => rw [e1] at e; cases e
    | some bs =>
      rw [e1] at e; cases e
      obtain ⟨a, xs, rfl, a1, a2, a3⟩ := rx
      rw [blsOf_eq e1] at a3
      have ex := a3.bls
      subst ex
      exact ⟨a, bs, rfl, SqL.of a1, g.same ok (.bl _)⟩
def sumT : T → Option T
  | .lst ts => (intsOf ts).map fun ns => .int ns.sum
  | _ => none
theorem op1_sum : Op1 K (fun x H Q => rSum K [x] H Q) sumT := fun x t v c F k H Q e ok rx g => by
  cases x <;> try (first | (cases e; done))
  case lst ts =>
    simp only [sumT] at e
    cases e1 : intsOf ts with
    | none => rw [e1] at e; cases e
    | some bs =>
      rw [e1] at e; cases e
      obtain ⟨a, xs, rfl, a1, a2, a3⟩ := rx
      rw [intsOf_eq e1] at a3
      have ex := a3.ints
      subst ex
      exact ⟨a, bs, rfl, SqL.of a1, g.same ok (.int _)⟩
/-- the greatest, the least of a list that isn't empty -/
def maxOf : List Int → Option Int
  | [] => none
  | n :: ns => some (ns.foldl (fun a b => if a < b then b else a) n)
def minOf : List Int → Option Int
  | [] => none
  | n :: ns => some (ns.foldl (fun a b => if b < a then b else a) n)
theorem foldl_max (ns : List Int) : ∀ n : Int, (ns.foldl (fun a b => if a < b then b else a) n) ∈ n :: ns ∧ ∀ y ∈ n :: ns, y ≤ ns.foldl (fun a b => if a < b then b else a) n := by
  induction ns with
  | nil => intro n; simp
  | cons m ms ih =>
    intro n
    rw [List.foldl_cons]
    obtain ⟨h1, h2⟩ := ih (if n < m then m else n)
    refine ⟨?_, fun y hy => ?_⟩
    · rcases List.mem_cons.mp h1 with h | h
      · rw [h]; split <;> simp
      · simp [h]
    · have hb := h2 _ List.mem_cons_self
      rcases List.mem_cons.mp hy with h | h
      · subst h; split at hb <;> split <;> first | contradiction | omega
      · rcases List.mem_cons.mp h with h | h
        · subst h; split at hb <;> split <;> first | contradiction | omega
        · exact h2 y (List.mem_cons_of_mem _ h)
theorem foldl_min (ns : List Int) : ∀ n : Int, (ns.foldl (fun a b => if b < a then b else a) n) ∈ n :: ns ∧ ∀ y ∈ n :: ns, ns.foldl (fun a b => if b < a then b else a) n ≤ y := by
  induction ns with
  | nil => intro n; simp
  | cons m ms ih =>
    intro n
    rw [List.foldl_cons]
    obtain ⟨h1, h2⟩ := ih (if m < n then m else n)
    refine ⟨?_, fun y hy => ?_⟩
    · rcases List.mem_cons.mp h1 with h | h
      · rw [h]; split <;> simp
      · simp [h]
    · have hb := h2 _ List.mem_cons_self
      rcases List.mem_cons.mp hy with h | h
      · subst h; split at hb <;> split <;> first | contradiction | omega
      · rcases List.mem_cons.mp h with h | h
        · subst h; split at hb <;> split <;> first | contradiction | omega
        · exact h2 y (List.mem_cons_of_mem _ h)
theorem maxOf_spec {ns : List Int} {m : Int} (h : maxOf ns = some m) : m ∈ ns ∧ ∀ y ∈ ns, y ≤ m := by
  cases ns with
  | nil => cases h
  | cons n ns => cases h; exact foldl_max ns n
theorem minOf_spec {ns : List Int} {m : Int} (h : minOf ns = some m) : m ∈ ns ∧ ∀ y ∈ ns, m ≤ y := by
  cases ns with
  | nil => cases h
  | cons n ns => cases h; exact foldl_min ns n
def maxLT : T → Option T
  | .lst ts => ((intsOf ts).bind maxOf).map T.int
  | _ => none
def minLT : T → Option T
  | .lst ts => ((intsOf ts).bind minOf).map T.int
  | _ => none
theorem op1_maxL : Op1 K (fun x H Q => rMax K [x] H Q) maxLT := fun x t v c F k H Q e ok rx g => by
  cases x <;> try (first | (cases e; done))
  case lst ts =>
    simp only [maxLT] at e
    cases e1 : intsOf ts with
    | none => rw [e1] at e; cases e
    | some ns =>
      rw [e1] at e
      replace e : (maxOf ns).map T.int = some t := e
      cases e2 : maxOf ns with
      | none => rw [e2] at e; cases e
      | some m =>
        rw [e2] at e; cases e
        obtain ⟨a, xs, rfl, a1, a2, a3⟩ := rx
        rw [intsOf_eq e1] at a3
        have ex := a3.ints
        subst ex
        obtain ⟨s1, s2⟩ := maxOf_spec e2
        refine ⟨a, ns, rfl, SqL.of a1, List.length_pos_of_mem s1, fun m' h1 h2 => ?_⟩
        have em : m' = m := Int.le_antisymm (s2 _ h1) (h2 _ s1)
        subst em
        exact g.same ok (.int _)
theorem op1_minL : Op1 K (fun x H Q => rMin K [x] H Q) minLT := fun x t v c F k H Q e ok rx g => by
  cases x <;> try (first | (cases e; done))
  case lst ts =>
    simp only [minLT] at e
    cases e1 : intsOf ts with
    | none => rw [e1] at e; cases e
    | some ns =>
      rw [e1] at e
      replace e : (minOf ns).map T.int = some t := e
      cases e2 : minOf ns with
      | none => rw [e2] at e; cases e
      | some m =>
        rw [e2] at e; cases e
        obtain ⟨a, xs, rfl, a1, a2, a3⟩ := rx
        rw [intsOf_eq e1] at a3
        have ex := a3.ints
        subst ex
        obtain ⟨s1, s2⟩ := minOf_spec e2
        refine ⟨a, ns, rfl, SqL.of a1, List.length_pos_of_mem s1, fun m' h1 h2 => ?_⟩
        have em : m' = m := Int.le_antisymm (h2 _ s1) (s2 _ h1)
        subst em
        exact g.same ok (.int _)
def insI (a : Int) : List Int → List Int
  | [] => [a]
  | b :: l => if a ≤ b then a :: b :: l else b :: insI a l
def sortI : List Int → List Int
  | [] => []
  | a :: l => insI a (sortI l)
theorem insI_perm (a : Int) : ∀ l, (insI a l).Perm (a :: l)
  | [] => .refl _
  | b :: l => by
    unfold insI
    split
    · exact .refl _
    · exact (List.Perm.cons b (insI_perm a l)).trans (List.Perm.swap a b l)
theorem sortI_perm : ∀ l, (sortI l).Perm l
  | [] => .refl _
  | a :: l => (insI_perm a (sortI l)).trans (List.Perm.cons a (sortI_perm l))
theorem insI_sorted (a : Int) : ∀ {l : List Int}, l.Pairwise (· ≤ ·) → (insI a l).Pairwise (· ≤ ·)
  | [], _ => by simp [insI]
  | b :: l, h => by
    unfold insI
    rw [List.pairwise_cons] at h
    split
    · rename_i hab
      rw [List.pairwise_cons, List.pairwise_cons]
      exact ⟨fun x hx => by
        rcases List.mem_cons.mp hx with e | e
        · subst e; exact hab
        · exact Int.le_trans hab (h.1 x e), h.1, h.2⟩
    · rename_i hab
      rw [List.pairwise_cons]
      refine ⟨fun x hx => ?_, insI_sorted a h.2⟩
      rcases List.mem_cons.mp ((insI_perm a l).mem_iff.mp hx) with e | e
      · subst e; omega
      · exact h.1 x e
theorem sortI_sorted : ∀ l : List Int, (sortI l).Pairwise (· ≤ ·)
  | [] => .nil
  | a :: l => insI_sorted a (sortI_sorted l)
theorem sortI_uniq {ns ms : List Int} (h1 : ms.Perm ns) (h2 : ms.Pairwise (· ≤ ·)) : ms = sortI ns := PySem.W.ksm_same (h1.trans (sortI_perm ns).symm) h2 (sortI_sorted ns)
def sortedT : T → Option (List T)
  | .lst ts => (intsOf ts).map fun ns => (sortI ns).map T.int
  | _ => none
theorem op1_sorted : OpF1 K (fun x H Q => rSortedI K [x] H Q) sortedT := fun x ts' v c F k H Q e ok rx g => by
  cases x <;> try (first | (cases e; done))
  case lst ts =>
    simp only [sortedT] at e
    cases e1 : intsOf ts with
    | none => rw [e1] at e; cases e
    | some ns =>
      rw [e1] at e; cases e
      obtain ⟨a, xs, rfl, a1, a2, a3⟩ := rx
      rw [intsOf_eq e1] at a3
      have ex := a3.ints
      subst ex
      refine ⟨a, ns, rfl, SqL.of a1, fun ms q h1 h2 nq => ?_⟩
      rw [sortI_uniq h1 h2]
      exact g.lst ok (reps_ints _) q nq
def tupT : T → Option T
  | .lst ts => some (.tup ts)
  | .scr ts => some (.tup ts)
  | .tup ts => some (.tup ts)
  | _ => none
theorem op1_tup : Op1 K (fun x H Q => ∃ p ys, [x] = [V.ref p] ∧ ((SqL K H p ys ∧ NewT H ys Q) ∨ (SqT K H p ys ∧ Q (.ref p) H))) tupT := fun x t v c F k H Q e ok rx g => by
  cases x <;> try (first | (cases e; done))
  case lst ts =>
    cases e
    obtain ⟨a, xs, rfl, a1, a2, a3⟩ := rx
    exact ⟨a, xs, rfl, .inl ⟨SqL.of a1, g.tup ok a3⟩⟩
  case scr ts =>
    cases e
    obtain ⟨a, xs, rfl, a1, a2⟩ := rx.scr_of ok
    exact ⟨a, xs, rfl, .inl ⟨a1, g.tup ok a2⟩⟩
  case tup ts =>
    cases e
    obtain ⟨a, xs, rfl, a0, a1, a2⟩ := rx.tup_of ok
    exact ⟨a, xs, rfl, .inr ⟨a1, g.same ok (.tup a0 a2)⟩⟩
def lstT : T → Option (List T)
  | .lst ts => some ts
  | .scr ts => some ts
  | .tup ts => some ts
  | _ => none
theorem op1_lst : OpF1 K (fun x H Q => ∃ p ys, [x] = [V.ref p] ∧ (SqL K H p ys ∨ SqT K H p ys) ∧ ∀ l, H l = none → Q (.ref l) (upd H l (.lst ys))) lstT := fun x t v c F k H Q e ok rx g => by
  cases x <;> try (first | (cases e; done))
  case lst ts =>
    cases e
    obtain ⟨a, xs, rfl, a1, a2, a3⟩ := rx
    exact ⟨a, xs, rfl, .inl (SqL.of a1), g.lst ok a3⟩
  case scr ts =>
    cases e
    obtain ⟨a, xs, rfl, a1, a2⟩ := rx.scr_of ok
    exact ⟨a, xs, rfl, .inl a1, g.lst ok a2⟩
  case tup ts =>
    cases e
    obtain ⟨a, xs, rfl, a0, a1, a2⟩ := rx.tup_of ok
    exact ⟨a, xs, rfl, .inr a1, g.lst ok a2⟩
/-- the ints a .. b - 1 -/
def rgI (a b : Int) : List Int := (List.range (b - a).toNat).map fun i => a + (i : Nat)
theorem rgI_V (a b : Int) : rgV a b = (rgI a b).map V.int := by unfold rgV rgI; rw [List.map_map]; rfl
theorem rgI_length (a b : Int) : (rgI a b).length = (b - a).toNat := by unfold rgI; simp
/-- bounds of a range -/
def rgOk (a b : Int) : Bool := decide (-1000000 ≤ a) && decide (a ≤ 1000000) && decide (-1000000 ≤ b) && decide (b ≤ 1000000)
theorem rgOk.ok {a b : Int} (h : rgOk a b = true) : RgOk a b := by
  unfold rgOk at h
  simp only [Bool.and_eq_true, decide_eq_true_eq] at h
  obtain ⟨⟨⟨h1, h2⟩, h3⟩, h4⟩ := h
  exact ⟨by omega, by omega, by omega, by omega, by omega⟩
structure ER (X : Cx) (W : XK) (e : Expr) (t : L2.St → Hp → (Int → Int → Hp → Prop) → Prop) (d : Env → Cs → Out (Int × Int)) : Prop where
  pe : PRg X e t
  rd : ∀ N r c F k σ H Q, SR X.K N F k c r σ H → Post X.K X.mg (fun b _ _ _ b' => b' = b) F k H (d r c) (fun b H => Q b.1 b.2 H) W → t σ H Q
def dRg1 (a : D) : Env → Cs → Out (Int × Int) := fun r c => (a r c).bind fun x c => match x with
  | .int n => .ok (0, n) c
  | _ => .stk
def dRg2 (a b : D) : Env → Cs → Out (Int × Int) := fun r c => (a r c).bind fun x c => (b r c).bind fun y c => match x, y with
  | .int n, .int m => .ok (n, m) c
  | _, _ => .stk
theorem er_1 (hm : X.mg "range" = none) (ha : EE X W e te d) (hg : Gl X "range" := by rfl) (na : starEach [e] X.env = (false, eval e X.env) :: starEach [] X.env := by rfl) : ER X W (.Call (.Name "range" p) [e] [] pos) (tRg1 te) (dRg1 d) := by
  refine ⟨prg_1 hg hm ha.pe na, fun N ρ c F k σ H Q S pp => ha.rd N ρ c F k σ H _ S (pp.seq fun x c1 v F1 k1 H1 q1 ok1 g1 r1 p1 => ?_)⟩
  clear q1
  cases x <;> try (exact p1.elim)
  case int i => cases r1; exact ⟨i, rfl, p1 (0, i) F1 k1 H1 ok1 Ge.refl rfl⟩
theorem er_2 (hm : X.mg "range" = none) (ha : EE X W e te d) (hb : EE X W e2 te2 d') (hg : Gl X "range" := by rfl) (na : starEach [e, e2] X.env = (false, eval e X.env) :: starEach [e2] X.env := by rfl) (nb : starEach [e2] X.env = (false, eval e2 X.env) :: starEach [] X.env := by rfl) :
    ER X W (.Call (.Name "range" p) [e, e2] [] pos) (tRg2 te te2) (dRg2 d d') := by
  refine ⟨prg_2 hg hm ha.pe hb.pe na nb (by rw [nb]; rfl), fun N ρ c F k σ H Q S pp => ha.rd N ρ c F k σ H _ S (pp.seq fun x c1 v F1 k1 H1 q1 ok1 g1 r1 p1 => ?_)⟩
  refine hb.rd N ρ c1 F1 k1 σ H1 _ (S.step ok1 g1) (p1.seq fun y c2 u F2 k2 H2 q2 ok2 g2 r2 p2 => ?_)
  clear q1 q2
  cases x <;> try (exact p2.elim)
  case int i =>
    cases y <;> try (exact p2.elim)
    case int j => cases r1; cases r2; exact ⟨i, j, rfl, rfl, p2 (i, j) F2 k2 H2 ok2 Ge.refl rfl⟩
def dTupRg (a : Env → Cs → Out (Int × Int)) : D := fun r c => (a r c).bind fun b c => if rgOk b.1 b.2 = true then .ok (.tup ((rgI b.1 b.2).map T.int)) c else .stk
def dLstRg (a : Env → Cs → Out (Int × Int)) : DA := fun r c => (a r c).bind fun b c => if rgOk b.1 b.2 = true then .ok ((rgI b.1 b.2).map T.int) c else .stk
variable {tr : L2.St → Hp → (Int → Int → Hp → Prop) → Prop} {dr : Env → Cs → Out (Int × Int)}
theorem ee_tupRg (hm : X.mg "tuple" = none) (h : ER X W e tr dr) (hg : Gl X "tuple" := by rfl) (hc : X.calm = true := by rfl) (na : starEach [e] X.env = (false, eval e X.env) :: starEach [] X.env := by rfl) :
    EE X W (.Call (.Name "tuple" p) [e] [] pos) (tTupRgN tr) (dTupRg dr) := by
  refine ⟨pe_tupRgN hc hg hm h.pe na, fun N ρ c F k σ H Q S pp => h.rd N ρ c F k σ H _ S (pp.seq fun x c1 v F1 k1 H1 q1 ok1 g1 r1 p1 => ?_)⟩
  cases (show v = x from r1)
  by_cases hh : rgOk x.1 x.2 = true
  · rw [if_pos hh] at p1
    refine ⟨rgOk.ok hh, ?_⟩
    rw [rgI_V]
    exact Gives.tup p1 ok1 (reps_ints _)
  · rw [if_neg hh] at p1; exact p1.elim
theorem ef_lstRg (hm : X.mg "list" = none) (h : ER X W e tr dr) (hg : Gl X "list" := by rfl) (hc : X.calm = true := by rfl) (na : starEach [e] X.env = (false, eval e X.env) :: starEach [] X.env := by rfl) :
    EF X W (.Call (.Name "list" p) [e] [] pos) (tLstRg tr) (dLstRg dr) := by
  refine ⟨pe_listRg hc hg hm h.pe na, fun N ρ c F k σ H Q S pp => h.rd N ρ c F k σ H _ S (pp.seq0 fun x c1 v F1 k1 H1 q1 ok1 g1 r1 p1 => ?_)⟩
  cases (show v = x from r1)
  by_cases hh : rgOk x.1 x.2 = true
  · rw [if_pos hh] at p1
    refine ⟨rgOk.ok hh, ?_⟩
    rw [rgI_V]
    exact GivesF.lst (fun b F3 k3 H3 ok3 g3 ⟨a, xs, e1, h1, h2, h3, h4, h5⟩ => p1 b F3 k3 H3 ok3 (g1.trans g3) ⟨a, xs, e1, h1, h2, h3, h4, g1.none_of h5⟩) ok1 (reps_ints _)
  · rw [if_neg hh] at p1; exact p1.elim
def tyT : T → Option String
  | .non => some "NoneType"
  | .bl _ => some "bool"
  | .int _ => some "int"
  | .str _ => some "str"
  | .tup _ => some "tuple"
  | .lst _ => some "list"
  | .dct _ _ => some "dict"
  | _ => none
theorem SeqR.ty {F H : Hp} {k : List Addr} {c : Cs} {t : T} {v : V} {n : String} (ok : Ok K F k c H) (h : SeqR K F k H t v) (e : tyT t = some n) : TyX K H v (.type n) := by
  cases t <;> first | (cases e; done) | skip
  case non => cases e; cases h; exact .base .non
  case bl b => cases e; cases h; exact .base (.bl b)
  case int i => cases e; cases h; exact .base (.int i)
  case str x => cases e; cases h; exact .base (.str x)
  case lst ts =>
    cases e
    obtain ⟨a, xs, rfl, a1, _⟩ := h
    exact .base (.lst a1)
  case tup ts =>
    cases e
    obtain ⟨a, xs, rfl, a0, a1, a2⟩ := h.tup_of ok
    rcases a1 with (a1 | ⟨o, a1⟩) | ⟨o, its, n, h1, h2, _⟩
    · exact .base (.tup a1)
    · exact .fTuple a1
    · exact .kTuple h1 h2
  case dct ks vs =>
    cases e
    cases h with
    | dct h _ _ => exact .base (.dK (ok.sub _ _ h))
/-- whether a thing is of the kind m -/
def isiT (m : String) (t : T) : Option T := match tyT t with
  | some n => (kitB n m).map T.bl
  | none => none
theorem op1_isi {m : String} : Op1 K (fun x H Q => rIsi K [x, .ty m] H Q) (isiT m) := fun x t v c F k H Q e ok rx g => by
  unfold isiT at e
  cases e1 : tyT x with
  | none => rw [e1] at e; cases e
  | some n =>
    rw [e1] at e
    replace e : (kitB n m).map T.bl = some t := e
    cases e2 : kitB n m with
    | none => rw [e2] at e; cases e
    | some b => rw [e2] at e; cases e; exact ⟨v, .ty m, .type n, .type m, b, rfl, .ty m, rx.ty ok e1, kit_ty e2, g.same ok (.bl _)⟩
theorem ee_isi {m : Str} {ms : String} {p2 : Pos} (hm : X.mg "isinstance" = none) (hm2 : X.mg m = none) (hv2 : bootBuiltins m = some (.type ms)) (ha : ES X W e te d) (hg : Gl X "isinstance" := by rfl) (hg2 : Gl X m := by rfl) (hn2 : m ≠ "__name__" := by decide) (hd2 : (m == ("__debug__" : Str)) = false := by decide)
    (he : starEach [e, .Name m p2] X.env = (false, eval e X.env) :: starEach [.Name m p2] X.env := by rfl) (he2 : starEach [.Name m p2] X.env = (false, eval (.Name m p2) X.env) :: starEach [] X.env := by rfl) (hpl : (backTo pos (starEach [.Name m p2] X.env)).any (·.1) = false := by rfl) :
    EE X W (.Call (.Name "isinstance" p) [e, .Name m p2] [] pos) (tCB (rIsi X.K) (tCons te (tCons (tC (.ty ms)) tNil))) (d1 (isiT ms) d) :=
  ⟨pe_callB call_isi hg hm (by decide +kernel) (pa_cons ha.pe (pa_cons (pe_bltn hg2 hm2 hv2 rfl hn2 hd2) pa_nil he2) he) (by decide) (by decide) he hpl, rd_op1 (r := fun x H Q => rIsi X.K [x, .ty ms] H Q) op1_isi ha.rd⟩
end
end Q
namespace Q
open PySem PySem.Spec PyProof.Rows L2
def PostS (K : PySem.W.Frag) (mg : Str → Option Value) (N : Ent) (F0 : Hp) (k0 : List Addr) (o : Out Flow) (D : Ends) (W : XK) : Prop := match o with
  | .stk => False
  | .ok (.nxt r) c => ∀ σ H F k, SR K N F k c r σ H → Sub F0 F → k0 <+: k → D.nx σ H
  | .ok (.ret t) c => ∀ v F k H, Ok K F k c H → Ge N.F N.k N.H F k H → Rep K F k t v → D.rt v H
  | .err e c => ∀ cls d F k H, Ok K F k c H → Ge N.F N.k N.H F k H → RepX K mg F k H e cls d → W cls d H
section
variable {K : PySem.W.Frag} {mg : Str → Option Value} {N : Ent} {F F' H H' F0 : Hp} {k k' k0 : List Addr} {c c' : Cs} {r : Env} {σ : L2.St} {D : Ends} {W : XK} {α β : Type}
theorem PostS.mono {F1 : Hp} {k1 : List Addr} {o : Out Flow} (h : PostS K mg N F0 k0 o D W) (s : Sub F0 F1) (p : k0 <+: k1) : PostS K mg N F1 k1 o D W := by
  cases o with
  | stk => exact h
  | ok a c => cases a with
    | nxt r => exact fun σ H F k S s' p' => h σ H F k S (fun a o e => s' a o (s a o e)) (p.trans p')
    | ret t => exact h
  | err e c => exact h
theorem PostS.seq {R0 : RR α β} {o : Out α} {f : α → Cs → Out Flow} {Q0 : β → Hp → Prop} (g0 : Ge N.F N.k N.H F k H) (h : PostS K mg N F k (o.bind f) D W)
    (hk : ∀ a c b F1 k1 H1, Ok K F1 k1 c H1 → Ge F k H F1 k1 H1 → R0 a F1 k1 H1 b → PostS K mg N F1 k1 (f a c) D W → Q0 b H1) : Post K mg R0 F k H o Q0 W := by
  cases o with
  | stk => exact h
  | ok a c => exact fun b F1 k1 H1 ok g r => hk a c b F1 k1 H1 ok g r (h.mono g.f g.pk)
  | err e c => exact fun cls d F1 k1 H1 ok g r => h cls d F1 k1 H1 ok (g0.trans g) r
/-- a statement ahead of others -/
def fseq (f : DS) : Flow → Cs → Out Flow
  | .nxt r, c => f r c
  | .ret t, c => .ok (.ret t) c
theorem PostS.then {o : Out Flow} {f : DS} (h : PostS K mg N F0 k0 (o.bind (fseq f)) D W) (nx : L2.St → Hp → Prop)
    (hk : ∀ r c σ H F k, SR K N F k c r σ H → Sub F0 F → k0 <+: k → PostS K mg N F k (f r c) D W → nx σ H) : PostS K mg N F0 k0 o { D with nx := nx } W := by
  cases o with
  | stk => exact h
  | ok a c => cases a with
    | nxt r => exact fun σ H F k S s p => hk r c σ H F k S s p (PostS.mono h s p)
    | ret t => exact h
  | err e c => exact h
theorem PostS.ends {o : Out Flow} {D' : Ends} (h : PostS K mg N F0 k0 o D W) (h1 : ∀ σ H, D.nx σ H → D'.nx σ H) (h2 : ∀ v H, D.rt v H → D'.rt v H) : PostS K mg N F0 k0 o D' W := by
  cases o with
  | stk => exact h
  | ok a c => cases a with
    | nxt r => exact fun σ H F k S s p => h1 _ _ (h σ H F k S s p)
    | ret t => exact fun v F k H ok g r => h2 _ _ (h v F k H ok g r)
  | err e c => exact h
end
def RdStm (K : PySem.W.Frag) (mg : Str → Option Value) (W : XK) (ts : TS) (d : DS) : Prop :=
  ∀ N r c F k σ H D, SR K N F k c r σ H → PostS K mg N F k (d r c) D W → ts D σ H
structure SS (X : Cx) (W : XK) (st : Stmt) (ts : TS) (d : DS) : Prop where
  pe : PS X st ts
  rd : RdStm X.K X.mg W ts d
structure SSs (X : Cx) (W : XK) (st : List Stmt) (ts : TS) (d : DS) : Prop where
  pe : PSs X st ts
  rd : RdStm X.K X.mg W ts d
def dNext : DS := fun r c => .ok (.nxt r) c
def dSeq (a b : DS) : DS := fun r c => (a r c).bind (fseq b)
def dRet (d : D) : DS := fun r c => (d r c).bind fun t c => .ok (.ret t) c
def dDrop (d : D) : DS := fun r c => (d r c).bind fun _ c => .ok (.nxt r) c
def dCond (t : DB) (a b : DS) : DS := fun r c => (t r c).bind fun x c => if x = true then a r c else b r c
def dSet (i : Nat) (d : D) : DS := fun r c => (d r c).bind fun t c => if i < r.length then .ok (.nxt (r.set i (.val t))) c else .stk
def dOwn (i : Nat) (d : DA) : DS := fun r c => (d r c).bind fun ts c => if i < r.length then .ok (.nxt (r.set i (.own ts))) c else .stk
/-- the i-th slot's own list is frozen -/
def dFreeze (i : Nat) (d : DS) : DS := fun r c => match r[i]? with
  | some (.own ts) => d (r.set i (.val (.lst ts))) c
  | _ => d r c
/-- a target of an assignment or a loop -/
abbrev DG := T → Env → Option Env
def gSet (i : Nat) : DG := fun t r => if i < r.length then some (r.set i (.val t)) else none
def gAll : List DG → List T → Env → Option Env
  | [], [], r => some r
  | g :: gs, t :: ts, r => (g t r).bind fun r => gAll gs ts r
  | _, _, _ => none
def gTupl (gs : List DG) : DG := fun t r => match t with
  | .tup ts => gAll gs ts r
  | _ => none
def dAsg (d : D) (g : DG) : DS := fun r c => (d r c).bind fun t c => match g t r with
  | some r' => .ok (.nxt r') c
  | none => .stk
def forL (g : DG) (body : DS) : List T → DS
  | [], r, c => .ok (.nxt r) c
  | t :: ts, r, c => match g t r with
    | some r' => (body r' c).bind (fseq (forL g body ts))
    | none => .stk
abbrev DI := Env → Cs → Out (List T)
def dFor (di : DI) (g : DG) (body : DS) : DS := fun r c => (di r c).bind fun ts c => forL g body ts r c
def whileL (t : DB) (body : DS) : Nat → DS
  | 0, _, _ => .stk
  | n + 1, r, c => (t r c).bind fun x c => if x = true then (body r c).bind (fseq (whileL t body n)) else .ok (.nxt r) c
def turns : Nat := 1000000
def dWhile (t : DB) (body : DS) : DS := whileL t body turns
/-- what a slot's targets write: the places -/
structure RdG (K : PySem.W.Frag) (g : TG) (dg : DG) (is : List Nat) : Prop where
  rd : ∀ N r r' c F k σ H t v (Q : L2.St → Hp → Prop), SR K N F k c r σ H → Rep K F k t v → dg t r = some r' → (∀ σ', SR K N F k c r' σ' H → σ'.length = σ.length → (∀ j, j ∉ is → σ'[j]? = σ[j]?) → Q σ' H) → g v σ H Q
structure EG (X : Cx) (tg : Expr) (g : TG) (dg : DG) (is : List Nat) : Prop where
  pe : PG X tg g
  rd : RdG X.K g dg is
structure RdGs (K : PySem.W.Frag) (g : TGs) (dg : List DG) (is : List Nat) : Prop where
  rd : ∀ N r r' c F k σ H ts vs (Q : L2.St → Hp → Prop), SR K N F k c r σ H → Reps K F k ts vs → gAll dg ts r = some r' → (∀ σ', SR K N F k c r' σ' H → σ'.length = σ.length → (∀ j, j ∉ is → σ'[j]? = σ[j]?) → Q σ' H) → g vs σ H Q
structure EGs (X : Cx) (tg : List Expr) (g : TGs) (dg : List DG) (is : List Nat) : Prop where
  pe : PGs X tg g
  rd : RdGs X.K g dg is
section
variable {X : Cx} {W : XK} {st : Stmt} {rest a b : List Stmt} {ts us : TS} {ds dr : DS} {e : Expr} {te : TE} {d : D} {dl : DA} {pos : Pos} {tt : TT} {dt : DB}
theorem sss_nil : SSs X W [] tNext dNext := ⟨pss_nil, fun N r c F k σ H D S p => p σ H F k S (fun _ _ z => z) List.prefix_rfl⟩
theorem sss_cons (h1 : SS X W st ts ds) (h2 : SSs X W rest us dr) : SSs X W (st :: rest) (tSeq ts us) (dSeq ds dr) :=
  ⟨pss_cons h1.pe h2.pe, fun N r c F k σ H D S p => h1.rd N r c F k σ H _ S (PostS.then p (us D) fun r1 c1 σ1 H1 F1 k1 S1 _ _ p1 => h2.rd N r1 c1 F1 k1 σ1 H1 D S1 p1)⟩
theorem sss_one (h1 : SS X W st ts ds) : SSs X W [st] ts ds := ⟨pss_one h1.pe, h1.rd⟩
theorem sss_freeze (i : Nat) (h : SSs X W rest ts ds) : SSs X W rest ts (dFreeze i ds) := by
  refine ⟨h.pe, fun N r c F k σ H D S p => ?_⟩
  unfold dFreeze at p
  split at p
  · rename_i us e
    obtain ⟨F', S', s'⟩ := S.frz e
    exact h.rd N _ c F' k σ H D S' (p.mono s' List.prefix_rfl)
  · exact h.rd N r c F k σ H D S p
theorem ss_pass : SS X W (.Pass pos) tNext dNext := ⟨ps_pass, fun N r c F k σ H D S p => p σ H F k S (fun _ _ z => z) List.prefix_rfl⟩
theorem ss_ret (h : EE X W e te d) : SS X W (.Return (some e) pos) (tRet te) (dRet d) :=
  ⟨ps_ret h.pe, fun N r c F k σ H D S p => h.rd N r c F k σ H _ S (PostS.seq S.ge p fun t c1 v F1 k1 H1 ok1 g1 r1 p1 => p1 v F1 k1 H1 ok1 (S.ge.trans g1) r1)⟩
theorem ss_expr (h : EE X W e te d) (hs : swapsWith e none pos.line X.env = pure false := by rfl) : SS X W (.Expr e pos) (tDrop te) (dDrop d) :=
  ⟨ps_expr h.pe hs, fun N r c F k σ H D S p => h.rd N r c F k σ H _ S (PostS.seq S.ge p fun t c1 v F1 k1 H1 ok1 g1 r1 p1 => p1 σ H1 F1 k1 (S.step ok1 g1) (fun _ _ z => z) List.prefix_rfl)⟩
theorem ss_if {t : Expr} (ht : ET X W t tt dt) (ha : SSs X W a ts ds) (hb : SSs X W b us dr) : SS X W (.If t a b pos) (tIfS tt ts us) (dCond dt ds dr) := by
  refine ⟨ps_if ht.pe ha.pe hb.pe, fun N r c F k σ H D S p => ht.rd N r c F k σ H _ S (PostS.seq S.ge p fun x c1 v F1 k1 H1 ok1 g1 r1 p1 => ?_)⟩
  cases (show v = x from r1)
  cases x with
  | true => rw [if_pos rfl] at p1 ⊢; exact ha.rd N r c1 F1 k1 σ H1 D (S.step ok1 g1) p1
  | false => rw [if_neg Bool.false_ne_true] at p1 ⊢; exact hb.rd N r c1 F1 k1 σ H1 D (S.step ok1 g1) p1
theorem ss_set {i : Nat} (h : PS X st (tAsg te (gName i))) (hr : Rd X.K X.mg W te d) : SS X W st (tAsg te (gName i)) (dSet i d) := by
  refine ⟨h, fun N r c F k σ H D S p => hr N r c F k σ H _ S (PostS.seq S.ge p fun x c1 v F1 k1 H1 ok1 g1 r1 p1 => ?_)⟩
  by_cases hi : i < r.length
  · rw [if_pos hi] at p1; exact p1 _ H1 F1 k1 ((S.step ok1 g1).setV r1 hi) (fun _ _ z => z) List.prefix_rfl
  · rw [if_neg hi] at p1; exact p1.elim
theorem ss_own {i : Nat} (h : PS X st (tAsg te (gName i))) (hr : RdF X.K X.mg W te dl) : SS X W st (tAsg te (gName i)) (dOwn i dl) := by
  refine ⟨h, fun N r c F k σ H D S p => hr N r c F k σ H _ S (PostS.seq S.ge p fun x c1 v F1 k1 H1 ok1 g1 r1 p1 => ?_)⟩
  by_cases hi : i < r.length
  · rw [if_pos hi] at p1
    obtain ⟨a, xs, rfl, h1, h2, h3, h4, h5⟩ := r1
    refine p1 _ H1 F1 k1 ((S.step ok1 g1).setO hi h1 h2 h3 h4 (S.ge.none_of h5) fun j hj ⟨⟨us, e1⟩, e2⟩ => ?_) (fun _ _ z => z) List.prefix_rfl
    obtain ⟨b, ys, g1', g2', _⟩ := S.own j us e1
    rw [g1'] at e2
    cases e2
    exact fr0_lst h5 g2'
  · rw [if_neg hi] at p1; exact p1.elim
theorem ps_name {i : Nat} {x : Str} {pos' : Pos} (he : PE X e te) (hN : X.N.Nodup) (hi : X.N[i]? = some x) (hx : Loc X.env.scope x) (hs : swapsWith e (some (.Name x pos')) pos.line X.env = pure false := by rfl) (hf : X.fn x = true ∨ X.env.scope.names.lookup x = some .local := by first | exact .inl rfl | exact .inr rfl | assumption) :
    PS X (.Assign [.Name x pos'] e pos) (tAsg te (gName i)) := ps_set hN hi hx he hs hf
theorem eg_name {i : Nat} {x : Str} (hN : X.N.Nodup) (hi : X.N[i]? = some x) (hx : Loc X.env.scope x) (hf : X.fn x = true ∨ X.env.scope.names.lookup x = some .local := by first | exact .inl rfl | exact .inr rfl | assumption) : EG X (.Name x pos) (gName i) (gSet i) [i] := by
  refine ⟨pg_name hN hi hx hf, ⟨fun N r r' c F k σ H t v Q S rp e h => ?_⟩⟩
  unfold gSet at e
  split at e
  · cases e
    exact h _ (S.setV rp ‹_›) (by simp) fun j hj => by
      have : i ≠ j := fun z => hj (by simp [z])
      rw [List.getElem?_set_ne this]
  · cases e
theorem egs_nil : EGs X [] gNil [] [] := by
  refine ⟨pgs_nil, ⟨fun N r r' c F k σ H ts vs Q S rp e h => ?_⟩⟩
  cases ts with
  | nil => cases rp; cases e; exact ⟨rfl, h σ S rfl fun _ _ => rfl⟩
  | cons t ts => cases e
theorem egs_cons {e : Expr} {es : List Expr} {g : TG} {gs : TGs} {dg : DG} {dgs : List DG} {is js : List Nat} (h1 : EG X e g dg is) (h2 : EGs X es gs dgs js)
    (hp : PGs X (e :: es) (gCons g gs)) : EGs X (e :: es) (gCons g gs) (dg :: dgs) (is ++ js) := by
  refine ⟨hp, ⟨fun N r r' c F k σ H ts vs Q S rp e0 h => ?_⟩⟩
  cases ts with
  | nil => cases e0
  | cons t ts =>
    cases rp with
    | cons ra rb =>
      replace e0 : (dg t r).bind (fun r => gAll dgs ts r) = some r' := e0
      cases e1 : dg t r with
      | none => rw [e1] at e0; cases e0
      | some r1 =>
        rw [e1] at e0
        refine ⟨_, _, rfl, h1.rd.rd N r r1 c F k σ H t _ _ S ra e1 fun σ1 S1 l1 w1 => ?_⟩
        refine h2.rd.rd N r1 r' c F k σ1 H ts _ _ S1 rb e0 fun σ2 S2 l2 w2 => h σ2 S2 (l2.trans l1) fun j hj => ?_
        rw [w2 j (fun z => hj (List.mem_append_right _ z)), w1 j (fun z => hj (List.mem_append_left _ z))]
theorem reps_len {K : PySem.W.Frag} {F : Hp} {k : List Addr} : ∀ {dgs : List DG} {ts : List T} {r r' : Env}, gAll dgs ts r = some r' → dgs.length = ts.length
  | [], [], _, _, _ => rfl
  | [], _ :: _, _, _, h => by cases h
  | _ :: _, [], _, _, h => by cases h
  | g :: gs, t :: ts, r, r', h => by
    replace h : (g t r).bind (fun r => gAll gs ts r) = some r' := h
    cases e : g t r with
    | none => rw [e] at h; cases h
    | some r1 => rw [e] at h; simp [reps_len (K := K) (F := F) (k := k) h]
theorem eg_tup {es : List Expr} {kk : Nat} {g : TGs} {dgs : List DG} {is : List Nat} {n : Nat} (h : EGs X es g dgs is) (hp : PG X (.Tuple es kk pos) (gTup X.K n g)) (hn : dgs.length = n := by rfl) : EG X (.Tuple es kk pos) (gTup X.K n g) (gTupl dgs) is := by
  refine ⟨hp, ⟨fun N r r' c F k σ H t v Q S rp e h' => ?_⟩⟩
  cases t <;> try (cases e; done)
  case tup ts =>
    have e : gAll dgs ts r = some r' := e
    cases rp with
    | tup q rr =>
      refine ⟨_, _, rfl, SqT.sub q.t S.ok.sub, ?_, h.rd.rd N r r' c F k σ H ts _ Q S rr e h'⟩
      rw [← rr.length, ← reps_len (K := X.K) (F := F) (k := k) e, hn]
theorem ss_asg {tg : Expr} {g : TG} {dg : DG} {is : List Nat} (he : EE X W e te d) (hg : EG X tg g dg is) (hp : PS X st (tAsg te g)) : SS X W st (tAsg te g) (dAsg d dg) := by
  refine ⟨hp, fun N r c F k σ H D S p => he.rd N r c F k σ H _ S (PostS.seq S.ge p fun x c1 v F1 k1 H1 ok1 g1 r1 p1 => ?_)⟩
  cases e1 : dg x r with
  | none => rw [e1] at p1; exact p1.elim
  | some r' =>
    rw [e1] at p1
    exact hg.rd.rd N r r' c1 F1 k1 σ H1 x v _ (S.step ok1 g1) r1 e1 fun σ' S' _ _ => p1 σ' H1 F1 k1 S' (fun _ _ z => z) List.prefix_rfl
theorem ss_while {t : Expr} (hp : PassesOwn (model X.prog X.w) X.A X.env X.xe) (ht : ET X W t tt dt) (hb : SSs X W a ts ds) : SS X W (.While t a [] pos) (tWhile tt ts) (dWhile dt ds) := by
  refine ⟨ps_while hp ht.pe hb.pe, fun N r c F k σ H D S p => ?_⟩
  refine ⟨fun m σ H => ∃ r c F k, SR X.K N F k c r σ H ∧ PostS X.K X.mg N F k (whileL dt ds m r c) D W, ⟨turns, r, c, F, k, S, p⟩, ?_⟩
  rintro m σ H ⟨r, c, F, k, S, p⟩
  cases m with
  | zero => exact p.elim
  | succ m =>
    refine ht.rd N r c F k σ H _ S (PostS.seq S.ge p fun x c1 v F1 k1 H1 ok1 g1 r1 p1 => ?_)
    cases (show v = x from r1)
    have S1 := S.step ok1 g1
    cases x with
    | true =>
      rw [if_pos rfl] at p1 ⊢
      refine ⟨fun σ' H' => ∃ r c F k, SR X.K N F k c r σ' H' ∧ PostS X.K X.mg N F k (whileL dt ds m r c) D W, fun σ' H' q => ⟨m, Nat.lt_succ_self _, q⟩, hb.rd N r c1 F1 k1 σ H1 _ S1 ?_⟩
      exact (PostS.then p1 (fun σ' H' => ∃ r c F k, SR X.K N F k c r σ' H' ∧ PostS X.K X.mg N F k (whileL dt ds m r c) D W) fun r2 c2 σ2 H2 F2 k2 S2 _ _ p2 => ⟨r2, c2, F2, k2, S2, p2⟩).ends (fun _ _ z => z) fun _ _ z => z
    | false =>
      rw [if_neg Bool.false_ne_true] at p1 ⊢
      exact p1 σ H1 F1 k1 S1 (fun _ _ z => z) List.prefix_rfl
/-- J gives the items, from a state on -/
def Wk (K : PySem.W.Frag) (J : It) (ts : List T) (F : Hp) (k : List Addr) : Prop := ∀ F1 k1 c1 H1, Ok K F1 k1 c1 H1 → Sub F F1 → k <+: k1 →
  J.stop ts.length H1 ∧ ∀ i t, ts[i]? = some t → J.go i H1 ∧ ∀ x H', J.yld i H1 x H' → ∃ F2, Ok K F2 k1 c1 H' ∧ Ge F1 k1 H1 F2 k1 H' ∧ Rep K F2 k1 t x
abbrev RI (K : PySem.W.Frag) : RR (List T) It := fun ts F k _ J => Wk K J ts F k
structure EI (X : Cx) (W : XK) (tg iter : Expr) (wi : TI) (di : DI) : Prop where
  pe : PI X tg iter wi
  rd : ∀ N r c F k σ H R, SR X.K N F k c r σ H → Post X.K X.mg (RI X.K) F k H (di r c) R W → wi σ H R
theorem ss_for {tg iter : Expr} {wi : TI} {g : TG} {dg : DG} {di : DI} {is : List Nat} (hp : PassesOwn (model X.prog X.w) X.A X.env X.xe) (hc : X.calm = true) (hi : EI X W tg iter wi di) (hg : EG X tg g dg is) (hb : SSs X W a ts ds)
    (hs : ∀ x, foldedSetIterable iter X.env x = pure x := by intro _; rfl) : SS X W (.For tg iter a [] pos) (tFor wi g ts) (dFor di dg ds) := by
  refine ⟨ps_for hp hc hi.pe hg.pe hb.pe hs, fun N r c F k σ H D S p => ?_⟩
  refine hi.rd N r c F k σ H _ S (PostS.seq S.ge p fun its c1 J F1 k1 H1 ok1 g1 w1 p1 => ?_)
  have S1 := S.step ok1 g1
  refine ⟨fun i m σ H => ∃ r c F k, i + m = its.length ∧ SR X.K N F k c r σ H ∧ Sub F1 F ∧ k1 <+: k ∧ PostS X.K X.mg N F k (forL dg ds (its.drop i) r c) D W, ⟨its.length, r, c1, F1, k1, by omega, S1, fun _ _ z => z, List.prefix_rfl, p1⟩, ?_⟩
  rintro i m σ2 H2 ⟨r2, c2, F2, k2, hm, S2, sF, sk, p2⟩
  obtain ⟨wstop, wgo⟩ := w1 F2 k2 c2 H2 S2.ok sF sk
  by_cases hlt : i < its.length
  · have e1 : its.drop i = its[i] :: its.drop (i + 1) := by rw [List.drop_eq_getElem_cons hlt]
    rw [e1] at p2
    obtain ⟨go, yl⟩ := wgo i its[i] (List.getElem?_eq_getElem hlt)
    refine .inr ⟨go, fun σ' H' => ∃ r c F k, SR X.K N F k c r σ' H' ∧ Sub F1 F ∧ k1 <+: k ∧ PostS X.K X.mg N F k (forL dg ds (its.drop (i + 1)) r c) D W, fun σ' H' ⟨r', c', F', k', S', s1, s2, p'⟩ => ⟨m - 1, by omega, r', c', F', k', by omega, S', s1, s2, p'⟩, fun x H' y => ?_⟩
    obtain ⟨F3, ok3, g3, rp⟩ := yl x H' y
    have S3 := S2.step ok3 g3
    replace p2 : PostS X.K X.mg N F2 k2 (match dg its[i] r2 with
      | some r' => (ds r' c2).bind (fseq (forL dg ds (its.drop (i + 1))))
      | none => .stk) D W := p2
    cases e2 : dg its[i] r2 with
    | none => rw [e2] at p2; exact p2.elim
    | some r3 =>
      rw [e2] at p2
      refine hg.rd.rd N r2 r3 c2 F3 k2 σ2 H' its[i] x _ S3 rp e2 fun σ3 S3' _ _ => ?_
      refine hb.rd N r3 c2 F3 k2 σ3 H' _ S3' ?_
      exact (PostS.then (PostS.mono p2 g3.f List.prefix_rfl) (fun σ' H' => ∃ r c F k, SR X.K N F k c r σ' H' ∧ Sub F1 F ∧ k1 <+: k ∧ PostS X.K X.mg N F k (forL dg ds (its.drop (i + 1)) r c) D W) fun r4 c4 σ4 H4 F4 k4 S4 s4 q4 p4 =>
        ⟨r4, c4, F4, k4, S4, fun a o z => s4 a o (g3.f a o (sF a o z)), sk.trans q4, p4⟩).ends (fun _ _ z => z) fun _ _ z => z
  · have e1 : its.drop i = [] := List.drop_eq_nil_of_le (by omega)
    rw [e1] at p2
    have e3 : i = its.length := by omega
    exact .inl ⟨by rw [e3]; exact wstop, p2 σ2 H2 F2 k2 S2 (fun _ _ z => z) List.prefix_rfl⟩
end
end Q
namespace Q
open PySem PySem.Spec PyProof.Rows L2
abbrev DF := List T → Cs → Out T
/-- the promise of a def that a plain function tells -/
def spQ (K : PySem.W.Frag) (mg : Str → Option Value) (n : Nat) (df : DF) : Sp := fun vs H Q E => ∃ F k c ts, ts.length = n ∧ Ok K F k c H ∧ Reps K F k ts vs ∧ Post K mg (RV K) F k H (df ts c) Q E
def fend : Flow → Cs → Out T
  | .ret t, c => .ok t c
  | .nxt _, c => .ok .non c
def entE (m : Nat) (ts : List T) : Env := ts.map B.val ++ List.replicate (m - ts.length) .un
def runF (m : Nat) (ds : DS) : DF := fun ts c => (ds (entE m ts) c).bind fend
def dCall (n : Nat) (df : DF) (a : DA) : D := fun r c => (a r c).bind fun ts c => if ts.length = n then df ts c else .stk
section
variable {K : PySem.W.Frag} {mg : Str → Option Value} {N : Ent} {F F' H H' : Hp} {k k' : List Addr} {c c' : Cs} {r : Env} {σ : L2.St}
theorem SR.start {ts : List T} {vs : List V} {NN : List Str} (ok : Ok K F k c H) (h : Reps K F k ts vs) : SR K ⟨H, F, k⟩ F k c (entE NN.length ts) (L2.start NN vs) H := by
  have hl := h.length
  refine ⟨ok, Ge.refl, by unfold entE L2.start; simp [hl], fun i t e => ?_, fun i us e => ?_, fun i j a ⟨⟨us, e⟩, _⟩ _ => ?_, fun i us e => ?_⟩
  · unfold entE at e
    unfold L2.start
    by_cases hi : i < ts.length
    · rw [List.getElem?_append_left (by simpa using hi), List.getElem?_map] at e
      cases e1 : ts[i]? with
      | none => rw [e1] at e; cases e
      | some t' =>
        rw [e1] at e
        cases e
        obtain ⟨v, h1, h2⟩ := h.get e1
        exact ⟨v, by rw [List.getElem?_append_left (by simp; omega), List.getElem?_map, h1]; rfl, h2⟩
    · rw [List.getElem?_append_right (by simp; omega), List.getElem?_replicate] at e
      split at e <;> cases e
  all_goals
    exfalso
    unfold entE at e
    by_cases hi : i < ts.length
    · rw [List.getElem?_append_left (by simpa using hi), List.getElem?_map] at e
      cases e1 : ts[i]? with
      | none => rw [e1] at e; cases e
      | some t' => rw [e1] at e; cases e
    · rw [List.getElem?_append_right (by simp; omega), List.getElem?_replicate] at e
      split at e <;> cases e
end
section
variable {P : Program} {w : World} {K : PySem.W.Frag} {mg : Str → Option Value} {base : Heap}
/-- the code object of the def at f -/
def CodeOk (K : PySem.W.Frag) (f : Addr) (cdv : Value) : Prop := ∃ c, cdv = .ref c ∧ ∀ p, He.fAd K p = f → He.codeOf K p = c
theorem codeOk_of {K : PySem.W.Frag} {f : Addr} {oc : Value} {od : Option Addr} {osl : Array (Option Value)} {name qual : Str} {params : Arguments} {body : List Stmt} {scope : Scope} {dV kV doc pm cdv ct : Value} {an : Option Addr}
    (lk : K.lookup f = some ⟨oc, od, .func (PySem.W.fnOf name qual params body scope dV kV doc pm an cdv ct), osl⟩) (hcd : PySem.W.codeIn K cdv qual = true) : CodeOk K f cdv := by
  obtain ⟨c, rfl⟩ := He.codeIn_ref hcd
  exact ⟨c, rfl, fun p e => He.codeOf_eq (by rw [e]; exact lk) rfl⟩
theorem fn_ok {x qual : Str} {params : Arguments} {body : List Stmt} {scope : Scope} {f : Addr} {fd : FuncData} {N ps : List Str} {k : Nat} {ds : DS} (Fd : FunD K x qual params body scope [] [] f fd) (S : FnScope N ps scope)
    (h : ∀ (cdv : Value) (A : Around) (outer : List PySem.Env) (s : Shared) (H : Hp) (E : XK), CodeOk K f cdv → Room k (A.deeper (envOfC qual scope s.heap.objs.size f cdv)) →
      ∃ ts, SSs (cxOf (L2.CX P w) P w K mg base N qual scope f cdv A outer s H E) E body ts ds) :
    FnOk P w K mg base (L2.CX P w) (k + 1) f fd ps (spQ K mg ps.length (runF N.length ds)) := by
  obtain ⟨oc, od, dV, kV, doc, pm, an, cdv, ct, osl, rfl, lk, hcd, _, _⟩ := Fd.ex
  refine fn_of lk hcd S (fun vs H Q E ⟨F, k, c, ts, h1, _, h3, _⟩ => by rw [← h3.length, h1]) fun A outer s H vs Q E hr ⟨F, kk, c, ts, h1, ok, h3, p⟩ => ?_
  obtain ⟨tr, hs⟩ := h cdv A outer s H E (codeOk_of lk hcd) hr
  refine ⟨tr, hs.pe, hs.rd ⟨H, F, kk⟩ (entE N.length ts) c F kk _ H _ (SR.start (NN := N) ok h3) ?_⟩
  unfold runF at p
  cases e : ds (entE N.length ts) c with
  | stk => rw [e] at p; exact p
  | ok a c1 =>
    rw [e] at p
    cases a with
    | nxt r => exact fun σ H1 F1 k1 S1 _ _ => p .non F1 k1 H1 S1.ok S1.ge .non
    | ret t => exact fun v F1 k1 H1 ok1 g1 r1 => p v F1 k1 H1 ok1 g1 r1
  | err er c1 => rw [e] at p; exact fun cls d F1 k1 H1 ok1 g1 r1 => p cls d F1 k1 H1 ok1 g1 r1
end
section
variable {X : Cx} {W : XK} {e : Expr} {es : List Expr} {t : TA} {da : DA} {x : Str} {p pos : Pos} {kk : Nat} {f : Addr} {fd : FuncData} {ps : List Str} {n : Nat} {df : DF}
theorem rd_call {K : PySem.W.Frag} {mg : Str → Option Value} (h : RdA K mg W t da) : Rd K mg W (tCall (spQ K mg n df) [] W t) (dCall n df da) := fun N r c F k σ H Q S pp => by
  refine h N r c F k σ H _ S (pp.seq fun ts c1 vs F1 k1 H1 q1 ok1 g1 r1 p1 => ?_)
  by_cases hl : ts.length = n
  · rw [if_pos hl] at p1
    refine ⟨F1, k1, c1, ts, hl, ok1, ?_, p1⟩
    rw [List.append_nil]; exact r1
  · rw [if_neg hl] at p1; exact p1.elim
theorem ee_call (Fo : FnOk X.prog X.w X.K X.mg X.base (L2.CX X.prog X.w) kk f fd ps (spQ X.K X.mg n df)) (hr : Room kk X.A) (hm : X.mg x = some (.ref f)) (hk : PySem.W.keepIn X.K (.ref f) = true) (hb : L2.Binds X.K fd ps []) (hp : Passes (L2.CX X.prog X.w) X W)
    (ha : EA X W (e :: es) t da) (hg : Gl X x := by rfl) (hdb : (x == ("__debug__" : Str)) = false := by decide) (he : starEach (e :: es) X.env = (false, eval e X.env) :: starEach es X.env := by rfl) (hpl : (backTo pos (starEach es X.env)).any (·.1) = false := by rfl) :
    EE X W (.Call (.Name x p) (e :: es) [] pos) (tCall (spQ X.K X.mg n df) [] W t) (dCall n df da) :=
  ⟨pe_call Fo hr hg hm hk hb .nil hp ha.pe hdb he hpl, rd_call ha.rd⟩
theorem ee_call0 (Fo : FnOk X.prog X.w X.K X.mg X.base (L2.CX X.prog X.w) kk f fd ps (spQ X.K X.mg n df)) (hr : Room kk X.A) (hm : X.mg x = some (.ref f)) (hk : PySem.W.keepIn X.K (.ref f) = true) (hb : L2.Binds X.K fd ps []) (hp : Passes (L2.CX X.prog X.w) X W)
    (hg : Gl X x := by rfl) (hdb : (x == ("__debug__" : Str)) = false := by decide) :
    EE X W (.Call (.Name x p) [] [] pos) (tCall (spQ X.K X.mg n df) [] W tNil) (dCall n df dNil) :=
  ⟨pe_call0 Fo hr hg hm hk hb .nil hp hdb, rd_call (ea_nil (X := X)).rd⟩
def dRaise (x : Str) : DS := fun _ c => .err ⟨x, []⟩ c
/-- raise X('m'), X an own class without __init__ -/
theorem ss_raise {m : Str} {C : Addr} {j : Nat} {p2 pos2 : Pos} {bmB : List Value} {B newId initId : String} (Fx : ExcBaseFacts B newId initId bmB) (q : PySem.W.excIn X.K C bmB newId = true) (gC : X.mg x = some (.ref C)) (kC : PySem.W.keepIn X.K (.ref C) = true) (hr : Raises X (.ref C))
    (tk : Takes X (fun cls d _ H => W cls d H)) (hc : X.calm = true := by rfl) (hg : Gl X x := by rfl) (hdb : (x == ("__debug__" : Str)) = false := by decide) :
    SS X W (.Raise (some (.Call (.Name x p) [.Constant (.str m) j p2] [] pos)) none pos2) (fun _ σ H => W (.ref C) none H) (dRaise x) :=
  ⟨ps_raise (W := fun cls d _ H => W cls d H) hc tk (pmk_own Fx q gC kC hr hg hdb), fun N r c F k σ H D S p => p (.ref C) none F k H S.ok S.ge ⟨⟨C, gC, rfl⟩, rfl⟩⟩
end
section
variable {X : Cx} {W : XK} {e e2 e3 tg : Expr} {te te2 te3 : TE} {d d' d3 : D} {p pos tpos : Pos}
/-- the items of a list or tuple -/
def itT : T → Option (List T)
  | .tup ts => some ts
  | .lst ts => some ts
  | .scr ts => some ts
  | _ => none
def iSeqQ (K : PySem.W.Frag) (tl : TE) : TI := fun σ H R => tl σ H fun x H1 => ∃ a, x = .ref a ∧ (((∃ xs, SqL K H1 a xs) ∧ R (Itl K a) H1) ∨ ((∃ xs, SqT K H1 a xs) ∧ R (Itt K a) H1))
theorem pi_seqQ (hl : PE X e te) : PI X tg e (iSeqQ X.K te) := by
  refine ⟨fun pins s σ H R I h => ?_⟩
  refine thn (hl.run pins s σ H _ I h) fun v s1 ⟨x, H1, I1, r1, q1⟩ => ?_
  obtain ⟨a, ex, q1⟩ := q1
  subst ex
  rcases q1 with ⟨⟨xs, hq⟩, q⟩ | ⟨⟨xs, hq⟩, q⟩
  · cases r1
    obtain ⟨its, rv, p, hz⟩ := I1.list hq
    refine wpAny_pyIter_list p.isList ?_
    refine ⟨s1.heap.objs.size, [s1.heap.objs.size], _, _, H1, rfl, I1.kept (t' := s1.toks) fun b o e => Heap.get?_push_of_some _ e, turn_list a _, ⟨_, Heap.get?_push_size _ rfl, rfl, rfl⟩, fun b hb => ?_, q⟩
    have e : b = s1.heap.objs.size := by simpa using hb
    subst e
    exact I1.fpOk (Nat.le_refl _) (I1.hok.fresh (Nat.le_refl _))
  · cases r1
    obtain ⟨its, rv, p, hz⟩ := I1.tuple hq
    refine wpAny_pyIter_tuple (show s1.heap.IsTuple a its.toArray from p) ?_
    refine ⟨s1.heap.objs.size, [s1.heap.objs.size], _, _, H1, rfl, I1.kept (t' := s1.toks) fun b o e => Heap.get?_push_of_some _ e, turn_tuple a _, ⟨_, Heap.get?_push_size _ rfl, rfl, rfl⟩, fun b hb => ?_, q⟩
    have e : b = s1.heap.objs.size := by simpa using hb
    subst e
    exact I1.fpOk (Nat.le_refl _) (I1.hok.fresh (Nat.le_refl _))
def dIt (d : D) : DI := fun r c => (d r c).bind fun x c => lift (itT x) c
section
variable {K : PySem.W.Frag} {F H : Hp} {k : List Addr} {c : Cs}
theorem wk_list {a : Addr} {xs : List V} {ts : List T} (h : SqL K F a xs) (r : Reps K F k ts xs) : Wk K (Itl K a) ts F k := fun F1 k1 c1 H1 ok s p => by
  have h1 : SqL K H1 a xs := SqL.sub (SqL.sub h s) ok.sub
  refine ⟨⟨xs, h1, by rw [r.length]; exact Nat.le_refl _⟩, fun i t e => ?_⟩
  obtain ⟨v, e1, e2⟩ := r.get e
  exact ⟨⟨xs, v, h1, e1⟩, fun x H' ⟨eH, q⟩ => by
    subst eH
    have e3 := q xs h1
    rw [e1] at e3; cases e3
    exact ⟨F1, ok, Ge.refl, e2.mono s p⟩⟩
theorem wk_tup {a : Addr} {xs : List V} {ts : List T} (h : SqT K F a xs) (r : Reps K F k ts xs) : Wk K (Itt K a) ts F k := fun F1 k1 c1 H1 ok s p => by
  have h1 : SqT K H1 a xs := SqT.sub (SqT.sub h s) ok.sub
  refine ⟨⟨xs, h1, by rw [r.length]; exact Nat.le_refl _⟩, fun i t e => ?_⟩
  obtain ⟨v, e1, e2⟩ := r.get e
  exact ⟨⟨xs, v, h1, e1⟩, fun x H' ⟨eH, q⟩ => by
    subst eH
    have e3 := q xs h1
    rw [e1] at e3; cases e3
    exact ⟨F1, ok, Ge.refl, e2.mono s p⟩⟩
theorem wk_range {lo : Int} {n : Nat} : Wk K (Itr lo n) ((List.range n).map fun i => T.int (lo + (i : Nat))) F k := fun F1 k1 c1 H1 ok s p => by
  refine ⟨by show n ≤ _; simp, fun i t e => ?_⟩
  rw [List.getElem?_map] at e
  by_cases hi : i < n
  · rw [List.getElem?_range hi] at e
    cases e
    refine ⟨hi, fun x H' ⟨eH, q⟩ => ?_⟩
    subst eH q
    exact ⟨F1, ok, Ge.refl, .int _⟩
  · rw [List.getElem?_eq_none (by simpa using hi)] at e; cases e
end
theorem ei_seq (h : EE X W e te d) : EI X W tg e (iSeqQ X.K te) (dIt d) := by
  refine ⟨pi_seqQ h.pe, fun N r c F k σ H R S pp => h.rd N r c F k σ H _ S (pp.seq fun x c1 v F1 k1 H1 q1 ok1 g1 r1 p1 => ?_)⟩
  clear q1
  cases x <;> try (exact p1.elim)
  case tup ts =>
    cases r1 with
    | tup q rr => exact ⟨_, rfl, .inr ⟨⟨_, SqT.sub q.t ok1.sub⟩, p1 _ F1 k1 H1 ok1 Ge.refl (wk_tup q.t rr)⟩⟩
  case lst ts =>
    cases r1 with
    | lst q rr => exact ⟨_, rfl, .inl ⟨⟨_, SqL.of (ok1.sub _ _ q)⟩, p1 _ F1 k1 H1 ok1 Ge.refl (wk_list (SqL.of q) rr)⟩⟩
  case scr ts =>
    cases r1 with
    | scr q rr => exact ⟨_, rfl, .inl ⟨⟨_, SqL.sub q ok1.sub⟩, p1 _ F1 k1 H1 ok1 Ge.refl (wk_list q rr)⟩⟩
/-- range(a), range(a, b) -/
def dItR (a : Env → Cs → Out (Int × Int)) : DI := fun r c => (a r c).bind fun b c => if rgOk b.1 b.2 = true then .ok ((rgI b.1 b.2).map T.int) c else .stk
theorem rgI_T (a b : Int) : (rgI a b).map T.int = (List.range (b - a).toNat).map fun i => T.int (a + (i : Nat)) := by unfold rgI; rw [List.map_map]; rfl
theorem ei_range1 (hm : X.mg "range" = none) (h : EE X W e te d) (hg : Gl X "range" := by rfl) (na : starEach [e] X.env = (false, eval e X.env) :: starEach [] X.env := by rfl) (hs : starEach [e] X.env = [(false, eval e X.env)] := by rfl) : EI X W tg (.Call (.Name "range" p) [e] [] pos) (iRng1 (tCons te tNil)) (dItR (dRg1 d)) := by
  refine ⟨pi_range1 hg hm (pa_cons h.pe pa_nil na) hs, fun N r c F k σ H R S pp => ?_⟩
  show te σ H _
  unfold dItR dRg1 at pp
  refine h.rd N r c F k σ H _ S ?_
  cases e0 : d r c with
  | stk => rw [e0] at pp; exact pp
  | err e c => rw [e0] at pp; exact pp
  | ok x c1 =>
    rw [e0] at pp
    intro v F1 k1 H1 ok1 g1 r1
    cases x <;> try (exact pp.elim)
    case int i =>
      cases r1
      replace pp : Post X.K X.mg (RI X.K) F k H (if rgOk 0 i = true then .ok ((rgI 0 i).map T.int) c1 else .stk) R W := pp
      by_cases hh : rgOk 0 i = true
      · rw [if_pos hh] at pp
        have q := rgOk.ok hh
        refine ⟨i, rfl, q.2.2.1, q.2.2.2.1, pp _ F1 k1 H1 ok1 g1 ?_⟩
        show Wk _ _ _ _ _
        rw [rgI_T]
        have e1 : (i - 0).toNat = i.toNat := by omega
        rw [e1]
        exact wk_range
      · rw [if_neg hh] at pp; exact pp.elim
theorem ei_range2 (hm : X.mg "range" = none) (h : EE X W e te d) (h2 : EE X W e2 te2 d') (hg : Gl X "range" := by rfl) (na : starEach [e, e2] X.env = (false, eval e X.env) :: starEach [e2] X.env := by rfl) (nb : starEach [e2] X.env = (false, eval e2 X.env) :: starEach [] X.env := by rfl)
    (hs : starEach [e, e2] X.env = [(false, eval e X.env), (false, eval e2 X.env)] := by rfl) (hs2 : starEach [e2] X.env = [(false, eval e2 X.env)] := by rfl) : EI X W tg (.Call (.Name "range" p) [e, e2] [] pos) (iRng2 (tCons te (tCons te2 tNil))) (dItR (dRg2 d d')) := by
  refine ⟨pi_range2 hg hm (pa_cons h.pe (pa_cons h2.pe pa_nil nb) na) hs hs2, fun N r c F k σ H R S pp => ?_⟩
  show te σ H _
  have bindA : ∀ {α β γ : Type} (o : Out α) (f : α → Cs → Out β) (g : β → Cs → Out γ), (o.bind f).bind g = o.bind fun a c => (f a c).bind g := fun o f g => by cases o <;> rfl
  unfold dItR dRg2 at pp
  rw [bindA] at pp
  refine h.rd N r c F k σ H _ S (pp.seq fun x c1 v F1 k1 H1 q1 ok1 g1 r1 p1 => ?_)
  rw [bindA] at p1
  refine h2.rd N r c1 F1 k1 σ H1 _ (S.step ok1 g1) (p1.seq fun y c2 u F2 k2 H2 q2 ok2 g2 r2 p2 => ?_)
  clear q1 q2
  cases x <;> try (exact p2.elim)
  case int i =>
    cases y <;> try (exact p2.elim)
    case int j =>
      cases r1; cases r2
      replace p2 : Post X.K X.mg (RI X.K) F2 k2 H2 (if rgOk i j = true then .ok ((rgI i j).map T.int) c2 else .stk) R W := p2
      by_cases hh : rgOk i j = true
      · rw [if_pos hh] at p2
        have q := rgOk.ok hh
        refine ⟨i, j, rfl, ⟨q.1, q.2.1, q.2.2.1, q.2.2.2.1⟩, p2 _ F2 k2 H2 ok2 Ge.refl ?_⟩
        show Wk _ _ _ _ _
        rw [rgI_T]
        exact wk_range
      · rw [if_neg hh] at p2; exact p2.elim
end
def wipeE (r : Env) : List Nat → Env
  | [] => r
  | v :: vs => (wipeE r vs).set v .un
theorem wipeE_length (r : Env) : ∀ vs, (wipeE r vs).length = r.length
  | [] => rfl
  | v :: vs => by unfold wipeE; rw [List.length_set, wipeE_length r vs]
section
variable {K : PySem.W.Frag} {mg : Str → Option Value} {N : Ent} {F F' H H' : Hp} {k k' : List Addr} {c c' : Cs} {r : Env} {σ : L2.St}
theorem SR.wipe (S : SR K N F k c r σ H) : ∀ vs : List Nat, (∀ v ∈ vs, v < r.length) → SR K N F k c (wipeE r vs) (wipe σ vs) H
  | [], _ => S
  | v :: vs, h => (SR.wipe S vs fun u hu => h u (List.mem_cons_of_mem _ hu)).setU (by rw [wipeE_length]; exact h v List.mem_cons_self)
theorem wipe_get {σ : L2.St} {j : Nat} : ∀ {vs : List Nat}, (wipe σ vs)[j]? = if j ∈ vs then (if j < σ.length then some none else none) else σ[j]?
  | [] => by simp [wipe]
  | v :: vs => by
    unfold wipe
    by_cases h : v = j
    · subst h
      by_cases hl : v < σ.length
      · rw [List.getElem?_set_self (by rw [wipe_length]; exact hl)]; simp [hl]
      · rw [List.getElem?_eq_none (by simp [wipe_length]; omega)]; simp [hl]
    · rw [List.getElem?_set_ne h, wipe_get]
      have : (j ∈ v :: vs) ↔ j ∈ vs := by simp [Ne.symm h]
      simp only [this]
theorem wipe_eq {σ τ : L2.St} {vs : List Nat} (hl : τ.length = σ.length) (h : ∀ j, j ∉ vs → τ[j]? = σ[j]?) : wipe τ vs = wipe σ vs := by
  apply List.ext_getElem?
  intro j
  rw [wipe_get, wipe_get, hl]
  split
  · rfl
  · exact h j ‹_›
end
/-- the tests -/
def dYes : DB := fun _ c => .ok true c
/-- a turn: what it gives, if anything -/
def lcTurn (g : DG) (tt : DB) (te : D) (r : Env) (t : T) : Cs → Out (Option T) := fun c => match g t r with
  | some r' => (tt r' c).bind fun b c => if b = true then (te r' c).bind fun y c => .ok (some y) c else .ok none c
  | none => .stk
def noErr {α : Type} : Out α → Out α
  | .err _ _ => .stk
  | o => o
def lcL (g : DG) (tt : DB) (te : D) (r : Env) : List T → Cs → Out (List T)
  | [], c => .ok [] c
  | t :: ts, c => (noErr (lcTurn g tt te r t c)).bind fun o c => (lcL g tt te r ts c).bind fun ys c => .ok (o.toList ++ ys) c
def dLc (di : DI) (g : DG) (tt : DB) (te : D) (vs : List Nat) : DA := fun r c => (di r c).bind fun ts c => if (ts.length ≤ 1000000 ∧ ∀ v ∈ vs, v < r.length) then lcL g tt te (wipeE r vs) ts c else .stk
section
variable {K : PySem.W.Frag} {mg : Str → Option Value} {W : XK} {wi : TI} {di : DI} {g : TG} {dg : DG} {is vs : List Nat} {tt : TT} {dt : DB} {te : TE} {d : D}
abbrev W0 : XK := fun _ _ _ => False
theorem Post.noErr {α β : Type} {R : RR α β} {F H : Hp} {k : List Addr} {o : Out α} {Q : β → Hp → Prop} (h : Post K mg R F k H o Q W) (hn : ∀ e c, o ≠ .err e c) {W' : XK} : Post K mg R F k H o Q W' := by
  cases o with
  | stk => exact h
  | ok a c => exact h
  | err e c => exact absurd rfl (hn e c)
theorem rdF_lc (hi : ∀ N r c F k σ H R, SR K N F k c r σ H → Post K mg (RI K) F k H (di r c) R W → wi σ H R) (hg : RdG K g dg is) (ht : RdB K mg W0 tt dt) (he : Rd K mg W0 te d) (hv : ∀ i ∈ is, i ∈ vs) :
    RdF K mg W (tLc wi g tt te vs) (dLc di dg dt d vs) := fun N r c F k σ H Q S p => by
  refine hi N r c F k σ H _ S (p.seq0 fun ts c1 J F1 k1 H1 q1 ok1 g1 w1 p1 => ?_)
  by_cases hh : ts.length ≤ 1000000 ∧ ∀ v ∈ vs, v < r.length
  rotate_left
  · rw [if_neg hh] at p1; exact p1.elim
  rw [if_pos hh] at p1
  intro D nD
  have nD0 : Fr0 H D := g1.none_of (fr0_none nD)
  have nF1 : F1 D = none := by
    cases e : F1 D with
    | none => rfl
    | some u => have := ok1.sub D u e; rw [nD] at this; cases this
  have nk1 : D ∉ k1 := fun hm => by
    obtain ⟨n, hn, e⟩ := List.getElem_of_mem hm
    obtain ⟨_, _, h2, _⟩ := ok1.cel n D (by rw [List.getElem?_eq_getElem hn, e])
    exact h2.ne nD
  -- the state at a turn: the list so far at D; the rest of the run gives what is wanted
  refine ⟨fun i m H' => ∃ acc xs c' F' k', i + m = ts.length ∧ acc.length ≤ i ∧ Ok K F' k' c' H' ∧ Ge F k H F' k' H' ∧ Sub F1 F' ∧ k1 <+: k' ∧ H' D = some (.lst xs) ∧ Reps K F' k' acc xs ∧ F' D = none ∧ D ∉ k' ∧
    Post K mg (RF K H) F k H ((lcL dg dt d (wipeE r vs) (ts.drop i) c').bind fun ys c => .ok (acc ++ ys) c) Q W, ⟨ts.length, [], [], c1, F1, k1, by omega, Nat.le_refl _, ok1.add nD, g1.trans (Ge.add ok1 nD), fun _ _ z => z, List.prefix_rfl, upd_same, .nil, nF1, nk1, ?_⟩, ?_⟩
  · have e : ((lcL dg dt d (wipeE r vs) (ts.drop 0) c1).bind fun ys c => .ok ([] ++ ys) c) = lcL dg dt d (wipeE r vs) ts c1 := by
      rw [List.drop_zero]
      cases lcL dg dt d (wipeE r vs) ts c1 <;> rfl
    rw [e]; exact p1
  rintro i m H2 ⟨acc, xs, c2, F2, k2, hm, hacc, ok2, g2, sF, sk, hD, rD, nF2, nk2, p2⟩
  obtain ⟨wstop, wgo⟩ := w1 F2 k2 c2 H2 ok2 sF sk
  by_cases hlt : i < ts.length
  · have e1 : ts.drop i = ts[i] :: ts.drop (i + 1) := by rw [List.drop_eq_getElem_cons hlt]
    rw [e1] at p2
    obtain ⟨go, yl⟩ := wgo i ts[i] (List.getElem?_eq_getElem hlt)
    refine .inr ⟨go, fun H' => ∃ acc xs c' F' k', acc.length ≤ i + 1 ∧ Ok K F' k' c' H' ∧ Ge F k H F' k' H' ∧ Sub F1 F' ∧ k1 <+: k' ∧ H' D = some (.lst xs) ∧ Reps K F' k' acc xs ∧ F' D = none ∧ D ∉ k' ∧
      Post K mg (RF K H) F k H ((lcL dg dt d (wipeE r vs) (ts.drop (i + 1)) c').bind fun ys c => .ok (acc ++ ys) c) Q W, fun H' ⟨a1, a2, a3, a4, a5, q1, q2⟩ => ⟨m - 1, by omega, a1, a2, a3, a4, a5, by omega, q1, q2⟩, fun x H' y => ?_⟩
    obtain ⟨F3, ok3, g3, rp⟩ := yl x H' y
    have gg3 := g2.trans g3
    have S3 : SR K N F3 k2 c2 r σ H' := S.step ok3 gg3
    have Sw := S3.wipe vs hh.2
    -- D stays the list's
    have keepD : ∀ {F4 H4 k4 c4}, Ok K F4 k4 c4 H4 → Ge F2 k2 H2 F4 k4 H4 → H4 D = some (.lst xs) ∧ F4 D = none ∧ D ∉ k4 := fun {F4 H4 k4 c4} ok4 g4 => by
      refine ⟨g4.hs D _ hD nk2 (fun ps z => by cases z), ?_, fun hm => ?_⟩
      · cases e : F4 D with
        | none => rfl
        | some o =>
          rcases g4.fn D o e with z | z
          · rw [nF2] at z; cases z
          · exact (fr0_lst z hD).elim
      · rcases g4.kn D hm with z | z
        · exact nk2 z
        · exact fr0_lst z hD
    replace p2 : Post K mg (RF K H) F k H (((noErr (lcTurn dg dt d (wipeE r vs) ts[i] c2)).bind fun o c => (lcL dg dt d (wipeE r vs) (ts.drop (i + 1)) c).bind fun ys c => .ok (o.toList ++ ys) c).bind fun ys c => .ok (acc ++ ys) c) Q W := p2
    cases e2 : dg ts[i] (wipeE r vs) with
    | none =>
      have et : lcTurn dg dt d (wipeE r vs) ts[i] c2 = .stk := by unfold lcTurn; rw [e2]
      rw [et] at p2; exact p2.elim
    | some r3 =>
      have et : lcTurn dg dt d (wipeE r vs) ts[i] c2 = (dt r3 c2).bind fun b c => if b = true then (d r3 c).bind fun y c => .ok (some y) c else .ok none c := by unfold lcTurn; rw [e2]
      rw [et] at p2
      refine hg.rd N _ r3 c2 F3 k2 _ H' ts[i] x _ Sw rp e2 fun σ3 S3' l3 w3 => ⟨?_, ?_⟩
      · refine wipe_eq (by rw [l3, wipe_length]) fun j hj => ?_
        rw [w3 j (fun z => hj (hv j z)), wipe_get, if_neg hj]
      · refine ht N r3 c2 F3 k2 σ3 H' _ S3' ?_
        cases e3 : dt r3 c2 with
        | stk => rw [e3] at p2; exact p2
        | err er c => rw [e3] at p2; exact p2.elim
        | ok b c3 =>
          rw [e3] at p2
          intro b' F4 k4 H4 ok4 g4 rb
          cases (show b' = b from rb)
          have S4 := S3'.step ok4 g4
          cases b with
          | false =>
            rw [if_neg Bool.false_ne_true]
            obtain ⟨d1, d2, d3⟩ := keepD ok4 (g3.trans g4)
            refine ⟨acc, xs, c3, F4, k4, by omega, ok4, gg3.trans g4, fun a o z => g4.f a o (g3.f a o (sF a o z)), sk.trans (g3.pk.trans g4.pk), d1, rD.mono (g3.trans g4).f (g3.trans g4).pk, d2, d3, ?_⟩
            have e5 : ((noErr (Out.bind (.ok false c3) fun b c => if b = true then (d r3 c).bind fun y c => .ok (some y) c else .ok none c)).bind fun o c => (lcL dg dt d (wipeE r vs) (ts.drop (i + 1)) c).bind fun ys c => .ok (o.toList ++ ys) c).bind (fun ys c => .ok (acc ++ ys) c) = (lcL dg dt d (wipeE r vs) (ts.drop (i + 1)) c3).bind fun ys c => .ok (acc ++ ys) c := by
              show ((lcL dg dt d (wipeE r vs) (ts.drop (i + 1)) c3).bind fun ys c => .ok ([] ++ ys) c).bind _ = _
              cases lcL dg dt d (wipeE r vs) (ts.drop (i + 1)) c3 <;> rfl
            rw [← e5]; exact p2
          | true =>
            rw [if_pos rfl]
            refine he N r3 c3 F4 k4 σ3 H4 _ S4 ?_
            cases e4 : d r3 c3 with
            | stk =>
              replace p2 : Post K mg (RF K H) F k H (((noErr ((d r3 c3).bind fun y c => .ok (some y) c)).bind fun o c => (lcL dg dt d (wipeE r vs) (ts.drop (i + 1)) c).bind fun ys c => .ok (o.toList ++ ys) c).bind fun ys c => .ok (acc ++ ys) c) Q W := p2
              rw [e4] at p2; exact p2
            | err er c =>
              replace p2 : Post K mg (RF K H) F k H (((noErr ((d r3 c3).bind fun y c => .ok (some y) c)).bind fun o c => (lcL dg dt d (wipeE r vs) (ts.drop (i + 1)) c).bind fun ys c => .ok (o.toList ++ ys) c).bind fun ys c => .ok (acc ++ ys) c) Q W := p2
              rw [e4] at p2; exact p2.elim
            | ok y c5 =>
              replace p2 : Post K mg (RF K H) F k H (((noErr ((d r3 c3).bind fun y c => .ok (some y) c)).bind fun o c => (lcL dg dt d (wipeE r vs) (ts.drop (i + 1)) c).bind fun ys c => .ok (o.toList ++ ys) c).bind fun ys c => .ok (acc ++ ys) c) Q W := p2
              rw [e4] at p2
              intro v F5 k5 H5 ok5 g5 rv
              obtain ⟨d1, d2, d3⟩ := keepD ok5 ((g3.trans g4).trans g5)
              have gg5 := (gg3.trans g4).trans g5
              have rD5 : Reps K F5 k5 acc xs := rD.mono ((g3.trans g4).trans g5).f ((g3.trans g4).trans g5).pk
              refine ⟨xs, d1, ?_, acc ++ [y], xs ++ [v], c5, F5, k5, by simp; omega, ok5.write d1 d3 d2, ?_, fun a o z => g5.f a o (g4.f a o (g3.f a o (sF a o z))), sk.trans ((g3.pk.trans g4.pk).trans g5.pk), upd_same, rD5.append (.cons rv .nil), d2, d3, ?_⟩
              · rw [← rD.length]
                have := line1m
                have := hh.1
                omega
              · refine ⟨gg5.f, gg5.fn, gg5.pk, gg5.kn, fun a o z ha ht => ?_, fun a o z ht => ?_⟩
                · rw [upd_ne (fr0_ne nD0 z ht)]; exact gg5.hs a o z ha ht
                · rw [upd_ne (fr0_ne nD0 z ht)]; exact gg5.hd a o z ht
              · have e5 : ((noErr (Out.bind (.ok y c5) fun y c => .ok (some y) c)).bind fun o c => (lcL dg dt d (wipeE r vs) (ts.drop (i + 1)) c).bind fun ys c => .ok (o.toList ++ ys) c).bind (fun ys c => .ok (acc ++ ys) c) = (lcL dg dt d (wipeE r vs) (ts.drop (i + 1)) c5).bind fun ys c => .ok ((acc ++ [y]) ++ ys) c := by
                  show ((lcL dg dt d (wipeE r vs) (ts.drop (i + 1)) c5).bind fun ys c => .ok ([y] ++ ys) c).bind _ = _
                  cases lcL dg dt d (wipeE r vs) (ts.drop (i + 1)) c5 with
                  | ok ys c => show Out.ok (acc ++ ([y] ++ ys)) c = Out.ok ((acc ++ [y]) ++ ys) c; rw [List.append_assoc]
                  | _ => rfl
                rw [← e5]; exact p2
  · have e1 : ts.drop i = [] := List.drop_eq_nil_of_le (by omega)
    rw [e1] at p2
    have e3 : i = ts.length := by omega
    refine .inl ⟨by rw [e3]; exact wstop, ?_⟩
    replace p2 : Post K mg (RF K H) F k H (.ok (acc ++ []) c2) Q W := p2
    rw [List.append_nil] at p2
    exact p2 (.ref D) F2 k2 H2 ok2 g2 ⟨D, xs, rfl, hD, rD, nF2, nk2, nD0⟩
end
end Q
namespace Q
open PySem PySem.Spec PyProof.Rows L2
structure ETs (X : Cx) (W : XK) (ifs : List Expr) (te : TT) (d : DB) : Prop where
  pe : PTs X ifs te
  rd : RdB X.K X.mg W te d
section
variable {X : Cx} {W : XK} {tg iter elt e : Expr} {ifs : List Expr} {scope : Scope} {own : List (Str × Nat)} {pos spos : Pos} {wi : TI} {g : TG} {dg : DG} {di : DI} {is : List Nat} {tt : TT} {dt : DB} {te : TE} {d : D}
theorem ets_nil : ETs X W [] tYes dYes := ⟨pts_nil, fun N r c F k σ H Q S p => p true F k H S.ok Ge.refl rfl⟩
theorem ets_one (h : ET X W e tt dt) : ETs X W [e] tt dt := ⟨pts_one h.pe, h.rd⟩
theorem passW0 {X : Cx} : Passes (L2.CX X.prog X.w) X W0 := fun _ _ _ _ _ _ _ h => by
  obtain ⟨_, _, _, _, _, _, _, _, _, _, _, _, z⟩ := h
  exact z.elim
theorem ef_lc (hN : X.N.Nodup) (ok : BlkOk X.N X.env.scope scope own) (hi : EI X W tg iter wi di)
    (hg : ∀ (s : Shared) (H : Hp) (C : Addr) (cl : List (Str × Addr)) (fp : List Addr), EG (X.blk s H scope (compEnvC scope cl C X.env) fp) tg g dg is)
    (ht : ∀ (s : Shared) (H : Hp) (C : Addr) (cl : List (Str × Addr)) (fp : List Addr), ETs (X.blk s H scope (compEnvC scope cl C X.env) fp) W0 ifs tt dt)
    (he : ∀ (s : Shared) (H : Hp) (C : Addr) (cl : List (Str × Addr)) (fp : List Addr), EE (X.blk s H scope (compEnvC scope cl C X.env) fp) W0 elt te d)
    (hv : ∀ i ∈ is, i ∈ own.map (·.2) := by decide) (hc : X.calm = true := by rfl) (hs : ∀ x, foldedSetIterable iter X.env x = pure x := by intro _; rfl) :
    EF X W (.ListComp elt [⟨tg, iter, ifs, 0⟩] scope pos) (tLc wi g tt te (own.map (·.2))) (dLc di dg dt d (own.map (·.2))) :=
  ⟨pe_lc hc hN hi.pe ok (fun s H C cl fp => (hg s H C cl fp).pe) (fun s H C cl fp => (ht s H C cl fp).pe) (fun s H C cl fp => (he s H C cl fp).pe) hs,
    rdF_lc hi.rd (hg X.s_0 X.H_0 0 [] []).rd (ht X.s_0 X.H_0 0 [] []).rd (he X.s_0 X.H_0 0 [] []).rd hv⟩
/-- y = [..] on one line -/
theorem ps_lc {i : Nat} {y : Str} {py : Pos} (hN : X.N.Nodup) (ok : BlkOk X.N X.env.scope scope own) (hi : EI X W tg iter wi di)
    (hg : ∀ (s : Shared) (H : Hp) (C : Addr) (cl : List (Str × Addr)) (fp : List Addr), EG (X.blk s H scope (compEnvC scope cl C X.env) fp) tg g dg is)
    (ht : ∀ (s : Shared) (H : Hp) (C : Addr) (cl : List (Str × Addr)) (fp : List Addr), ETs (X.blk s H scope (compEnvC scope cl C X.env) fp) W0 ifs tt dt)
    (he : ∀ (s : Shared) (H : Hp) (C : Addr) (cl : List (Str × Addr)) (fp : List Addr), EE (X.blk s H scope (compEnvC scope cl C X.env) fp) W0 elt te d)
    (hy : X.N[i]? = some y) (hyl : X.env.scope.names.lookup y = some .local) (hsw : swapsWith (.ListComp elt [⟨tg, iter, ifs, 0⟩] scope pos) (some (.Name y py)) spos.line X.env = pure true)
    (hc : X.calm = true := by rfl) (hs : ∀ x, foldedSetIterable iter X.env x = pure x := by intro _; rfl) :
    PS X (.Assign [.Name y py] (.ListComp elt [⟨tg, iter, ifs, 0⟩] scope pos) spos) (tAsg (tLc wi g tt te (own.map (·.2))) (gName i)) :=
  ps_setLc hc hN hy hyl hsw hi.pe ok (fun s H C cl fp => (hg s H C cl fp).pe) (fun s H C cl fp => (ht s H C cl fp).pe) (fun s H C cl fp => (he s H C cl fp).pe) hs
theorem Rd_frz {K : PySem.W.Frag} {mg : Str → Option Value} {te : TE} {d : DA} (h : RdF K mg W te d) : Rd K mg W te (dFrz d) := by
  intro N r c F k σ H Q S p
  refine h N r c F k σ H Q S ?_
  refine p.seq0 fun ts c1 v F1 k1 H1 _ ok g rr q => ?_
  obtain ⟨a, xs, rfl, h1, h2, h3, h4, h5⟩ := rr
  have sF : Sub F1 (upd F1 a (.lst xs)) := fun b u q => by rw [upd_ne (ne_of_none q h3)]; exact q
  refine q (.ref a) (upd F1 a (.lst xs)) k1 H1 (ok.freeze h1 h4 h3) ⟨fun b o z => sF b o (g.f b o z), fun b o z => ?_, g.pk, g.kn, g.hs, g.hd⟩ (.lst upd_same (h2.mono sF List.prefix_rfl))
  by_cases hb : b = a
  · subst hb; exact .inr h5
  · rw [upd_ne hb] at z; exact g.fn b o z
end
/-- what a method does with the items and the arguments: the items behind it, what it hands back -/
def MutR (K : PySem.W.Frag) (r : V → List V → Hp → VK → Prop) (f : List T → List T → Option (List T × T)) : Prop :=
  ∀ ts us ts' t xs vs a (H : Hp) F k (Q : VK), f ts us = some (ts', t) → H a = some (.lst xs) → Reps K F k ts xs → Reps K F k us vs → Sub F H →
    (∀ ys w, Reps K F k ts' ys → Rep K F k t w → Q w (upd H a (.lst ys))) → r (.ref a) vs H Q
def dMut (i : Nat) (f : List T → List T → Option (List T × T)) (da : DA) : DS := fun r c => match r[i]? with
  | some (.own ts) => (da r c).bind fun us c => (match f ts us with
    | some (ts', _) => .ok (.nxt (r.set i (.own ts'))) c
    | none => .stk)
  | _ => .stk
section
variable {K : PySem.W.Frag} {mg : Str → Option Value} {W : XK} {r0 : V → List V → Hp → VK → Prop} {f : List T → List T → Option (List T × T)} {t : TA} {da : DA} {i : Nat}
theorem rd_mutA (hf : MutR K r0 f) (ha : RdA K mg W t da) : RdStm K mg W (tDrop (tBM K "list" r0 (tVar i) t)) (dMut i f da) := fun N r c F k σ H D S p => by
  unfold dMut at p
  split at p
  · rename_i ts e
    obtain ⟨a, xs, h1, h2, h3, h4, h5, h6⟩ := S.own i ts e
    refine ⟨.ref a, h1, Or.inl ⟨rfl, _, SqL.of h2⟩, ha N r c F k σ H _ S (PostS.seq S.ge p fun us c1 vs F1 k1 H1 ok1 g1 r1 p1 => ?_)⟩
    have S1 := S.step ok1 g1
    cases e1 : f ts us with
    | none => rw [e1] at p1; exact p1.elim
    | some q =>
      obtain ⟨ts', t'⟩ := q
      rw [e1] at p1
      exact hf ts us ts' t' xs vs a H1 F1 k1 _ e1 (g1.hs a _ h2 h5 fun ps z => by cases z) (h3.mono g1.f g1.pk) r1 ok1.sub fun ys w ry rw' => p1 σ _ F1 k1 (S1.wr e h1 ry) (fun _ _ z => z) List.prefix_rfl
  · exact p.elim
theorem rd_mut0 (hf : MutR K r0 f) : RdStm K mg W (tDrop (tBM0 K "list" r0 (tVar i))) (dMut i f dNil) := fun N r c F k σ H D S p => by
  unfold dMut at p
  split at p
  · rename_i ts e
    obtain ⟨a, xs, h1, h2, h3, h4, h5, h6⟩ := S.own i ts e
    replace p : PostS K mg N F k (match f ts [] with | some (ts', _) => .ok (.nxt (r.set i (.own ts'))) c | none => .stk) D W := p
    cases e1 : f ts [] with
    | none => rw [e1] at p; exact p.elim
    | some q =>
      obtain ⟨ts', t'⟩ := q
      rw [e1] at p
      exact ⟨.ref a, h1, Or.inl ⟨rfl, _, SqL.of h2⟩, hf ts [] ts' t' xs [] a H F k _ e1 h2 h3 .nil S.ok.sub fun ys w ry rw' => p σ _ F k (S.wr e h1 ry) (fun _ _ z => z) List.prefix_rfl⟩
  · exact p.elim
def appM (ts us : List T) : Option (List T × T) := match us with
  | [t] => if ts.length < 1000000 then some (ts ++ [t], .non) else none
  | _ => none
theorem mut_app : MutR K rAppend appM := fun ts us ts' t xs vs a H F k Q e hH r1 r2 s q => by
  cases r2 with
  | nil => cases e
  | cons ra rb =>
    cases rb with
    | cons _ _ => cases e
    | nil =>
      simp only [appM] at e
      split at e
      · cases e
        exact ⟨a, xs, _, rfl, rfl, hH, by rw [← r1.length]; exact Nat.lt_of_lt_of_le ‹_› line1m, q _ _ (r1.append (.cons ra .nil)) .non⟩
      · cases e
def extM (ts us : List T) : Option (List T × T) := match us with
  | [.lst us] => if ts.length + us.length ≤ 1000000 then some (ts ++ us, .non) else none
  | _ => none
theorem mut_ext : MutR K rExtend extM := fun ts us ts' t xs vs a H F k Q e hH r1 r2 s q => by
  cases r2 with
  | nil => cases e
  | cons ra rb =>
    cases rb with
    | cons _ _ => simp only [extM] at e; cases e
    | nil =>
      cases ra with
      | lst hb rr =>
        simp only [extM] at e
        split at e
        · cases e
          exact ⟨a, _, xs, _, rfl, rfl, hH, s _ _ hb, by rw [← r1.length, ← rr.length]; exact Nat.le_trans ‹_› line1m, q _ _ (r1.append rr) .non⟩
        · cases e
      | _ => cases e
def popM (ts us : List T) : Option (List T × T) := match us with
  | [] => (ts[ts.length - 1]?).map fun t => (ts.dropLast, t)
  | _ => none
theorem mut_pop : MutR K rPop popM := fun ts us ts' t xs vs a H F k Q e hH r1 r2 s q => by
  cases r2 with
  | cons _ _ => cases e
  | nil =>
    simp only [popM] at e
    cases e1 : ts[ts.length - 1]? with
    | none => rw [e1] at e; cases e
    | some t0 =>
      rw [e1] at e; cases e
      obtain ⟨v, g1, g2⟩ := r1.get e1
      rw [r1.length] at g1
      exact ⟨a, xs, v, rfl, rfl, hH, g1, q _ _ r1.dropLast g2⟩
def insM (ts us : List T) : Option (List T × T) := match us with
  | [.int i, t] => if (decide (ts.length < 1000000) && decide (0 ≤ i) && decide (i < 1000000)) = true then some (ts.take i.toNat ++ [t] ++ ts.drop i.toNat, .non) else none
  | _ => none
def rInsQ : V → List V → Hp → VK → Prop := fun x vs H Q => ∃ (l : Addr) (xs : List V) (i : Int) (y : V), x = .ref l ∧ vs = [.int i, y] ∧ H l = some (.lst xs) ∧ xs.length < sizeLine ∧ 0 ≤ i ∧ i < 2 ^ 63 ∧ Q .non (upd H l (.lst (xs.take i.toNat ++ [y] ++ xs.drop i.toNat)))
theorem mut_ins : MutR K rInsQ insM := fun ts us ts' t xs vs a H F k Q e hH r1 r2 s q => by
  unfold insM at e
  split at e
  · cases r2 with
    | cons ra rb =>
      cases rb with
      | cons rc rd =>
        cases rd
        cases ra
        split at e
        · rename_i hh
          simp only [Bool.and_eq_true, decide_eq_true_eq] at hh
          cases e
          exact ⟨a, xs, _, _, rfl, rfl, hH, by rw [← r1.length]; exact Nat.lt_of_lt_of_le hh.1.1 line1m, hh.1.2, by omega, q _ _ (((r1.take _).append (.cons rc .nil)).append (r1.drop _)) .non⟩
        · cases e
  · cases e
end
section
variable {X : Cx} {W : XK} {o e e2 : Expr} {te te2 : TE} {d d' : D} {i : Nat} {apos cpos pos : Pos}
theorem ss_app (ho : PE X o (tVar i)) (he : EE X W e te d) (hbase : attributeBase o "append" X.env (eval o X.env) = eval o X.env := by rfl) (hfew : ((backTo cpos (starEach [e] X.env)).all (fun x => !x.1) && (backToKw cpos (keywordEach [] X.env)).all (fun x => x.1.isSome)
      && decide (([e]).length + ([] : List Keyword).length + (if ([] : List Keyword).isEmpty then 0 else 1) < 30)) = true := by rfl) (hline : (apos.endLine == cpos.line) = true := by rfl) (hs : starEach [e] X.env = (false, eval e X.env) :: starEach [] X.env := by rfl) (hplain : (backTo cpos (starEach [] X.env)).any (·.1) = false := by rfl)
    (hsw : swapsWith (.Call (.Attribute o "append" apos) [e] [] cpos) none pos.line X.env = pure false := by rfl) :
    SS X W (.Expr (.Call (.Attribute o "append" apos) [e] [] cpos) pos) (tDrop (tBM X.K "list" rAppend (tVar i) (tCons te tNil))) (dMut i appM (dCons d dNil)) :=
  ⟨ps_expr (pe_bm PySem.F.plainAttrs_list PySem.F.slot_list_append PySem.F.type_list_append mt_append ho (pa_cons he.pe pa_nil hs) hbase hfew hline hs hplain) hsw, rd_mutA mut_app (ea_cons he ea_nil hs).rd⟩
theorem ss_ext (ho : PE X o (tVar i)) (he : EE X W e te d) (hbase : attributeBase o "extend" X.env (eval o X.env) = eval o X.env := by rfl) (hfew : ((backTo cpos (starEach [e] X.env)).all (fun x => !x.1) && (backToKw cpos (keywordEach [] X.env)).all (fun x => x.1.isSome)
      && decide (([e]).length + ([] : List Keyword).length + (if ([] : List Keyword).isEmpty then 0 else 1) < 30)) = true := by rfl) (hline : (apos.endLine == cpos.line) = true := by rfl) (hs : starEach [e] X.env = (false, eval e X.env) :: starEach [] X.env := by rfl) (hplain : (backTo cpos (starEach [] X.env)).any (·.1) = false := by rfl)
    (hsw : swapsWith (.Call (.Attribute o "extend" apos) [e] [] cpos) none pos.line X.env = pure false := by rfl) :
    SS X W (.Expr (.Call (.Attribute o "extend" apos) [e] [] cpos) pos) (tDrop (tBM X.K "list" rExtend (tVar i) (tCons te tNil))) (dMut i extM (dCons d dNil)) :=
  ⟨ps_expr (pe_bm PySem.F.plainAttrs_list PySem.F.slot_list_extend PySem.F.type_list_extend mt_extend ho (pa_cons he.pe pa_nil hs) hbase hfew hline hs hplain) hsw, rd_mutA mut_ext (ea_cons he ea_nil hs).rd⟩
theorem ss_pop (ho : PE X o (tVar i)) (hbase : attributeBase o "pop" X.env (eval o X.env) = eval o X.env := by rfl) (hline : (apos.endLine == cpos.line) = true := by rfl)
    (hsw : swapsWith (.Call (.Attribute o "pop" apos) [] [] cpos) none pos.line X.env = pure false := by rfl) :
    SS X W (.Expr (.Call (.Attribute o "pop" apos) [] [] cpos) pos) (tDrop (tBM0 X.K "list" rPop (tVar i))) (dMut i popM dNil) :=
  ⟨ps_expr (pe_bm0 PySem.F.plainAttrs_list PySem.F.slot_list_pop PySem.F.type_list_pop mt_pop ho hbase hline) hsw, rd_mut0 mut_pop⟩
theorem ss_ins (ho : PE X o (tVar i)) (he : EE X W e te d) (he2 : EE X W e2 te2 d') (hbase : attributeBase o "insert" X.env (eval o X.env) = eval o X.env := by rfl) (hfew : ((backTo cpos (starEach [e, e2] X.env)).all (fun x => !x.1) && (backToKw cpos (keywordEach [] X.env)).all (fun x => x.1.isSome)
      && decide (([e, e2]).length + ([] : List Keyword).length + (if ([] : List Keyword).isEmpty then 0 else 1) < 30)) = true := by rfl) (hline : (apos.endLine == cpos.line) = true := by rfl) (hs : starEach [e, e2] X.env = (false, eval e X.env) :: starEach [e2] X.env := by rfl) (hs2 : starEach [e2] X.env = (false, eval e2 X.env) :: starEach [] X.env := by rfl) (hplain : (backTo cpos (starEach [e2] X.env)).any (·.1) = false := by rfl)
    (hsw : swapsWith (.Call (.Attribute o "insert" apos) [e, e2] [] cpos) none pos.line X.env = pure false := by rfl) :
    SS X W (.Expr (.Call (.Attribute o "insert" apos) [e, e2] [] cpos) pos) (tDrop (tBM X.K "list" rInsQ (tVar i) (tCons te (tCons te2 tNil)))) (dMut i insM (dCons d (dCons d' dNil))) :=
  ⟨ps_expr (pe_bm PySem.F.plainAttrs_list PySem.F.slot_list_insert PySem.F.type_list_insert mt_insert ho (pa_cons he.pe (pa_cons he2.pe pa_nil hs2) hs) hbase hfew hline hs hplain) hsw, rd_mutA mut_ins (ea_cons he (ea_cons he2 ea_nil hs2) hs).rd⟩
/-- the items with v at place i -/
def putAt (ts : List T) (i : T) (v : T) : Option (List T) := match i with
  | .int i => (ixN ts.length i).map fun j => ts.set j v
  | _ => none
/-- on a slot's own list, or on a shared one -/
def dPut (i : Nat) (dj dv : D) : DS := fun r c => (dv r c).bind fun v c => match r[i]? with
  | some (.own ts) => (dj r c).bind fun j c => (match putAt ts j v with
    | some ts' => .ok (.nxt (r.set i (.own ts'))) c
    | none => .stk)
  | some (.val (.cel n)) => (dj r c).bind fun j c => (match (c[n]?).bind noDt with
    | some ts => (match (putAt ts j v).bind noDt with
      | some ts' => .ok (.nxt r) (c.set n ts')
      | none => .stk)
    | none => .stk)
  | _ => .stk
theorem putAt_reps {K : PySem.W.Frag} {F : Hp} {k : List Addr} {ts ts' : List T} {xs : List V} {j v : T} {w : V} (e : putAt ts j v = some ts') (r : Reps K F k ts xs) (rv : Rep K F k v w) : ∃ n m, j = .int n ∧ ixN xs.length n = some m ∧ Reps K F k ts' (xs.set m w) := by
  cases j <;> try (cases e; done)
  case int n =>
    replace e : (ixN ts.length n).map (fun j => ts.set j v) = some ts' := e
    cases e1 : ixN ts.length n with
    | none => rw [e1] at e; cases e
    | some m => rw [e1] at e; cases e; exact ⟨n, m, rfl, by rw [← r.length]; exact e1, r.set rv m⟩
theorem ss_put {oi : Expr} {tpos : Pos} (hv : EE X W e te d) (ho : PE X o (tVar i)) (hi : EE X W oi te2 d') (hp : PS X (.Assign [.Subscript o oi tpos] e pos) (tAsg te (gSub (tVar i) te2 rSetL))) :
    SS X W (.Assign [.Subscript o oi tpos] e pos) (tAsg te (gSub (tVar i) te2 rSetL)) (dPut i d' d) := by
  refine ⟨hp, fun N r c F k σ H D S p => hv.rd N r c F k σ H _ S (PostS.seq S.ge p fun v c1 w F1 k1 H1 ok1 g1 rv p1 => ?_)⟩
  have S1 := S.step ok1 g1
  split at p1
  · rename_i ts e1
    obtain ⟨a, xs, h1, h2, h3, h4, h5, h6⟩ := S1.own i ts e1
    refine ⟨.ref a, h1, hi.rd N r c1 F1 k1 σ H1 _ S1 (PostS.seq S1.ge p1 fun j c2 u F2 k2 H2 ok2 g2 rj p2 => ?_)⟩
    have S2 := S1.step ok2 g2
    cases e2 : putAt ts j v with
    | none => rw [e2] at p2; exact p2.elim
    | some ts' =>
      rw [e2] at p2
      obtain ⟨n, m, en, em, rr⟩ := putAt_reps e2 (h3.mono g2.f g2.pk) (rv.mono g2.f g2.pk)
      subst en
      cases rj
      exact ⟨a, xs, n, m, rfl, rfl, g2.hs a _ h2 h5 (fun ps z => by cases z), em, p2 σ _ F2 k2 (S2.wr e1 h1 rr) (fun _ _ z => z) List.prefix_rfl⟩
  · rename_i n e1
    obtain ⟨v1, h1, h2⟩ := S1.val i _ e1
    cases h2 with
    | cel hn =>
      rename_i a
      refine ⟨.ref a, h1, hi.rd N r c1 F1 k1 σ H1 _ S1 (PostS.seq S1.ge p1 fun j c2 u F2 k2 H2 ok2 g2 rj p2 => ?_)⟩
      have S2 := S1.step ok2 g2
      have hn2 : k2[n]? = some a := pre_get g2.pk hn
      obtain ⟨ts, q1, hc, q4⟩ := ok2.cel n a hn2
      rw [q1, Option.bind_some] at p2
      cases hu : noDt ts with
      | none => rw [hu] at p2; exact p2.elim
      | some us =>
      rw [hu] at p2
      obtain ⟨rfl, hu2⟩ := noDt_eq hu
      obtain ⟨xs, q2, q3⟩ := hc.lst hu2
      replace p2 : PostS X.K X.mg N F2 k2 (match (putAt us j v).bind noDt with | some ts' => .ok (.nxt r) (c2.set n ts') | none => .stk) D W := p2
      cases e2 : putAt us j v with
      | none => rw [e2] at p2; exact p2.elim
      | some ts' =>
        rw [e2, Option.bind_some] at p2
        cases e3 : noDt ts' with
        | none => rw [e3] at p2; exact p2.elim
        | some ts2 =>
        rw [e3] at p2
        obtain ⟨rfl, _⟩ := noDt_eq e3
        obtain ⟨n', m, en, em, rr⟩ := putAt_reps e2 q3 (rv.mono g2.f g2.pk)
        subst en
        cases rj
        exact ⟨a, xs, n', m, rfl, rfl, q2, em, p2 σ _ F2 k2 (S2.step (ok2.writeC hn2 rr e3) (Ge.writeC ok2 hn2)) (fun _ _ z => z) List.prefix_rfl⟩
  · exact p1.elim
/-- return [..], the list shared from now on -/
def dRetC (d : DA) : DS := fun r c => (d r c).bind fun ts c => match noDt ts with
  | some ts => .ok (.ret (.cel c.length)) (c ++ [ts])
  | none => .stk
theorem ss_retC {dl : DA} (h : EF X W e te dl) : SS X W (.Return (some e) pos) (tRet te) (dRetC dl) := by
  refine ⟨ps_ret h.pe, fun N r c F k σ H D S p => h.rd N r c F k σ H _ S (PostS.seq S.ge p fun ts c1 v F1 k1 H1 ok1 g1 r1 p1 => ?_)⟩
  obtain ⟨a, xs, rfl, h1, h2, h3, h4, h5⟩ := r1
  have hN : Fr0 N.H a := S.ge.none_of h5
  cases hu : noDt ts with
  | none => rw [hu] at p1; exact p1.elim
  | some us =>
  rw [hu] at p1
  obtain ⟨rfl, _⟩ := noDt_eq hu
  refine p1 (.ref a) F1 (k1 ++ [a]) H1 ?_ ⟨(S.ge.trans g1).f, (S.ge.trans g1).fn, (S.ge.trans g1).pk.trans (List.prefix_append _ _), fun b hb => ?_, (S.ge.trans g1).hs, (S.ge.trans g1).hd⟩ (.cel (by rw [← ok1.len]; simp))
  · refine ⟨ok1.sub, fun n b e => ?_, by simp [ok1.len], ?_, ok1.nt, ok1.tb⟩
    · by_cases hn : n < k1.length
      · rw [List.getElem?_append_left hn] at e
        obtain ⟨t1, q1, q2, q4⟩ := ok1.cel n b e
        exact ⟨t1, by rw [List.getElem?_append_left (by rw [← ok1.len]; exact hn)]; exact q1, q2.mono (fun _ _ z => z) (List.prefix_append _ _) rfl, q4⟩
      · rw [List.getElem?_append_right (by omega)] at e
        have hm : n - k1.length = 0 := by
          have := (List.getElem?_eq_some_iff.mp e).1
          simp at this; omega
        rw [hm] at e
        have e' : a = b := by simpa using e
        subst e'
        have hc : n = c1.length := by have := ok1.len; omega
        exact ⟨_, by rw [hc]; simp, .inl ⟨xs, h1, h2.mono (fun _ _ z => z) (List.prefix_append _ _), hu⟩, h3⟩
    · rw [List.nodup_append]
      refine ⟨ok1.nd, by simp, fun x hx y hy e => ?_⟩
      have e' : y = a := by simpa using hy
      exact h4 (by rw [← e', ← e]; exact hx)
  · rcases List.mem_append.mp hb with hb | hb
    · exact (S.ge.trans g1).kn b hb
    · have e : b = a := by simpa using hb
      subst e; exact .inr hN
end
end Q
namespace Q
open PySem PySem.Spec PyProof.Rows L2
theorem u65 {A : Around} {k : Nat} (h : Room k A) : A.units + 65 < cLine := by have := h.un; omega
theorem opr_eq {X : Cx} {k : Nat} (h : Room k X.A) : OpR X (compareOp .Eq) (rEqD X.K) := op_eqD h.units
theorem opr_ne {X : Cx} {k : Nat} (h : Room k X.A) : OpR X (compareOp .NotEq) (rNeD X.K) := op_neD h.units
theorem opr_inr {X : Cx} {k : Nat} (h : Room k X.A) : OpR X (compareOp .In) (rInQ X.K) := opr_in (u65 h)
theorem opr_ninr {X : Cx} {k : Nat} (h : Room k X.A) : OpR X (compareOp .NotIn) (rNinQ X.K) := opr_nin (u65 h)
/-- what the making of lambdas asks of the ground -/
def BaseOk (K : PySem.W.Frag) (mg : Str → Option Value) (base : Heap) : Prop := ∀ x ∈ lamsOf K, LamX.TabB base mg (He.codeOf K (x, none)) (tabOf K x)
/-- a def of the text that keeps the promise of a plain function -/
def Has (P : Program) (w : World) (K : PySem.W.Frag) (mg : Str → Option Value) (k : Nat) (x : Str) (ps : List Str) (df : DF) : Prop :=
  ∃ f fd, (∀ base, BaseOk K mg base → FnOk P w K mg base (L2.CX P w) k f fd ps (spQ K mg ps.length df)) ∧ mg x = some (.ref f) ∧ PySem.W.keepIn K (.ref f) = true ∧ ∀ (s : Shared) (us : List Value), us.length = ps.length → BindsTo s fd ⟨us, []⟩ (ps.zip us)
theorem binds_any {K : PySem.W.Frag} {fd : FuncData} {ps : List Str} (h : ∀ (s : Shared) (us : List Value), us.length = ps.length → BindsTo s fd ⟨us, []⟩ (ps.zip us)) : L2.Binds K fd ps [] := fun s us _ hl => by
  rw [List.append_nil] at hl ⊢; exact h s us hl
/-- where a def stands -/
def Def (K : PySem.W.Frag) (mg : Str → Option Value) (x : Str) (st : Stmt) : Prop := ∃ fd, FunD K x x (defArgs st) (defBody st) (defScope st) [] [] (He.ga K x) fd ∧ mg x = some (.ref (He.ga K x))
section
variable {P : Program} {w : World} {K : PySem.W.Frag} {mg : Str → Option Value}
theorem has_mk {x : Str} {st : Stmt} {N ps : List Str} {k : Nat} {ds : DS} (D : Def K mg x st) (S : FnScope N ps (defScope st))
    (hb : ∀ (kV doc pm : Value) (an : Option Addr) (cdv ct : Value) (us : List Value), us.length = ps.length → bindArgs (PySem.W.fnOf x x (defArgs st) (defBody st) (defScope st) .none kV doc pm an cdv ct) ⟨us, []⟩ = pure (ps.zip us))
    (h : ∀ (base : Heap) (bo : BaseOk K mg base) (f : Addr) (cdv : Value) (hcd : cdv = .ref (He.codeOf K (x, none))) (A : Around) (outer : List PySem.Env) (s : Shared) (H : Hp) (E : XK), Room k (A.deeper (envOfC x (defScope st) s.heap.objs.size f cdv)) →
      Takes (cxOf (L2.CX P w) P w K mg base N x (defScope st) f cdv A outer s H E) (fun cls d _ H => E cls d H) →
      PassesOwn (model P w) (A.deeper (envOfC x (defScope st) s.heap.objs.size f cdv)) (envOfC x (defScope st) s.heap.objs.size f cdv) (cxOf (L2.CX P w) P w K mg base N x (defScope st) f cdv A outer s H E).xe →
      Passes (L2.CX P w) (cxOf (L2.CX P w) P w K mg base N x (defScope st) f cdv A outer s H E) E →
      ∃ ts, SSs (cxOf (L2.CX P w) P w K mg base N x (defScope st) f cdv A outer s H E) E (defBody st) ts ds) :
    Has P w K mg (k + 1) x ps (runF N.length ds) := by
  obtain ⟨fd, F, gm⟩ := D
  generalize hf : He.ga K x = f at F gm
  refine ⟨f, fd, fun base bo => fn_ok F S fun cdv A outer s H E hc hr => ?_, gm, F.kp, F.bindsA hb⟩
  obtain ⟨c, e1, e2⟩ := hc
  have hcd : cdv = .ref (He.codeOf K (x, none)) := by rw [e1, e2 (x, none) hf]
  have tk : Takes (cxOf (L2.CX P w) P w K mg base N x (defScope st) f cdv A outer s H E) (fun cls d _ H => E cls d H) := takes_of rfl rfl rfl rfl
  exact h base bo f cdv hcd A outer s H E hr tk (passes_of (X := cxOf (L2.CX P w) P w K mg base N x (defScope st) f cdv A outer s H E) rfl) (passes_call tk fun _ _ _ _ h => h)
end
section
variable {X : Cx} {W : XK} {e a b e2 e3 o tg iter : Expr} {es : List Expr} {t : TA} {da : DA} {x : Str} {p p2 pos pos' : Pos} {k j : Nat} {ps : List Str} {df : DF} {te ta tb tc te2 : TE} {d db dc d' : D} {dl : DA} {i : Nat} {bid Ty : String} {r0 : List V → Hp → VK → Prop}
variable (K : PySem.W.Frag)
theorem ee_opk {op : Operator} {r : R2} {f : T → T → Option T} (h : Op2 K r f) (ho : OpR X (binaryOp op) r) (ha : ES X W a ta d) (hb : ES X W b tb db) (hK : X.K = K := by rfl) : EE X W (.BinOp a op b pos) (tOp r ta tb) (d2 f d db) := by
  subst hK; exact ee_op ho h ha hb
theorem ef_opk {op : Operator} {r : R2} {f : T → T → Option (List T)} (h : OpF2 K r f) (ho : OpR X (binaryOp op) r) (ha : ES X W a ta d) (hb : ES X W b tb db) (hK : X.K = K := by rfl) : EF X W (.BinOp a op b pos) (tOp r ta tb) (dF2 f d db) := by
  subst hK; exact ef_op ho h ha hb
theorem ee_unk {op : UnaryOp} {r : V → Hp → VK → Prop} {f : T → Option T} (h : Op1 K r f) (ho : UnR X (unaryOp op) r) (ha : ES X W a ta d) (hK : X.K = K := by rfl) : EE X W (.UnaryOp op a pos) (tUn r ta) (d1 f d) := by
  subst hK; exact ee_un ho h ha
theorem ee_cmpk {op : CmpOp} {r : R2} {f : T → T → Option T} (h : Op2 K r f) (ho : OpR X (compareOp op) r) (ha : ES X W a ta d) (hb : ES X W b tb db) (hm : behindInMarks op b = false := by first | exact nomark _ | rfl) (hK : X.K = K := by rfl) : EE X W (.Compare a [op] [b] pos) (tOp r ta tb) (d2 f d db) := by
  subst hK; exact ee_cmp ho h ha hb hm
theorem et_cmpk {op : CmpOp} {r : R2} {f : T → T → Option T} (h : Op2 K r f) (ho : OpR X (compareOp op) r) (ha : ES X W a ta d) (hb : ES X W b tb db) (hm : behindInMarks op b = false := by first | exact nomark _ | rfl) (hK : X.K = K := by rfl) : ET X W (.Compare a [op] [b] pos) (tTest (tOp r ta tb)) (dTest (d2 f d db)) := by
  subst hK; exact et_cmp ho h ha hb hm
theorem ee_chaink {op op' : CmpOp} {r r' : R2} {f f' : T → T → Option T}
    (hf : ∀ x y v u c F k H Q b, f x y = some (.bl b) → Ok K F k c H → SeqR K F k H x v → SeqR K F k H y u → Q (.bl b) H → r v u H Q) (hf' : Op2 K r' f') (ho : OpR X (compareOp op) r) (ho' : OpR X (compareOp op') r')
    (ha : ES X W a ta d) (hb : ES X W b tb db) (hc : ES X W e3 tc dc) (h1 : lastMarks [op, op'] [b, e3] = false := by with_unfolding_all rfl) (hK : X.K = K := by rfl) :
    EE X W (.Compare a [op, op'] [b, e3] pos) (tChain r r' ta tb tc) (dChain f f' d db dc) := by
  subst hK; exact ee_chain ho ho' hf hf' ha hb hc h1
theorem et_chaink {op op' : CmpOp} {r r' : R2} {f f' : T → T → Option T}
    (hf : ∀ x y v u c F k H Q b, f x y = some (.bl b) → Ok K F k c H → SeqR K F k H x v → SeqR K F k H y u → Q (.bl b) H → r v u H Q) (hf' : Op2 K r' f') (ho : OpR X (compareOp op) r) (ho' : OpR X (compareOp op') r')
    (ha : ES X W a ta d) (hb : ES X W b tb db) (hc : ES X W e3 tc dc) (h1 : lastMarks [op, op'] [b, e3] = false := by with_unfolding_all rfl) (hK : X.K = K := by rfl) :
    ET X W (.Compare a [op, op'] [b, e3] pos) (tTest (tChain r r' ta tb tc)) (dTest (dChain f f' d db dc)) := by
  subst hK; exact ⟨pt_chain ho ho' ha.pe hb.pe hc.pe h1, rdB_of (ee_chain (pos := pos) ho ho' hf hf' ha hb hc h1).rd⟩
theorem ee_ixk (ha : ES X W a ta d) (hb : ES X W b tb db) (hs : PlainIx b := by exact fun _ _ => rfl) (hK : X.K = K := by rfl) : EE X W (.Subscript a b pos) (tOp (rIxQ K) ta tb) (dIx d db) := by
  subst hK; exact ee_ix ha hb hs
theorem ee_slTk {lo hi : Option Expr} {tl th : TO} {dl dh : DO} (he : ES X W e te d) (hl : EO X W lo tl dl) (hh : EO X W hi th dh) (hK : X.K = K := by rfl) : EE X W (.Subscript e (.Slice lo hi none p2) pos) (tSl (rSlN K) te tl th) (dSlT d dl dh) := by
  subst hK; exact ee_slT he hl hh
theorem ef_slLk {lo hi : Option Expr} {tl th : TO} {dl dh : DO} (he : ES X W e te d) (hl : EO X W lo tl dl) (hh : EO X W hi th dh) (hK : X.K = K := by rfl) : EF X W (.Subscript e (.Slice lo hi none p2) pos) (tSl (rSlL K) te tl th) (dSlL d dl dh) := by
  subst hK; exact ef_slL he hl hh
theorem ee_call1k {f : T → Option T} (h : Op1 K (fun x H Q => r0 [x] H Q) f) (hc : CallR X (.builtin bid) r0) (hm : X.mg x = none) (hv : bootBuiltins x = some (.builtin bid)) (ha : ES X W e te d) (hg : Gl X x := by rfl) (hn : x ≠ "__name__" := by decide) (hdb : (x == ("__debug__" : Str)) = false := by decide)
    (he : starEach [e] X.env = (false, eval e X.env) :: starEach [] X.env := by rfl) (hpl : (backTo pos (starEach [] X.env)).any (·.1) = false := by rfl) (hK : X.K = K := by rfl) : EE X W (.Call (.Name x p) [e] [] pos) (tCB r0 (tCons te tNil)) (d1 f d) := by
  subst hK; exact ee_call1 hc h hm hv ha hg hn hdb he hpl
theorem ef_call1k {f : T → Option (List T)} (h : OpF1 K (fun x H Q => r0 [x] H Q) f) (hc : CallR X (.builtin bid) r0) (hm : X.mg x = none) (hv : bootBuiltins x = some (.builtin bid)) (ha : ES X W e te d) (hg : Gl X x := by rfl) (hn : x ≠ "__name__" := by decide) (hdb : (x == ("__debug__" : Str)) = false := by decide)
    (he : starEach [e] X.env = (false, eval e X.env) :: starEach [] X.env := by rfl) (hpl : (backTo pos (starEach [] X.env)).any (·.1) = false := by rfl) (hK : X.K = K := by rfl) : EF X W (.Call (.Name x p) [e] [] pos) (tCB r0 (tCons te tNil)) (dF1 f d) := by
  subst hK; exact ef_call1 hc h hm hv ha hg hn hdb he hpl
theorem ee_ty1k {f : T → Option T} (h : Op1 K (fun x H Q => r0 [x] H Q) f) (hc : CallR X (.type Ty) r0) (hm : X.mg x = none) (hv : bootBuiltins x = some (.type Ty)) (ha : ES X W e te d) (hg : Gl X x := by rfl) (hn : x ≠ "__name__" := by decide) (hdb : (x == ("__debug__" : Str)) = false := by decide)
    (he : starEach [e] X.env = (false, eval e X.env) :: starEach [] X.env := by rfl) (hpl : (backTo pos (starEach [] X.env)).any (·.1) = false := by rfl) (hK : X.K = K := by rfl) : EE X W (.Call (.Name x p) [e] [] pos) (tCB r0 (tCons te tNil)) (d1 f d) := by
  subst hK; exact ee_ty1 hc h hm hv ha hg hn hdb he hpl
theorem ef_ty1k {f : T → Option (List T)} (h : OpF1 K (fun x H Q => r0 [x] H Q) f) (hc : CallR X (.type Ty) r0) (hm : X.mg x = none) (hv : bootBuiltins x = some (.type Ty)) (ha : ES X W e te d) (hg : Gl X x := by rfl) (hn : x ≠ "__name__" := by decide) (hdb : (x == ("__debug__" : Str)) = false := by decide)
    (he : starEach [e] X.env = (false, eval e X.env) :: starEach [] X.env := by rfl) (hpl : (backTo pos (starEach [] X.env)).any (·.1) = false := by rfl) (hK : X.K = K := by rfl) : EF X W (.Call (.Name x p) [e] [] pos) (tCB r0 (tCons te tNil)) (dF1 f d) := by
  subst hK; exact ef_ty1 hc h hm hv ha hg hn hdb he hpl
theorem ee_call2k {f : T → T → Option T} (h : Op2 K (fun x y H Q => r0 [x, y] H Q) f) (hc : CallR X (.builtin bid) r0) (hm : X.mg x = none) (hv : bootBuiltins x = some (.builtin bid)) (ha : ES X W e te d) (hb : ES X W e2 te2 d') (hg : Gl X x := by rfl) (hn : x ≠ "__name__" := by decide) (hdb : (x == ("__debug__" : Str)) = false := by decide)
    (he : starEach [e, e2] X.env = (false, eval e X.env) :: starEach [e2] X.env := by rfl) (he2 : starEach [e2] X.env = (false, eval e2 X.env) :: starEach [] X.env := by rfl) (hpl : (backTo pos (starEach [e2] X.env)).any (·.1) = false := by rfl) (hK : X.K = K := by rfl) :
    EE X W (.Call (.Name x p) [e, e2] [] pos) (tCB r0 (tCons te (tCons te2 tNil))) (d2 f d d') := by
  subst hK; exact ee_call2 hc h hm hv ha hb hg hn hdb he he2 hpl
theorem ee_isik (ms : String) {m : Str} (hm : X.mg "isinstance" = none) (hm2 : X.mg m = none) (hv2 : bootBuiltins m = some (.type ms)) (ha : ES X W e te d) (hg : Gl X "isinstance" := by rfl) (hg2 : Gl X m := by rfl) (hn2 : m ≠ "__name__" := by decide) (hd2 : (m == ("__debug__" : Str)) = false := by decide)
    (he : starEach [e, .Name m p2] X.env = (false, eval e X.env) :: starEach [.Name m p2] X.env := by rfl) (he2 : starEach [.Name m p2] X.env = (false, eval (.Name m p2) X.env) :: starEach [] X.env := by rfl) (hpl : (backTo pos (starEach [.Name m p2] X.env)).any (·.1) = false := by rfl) (hK : X.K = K := by rfl) :
    EE X W (.Call (.Name "isinstance" p) [e, .Name m p2] [] pos) (tCB (rIsi K) (tCons te (tCons (tC (.ty ms)) tNil))) (d1 (isiT ms) d) := by
  subst hK; exact ee_isi hm hm2 hv2 ha hg hg2 hn2 hd2 he he2 hpl
theorem ei_seqk (h : EE X W e te d) (hK : X.K = K := by rfl) : EI X W tg e (iSeqQ K te) (dIt d) := by
  subst hK; exact ei_seq h
theorem egs_two {g : TG} {gs : TGs} {dg : DG} {dgs : List DG} {is js : List Nat} (h1 : EG X e g dg is) (h2 : EGs X es gs dgs js)
    (hs : (assignEach (e :: es) X.env).map (·.2) = assign e X.env :: (assignEach es X.env).map (·.2) := by rfl) : EGs X (e :: es) (gCons g gs) (dg :: dgs) (is ++ js) := egs_cons h1 h2 (pgs_cons h1.pe h2.pe hs)
theorem eg_tuplek {kk n : Nat} {g : TGs} {dgs : List DG} {is : List Nat} (h : EGs X es g dgs is) (hc : X.calm = true := by rfl)
    (hn : (assignEach es X.env).length = n := by rfl) (hst : (assignEach es X.env).findIdx? (·.1) = none := by rfl) (hl : dgs.length = n := by rfl) (hK : X.K = K := by rfl) : EG X (.Tuple es kk pos) (gTup K n g) (gTupl dgs) is := by
  subst hK; exact eg_tup h (pg_tup hc h.pe hn hst) hl
variable (mg : Str → Option Value)
theorem ee_has {P : Program} {w : World} (bo : BaseOk K mg X.base) (h : Has P w K mg k x ps df) (hr : Room j X.A) (hp : Passes (L2.CX X.prog X.w) X W) (ha : EA X W (e :: es) t da) (hk : k ≤ j := by decide) (hg : Gl X x := by rfl) (hdb : (x == ("__debug__" : Str)) = false := by decide)
    (he : starEach (e :: es) X.env = (false, eval e X.env) :: starEach es X.env := by rfl) (hpl : (backTo pos (starEach es X.env)).any (·.1) = false := by rfl) (hK : X.K = K := by rfl) (hM : X.mg = mg := by rfl) (hP : X.prog = P := by rfl) (hw : X.w = w := by rfl) :
    EE X W (.Call (.Name x p) (e :: es) [] pos) (tCall (spQ K mg ps.length df) [] W t) (dCall ps.length df da) := by
  subst hK hM hP hw
  obtain ⟨f, fd, Fo, gm, kp, bd⟩ := h
  exact ee_call (Fo _ bo) (hr.mono hk) gm kp (binds_any bd) hp ha hg hdb he hpl
theorem ee_has0 {P : Program} {w : World} (bo : BaseOk K mg X.base) (h : Has P w K mg k x ps df) (hr : Room j X.A) (hp : Passes (L2.CX X.prog X.w) X W) (hk : k ≤ j := by decide) (hg : Gl X x := by rfl) (hdb : (x == ("__debug__" : Str)) = false := by decide) (hK : X.K = K := by rfl) (hM : X.mg = mg := by rfl) (hP : X.prog = P := by rfl) (hw : X.w = w := by rfl) :
    EE X W (.Call (.Name x p) [] [] pos) (tCall (spQ K mg ps.length df) [] W tNil) (dCall ps.length df dNil) := by
  subst hK hM hP hw
  obtain ⟨f, fd, Fo, gm, kp, bd⟩ := h
  exact ee_call0 (Fo _ bo) (hr.mono hk) gm kp (binds_any bd) hp hg hdb
end
section
variable {X : Cx} {W : XK} {e a b e2 e3 o oi tg : Expr} {es : List Expr} {t : TA} {da : DA} {x : Str} {p p2 pos pos' tpos : Pos} {te ta tb tc te2 : TE} {d db dc d' : D} {dl : DA} {i : Nat} {st : Stmt}
theorem ss_setE (i : Nat) (he : EE X W e te d) (hN : X.N.Nodup) (hi : X.N[i]? = some x := by rfl) (hx : Loc X.env.scope x := by first | exact .inl rfl | exact .inr rfl) (hs : swapsWith e (some (.Name x pos')) pos.line X.env = pure false := by rfl) (hf : X.fn x = true ∨ X.env.scope.names.lookup x = some .local := by first | exact .inl rfl | exact .inr rfl | assumption) :
    SS X W (.Assign [.Name x pos'] e pos) (tAsg te (gName i)) (dSet i d) := ss_set (ps_name he.pe hN hi hx hs hf) he.rd
theorem ss_ownF (i : Nat) (he : EF X W e te dl) (hN : X.N.Nodup) (hi : X.N[i]? = some x := by rfl) (hx : Loc X.env.scope x := by first | exact .inl rfl | exact .inr rfl) (hs : swapsWith e (some (.Name x pos')) pos.line X.env = pure false := by rfl) (hf : X.fn x = true ∨ X.env.scope.names.lookup x = some .local := by first | exact .inl rfl | exact .inr rfl | assumption) :
    SS X W (.Assign [.Name x pos'] e pos) (tAsg te (gName i)) (dOwn i dl) := ss_own (ps_name he.pe hN hi hx hs hf) he.rd
/-- a, b = x, y -/
def dPar (i j : Nat) (da : DA) : DS := fun r c => (da r c).bind fun ts c => match ts with
  | [x, y] => if i < r.length ∧ j < r.length then .ok (.nxt ((r.set i (.val x)).set j (.val y))) c else .stk
  | _ => .stk
theorem ss_par {st : Stmt} {i j : Nat} (h : PS X st (tPar i j t)) (ha : EA X W es t da) : SS X W st (tPar i j t) (dPar i j da) := by
  refine ⟨h, fun N r c F k σ H D S p => ha.rd N r c F k σ H _ S (PostS.seq S.ge p fun ts c1 vs F1 k1 H1 ok1 g1 r1 p1 => ?_)⟩
  cases r1 with
  | nil => exact p1.elim
  | cons ra rb => cases rb with
    | nil => exact p1.elim
    | cons rc rd => cases rd with
      | cons _ _ => exact p1.elim
      | nil =>
        rename_i t1 v1 t2 v2
        replace p1 : PostS X.K X.mg N F1 k1 (if i < r.length ∧ j < r.length then .ok (.nxt ((r.set i (.val t1)).set j (.val t2))) c1 else .stk) D W := p1
        by_cases hh : i < r.length ∧ j < r.length
        · rw [if_pos hh] at p1
          exact ⟨v1, v2, rfl, p1 _ H1 F1 k1 (((S.step ok1 g1).setV ra hh.1).setV rc (by simpa using hh.2)) (fun _ _ z => z) List.prefix_rfl⟩
        · rw [if_neg hh] at p1; exact p1.elim
theorem ss_parE (i j : Nat) {x y : Str} {a b : Expr} {px py pt : Pos} {kt k2 pt2} (ha : EA X W [a, b] t da) (hN : X.N.Nodup) (hi : X.N[i]? = some x := by rfl) (hj : X.N[j]? = some y := by rfl) (hij : i ≠ j := by decide)
    (hx : X.env.scope.names.lookup x = some .local := by rfl) (hy : X.env.scope.names.lookup y = some .local := by rfl)
    (hw : swappedStores [.Tuple [.Name x px, .Name y py] kt pt] (.Tuple [a, b] k2 pt2) X.env = pure (some [x, y]) := by rfl)
    (hs : swapsWithSole [.Tuple [.Name x px, .Name y py] kt pt] (.Tuple [a, b] k2 pt2) pos.line X.env = pure false := by rfl) (hc : X.calm = true := by rfl) :
    SS X W (.Assign [.Tuple [.Name x px, .Name y py] kt pt] (.Tuple [a, b] k2 pt2) pos) (tPar i j t) (dPar i j da) := ss_par (ps_par hc hN hi hj hij hx hy ha.pe hw hs) ha
theorem ss_asgE {g : TG} {dg : DG} {is : List Nat} (he : EE X W e te d) (hg : EG X tg g dg is) (hs : swapsWithSole [tg] e pos.line X.env = pure false := by rfl) (hw : swappedStores [tg] e X.env = pure none := by rfl)
    (h1 : (assignEach [tg] X.env).map (·.2) = [assign tg X.env] := by rfl) : SS X W (.Assign [tg] e pos) (tAsg te g) (dAsg d dg) := ss_asg he hg (ps_asg he.pe hg.pe hs hw h1)
theorem ss_putE (i : Nat) (hv : EE X W e te d) (ho : PE X o (tVar i)) (hi : EE X W oi te2 d') (ha : ∀ v, assign (.Subscript o oi tpos) X.env v = (do
      let ov ← holding [v] (eval o X.env)
      let iv ← holding [v, ov] (eval oi X.env)
      standAt tpos
      holding [v, ov, iv] (setItem ov iv v)
      release [v, ov, iv] []) := by intro _; rfl) (hs : swapsWithSole [.Subscript o oi tpos] e pos.line X.env = pure false := by rfl) (hw : swappedStores [.Subscript o oi tpos] e X.env = pure none := by rfl)
    (h1 : (assignEach [.Subscript o oi tpos] X.env).map (·.2) = [assign (.Subscript o oi tpos) X.env] := by rfl) :
    SS X W (.Assign [.Subscript o oi tpos] e pos) (tAsg te (gSub (tVar i) te2 rSetL)) (dPut i d' d) := ss_put hv ho hi (ps_asg hv.pe (pg_sub ho hi.pe set_list ha) hs hw h1)
end
def Exc (K : PySem.W.Frag) (mg : Str → Option Value) (x : Str) : Prop := PySem.W.excIn K (He.ga K x) He.veBase "ValueError.__new__" = true ∧ PySem.W.keepIn K (.ref (He.ga K x)) = true ∧ PySem.W.subIn K (.ref (He.ga K x)) (.type "BaseException") = some true ∧ PySem.W.typeIn K (.ref (He.ga K x)) = some (.type "type") ∧ mg x = some (.ref (He.ga K x))
section
variable {X : Cx} {W : XK} {x m : Str} {j : Nat} {p p2 pos pos2 : Pos}
theorem ss_raiseQ (h : Exc X.K X.mg x) (tk : Takes X (fun cls d _ H => W cls d H)) (hc : X.calm = true := by rfl) (hg : Gl X x := by rfl) (hdb : (x == ("__debug__" : Str)) = false := by decide) :
    SS X W (.Raise (some (.Call (.Name x p) [.Constant (.str m) j p2] [] pos)) none pos2) (fun _ σ H => W (.ref (He.ga X.K x)) none H) (dRaise x) :=
  ss_raise F.excBase_ValueError h.1 h.2.2.2.2 h.2.1 (raises_own h.2.2.1 h.2.2.2.1) tk hc hg hdb
end
theorem fn_cx0 {P : Program} {w : World} {K : PySem.W.Frag} {mg : Str → Option Value} {base : Heap} {k : Nat} {f : Addr} {fd : FuncData} {ps : List Str} {sp : Sp} (Fo : FnOk P w K mg base (L2.CX P w) k f fd ps sp) : FnOk P w K mg base CX0 k f fd ps (fun vs H Q _ => sp vs H Q E0) := by
  refine ⟨fun vs H Q E h => Fo.len vs H Q E0 h, fun A outer s H args us vs Q E hr he hb hv hs => codeAny_mono (Fo.run A outer s H args us vs Q E0 hr he hb hv hs) fun r s' q => ?_⟩
  cases r with
  | ok fl => cases fl <;> exact q
  | error e =>
    obtain ⟨_, _, _, _, _, _, _, _, _, _, _, _, z⟩ := q
    exact z.elim
theorem law_post {K : PySem.W.Frag} {mg : Str → Option Value} {H : Hp} {a : Addr} {ns : List Int} {df : DF} {Q : VK} {E : XK} (hT : ∀ x ∈ lamsOf K, H (tabOf K x) = some (.tbl #[])) (hS : SqL K H a (ns.map V.int)) (h : ∃ c, df [T.scr (ns.map T.int)] [] = .ok (.bl true) c) (q : ∀ H', Q (.bl true) H') : spQ K mg 1 df [.ref a] H Q E := by
  classical
  obtain ⟨c, e⟩ := h
  have tb : LamX.Tabs (tabsOf K) H := fun p hp => by
    obtain ⟨x, hx, ep⟩ := List.mem_map.mp hp
    subst ep
    exact LamX.TabS.nil (hT x hx)
  let F : Hp := fun b => if ∃ ps, H b = some (.tbl ps) then none else H b
  have hF : Sub F H := fun b o z => by
    by_cases hb : ∃ ps, H b = some (.tbl ps)
    · have z' : (none : Option HO) = some o := (if_pos hb).symm.trans z
      cases z'
    · exact (if_neg hb).symm.trans z
  have nt : ∀ b ps, F b ≠ some (.tbl ps) := fun b ps z => by
    by_cases hb : ∃ ps, H b = some (.tbl ps)
    · have z' : (none : Option HO) = some _ := (if_pos hb).symm.trans z
      cases z'
    · exact hb ⟨ps, (if_neg hb).symm.trans z⟩
  have keep : ∀ u, L2.Rd H a u → (∀ ps, u ≠ .tbl ps) → L2.Rd F a u := fun u z n => by
    have nb : ∀ o : HO, H a = some o → (∀ ps, o ≠ .tbl ps) → F a = some o := fun o e2 n2 => by
      have hb : ¬ ∃ ps, H a = some (.tbl ps) := fun ⟨ps, q⟩ => n2 ps (Option.some.inj (e2.symm.trans q))
      exact (if_neg hb).trans e2
    rcases z with z | ⟨o, z⟩
    · exact .inl (nb _ z n)
    · exact .inr ⟨o, nb _ z fun ps q => by cases q⟩
  have hS' : SqL K F a (ns.map V.int) := by
    rcases hS with z | z
    · exact .inl (keep _ z fun ps q => by cases q)
    · exact .inr z
  refine ⟨F, [], [], [T.scr (ns.map T.int)], rfl, ⟨hF, fun n b z => by simp at z, rfl, List.nodup_nil, nt, tb⟩, .cons (.scr hS' (reps_ints ns)) .nil, ?_⟩
  rw [e]
  intro v F' k' H' ok g r
  cases r
  exact q H'
theorem def_of {K : PySem.W.Frag} {mg : Str → Option Value} {h : Heap} {fa : List He.Fa} {fn : List He.DefD} (X : K.In h) (G : h.Ns mainGlobals mg) (c : He.SaysD fa fn K) (i j : Nat) {x : Str} {st : Stmt} (hd : fn[i]? = some ⟨(x, none), x, x, defArgs st, defBody st, defScope st, [], []⟩ := by rfl) (hf : fa[j]? = some (.glo x) := by rfl) : Def K mg x st := by
  obtain ⟨fd, F⟩ := c.def_ i hd
  exact ⟨fd, F, He.glo_ok X G (c.fact j hf)⟩
theorem exc_of {K : PySem.W.Frag} {mg : Str → Option Value} {h : Heap} {fa : List He.Fa} {fn : List He.DefD} (X : K.In h) (G : h.Ns mainGlobals mg) (c : He.SaysD fa fn K) (i j : Nat) {x : Str} (hd : fa[i]? = some (.exc x) := by rfl) (hf : fa[j]? = some (.glo x) := by rfl) : Exc K mg x := by
  obtain ⟨h1, h2, h3, h4⟩ := He.exc_ok (c.fact i hd)
  exact ⟨h1, h2, h3, h4, He.glo_ok X G (c.fact j hf)⟩
end Q
namespace Q
open PySem PySem.Spec PyProof.Rows L2
/-- the run ends, and with what -/
structure WP {α : Type} (o : Out α) (Q : α → Cs → Prop) : Prop where
  ok : ∃ a c, o = .ok a c ∧ Q a c
section
variable {α β : Type} {o : Out α} {Q Q' : α → Cs → Prop}
@[simp] theorem WP_ok {a : α} {c : Cs} : WP (.ok a c) Q ↔ Q a c := ⟨fun ⟨_, _, e, h⟩ => by cases e; exact h, fun h => ⟨_, _, rfl, h⟩⟩
@[simp] theorem WP_stk : WP (.stk : Out α) Q ↔ False := ⟨fun ⟨_, _, e, _⟩ => (by cases e), False.elim⟩
@[simp] theorem WP_err {e c} : WP (.err e c : Out α) Q ↔ False := ⟨fun ⟨_, _, e, _⟩ => (by cases e), False.elim⟩
@[simp] theorem WP_bind {f : α → Cs → Out β} {R : β → Cs → Prop} : WP (o.bind f) R ↔ WP o fun a c => WP (f a c) R := by
  cases o with
  | ok a c => rw [WP_ok]; exact Iff.rfl
  | stk => rw [WP_stk]; exact WP_stk
  | err e c => rw [WP_err]; exact WP_err
theorem WP.mono (h : WP o Q) (k : ∀ a c, Q a c → Q' a c) : WP o Q' := by
  obtain ⟨a, c, e, q⟩ := h
  exact ⟨a, c, e, k a c q⟩
theorem WP.eq {a : α} {c : Cs} (h : WP o fun a' c' => a' = a ∧ c' = c) : o = .ok a c := by
  obtain ⟨a, c, e, rfl, rfl⟩ := h
  exact e
theorem WP.law {o : Out T} (h : WP o fun t _ => t = .bl true) : ∃ c, o = .ok (.bl true) c := by
  obtain ⟨t, c, e, rfl⟩ := h.ok
  exact ⟨c, e⟩
theorem WP_of_eq {a : α} {c : Cs} (e : o = .ok a c) (h : Q a c) : WP o Q := ⟨_, _, e, h⟩
@[simp] theorem bind_ok {a : α} {c : Cs} {f : α → Cs → Out β} : (Out.ok a c).bind f = f a c := (rfl)
@[simp] theorem bind_stk {f : α → Cs → Out β} : (Out.stk : Out α).bind f = .stk := (rfl)
@[simp] theorem bind_err {e c} {f : α → Cs → Out β} : (Out.err e c : Out α).bind f = .err e c := (rfl)
@[simp] theorem bind_bind {γ : Type} {f : α → Cs → Out β} {g : β → Cs → Out γ} : (o.bind f).bind g = o.bind fun a c => (f a c).bind g := by cases o <;> rfl
@[simp] theorem lift_some {a : α} {c : Cs} : lift (some a) c = .ok a c := (rfl)
@[simp] theorem lift_none {c : Cs} : lift (none : Option α) c = .stk := (rfl)
@[simp] theorem noErr_ok {a : α} {c : Cs} : noErr (.ok a c) = .ok a c := (rfl)
@[simp] theorem noErr_stk : noErr (.stk : Out α) = .stk := (rfl)
@[simp] theorem noErr_err {e c} : noErr (.err e c : Out α) = .stk := (rfl)
theorem WP_noErr (h : WP o Q) : WP (noErr o) Q := by
  obtain ⟨a, c, rfl, q⟩ := h
  exact WP_of_eq rfl q
end
section
variable {r : Env} {c : Cs} {i j n : Nat} {t : T} {d d' d3 : D} {da : DA} {dt dt' : DB} {ds ds' : DS} {f : T → Option T} {f2 f2' : T → T → Option T}
@[simp] theorem dVar_e : dVar i r c = (match r[i]? with | some (.val t) => .ok t c | _ => .stk) := (rfl)
@[simp] theorem dPeek_e : dPeek i r c = (match r[i]? with | some (.val t) => .ok t c | some (.own ts) => .ok (.lst ts) c | _ => .stk) := (rfl)
@[simp] theorem dC_e : dC t r c = .ok t c := (rfl)
@[simp] theorem d2_e : d2 f2 d d' r c = (d r c).bind fun x c => (d' r c).bind fun y c => lift (f2 x y) c := (rfl)
@[simp] theorem d1_e : d1 f d r c = (d r c).bind fun x c => lift (f x) c := (rfl)
@[simp] theorem dF2_e {f : T → T → Option (List T)} : dF2 f d d' r c = (d r c).bind fun x c => (d' r c).bind fun y c => lift (f x y) c := (rfl)
@[simp] theorem dF1_e {f : T → Option (List T)} : dF1 f d r c = (d r c).bind fun x c => lift (f x) c := (rfl)
@[simp] theorem dNil_e : dNil r c = .ok [] c := (rfl)
@[simp] theorem dCons_e : dCons d da r c = (d r c).bind fun x c => (da r c).bind fun y c => .ok (x :: y) c := (rfl)
@[simp] theorem dTup_e : dTup da r c = (da r c).bind fun xs c => if xs.length ≤ 1000000 then .ok (.tup xs) c else .stk := (rfl)
@[simp] theorem dLst_e : dLst da r c = (da r c).bind fun xs c => if xs.length ≤ 1000000 then .ok xs c else .stk := (rfl)
@[simp] theorem dFrz_e : dFrz da r c = (da r c).bind fun ts c => .ok (.lst ts) c := (rfl)
@[simp] theorem dTest_e : dTest d r c = (d r c).bind fun x c => match x with | .bl b => .ok b c | _ => .stk := (rfl)
@[simp] theorem dAndB_e : dAndB dt dt' r c = (dt r c).bind fun x c => if x = true then dt' r c else .ok false c := (rfl)
@[simp] theorem dOrB_e : dOrB dt dt' r c = (dt r c).bind fun x c => if x = true then .ok true c else dt' r c := (rfl)
@[simp] theorem dNotB_e : dNotB dt r c = (dt r c).bind fun x c => .ok (!x) c := (rfl)
@[simp] theorem dAndV_e : dAndV d d' r c = (d r c).bind fun x c => match x with | .bl true => d' r c | .bl false => .ok (.bl false) c | _ => .stk := (rfl)
@[simp] theorem dOrV_e : dOrV d d' r c = (d r c).bind fun x c => match x with | .bl true => .ok (.bl true) c | .bl false => d' r c | _ => .stk := (rfl)
@[simp] theorem dNotV_e : dNotV d r c = (d r c).bind fun x c => lift (match x with | .bl b => some (.bl (!b)) | _ => none) c := (rfl)
@[simp] theorem dIf_e : dIf dt d d' r c = (dt r c).bind fun x c => if x = true then d r c else d' r c := (rfl)
@[simp] theorem dChain_e : dChain f2 f2' d d' d3 r c = (d r c).bind fun x s => (d' r s).bind fun y s => match f2 x y with
  | some (.bl true) => (d3 r s).bind fun z s => lift (f2' y z) s
  | some (.bl false) => .ok (.bl false) s
  | _ => .stk := (rfl)
@[simp] theorem dIx_e : dIx d d' r c = (d r c).bind fun x c => (d' r c).bind fun y c => lift (ixT c x y) c := (rfl)
@[simp] theorem dNo_e : dNo r c = .ok none c := (rfl)
@[simp] theorem dPart_e : dPart d r c = (d r c).bind fun x c => match x with | .int i => .ok (some i) c | _ => .stk := (rfl)
@[simp] theorem dSlT_e {l h : DO} : dSlT d l h r c = (d r c).bind fun x c => (l r c).bind fun lo c => (h r c).bind fun hi c => match x with | .tup ts => .ok (.tup (cutT ts lo hi)) c | _ => .stk := (rfl)
@[simp] theorem dSlL_e {l h : DO} : dSlL d l h r c = (d r c).bind fun x c => (l r c).bind fun lo c => (h r c).bind fun hi c => match x with | .lst ts => .ok (cutT ts lo hi) c | .scr ts => .ok (cutT ts lo hi) c | _ => .stk := (rfl)
@[simp] theorem dRg1_e : dRg1 d r c = (d r c).bind fun x c => match x with | .int n => .ok ((0 : Int), n) c | _ => .stk := (rfl)
@[simp] theorem dRg2_e : dRg2 d d' r c = (d r c).bind fun x c => (d' r c).bind fun y c => match x, y with | .int n, .int m => .ok (n, m) c | _, _ => .stk := (rfl)
@[simp] theorem dTupRg_e {a : Env → Cs → Out (Int × Int)} : dTupRg a r c = (a r c).bind fun b c => if rgOk b.1 b.2 = true then .ok (.tup ((rgI b.1 b.2).map T.int)) c else .stk := (rfl)
@[simp] theorem dLstRg_e {a : Env → Cs → Out (Int × Int)} : dLstRg a r c = (a r c).bind fun b c => if rgOk b.1 b.2 = true then .ok ((rgI b.1 b.2).map T.int) c else .stk := (rfl)
@[simp] theorem dItR_e {a : Env → Cs → Out (Int × Int)} : dItR a r c = (a r c).bind fun b c => if rgOk b.1 b.2 = true then .ok ((rgI b.1 b.2).map T.int) c else .stk := (rfl)
@[simp] theorem dIt_e : dIt d r c = (d r c).bind fun x c => lift (itT x) c := (rfl)
@[simp] theorem dCall_e {df : DF} : dCall n df da r c = (da r c).bind fun ts c => if ts.length = n then df ts c else .stk := (rfl)
@[simp] theorem dLc_e {di : DI} {g : DG} {vs : List Nat} : dLc di g dt d vs r c = (di r c).bind fun ts c => if (ts.length ≤ 1000000 ∧ ∀ v ∈ vs, v < r.length) then lcL g dt d (wipeE r vs) ts c else .stk := (rfl)
@[simp] theorem dYes_e : dYes r c = .ok true c := (rfl)
@[simp] theorem dNext_e : dNext r c = .ok (.nxt r) c := (rfl)
@[simp] theorem dSeq_e : dSeq ds ds' r c = (ds r c).bind (fseq ds') := (rfl)
@[simp] theorem fseq_nxt : fseq ds (.nxt r) c = ds r c := (rfl)
@[simp] theorem fseq_ret : fseq ds (.ret t) c = .ok (.ret t) c := (rfl)
@[simp] theorem fend_nxt : fend (.nxt r) c = .ok .non c := (rfl)
@[simp] theorem fend_ret : fend (.ret t) c = .ok t c := (rfl)
@[simp] theorem dRet_e : dRet d r c = (d r c).bind fun t c => .ok (.ret t) c := (rfl)
@[simp] theorem dDrop_e : dDrop d r c = (d r c).bind fun _ c => .ok (.nxt r) c := (rfl)
@[simp] theorem dCond_e : dCond dt ds ds' r c = (dt r c).bind fun x c => if x = true then ds r c else ds' r c := (rfl)
@[simp] theorem dSet_e : dSet i d r c = (d r c).bind fun t c => if i < r.length then .ok (.nxt (r.set i (.val t))) c else .stk := (rfl)
@[simp] theorem dOwn_e : dOwn i da r c = (da r c).bind fun ts c => if i < r.length then .ok (.nxt (r.set i (.own ts))) c else .stk := (rfl)
@[simp] theorem dFreeze_e : dFreeze i ds r c = (match r[i]? with | some (.own ts) => ds (r.set i (.val (.lst ts))) c | _ => ds r c) := (rfl)
@[simp] theorem gSet_e : gSet i t r = if i < r.length then some (r.set i (.val t)) else none := (rfl)
@[simp] theorem gAll_nil : gAll [] [] r = some r := (rfl)
@[simp] theorem gAll_cons {g : DG} {gs : List DG} {ts : List T} : gAll (g :: gs) (t :: ts) r = (g t r).bind fun r => gAll gs ts r := (rfl)
@[simp] theorem gTupl_e {gs : List DG} {ts : List T} : gTupl gs (.tup ts) r = gAll gs ts r := (rfl)
@[simp] theorem dAsg_e {g : DG} : dAsg d g r c = (d r c).bind fun t c => match g t r with | some r' => .ok (.nxt r') c | none => .stk := (rfl)
@[simp] theorem dFor_e {di : DI} {g : DG} : dFor di g ds r c = (di r c).bind fun ts c => forL g ds ts r c := (rfl)
@[simp] theorem forL_nil {g : DG} : forL g ds [] r c = .ok (.nxt r) c := (rfl)
@[simp] theorem dRaise_e {x : Str} : dRaise x r c = .err ⟨x, []⟩ c := (rfl)
@[simp] theorem dPar_e : dPar i j da r c = (da r c).bind fun ts c => match ts with | [x, y] => if i < r.length ∧ j < r.length then .ok (.nxt ((r.set i (.val x)).set j (.val y))) c else .stk | _ => .stk := (rfl)
@[simp] theorem dMut_e {f : List T → List T → Option (List T × T)} : dMut i f da r c = (match r[i]? with
  | some (.own ts) => (da r c).bind fun us c => (match f ts us with | some (ts', _) => .ok (.nxt (r.set i (.own ts'))) c | none => .stk)
  | _ => .stk) := (rfl)
@[simp] theorem dPut_e : dPut i d' d r c = (d r c).bind fun v c => match r[i]? with
  | some (.own ts) => (d' r c).bind fun j c => (match putAt ts j v with | some ts' => .ok (.nxt (r.set i (.own ts'))) c | none => .stk)
  | some (.val (.cel n)) => (d' r c).bind fun j c => (match (c[n]?).bind noDt with
    | some ts => (match (putAt ts j v).bind noDt with | some ts' => .ok (.nxt r) (c.set n ts') | none => .stk)
    | none => .stk)
  | _ => .stk := (rfl)
@[simp] theorem dRetC_e : dRetC da r c = (da r c).bind fun ts c => match noDt ts with | some ts => .ok (.ret (.cel c.length)) (c ++ [ts]) | none => .stk := (rfl)
theorem runF_e {m : Nat} {ts : List T} : runF m ds ts c = (ds (entE m ts) c).bind fend := rfl
@[simp] theorem addT_int {a b : Int} : addT (.int a) (.int b) = some (.int (a + b)) := (rfl)
@[simp] theorem addT_tup {ts us : List T} : addT (.tup ts) (.tup us) = if ts.length + us.length ≤ 1000000 then some (.tup (ts ++ us)) else none := (rfl)
@[simp] theorem catT_lst {ts us : List T} : catT (.lst ts) (.lst us) = if ts.length + us.length ≤ 1000000 then some (ts ++ us) else none := (rfl)
@[simp] theorem subT_int {a b : Int} : subT (.int a) (.int b) = some (.int (a - b)) := (rfl)
@[simp] theorem mulT_int {a b : Int} : mulT (.int a) (.int b) = if mulOk a b = true then some (.int (a * b)) else none := (rfl)
@[simp] theorem divT_int {a b : Int} : divT (.int a) (.int b) = if divOk b = true then some (.int (a / b)) else none := (rfl)
@[simp] theorem modT_int {a b : Int} : modT (.int a) (.int b) = if 0 < b then some (.int (a % b)) else none := (rfl)
@[simp] theorem negT_int {a : Int} : negT (.int a) = some (.int (-a)) := (rfl)
@[simp] theorem divmodT_int {a b : Int} : divmodT (.int a) (.int b) = if divOk b = true then some (.tup [.int (a / b), .int (a % b)]) else none := (rfl)
@[simp] theorem cmpT_int {p : Int → Int → Bool} {a b : Int} : cmpT p (.int a) (.int b) = some (.bl (p a b)) := (rfl)
@[simp] theorem maxT_int {a b : Int} : maxT (.int a) (.int b) = some (.int (if b > a then b else a)) := (rfl)
@[simp] theorem minT_int {a b : Int} : minT (.int a) (.int b) = some (.int (if b < a then b else a)) := (rfl)
@[simp] theorem intT_int {a : Int} : intT (.int a) = some (.int a) := (rfl)
@[simp] theorem intT_bl {a : Bool} : intT (.bl a) = some (.int (if a then 1 else 0)) := (rfl)
@[simp] theorem eqT_int {a b : Int} : eqT (.int a) (.int b) = some (.bl (a == b)) := (rfl)
@[simp] theorem neT_int {a b : Int} : neT (.int a) (.int b) = some (.bl (!(a == b))) := (rfl)
@[simp] theorem eqT_bl {a b : Bool} : eqT (.bl a) (.bl b) = some (.bl (a == b)) := (rfl)
@[simp] theorem neT_bl {a b : Bool} : neT (.bl a) (.bl b) = some (.bl (!(a == b))) := (rfl)
@[simp] theorem lenT_tup {ts : List T} : lenT (.tup ts) = some (.int ts.length) := (rfl)
@[simp] theorem lenT_lst {ts : List T} : lenT (.lst ts) = some (.int ts.length) := (rfl)
@[simp] theorem lenT_scr {ts : List T} : lenT (.scr ts) = some (.int ts.length) := (rfl)
@[simp] theorem tupT_lst {ts : List T} : tupT (.lst ts) = some (.tup ts) := (rfl)
@[simp] theorem tupT_tup {ts : List T} : tupT (.tup ts) = some (.tup ts) := (rfl)
@[simp] theorem lstT_tup {ts : List T} : lstT (.tup ts) = some ts := (rfl)
@[simp] theorem lstT_lst {ts : List T} : lstT (.lst ts) = some ts := (rfl)
@[simp] theorem itT_tup {ts : List T} : itT (.tup ts) = some ts := (rfl)
@[simp] theorem itT_lst {ts : List T} : itT (.lst ts) = some ts := (rfl)
@[simp] theorem itT_scr {ts : List T} : itT (.scr ts) = some ts := (rfl)
@[simp] theorem ixT_tup {ts : List T} {i : Int} : ixT c (.tup ts) (.int i) = atI ts i := (rfl)
@[simp] theorem ixT_lst {ts : List T} {i : Int} : ixT c (.lst ts) (.int i) = atI ts i := (rfl)
@[simp] theorem ixT_scr {ts : List T} {i : Int} : ixT c (.scr ts) (.int i) = atI ts i := (rfl)
@[simp] theorem ixT_cel {n : Nat} {i : Int} : ixT c (.cel n) (.int i) = (c[n]?).bind fun ts => (noDt ts).bind fun ts => atI ts i := (rfl)
@[simp] theorem noDt_int {i : Int} {ts : List T} : noDt (.int i :: ts) = some (.int i :: ts) := (rfl)
@[simp] theorem noDt_ints {xs : List Int} : noDt (xs.map T.int) = some (xs.map T.int) := by cases xs <;> rfl
@[simp] theorem isNon_non : isNon .non = true := (rfl)
@[simp] theorem isT_non {x : T} : isT x .non = some (.bl (isNon x)) := (rfl)
@[simp] theorem notT_non {x : T} : notT x .non = some (.bl (!isNon x)) := (rfl)
@[simp] theorem allT_bls {bs : List Bool} : allT (.lst (bs.map T.bl)) = some (.bl (bs.all id)) := by
  show (blsOf (bs.map T.bl)).map (fun bs => T.bl (bs.all id)) = _
  rw [blsOf_map]; rfl
@[simp] theorem anyT_bls {bs : List Bool} : anyT (.lst (bs.map T.bl)) = some (.bl (bs.any id)) := by
  show (blsOf (bs.map T.bl)).map (fun bs => T.bl (bs.any id)) = _
  rw [blsOf_map]; rfl
@[simp] theorem sumT_ints {ns : List Int} : sumT (.lst (ns.map T.int)) = some (.int ns.sum) := by
  show (intsOf (ns.map T.int)).map (fun ns => T.int ns.sum) = _
  rw [intsOf_map]; rfl
@[simp] theorem sortedT_ints {ns : List Int} : sortedT (.lst (ns.map T.int)) = some ((sortI ns).map T.int) := by
  show (intsOf (ns.map T.int)).map (fun ns => (sortI ns).map T.int) = _
  rw [intsOf_map]; rfl
@[simp] theorem powT_int {a b : Int} : powT (.int a) (.int b) = if (decide (0 ≤ b) && decide (b ≤ 1000) && decide (a.natAbs < 2 ^ 64)) = true then some (.int (a ^ b.toNat)) else none := (rfl)
theorem mulOk_l {a b : Int} (h : -(2 ^ 64) < a ∧ a < 2 ^ 64) : mulOk a b = true := by
  unfold mulOk smallI
  simp
  omega
theorem mulOk_r {a b : Int} (h : -(2 ^ 64) < b ∧ b < 2 ^ 64) : mulOk a b = true := by
  unfold mulOk smallI
  simp
  omega
theorem b01 {p : Prop} [Decidable p] : (if p then (1:Int) else 0) = 0 ∨ (if p then (1:Int) else 0) = 1 := by split <;> simp
theorem divOk_i {b : Int} (h : 0 < b ∧ b < 2 ^ 200) : divOk b = true := by unfold divOk; simp; omega
theorem kit_int_int : kitB "int" "int" = some true := by decide +kernel
theorem kit_int_bool : kitB "int" "bool" = some false := by decide +kernel
theorem kit_bool_int : kitB "bool" "int" = some true := by decide +kernel
theorem kit_bool_bool : kitB "bool" "bool" = some true := by decide +kernel
@[simp] theorem isi_int_int {i : Int} : isiT "int" (.int i) = some (.bl true) := by show (kitB "int" "int").map T.bl = _; rw [kit_int_int]; rfl
@[simp] theorem isi_int_bool {i : Int} : isiT "bool" (.int i) = some (.bl false) := by show (kitB "int" "bool").map T.bl = _; rw [kit_int_bool]; rfl
@[simp] theorem isi_bool_int {b : Bool} : isiT "int" (.bl b) = some (.bl true) := by show (kitB "bool" "int").map T.bl = _; rw [kit_bool_int]; rfl
@[simp] theorem isi_bool_bool {b : Bool} : isiT "bool" (.bl b) = some (.bl true) := by show (kitB "bool" "bool").map T.bl = _; rw [kit_bool_bool]; rfl
end
section
variable {r : Env} {c : Cs} {g : DG} {ds : DS} {dt : DB} {d : D} {ts : List T} {Q : Flow → Cs → Prop}
theorem forL_cons {t : T} : forL g ds (t :: ts) r c = (match g t r with | some r' => (ds r' c).bind (fseq (forL g ds ts)) | none => .stk) := rfl
/-- a for by what holds behind the items gone through -/
theorem WP_forL (I : List T → Env → Cs → Prop) (h0 : I [] r c)
    (hs : ∀ pre t post r c, ts = pre ++ t :: post → I pre r c → ∃ r', g t r = some r' ∧ WP (ds r' c) fun fl c => match fl with | .nxt r'' => I (pre ++ [t]) r'' c | .ret v => Q (.ret v) c)
    (he : ∀ r c, I ts r c → Q (.nxt r) c) : WP (forL g ds ts r c) Q := by
  have main : ∀ (post pre : List T) (r : Env) (c : Cs), ts = pre ++ post → I pre r c → WP (forL g ds post r c) Q := by
    intro post
    induction post with
    | nil => intro pre r c e h; rw [List.append_nil] at e; subst e; exact WP_of_eq rfl (he r c h)
    | cons t post ih =>
      intro pre r c e h
      obtain ⟨r', e1, w⟩ := hs pre t post r c e h
      rw [forL_cons, e1]
      refine WP_bind.mpr (w.mono fun fl c' q => ?_)
      cases fl with
      | nxt r'' => exact ih (pre ++ [t]) r'' c' (by rw [e, List.append_assoc]; rfl) q
      | ret v => exact WP_of_eq rfl q
  exact main ts [] r c rfl h0
/-- .. by what holds all along -/
theorem WP_forI (I : Env → Cs → Prop) (h0 : I r c)
    (hs : ∀ t ∈ ts, ∀ r c, I r c → ∃ r', g t r = some r' ∧ WP (ds r' c) fun fl c => ∃ r'', fl = .nxt r'' ∧ I r'' c)
    (he : ∀ r c, I r c → Q (.nxt r) c) : WP (forL g ds ts r c) Q := by
  refine WP_forL (fun _ => I) h0 (fun pre t post r c e h => ?_) he
  obtain ⟨r', e1, w⟩ := hs t (by rw [e]; simp) r c h
  refine ⟨r', e1, w.mono ?_⟩
  rintro _ c' ⟨r'', rfl, q⟩
  exact q
/-- a while by what holds, and what falls -/
theorem WP_while (I : Env → Cs → Prop) (μ : Env → Cs → Nat) (h0 : I r c) (hμ : μ r c < turns)
    (hs : ∀ r c, I r c → WP (dt r c) fun b c1 => if b = true then WP (ds r c1) fun fl c2 => match fl with | .nxt r' => I r' c2 ∧ μ r' c2 < μ r c | .ret v => Q (.ret v) c2 else Q (.nxt r) c1) : WP (dWhile dt ds r c) Q := by
  have main : ∀ (n : Nat) (r : Env) (c : Cs), I r c → μ r c < n → WP (whileL dt ds n r c) Q := by
    intro n
    induction n with
    | zero => intro r c _ h; omega
    | succ n ih =>
      intro r c h hn
      show WP ((dt r c).bind fun x c => if x = true then (ds r c).bind (fseq (whileL dt ds n)) else .ok (.nxt r) c) Q
      refine WP_bind.mpr ((hs r c h).mono fun b c1 q => ?_)
      cases b with
      | true =>
        rw [if_pos rfl] at q ⊢
        refine WP_bind.mpr (q.mono fun fl c2 q2 => ?_)
        cases fl with
        | nxt r' => exact ih r' c2 q2.1 (by omega)
        | ret v => exact WP_of_eq rfl q2
      | false => rw [if_neg Bool.false_ne_true] at q ⊢; exact WP_of_eq rfl q
  exact main turns r c h0 hμ
theorem lcL_cons {t : T} : lcL g dt d r (t :: ts) c = (noErr (lcTurn g dt d r t c)).bind fun o c => (lcL g dt d r ts c).bind fun ys c => .ok (o.toList ++ ys) c := rfl
/-- a comprehension that leaves the shared things as they are -/
theorem lcL_eq {f : T → Option T} : ∀ {ts : List T}, (∀ t ∈ ts, lcTurn g dt d r t c = .ok (f t) c) → lcL g dt d r ts c = .ok (ts.filterMap f) c
  | [], _ => rfl
  | t :: ts, h => by
    rw [lcL_cons, h t List.mem_cons_self, noErr_ok, bind_ok, lcL_eq fun u hu => h u (List.mem_cons_of_mem _ hu), bind_ok]
    cases e : f t <;> simp [e]
theorem lcL_map {f : T → T} (h : ∀ t ∈ ts, lcTurn g dt d r t c = .ok (some (f t)) c) : lcL g dt d r ts c = .ok (ts.map f) c := by
  rw [lcL_eq (f := fun t => some (f t)) h]
  simp
/-- .. over mapped things -/
theorem lcL_mapOf {α : Type} {u : α → T} {xs : List α} {f : α → T} (h : ∀ x ∈ xs, lcTurn g dt d r (u x) c = .ok (some (f x)) c) : lcL g dt d r (xs.map u) c = .ok (xs.map f) c := by
  induction xs with
  | nil => rfl
  | cons x xs ih =>
    rw [List.map_cons, lcL_cons, h x List.mem_cons_self, noErr_ok, bind_ok, ih fun y hy => h y (List.mem_cons_of_mem _ hy), bind_ok]
    rfl
theorem lcTurn_e {t : T} : lcTurn g dt d r t c = (match g t r with
  | some r' => (dt r' c).bind fun b c => if b = true then (d r' c).bind fun y c => .ok (some y) c else .ok none c
  | none => .stk) := rfl
/-- a comprehension that may change the shared things -/
theorem WP_lcL (I : Cs → Prop) (P : T → T → Prop) : ∀ {ts : List T} {c : Cs}, I c → (∀ t ∈ ts, ∀ c, I c → WP (lcTurn g dt d r t c) fun o c' => I c' ∧ ∃ y, o = some y ∧ P t y) →
    WP (lcL g dt d r ts c) fun ys c' => I c' ∧ ys.length = ts.length ∧ ∀ y ∈ ys, ∃ t ∈ ts, P t y
  | [], c, h, _ => WP_of_eq rfl ⟨h, rfl, by simp⟩
  | t :: ts, c, h, hs => by
    rw [lcL_cons]
    refine WP_bind.mpr (WP.mono (WP_noErr (hs t List.mem_cons_self c h)) fun o c1 ⟨h1, y, e, p⟩ => ?_)
    subst e
    refine WP_bind.mpr (WP.mono (WP_lcL I P h1 fun u hu => hs u (List.mem_cons_of_mem _ hu)) fun ys c2 ⟨h2, l, q⟩ => ?_)
    refine WP_of_eq rfl ⟨h2, by simp [l], fun z hz => ?_⟩
    rcases List.mem_cons.mp (by simpa using hz) with e | e
    · subst e; exact ⟨t, List.mem_cons_self, p⟩
    · obtain ⟨u, hu, pu⟩ := q z e
      exact ⟨u, List.mem_cons_of_mem _ hu, pu⟩
end
end Q
namespace Q
open PySem PySem.Spec PyProof.Rows L2
section
variable {prog : Program} {w : World} {A : Around} {E : Value → Shared → Prop} {s : Shared}
theorem pickR (xs : Array Value) : ((List.range xs.size).filterMap fun (k : Nat) => xs[((xs.size : Int) - 1 + (k : Int) * -1).toNat]?).toArray = xs.toList.reverse.toArray := by
  have e : (fun (k : Nat) => xs[((xs.size : Int) - 1 + (k : Int) * -1).toNat]?) = (fun i => xs[i]?) ∘ fun k => xs.size - 1 - k := by
    funext k
    show xs[((xs.size : Int) - 1 + (k : Int) * -1).toNat]? = xs[xs.size - 1 - k]?
    rw [show ((xs.size : Int) - 1 + (k : Int) * -1).toNat = xs.size - 1 - k by omega]
  rw [e, ← List.filterMap_map, PySem.W.krv_range, List.filterMap_reverse, PySem.W.krv_all]
theorem sliceApplied_rev {sl : Addr} {vs : Value} {n : Nat} {Q : Int × Int × Nat → Shared → Prop} (hs : s.heap.IsSliceOf sl .none .none vs) (ps : IsPart vs (some (-1)))
    (h : Q ((n : Int) - 1, -1, n) s) : wpAny (model prog w) A (Builtin.Slice.sliceApplied (.ref sl) (pure (n : Int))) Q E s := by
  obtain ⟨os, hos, hcs, hds⟩ := id hs
  unfold Builtin.Slice.sliceApplied Builtin.Slice.sliceFields
  refine wpAny_bind (wpAny_bind (wpAny_field hos hds (x := .none) rfl ?_))
  refine wpAny_bind (wpAny_field hos hds (x := .none) rfl (wpAny_bind (wpAny_field hos hds (x := vs) rfl (wpAny_pure ?_))))
  refine wpAny_bind (HT.slicePart_ ps ?_)
  show wpAny _ _ (if ((-1 : Int) == 0) = true then _ else _) _ _ s
  rw [if_neg (by decide)]
  refine wpAny_bind (HT.slicePart_ .none ?_)
  refine wpAny_bind (HT.slicePart_ .none ?_)
  refine wpAny_bind (wpAny_pure ?_)
  have e : Builtin.Slice.slicePlaces ((n : Int) - 1) (-1) (-1) = n := by
    unfold Builtin.Slice.slicePlaces
    rw [if_neg (by decide)]
    split
    · rw [show (-(-1) : Int) = 1 by decide, Int.ediv_one]; omega
    · omega
  show wpAny _ _ (pure ((n : Int) - 1, (-1 : Int), Builtin.Slice.slicePlaces ((n : Int) - 1) (-1) (-1))) _ _ s
  rw [e]
  exact wpAny_pure h
theorem gi_revT {t sl : Addr} {xs : Array Value} {vs : Value} {Q : Value → Shared → Prop} (ht : IsTup s.heap t xs) (hs : s.heap.IsSliceOf sl .none .none vs) (ps : IsPart vs (some (-1)))
    (h : Q (.ref s.heap.objs.size) { s with heap := s.heap.push { cls := .type "tuple", data := .seq xs.toList.reverse.toArray } }) (hz : xs.size ≤ sizeLine) :
    wpAny (model prog w) A (getItem (.ref t) (.ref sl)) Q E s := by
  have ho : sizeOk (.seq xs.toList.reverse.toArray) := by
    show xs.toList.reverse.toArray.size ≤ sizeLine
    rw [List.size_toArray, List.length_reverse, Array.length_toList]; exact hz
  obtain ⟨os, hos, hcs, hds⟩ := id hs
  unfold getItem
  try with_reducible refine wpAny_holding ?_
  first | refine wpAny_bind (wpAny_pure ?_) | skip
  have run : wpAny (model prog w) A (call (.builtin "tuple.__getitem__") [.ref t, .ref sl]) Q E s := by
    refine wpAny_call_entry PyProof.Rows.slot_tuple_getitem ht.typeIs PyProof.Rows.entry_tuple_getitem ?_ (PyProof.Rows.args_tuple_getitem _ _)
    show wpAny _ _ (Builtin.Tuple.tupleItemsOf (.ref t) >>= _) _ _ s
    refine wpAny_bind (PyProof.Rows.tupleItemsOf_ ht (wpAny_bind (wpAny_typeOf (⟨os, hos, hcs⟩ : s.TypeIs (.ref sl) "slice") ?_)))
    rw [if_pos (by decide)]
    refine wpAny_bind (sliceApplied_rev hs ps ?_)
    have no : ¬ ((((xs.size : Int) - 1 == 0) && ((-1 : Int) == 1) && (xs.size == xs.size)) = true) := by simp
    show wpAny _ _ (if (((xs.size : Int) - 1 == 0) && ((-1 : Int) == 1) && (xs.size == xs.size)) = true then _ else _) _ _ s
    rw [if_neg no, pickR]
    first
      | exact wpAny_bind (m := Builtin.Tuple.tupleExact _) (wpAny_newObj_type (wpAny_pure ⟨_, rfl, h⟩) ho)
      | exact wpAny_bind (m := Builtin.Tuple.tupleExact _) (wpAny_newObj_type (wpAny_bind (wpAny_pure (wpAny_pure ⟨_, rfl, h⟩))) ho)
      | exact wpAny_bind (wpAny_bind (m := Builtin.Tuple.tupleExact _) (wpAny_newObj_type (wpAny_pure (wpAny_pure ⟨_, rfl, h⟩)) ho))
      | exact wpAny_bind (wpAny_bind (m := Builtin.Tuple.tupleExact _) (wpAny_newObj_type (wpAny_pure ⟨_, rfl, h⟩) ho))
  exact wpAny_bind (wpAny_sequenceKey ht.typeIs (by decide) (wpAny_bind (wpAny_callSpecial?_slot (name := Str.ofString "__getitem__") ht.typeIs PyProof.Rows.slot_tuple_getitem (wpAny_mono run (fun v s' q => wpAny_pure q) fun _ _ x => x))))
end
section
variable {X : Cx} {W : XK} {e : Expr} {te : TE} {d : D} {k : Nat} {p1 p2 p3 pos : Pos}
def tRevT (K : PySem.W.Frag) (te : TE) : TE := fun σ H Q => te σ H fun x H1 => ∃ a xs, x = .ref a ∧ SqT K H1 a xs ∧ NewT H1 xs.reverse Q
theorem pe_revT (he : PE X e te) : PE X (.Subscript e (.Slice none none (some (.UnaryOp .USub (.Constant (.int 1) k p1) p2)) p3) pos) (tRevT X.K te) := by
  refine ⟨fun pins s σ H Q I h => Subscript_ (thn (he.run pins s σ H _ I h) fun v s1 ⟨x, H1, I1, r1, a, xs, ex, hx, q⟩ => ?_)⟩
  subst ex
  cases r1
  have hst : PO X (some (.UnaryOp .USub (.Constant (.int 1) k p1) p2)) (tPart (tUn (rU fun i => .int (-i)) (tC (.int 1)))) := po_some (pe_un un_neg pe_int)
  refine wpAny_Slice ?_
  rw [evalPart_none]
  refine wpAny_pure (wpAny_pure ?_)
  refine thn (hst.run pins s1 σ H1 (fun o H4 => o = some (-1) ∧ H4 = H1) I1 ⟨1, rfl, -1, rfl, rfl, rfl⟩) fun vs s4 ⟨o, H4, I4, ps, eo, e4⟩ => ?_
  subst eo e4
  have J : Inv X pins σ H4 { s4 with heap := s4.heap.push { cls := .type "slice", data := .fields #[.none, .none, vs] } } := I4.kept (t' := s4.toks) fun b ob z => Heap.get?_push_of_some _ z
  obtain ⟨its, r, ht, hz⟩ := J.tuple hx
  have hl := r.length
  refine tail_any (ops := [.ref a, .ref s4.heap.objs.size]) ht.typeIs PyProof.Rows.slot_tuple_getitem.lookup ?_ (by with_unfolding_all rfl)
  refine gi_revT ht (Heap.IsSliceOf.new _ .none .none vs) ps ?_ (by rw [List.size_toArray]; omega)
  exact new_tup (s := s4) (tk := s4.toks) J rfl rfl rfl r.reverse (by rw [List.length_reverse]; exact hz) q
def revTT : T → Option T
  | .tup ts => some (.tup ts.reverse)
  | _ => none
def revT : T → Option (List T)
  | .lst ts => some ts.reverse
  | .scr ts => some ts.reverse
  | _ => none
theorem Reps.rev {K : PySem.W.Frag} {F : Hp} {k : List Addr} : ∀ {ts : List T} {xs : List V}, Reps K F k ts xs → Reps K F k ts.reverse xs.reverse
  | _, _, .nil => .nil
  | _, _, .cons r t => by
    rw [List.reverse_cons, List.reverse_cons]
    exact t.rev.append (.cons r .nil)
theorem ee_revT (he : ES X W e te d) : EE X W (.Subscript e (.Slice none none (some (.UnaryOp .USub (.Constant (.int 1) k p1) p2)) p3) pos) (tRevT X.K te) (d1 revTT d) := by
  refine ⟨pe_revT he.pe, fun N ρ c F k σ H Q S p => ?_⟩
  refine he.rd N ρ c F k σ H _ S (p.seq fun x c1 v F1 k1 H1 q1 ok1 g1 r1 p1 => ?_)
  clear q1
  cases x <;> try (exact p1.elim)
  case tup ts =>
    obtain ⟨a, xs, rfl, a0, a1, a2⟩ := r1.tup_of ok1
    have g : Gives X.K F1 k1 c1 H1 (.tup ts.reverse) Q := p1
    exact ⟨a, xs, rfl, a1, g.tup ok1 a2.rev⟩
theorem ef_rev (he : ES X W e te d) : EF X W (.Subscript e (.Slice none none (some (.UnaryOp .USub (.Constant (.int 1) k p1) p2)) p3) pos) (tRevL X.K te) (dF1 revT d) := by
  refine ⟨pe_revL he.pe, fun N ρ c F k σ H Q S p => ?_⟩
  refine he.rd N ρ c F k σ H _ S (p.seq0 fun x c1 v F1 k1 H1 q1 ok1 g1 r1 p1 => ?_)
  have fin : ∀ {us : List T} {ys : List V}, Post X.K X.mg (RF X.K H) F1 k1 H1 (.ok us c1) Q W → Reps X.K F1 k1 us ys → ∀ p, H1 p = none → Q (.ref p) (upd H1 p (.lst ys)) := fun {us ys} p3 r =>
    GivesF.lst (fun b F4 k4 H4 ok4 g4 ⟨a, xs, e1, h1, h2, h3, h4, h5⟩ => p3 b F4 k4 H4 ok4 g4 ⟨a, xs, e1, h1, h2, h3, h4, g1.none_of h5⟩) ok1 r
  clear q1
  cases x <;> try (exact p1.elim)
  case lst ts =>
    obtain ⟨a, xs, rfl, a1, a2, a3⟩ := r1
    exact ⟨a, xs, rfl, SqL.of a1, fin (p1.ge g1) a3.rev⟩
  case scr ts =>
    obtain ⟨a, xs, rfl, a1, a2⟩ := r1.scr_of ok1
    exact ⟨a, xs, rfl, a1, fin (p1.ge g1) a2.rev⟩
end
section
variable {l : Addr} {xs : Array Value} {n : Nat} {dd : Option Addr} {sl : Array (Option Value)} {x : Int} {u : Tok}
theorem tup_mul_same (c0 : (decide (x < -(2 ^ 63)) || decide (x ≥ 2 ^ 63)) = false) (c1 : (xs.isEmpty || x == 1) = true) :
    Meets (Builtin.«tuple.__mul__» ⟨[.ref l, .int x u], []⟩) (fun _ R s => s.heap.get? l = some { cls := .type "tuple", dict := dd, data := .seq xs n, slots := sl } ∧ R (.ok (.ret (.ref l))) s) :=
  .of_wp fun prog w A R s h => by
    obtain ⟨hp, g, d, tk, os⟩ := s
    obtain ⟨hl, h⟩ := h
    have f1 := AutoSeq1.idx_int
    wp_walk using wpAny_loadPart' hl
    repeat (first
      | (refine wpAny_ite_false (decide_eq_false (by rw [c0]; exact Bool.false_ne_true)) ?_; wp_walk using wpAny_loadPart' hl)
      | (refine wpAny_ite_true (decide_eq_true c1) ?_; wp_walk using wpAny_loadPart' hl))
    exact ⟨_, rfl, h⟩
theorem tup_mul_none (c0 : (decide (x < -(2 ^ 63)) || decide (x ≥ 2 ^ 63)) = false) (c1 : (xs.isEmpty || x == 1) = false) (c2 : (decide (x ≤ 0) || xs.isEmpty) = true) :
    Meets (Builtin.«tuple.__mul__» ⟨[.ref l, .int x u], []⟩) (fun _ R s => s.heap.get? l = some { cls := .type "tuple", dict := dd, data := .seq xs n, slots := sl } ∧
      R (.ok (.ret (.ref s.heap.objs.size))) { s with heap := s.heap.push { cls := .type "tuple", data := .seq #[] }, toks := s.toks }) :=
  .of_wp fun prog w A R s h => by
    obtain ⟨hp, g, d, tk, os⟩ := s
    obtain ⟨hl, h⟩ := h
    have f1 := AutoSeq1.idx_int
    wp_walk using wpAny_loadPart' hl
    repeat (first
      | (refine wpAny_ite_false (decide_eq_false (by rw [c0]; exact Bool.false_ne_true)) ?_; wp_walk using wpAny_loadPart' hl)
      | (refine wpAny_ite_false (decide_eq_false (by rw [c1]; exact Bool.false_ne_true)) ?_; wp_walk using wpAny_loadPart' hl)
      | (refine wpAny_ite_true (decide_eq_true c2) ?_; wp_walk using wpAny_loadPart' hl))
    exact ⟨_, rfl, h⟩
end
def rRepN (K : PySem.W.Frag) : R2 := fun x y H Q => ∃ l k xs, x = .ref l ∧ y = .int k ∧ SqT K H l xs ∧ xs ≠ [] ∧ 2 ≤ k ∧ k ≤ 1000 ∧ xs.length ≤ 1000 ∧ NewT H (List.replicate k.toNat xs).flatten Q
theorem op_repN {X : Cx} : OpR X (binaryOp .Mult) (rRepN X.K) := by
  intro pins s σ H x y v u Q I rx ry h
  obtain ⟨l, k, xs, rfl, rfl, hT, hne, h1, h2, hz, q⟩ := h
  cases rx
  obtain ⟨t, rfl⟩ := ry
  obtain ⟨its, r, ⟨⟨cls, dd, data, sl⟩, ho, hc, n, hd⟩, hs⟩ := I.tuple hT
  simp only at hc hd
  subst hc hd
  have hl : its.length = xs.length := r.length.symm
  have hp : 0 < xs.length := List.length_pos_iff.mpr hne
  have ha : its.toArray.size = xs.length := by rw [List.size_toArray, hl]
  have hi : its.toArray.isEmpty = false := by
    cases its with
    | nil => simp at hl; omega
    | cons a b => rfl
  have b1 : ((xs.length : Nat) : Int) * k ≤ 1000 * 1000 := Int.mul_le_mul (by omega) h2 (by omega) (by omega)
  have b2 : k.toNat * xs.length ≤ 1000 * 1000 := Nat.mul_le_mul (by omega) hz
  have c0 : (decide (k < -(2 ^ 63)) || decide (k ≥ 2 ^ 63)) = false := by
    rw [decide_eq_false (by omega), decide_eq_false (by omega)] <;> rfl
  have c1 : (its.toArray.isEmpty || k == 1) = false := by rw [hi, Bool.false_or]; exact beq_eq_false_iff_ne.mpr (by omega)
  have c2 : (decide (k ≤ 0) || its.toArray.isEmpty) = false := by rw [hi, Bool.or_false]; exact decide_eq_false (by omega)
  have c4 : Builtin.Tuple.tupleTooMany (((its.toArray.size : Nat) : Int) * k) = false := by
    unfold Builtin.Tuple.tupleTooMany
    rw [sizeLine_eq, ha]
    exact decide_eq_false (by omega)
  have fl : (List.replicate k.toNat its).flatten.length ≤ sizeLine := by
    rw [PyProof.Rows.lm_len_rep_flat, hl, sizeLine_eq]; omega
  refine wpAny_binaryOp_repeat_ref (T := "tuple") (U := "int") (by decide) ⟨_, ho, rfl⟩ (fun s' => typeIs_int s' k t) noFill_tuple_mul PySem.F.fills_int_mul PySem.F.slot_int_rmul repeat_tuple PySem.F.slot_int_index.lookup ?_
  refine call_meets PySem.F.slot_int_rmul (typeIs_int s k t) PySem.F.entry_int_rmul (PySem.F.args_int_rmul_2 _ _) (int_rmul_tuple k t l its.toArray n dd sl) ⟨ho, rfl, ⟨_, ho, rfl⟩, ?_⟩
  refine call_meets PySem.F.slot_tuple_mul ⟨_, ho, rfl⟩ PySem.F.entry_tuple_mul (PySem.F.args_tuple_mul_2 _ _) (tuple_mulW l its.toArray n dd sl k t c0 c1 c2 (by rw [ha]; omega) c4 (by rw [size_rep, List.size_toArray]; exact fl)) ⟨ho, ?_⟩
  rw [size_rep]
  exact new_tup (s := s) (tk := s.toks) I rfl rfl rfl (r.rep k.toNat) (by rw [PyProof.Rows.lm_len_rep_flat, sizeLine_eq]; omega) q
def rRepA (K : PySem.W.Frag) : R2 := fun x y H Q => ∃ l k xs, x = .ref l ∧ y = .int k ∧ SqT K H l xs ∧ -1000 ≤ k ∧ k ≤ 1000 ∧ xs.length ≤ 1000 ∧
  ((xs = [] ∨ k = 1) → Q (.ref l) H) ∧ (xs ≠ [] → k ≤ 0 → NewT H [] Q) ∧ (xs ≠ [] → 2 ≤ k → NewT H (List.replicate k.toNat xs).flatten Q)
theorem opr_repA {X : Cx} : OpR X (binaryOp .Mult) (rRepA X.K) := by
  intro pins s σ H x y v u Q I rx ry h
  obtain ⟨l, k, xs, rfl, rfl, hT, h1, h2, hz, q1, q2, q3⟩ := h
  by_cases hb : xs ≠ [] ∧ 2 ≤ k
  · exact op_repN pins s σ H _ _ v u Q I rx ry ⟨l, k, xs, rfl, rfl, hT, hb.1, hb.2, h2, hz, q3 hb.1 hb.2⟩
  cases rx
  obtain ⟨t, rfl⟩ := ry
  obtain ⟨its, r, ⟨⟨cls, dd, data, sl⟩, ho, hc, n, hd⟩, hs⟩ := I.tuple hT
  simp only at hc hd
  subst hc hd
  have hl : its.length = xs.length := r.length.symm
  have c0 : (decide (k < -(2 ^ 63)) || decide (k ≥ 2 ^ 63)) = false := by
    rw [decide_eq_false (by omega), decide_eq_false (by omega)] <;> rfl
  refine wpAny_binaryOp_repeat_ref (T := "tuple") (U := "int") (by decide) ⟨_, ho, rfl⟩ (fun s' => typeIs_int s' k t) noFill_tuple_mul PySem.F.fills_int_mul PySem.F.slot_int_rmul repeat_tuple PySem.F.slot_int_index.lookup ?_
  refine call_meets PySem.F.slot_int_rmul (typeIs_int s k t) PySem.F.entry_int_rmul (PySem.F.args_int_rmul_2 _ _) (int_rmul_tuple k t l its.toArray n dd sl) ⟨ho, rfl, ⟨_, ho, rfl⟩, ?_⟩
  by_cases hw : xs = [] ∨ k = 1
  · have c1 : (its.toArray.isEmpty || k == 1) = true := by
      rcases hw with e | e
      · subst e
        cases its with
        | nil => rfl
        | cons a b => simp at hl
      · subst e; simp
    exact call_meets PySem.F.slot_tuple_mul ⟨_, ho, rfl⟩ PySem.F.entry_tuple_mul (PySem.F.args_tuple_mul_2 _ _) (tup_mul_same c0 c1) ⟨ho, .ref l, H, I, rfl, q1 hw⟩
  · have hx : xs ≠ [] := fun e => hw (.inl e)
    have hk : k ≤ 0 := by
      have a1 : ¬ 2 ≤ k := fun e => hb ⟨hx, e⟩
      have a2 : k ≠ 1 := fun e => hw (.inr e)
      omega
    have c1 : (its.toArray.isEmpty || k == 1) = false := by
      cases its with
      | nil => exact absurd (List.eq_nil_of_length_eq_zero hl.symm) hx
      | cons a b => simp; omega
    have c2 : (decide (k ≤ 0) || its.toArray.isEmpty) = true := by rw [decide_eq_true hk]; rfl
    refine call_meets PySem.F.slot_tuple_mul ⟨_, ho, rfl⟩ PySem.F.entry_tuple_mul (PySem.F.args_tuple_mul_2 _ _) (tup_mul_none c0 c1 c2) ⟨ho, ?_⟩
    exact new_tup (s := s) (tk := s.toks) (us := []) I rfl rfl rfl .nil (Nat.zero_le _) (q2 hx hk)
def repTT : T → T → Option T
  | .tup ts, .int k => if -1000 ≤ k ∧ k ≤ 1000 ∧ ts.length ≤ 1000 then some (.tup (List.replicate k.toNat ts).flatten) else none
  | _, _ => none
theorem op2_repA {K : PySem.W.Frag} : Op2 K (rRepA K) repTT := fun x y t v u c F k H Q e ok rx ry g => by
  cases x <;> cases y <;> try (first | cases e)
  case tup.int ts j =>
    simp only [repTT] at e
    split at e
    · rename_i hh
      cases e
      obtain ⟨a, xs, rfl, a0, a1, a2⟩ := rx.tup_of ok
      have hl := a2.length
      refine ⟨a, j, xs, rfl, ry.int_of, a1, hh.1, hh.2.1, by omega, fun z => ?_, fun z1 z2 => ?_, fun _ _ => g.tup ok (a2.rep _)⟩
      · have e : (List.replicate j.toNat ts).flatten = ts := by
          rcases z with z | z
          · subst z
            cases a2
            simp
          · subst z; simp
        rw [e] at g
        exact g.same ok (.tup a0 a2)
      · have e : j.toNat = 0 := by omega
        rw [e] at g
        exact g.tup ok .nil
    · cases e
def repT : T → T → Option (List T)
  | .lst ts, .int k => if -1000000 ≤ k ∧ k ≤ 1000000 ∧ ts.length * k.toNat ≤ 1000000 then some (List.replicate k.toNat ts).flatten else none
  | _, _ => none
theorem op2_rep {K : PySem.W.Frag} : OpF2 K rRep repT := fun x y t v u c F k H Q e ok rx ry g => by
  cases x <;> cases y <;> try (first | cases e)
  case lst.int ts j =>
    simp only [repT] at e
    split at e
    · rename_i hh
      cases e
      obtain ⟨a, xs, rfl, a1, a2, a3⟩ := rx
      exact ⟨a, j, xs, rfl, ry.int_of, a1, by omega, by omega, by rw [← a3.length]; exact Nat.le_trans hh.2.2 line1m, g.lst ok (a3.rep _)⟩
    · cases e
@[simp] theorem revTT_e {ts : List T} : revTT (.tup ts) = some (.tup ts.reverse) := (rfl)
@[simp] theorem revT_e {ts : List T} : revT (.lst ts) = some ts.reverse := (rfl)
@[simp] theorem repTT_e {ts : List T} {k : Int} : repTT (.tup ts) (.int k) = if -1000 ≤ k ∧ k ≤ 1000 ∧ ts.length ≤ 1000 then some (.tup (List.replicate k.toNat ts).flatten) else none := (rfl)
@[simp] theorem repT_e {ts : List T} {k : Int} : repT (.lst ts) (.int k) = if -1000000 ≤ k ∧ k ≤ 1000000 ∧ ts.length * k.toNat ≤ 1000000 then some (List.replicate k.toNat ts).flatten else none := (rfl)
section
variable {X : Cx} {W : XK} {tg iter elt e : Expr} {ifs : List Expr} {scope : Scope} {own : List (Str × Nat)} {pos spos : Pos} {wi : TI} {g : TG} {dg : DG} {di : DI} {is : List Nat} {tt : TT} {dt : DB} {te : TE} {d : D} {y : Str} {py : Pos}
theorem ss_lcOwn (i : Nat) (hN : X.N.Nodup) (ok : BlkOk X.N X.env.scope scope own) (hi : EI X W tg iter wi di)
    (hg : ∀ (s : Shared) (H : Hp) (C : Addr) (cl : List (Str × Addr)) (fp : List Addr), EG (X.blk s H scope (compEnvC scope cl C X.env) fp) tg g dg is)
    (ht : ∀ (s : Shared) (H : Hp) (C : Addr) (cl : List (Str × Addr)) (fp : List Addr), ETs (X.blk s H scope (compEnvC scope cl C X.env) fp) W0 ifs tt dt)
    (he : ∀ (s : Shared) (H : Hp) (C : Addr) (cl : List (Str × Addr)) (fp : List Addr), EE (X.blk s H scope (compEnvC scope cl C X.env) fp) W0 elt te d)
    (hy : X.N[i]? = some y) (hyl : X.env.scope.names.lookup y = some .local) (hsw : swapsWith (.ListComp elt [⟨tg, iter, ifs, 0⟩] scope pos) (some (.Name y py)) spos.line X.env = pure true)
    (hv : ∀ i ∈ is, i ∈ own.map (·.2) := by decide) (hc : X.calm = true := by rfl) (hs : ∀ x, foldedSetIterable iter X.env x = pure x := by intro _; rfl) :
    SS X W (.Assign [.Name y py] (.ListComp elt [⟨tg, iter, ifs, 0⟩] scope pos) spos) (tAsg (tLc wi g tt te (own.map (·.2))) (gName i)) (dOwn i (dLc di dg dt d (own.map (·.2)))) :=
  ss_own (ps_lc hN ok hi hg ht he hy hyl hsw hc hs) (ef_lc (pos := pos) hN ok hi hg ht he hv hc hs).rd
theorem ss_lcSet (i : Nat) (hN : X.N.Nodup) (ok : BlkOk X.N X.env.scope scope own) (hi : EI X W tg iter wi di)
    (hg : ∀ (s : Shared) (H : Hp) (C : Addr) (cl : List (Str × Addr)) (fp : List Addr), EG (X.blk s H scope (compEnvC scope cl C X.env) fp) tg g dg is)
    (ht : ∀ (s : Shared) (H : Hp) (C : Addr) (cl : List (Str × Addr)) (fp : List Addr), ETs (X.blk s H scope (compEnvC scope cl C X.env) fp) W0 ifs tt dt)
    (he : ∀ (s : Shared) (H : Hp) (C : Addr) (cl : List (Str × Addr)) (fp : List Addr), EE (X.blk s H scope (compEnvC scope cl C X.env) fp) W0 elt te d)
    (hy : X.N[i]? = some y) (hyl : X.env.scope.names.lookup y = some .local) (hsw : swapsWith (.ListComp elt [⟨tg, iter, ifs, 0⟩] scope pos) (some (.Name y py)) spos.line X.env = pure true)
    (hv : ∀ i ∈ is, i ∈ own.map (·.2) := by decide) (hc : X.calm = true := by rfl) (hs : ∀ x, foldedSetIterable iter X.env x = pure x := by intro _; rfl) :
    SS X W (.Assign [.Name y py] (.ListComp elt [⟨tg, iter, ifs, 0⟩] scope pos) spos) (tAsg (tLc wi g tt te (own.map (·.2))) (gName i)) (dSet i (dFrz (dLc di dg dt d (own.map (·.2))))) :=
  ss_set (ps_lc hN ok hi hg ht he hy hyl hsw hc hs) (Rd_frz (ef_lc (pos := pos) hN ok hi hg ht he hv hc hs).rd)
end
section
variable {prog : Program} {w : World} {A : Around} {E : Value → Shared → Prop} {s : Shared}
theorem collect_tup {l : Addr} {vs : List Value} {Q : List Value → Shared → Prop} (hl : IsTup s.heap l vs.toArray) (hz : vs.length ≤ sizeLine)
    (h : Q vs { s with heap := (s.heap.push (seqObj "list" #[] 0)).update s.heap.objs.size (Obj.mapSeq (· ++ vs.toArray)) }) : wpAny (model prog w) A (collect (.ref l)) Q E s := by
  obtain ⟨o, ho, hc, n, hd⟩ := id hl
  unfold collect
  refine wpAny_bind (wpAny_runValue (codeAny_builtin entry_proto_collect' ?_))
  show wpAny _ _ (do again (.builtin "list.__iadd__" ⟨[← newList [], .ref l], []⟩)) _ _ s
  refine wpAny_bind (wpAny_newList (wpAny_pure ⟨Code.quiet_builtin _ (by decide +kernel), codeAny_builtin entry_list_iadd' ?_⟩))
  show wpAny _ _ (Builtin.List.listExtendWith (.ref s.heap.objs.size) (.ref l) (.ref s.heap.objs.size)) _ _ { s with heap := s.heap.push (seqObj "list" #[] 0) }
  unfold Builtin.List.listExtendWith
  have g1 : (s.heap.push (seqObj "list" #[] 0)).get? l = some o := Heap.get?_push_of_some _ ho
  refine wpAny_bind (wpAny_typeOf (T := "tuple") ⟨o, g1, hc⟩ ?_)
  rw [if_pos (by rw [show (Value.type "tuple" == Value.type "tuple") = true by rfl, Bool.or_true])]
  refine wpAny_bind (listItems_at g1 hd (wpAny_bind (listItems_at (xs := #[]) (n := 0) (Heap.get?_push_size _ rfl) rfl ?_)))
  rw [if_neg (by simp)]
  refine wpAny_bind (listUpdate_at (xs := #[]) (n := 0) (Heap.get?_push_size _ rfl) rfl (wpAny_pure ?_) (Nat.zero_le _) (by show (#[] ++ vs.toArray).size ≤ sizeLine + 1; simp only [Array.size_append, List.size_toArray, List.length_nil]; omega))
  show wpAny (model prog w) A (do
      let o ← load s.heap.objs.size
      match o.data with | .seq xs _ => pure xs.toList | _ => unsupported "internal:collect") Q E { s with heap := (s.heap.push (seqObj "list" #[] 0)).update s.heap.objs.size (Obj.mapSeq (· ++ vs.toArray)) }
  refine wpAny_bind (wpAny_load (get?_update_seq (Heap.get?_push_size _ rfl) _) ?_)
  show wpAny _ _ (pure ((#[] : Array Value) ++ vs.toArray).toList) Q E _
  have e : ((#[] : Array Value) ++ vs.toArray).toList = vs := by simp
  rw [e]
  exact wpAny_pure h
/-- the heap behind the collecting, and the new list upon it -/
def colH (h : Heap) (vs : List Value) : Heap := (h.push (seqObj "list" #[] 0)).update h.objs.size (Obj.mapSeq (· ++ vs.toArray))
theorem colH_size (h : Heap) (vs : List Value) : (colH h vs).objs.size = h.objs.size + 1 := (Heap.size_update ..).trans (size_push' ..)
theorem colH_keep {h : Heap} {vs : List Value} {b : Addr} {o u : Obj} (e : h.get? b = some o) : b ≠ h.objs.size + 1 ∧ ((colH h vs).push u).get? b = some o := by
  have lt := Heap.lt_size e
  have ne : b ≠ h.objs.size := Nat.ne_of_lt lt
  exact ⟨Nat.ne_of_lt (Nat.lt_succ_of_lt lt), Heap.get?_push_of_some _ ((Heap.get?_update_ne _ _ _ _ ne).trans (Heap.get?_push_of_some _ e))⟩
theorem sorted_tup {l : Addr} {vs : List Value} {ns : List Int} {Q : Value → Shared → Prop} (hl : IsTup s.heap l vs.toArray) (hI : PyProof.Rows.IntsAre vs ns) (hz : vs.length ≤ sizeLine)
    (h : ∀ out : List Value, SrtO.Srtd SrtO.ltIv out → SrtO.Stb SrtO.ltIv out vs → Q (.ref (s.heap.objs.size + 1)) { s with heap := sortedAll s.heap vs out.toArray }) :
    wpAny (model prog w) A (call (.builtin "sorted") [.ref l]) Q E s := by
  have at1 : ((colH s.heap vs).push (seqObj "list" vs.toArray 0)).get? (s.heap.objs.size + 1) = some (seqObj "list" vs.toArray 0) := by
    rw [← colH_size s.heap vs]; exact Heap.get?_push_size _ rfl
  refine Calls.call_function_entry kind_sorted plain_sorted entry_sorted (args_sorted1 _) ?_
  unfold Builtin.«sorted»
  refine wpAny_bind (m := checkCount "sorted" 1 1 _) (wpAny_pure (wpAny_bind (collect_tup hl hz (wpAny_bind (wpAny_newList ?_ hz)))))
  show wpAny _ _ _ _ _ { s with heap := (colH s.heap vs).push (seqObj "list" vs.toArray 0) }
  have e : ((s.heap.push (seqObj "list" #[] 0)).update s.heap.objs.size (Obj.mapSeq (· ++ vs.toArray))).objs.size = s.heap.objs.size + 1 := colH_size s.heap vs
  rw [e]
  refine wpAny_bind (wpAny_holding (wpAny_call_entry slot_list_sort ⟨_, at1, rfl⟩ entry_list_sort ?_ (args_list_sort _)))
  exact SrtO.list_sort_ord SrtO.swo_int at1 hz (fun h2 => SrtO.ints_sortable hI h2) fun out h1 h2 => ⟨_, rfl, wpAny_pure ⟨_, rfl, h out h1 h2⟩⟩
end
/-- sorted(t) of a tuple of ints, sorted(l) of a list of ints -/
def rSortedB (K : PySem.W.Frag) : List V → Hp → VK → Prop := fun vs H Q => ∃ (a : Addr) (ns : List Int), vs = [V.ref a] ∧ (SqL K H a (ns.map V.int) ∨ SqT K H a (ns.map V.int)) ∧
  ∀ (ns' : List Int) (p : Addr), ns'.Perm ns → ns'.Pairwise (· ≤ ·) → H p = none → Q (.ref p) (upd H p (.lst (ns'.map V.int)))
theorem cr_sortedB {X : Cx} : CallR X (.builtin "sorted") (rSortedB X.K) := by
  intro pins s σ H vs us Q I r h
  obtain ⟨a, ns, rfl, hs | hs, q⟩ := h
  · exact cr_sortedI pins s σ H _ us Q I r ⟨a, ns, rfl, hs, q⟩
  obtain ⟨its, rv, ht, hz⟩ := I.tuple hs
  have hi := rv.ints
  rw [Vals.ref1 r]
  refine sorted_tup ht hi (by rw [← rv.length]; exact hz) fun out h1 h2 => ?_
  obtain ⟨k1, k2, k3⟩ := SrtO.ints_out hi h1 h2
  obtain ⟨ep, at2⟩ := PyProof.Rows.sortedAll_at s.heap its out.toArray
  have hn : ((out.map SrtO.iv).map V.int).length ≤ sizeLine := by
    rw [List.length_map, k2.length_eq, ← List.length_map (f := V.int)]; exact hz
  refine ⟨.ref _, upd H (s.heap.objs.size + 1) (.lst ((out.map SrtO.iv).map V.int)), ?_, rfl, q _ _ k2 k3 (I.hok.fresh (Nat.le_succ _))⟩
  exact I.laid (t' := s.toks) (fun _ _ => PyProof.Rows.sortedAll_old) (Nat.le_succ _) ⟨hn, out, ep, vals_of_ints k1, at2⟩
def sortT : T → Option (List T)
  | .lst ts => (intsOf ts).map fun ns => (sortI ns).map T.int
  | .tup ts => (intsOf ts).map fun ns => (sortI ns).map T.int
  | _ => none
theorem op1_sort {K : PySem.W.Frag} : OpF1 K (fun x H Q => rSortedB K [x] H Q) sortT := fun x ts' v c F k H Q e ok rx g => by
  cases x <;> try (first | (cases e; done))
  case lst ts =>
    simp only [sortT] at e
    cases e1 : intsOf ts with
    | none => rw [e1] at e; cases e
    | some ns =>
      rw [e1] at e; cases e
      obtain ⟨a, xs, rfl, a1, a2, a3⟩ := rx
      rw [intsOf_eq e1] at a3
      have ex := a3.ints
      subst ex
      refine ⟨a, ns, rfl, .inl (SqL.of a1), fun ms q h1 h2 nq => ?_⟩
      rw [sortI_uniq h1 h2]
      exact g.lst ok (reps_ints _) q nq
  case tup ts =>
    simp only [sortT] at e
    cases e1 : intsOf ts with
    | none => rw [e1] at e; cases e
    | some ns =>
      rw [e1] at e; cases e
      obtain ⟨a, xs, rfl, a0, a1, a2⟩ := rx.tup_of ok
      rw [intsOf_eq e1] at a2
      have ex := a2.ints
      subst ex
      refine ⟨a, ns, rfl, .inr a1, fun ms q h1 h2 nq => ?_⟩
      rw [sortI_uniq h1 h2]
      exact g.lst ok (reps_ints _) q nq
@[simp] theorem sortT_lst {ns : List Int} : sortT (.lst (ns.map T.int)) = some ((sortI ns).map T.int) := by
  show (intsOf (ns.map T.int)).map (fun ns => (sortI ns).map T.int) = _
  rw [intsOf_map]; rfl
@[simp] theorem sortT_tup {ns : List Int} : sortT (.tup (ns.map T.int)) = some ((sortI ns).map T.int) := by
  show (intsOf (ns.map T.int)).map (fun ns => (sortI ns).map T.int) = _
  rw [intsOf_map]; rfl
end Q
namespace Q
open PySem PySem.Spec PyProof.Rows L2
/-- a def's promise, no guarded builtin running around the call -/
structure FnG (P : Program) (w : World) (K : PySem.W.Frag) (mg : Str → Option Value) (base : Heap) (k : Nat) (f : Addr) (fd : FuncData) (ps : List Str) (sp : Sp) : Prop where
  len : ∀ vs H Q E, sp vs H Q E → vs.length = ps.length
  run : ∀ {A : Around} {outer : List PySem.Env} {s : Shared} {H : Hp} {args : Args} {us : List Value} {vs : List V} {Q : VK} {E : XK}, A.guards = some [] → Room k A → Env0 P w K mg base A outer s H →
    BindsTo s fd args (ps.zip us) → Vals vs us → sp vs H Q E → codeAny (model P w) A (.call (.ref f) args) (CR (L2.CX P w) outer P w H s Q E) s
section
variable {P : Program} {w : World} {K : PySem.W.Frag} {mg : Str → Option Value} {base : Heap}
theorem FnG.of {k : Nat} {f : Addr} {fd : FuncData} {ps : List Str} {sp : Sp} (F : FnOk P w K mg base (L2.CX P w) k f fd ps sp) : FnG P w K mg base k f fd ps sp :=
  ⟨F.len, fun _ r e b v h => F.run _ _ _ _ _ _ _ _ _ r e b v h⟩
/-- such a def by its body -/
theorem fng_body {x qual : Str} {params : Arguments} {body : List Stmt} {scope : Scope} {f : Addr} {fd : FuncData} {N ps : List Str} {k : Nat} {sp : Sp} (Fd : FunD K x qual params body scope [] [] f fd) (S : FnScope N ps scope)
    (len : ∀ vs H Q E, sp vs H Q E → vs.length = ps.length)
    (h : ∀ (cdv : Value) (A : Around) (outer : List PySem.Env) (s : Shared) (H : Hp) (vs : List V) (Q : VK) (E : XK), CodeOk K f cdv → A.guards = some [] → Room k (A.deeper (envOfC qual scope s.heap.objs.size f cdv)) → sp vs H Q E →
      ∃ t, PSs (cxOf (L2.CX P w) P w K mg base N qual scope f cdv A outer s H E) body t ∧ t { nx := fun _ H' => Q .non H', rt := Q } (start N vs) H) : FnG P w K mg base (k + 1) f fd ps sp := by
  obtain ⟨oc, od, dV, kV, doc, pm, an, cdv, ct, osl, rfl, lk, hcd, _, _⟩ := Fd.ex
  refine ⟨len, fun {A outer s H args us vs Q E} g hr e0 hb r hsp => ?_⟩
  have old : ∀ b o, base.get? b = some o → s.heap.get? b = some o := fun b o e => (e0.bs b o e).1
  have KX := e0.mod.kin.keeps old
  have par : ∀ y ∈ ps.zip us, scope.names.lookup y.1 = some .local ∨ (scope.names.lookup y.1 = some .cell ∧ ((cellsFrom (s.heap.objs.size + 1) scope.names []).lookup y.1).isSome = true) := by
    rintro ⟨n, v⟩ hy
    exact (S.par n (List.of_mem_zip hy).1).imp id fun q => ⟨q, PySem.W.cellsFrom_some _ _ _ (.inl q)⟩
  obtain ⟨t, ht, hq⟩ := h cdv A outer s H vs Q E (codeOk_of lk hcd) g (hr.deeper _) hsp
  refine codeAny_call_function hr.depth (KX _ _ lk) rfl S.co S.gen rfl (PySem.W.codeRec_of KX hcd) (hb _ _ _ _ (wpAny_newFunctionEnv_cells S.kind par fun env he s1 y => ?_))
  subst he
  refine ⟨(e0.mod.nolimit.keeps old).keeps y.toInCall.keep, codeAny_func (wpAny_mono (ht.run [] s1 (start N vs) H _ (inv_start S hr.hd e0 (len _ _ _ _ hsp) r y) hq) (fun fl s' z => ?_) fun e s' z => z)⟩
  cases fl with
  | ret u => obtain ⟨v, _, H', J, rv, q⟩ := z; exact ⟨v, H', J.os, J.bare, J.base, J.hok, rv, q⟩
  | next => obtain ⟨_, H', J, q⟩ := z; exact ⟨V.non, H', J.os, J.bare, J.base, J.hok, rfl, q⟩
  | brk => exact z.elim fun _ z => z.elim fun _ z => z.2.elim
  | cont => exact z.elim fun _ z => z.elim fun _ z => z.2.elim
end
section
variable {X : Cx} {k : Nat} {f : Addr} {fd : FuncData} {ps : List Str} {sp : Sp} {E : XK} {x : Str} {p pos : Pos} {e : Expr} {es : List Expr} {t : TA}
/-- a call of such a def -/
theorem pe_callG (F : FnG X.prog X.w X.K X.mg X.base k f fd ps sp) (gd : X.A.guards = some []) (hr : Room k X.A) (hg : Gl X x) (hm : X.mg x = some (.ref f)) (hk : PySem.W.keepIn X.K (.ref f) = true) (hb : L2.Binds X.K fd ps []) (hx : Passes (L2.CX X.prog X.w) X E)
    (ha : PA X (e :: es) t) (hdb : (x == ("__debug__" : Str)) = false := by decide) (he : starEach (e :: es) X.env = (false, eval e X.env) :: starEach es X.env := by rfl) (hpl : (backTo pos (starEach es X.env)).any (·.1) = false := by rfl) :
    PE X (.Call (.Name x p) (e :: es) [] pos) (tCall sp [] E t) := by
  refine ⟨fun pins s σ H Q I h => wpAny_Call_Name_kw (ld_glob I hg hm ?_ hdb)⟩
  refine PySem.W.callWith_K (h₀ := X.base) I.ok.mod.kin hk (thn (ha.run pos pins s σ H _ I h) fun us s1 ⟨vs, H1, J, r, q⟩ => ⟨J.kIn, ?_⟩) he hpl
  replace q : sp vs H1 Q E := by simpa only [List.append_nil] using q
  have hl : us.length = ps.length := by rw [← r.length]; exact F.len _ _ _ _ q
  have hbb := hb s1 us J.kIn (by rw [List.append_nil]; exact hl)
  rw [List.append_nil] at hbb
  refine wpAny_call (codeAny_mono (F.run gd hr J.env0 hbb r q) fun o s' z => ?_)
  cases o with
  | error ex => exact hx pins σ H1 s1 ex s' J z
  | ok fl => cases fl <;> first | exact J.after z | exact False.elim z
end
section
variable {X : Cx}
def rRepr (K : PySem.W.Frag) : List V → Hp → VK → Prop := fun vs H Q => ∃ (a : Addr) (d : PyData), vs = [.ref a] ∧ Dp K H (.ref a) d ∧ d.showable = true ∧ d.hasDict = false ∧ d.depth ≤ 60 ∧ d.shown.length ≤ sizeLine ∧ Q (.str d.shown) H
theorem cr_repr {k : Nat} (gd : X.A.guards = some []) (hr : Room k X.A) : CallR X (.builtin "repr") (rRepr X.K) := by
  intro pins s σ H vs us Q I r h
  obtain ⟨a, d, rfl, hd, h1, h2, h3, h4, q⟩ := h
  obtain rfl := Vals.ref1 r
  obtain ⟨as, rd⟩ := Dp.reads I d _ (.ref a) hd rfl
  have hu := hr.units
  exact repr_of_reads' rd h1 (PyData.noDict_hsm h2) gd (by omega) (fun _ _ e => e) (fun h' u tk kp => ⟨.str _, H, I.kept kp, ⟨u, rfl⟩, q⟩) h4
end
section
variable {P : Program} {w : World} {K : PySem.W.Frag} {mg mb : Str → Option Value} {k : Nat} {fa a : Addr} {fd : FuncData} {x : Str} {sp : Sp} {s : Shared} {vs : List Value} {ns : List Int}
/-- what an abstract heap must be, to begin with: nothing tracked but the script and the tables at ts -/
structure Fresh (P : Program) (w : World) (K : PySem.W.Frag) (ts : List Addr) (a : Addr) (ns : List Int) (s : Shared) (H : Hp) : Prop where
  only : ∀ b, b ∉ ts → H b = none ∨ ∃ o xs, H b = some (.frz o (.lst xs))
  tabs : ∀ b ∈ ts, H b = some (.tbl #[])
  scr : SqL K H a (ns.map V.int)
  ok : HOk P w H s.heap
  at_ : ∀ b, H b ≠ none → b = a ∨ b ∈ ts
  own : H a ≠ none → K.lookup a = none
def tabO : Obj := { cls := .none, data := .fields #[] }
theorem fresh_ex {ts : List Addr} (KX : K.In s.heap) (ha : s.heap.get? a = some { cls := .type "list", data := .seq vs.toArray }) (hi : PyProof.Rows.IntsAre vs ns) (hl : ns.length ≤ sizeLine) (hT : ∀ b ∈ ts, s.heap.get? b = some tabO) : ∃ H, Fresh P w K ts a ns s H := by
  have rv := vals_ints hi
  have aT : a ∉ ts := fun z => by
    have q := hT a z
    rw [ha] at q
    cases (show Data.seq vs.toArray _ = Data.fields #[] from congrArg Obj.data (Option.some.inj q))
  cases hk : K.lookup a with
  | some o =>
    have e := KX a o hk
    rw [ha] at e
    cases e
    refine ⟨fun b => if b ∈ ts then some (.tbl #[]) else none, fun b nb => .inl (if_neg nb), fun b hb => if_pos hb, .inr ⟨_, vs.toArray, _, hk, rfl, rfl, rfl, by rw [List.size_toArray, hi.length]; exact hl, by simpa using rv⟩, fun b u z => ?_, fun b z => ?_, fun z => absurd (if_neg aT) z⟩
    · by_cases hb : b ∈ ts
      · have e : some (HO.tbl #[]) = some u := (if_pos hb).symm.trans z
        cases e
        exact hT b hb
      · cases (show (none : Option HO) = some u from (if_neg hb).symm.trans z)
    · exact .inr (Decidable.byContradiction fun hb => z (if_neg hb))
  | none =>
    let u : HO := .frz { cls := .type "list", data := .seq vs.toArray } (.lst (ns.map V.int))
    have nA : ∀ {b}, b ∈ ts → b ≠ a := fun hb z => aT (z ▸ hb)
    refine ⟨fun b => if b = a then some u else if b ∈ ts then some (.tbl #[]) else none, fun b nb => ?_, fun b hb => ?_, .inl (.inr ⟨_, if_pos rfl⟩), fun b v z => ?_, fun b z => ?_, fun _ => hk⟩
    · by_cases hb : b = a
      · exact .inr ⟨_, _, if_pos hb⟩
      · exact .inl ((if_neg hb).trans (if_neg nb))
    · exact (if_neg (nA hb)).trans (if_pos hb)
    · by_cases hb : b = a
      · subst hb
        have e : some u = some v := (if_pos rfl).symm.trans z
        cases e
        exact ⟨ha, by rw [List.length_map]; exact hl, vs, _, rv, ha⟩
      · replace z := (if_neg hb).symm.trans z
        by_cases hb2 : b ∈ ts
        · have e : some (HO.tbl #[]) = some v := (if_pos hb2).symm.trans z
          cases e
          exact hT b hb2
        · cases (show (none : Option HO) = some v from (if_neg hb2).symm.trans z)
    · by_cases hb : b = a
      · exact .inl hb
      · exact .inr (Decidable.byContradiction fun hb2 => z ((if_neg hb).trans (if_neg hb2)))
theorem law_callG {cs : List (Addr × Addr)} (KX : K.In s.heap) (hns : s.heap.Ns mainGlobals mg) (hb : s.heap.Ns builtinsNs mb) (hbb : ∀ x : Str, x ≠ "__name__" → mb x = bootBuiltins x) (hlim : s.heap.NoLimit) (hg : s.gens = #[])
    (hT : ∀ p ∈ cs, s.heap.get? p.2 = some tabO) (nT : ∀ p ∈ cs, K.lookup p.2 = none) (C : ∀ p ∈ cs, PySem.W.codeHdIn K p.1 p.2 = true)
    (hbm : ∃ (bm : Addr) (ob : Obj), mg "__builtins__" = some (.ref bm) ∧ bm ≠ builtinsNs ∧ s.heap.get? bm = some ob ∧ ob.cls = .type "module" ∧ ob.dict = some builtinsNs ∧ ob.data = .plain)
    (ha : s.heap.get? a = some { cls := .type "list", data := .seq vs.toArray }) (hi : PyProof.Rows.IntsAre vs ns) (hl : ns.length ≤ sizeLine) (hr : Room k callerA)
    (F : ∀ base : Heap, K.In base → base.Ns mainGlobals mg → (∀ p ∈ cs, LamX.TabB base mg p.1 p.2) → FnG P w K mg base k fa fd [x] sp) (hbind : ∀ (s : Shared) (u : Value), BindsTo s fd ⟨[u], []⟩ [(x, u)])
    (hsp : ∀ H : Hp, (∀ p ∈ cs, H p.2 = some (.tbl #[])) → SqL K H a (ns.map V.int) → sp [.ref a] H (fun v _ => v = .bl true) fun _ _ _ => False) :
    codeAny (model P w) callerA (.call (.ref fa) ⟨[.ref a], []⟩) (fun r s' => r = .ok (.ret (.bool true)) ∧ OldK s.heap s'.heap ∧ s'.os = s.os ∧ AllBare s'.gens) s := by
  have hT' : ∀ b ∈ cs.map (·.2), s.heap.get? b = some tabO := fun b hb => by
    obtain ⟨p, hp, rfl⟩ := List.mem_map.mp hb
    exact hT p hp
  obtain ⟨H, R⟩ := fresh_ex (P := P) (w := w) KX ha hi hl hT'
  have RT : ∀ p ∈ cs, H p.2 = some (.tbl #[]) := fun p hp => R.tabs _ (List.mem_map.mpr ⟨p, hp, rfl⟩)
  have free : ∀ {b : Addr} {o : Obj}, s.heap.get? b = some o → (b = a → False) → (o.data = .fields #[] → False) → (hidT s.heap H).get? b = some o := fun {b o} e n1 n2 =>
    hidT_get e (Decidable.byContradiction fun z => (R.at_ b z).elim n1 fun hb => n2 (by
      have q := hT' b hb
      rw [e] at q
      cases q
      rfl))
  have nsK : ∀ {b : Addr} {m : Str → Option Value}, s.heap.Ns b m → (hidT s.heap H).Ns b m := fun {b m} ⟨o, es, ep, e, d, r⟩ => ⟨o, es, ep, free e (fun z => by
    subst z; rw [ha] at e; cases e; cases (show Data.seq vs.toArray _ = Data.dict es ep from d)) (fun z => by rw [d] at z; cases z), d, r⟩
  have inK : K.In (hidT s.heap H) := fun b o e => by
    cases q : H b with
    | none => exact hidT_get (KX b o e) q
    | some u =>
      have z : H b ≠ none := by rw [q]; simp
      rcases R.at_ b z with e1 | e1
      · subst e1
        rw [R.own z] at e; cases e
      · obtain ⟨p, hp, rfl⟩ := List.mem_map.mp e1
        rw [nT p hp] at e; cases e
  have TB : ∀ p ∈ cs, LamX.TabB (hidT s.heap H) mg p.1 p.2 := fun p hp => by
    obtain ⟨bm, ob, m1, m2, m3, m4, m5, m6⟩ := hbm
    have nG : mainGlobals ≠ p.2 := fun z => by
      obtain ⟨o, es, ep, e, d, _⟩ := hns
      rw [z, hT p hp] at e
      cases e
      cases d
    refine NdefX.tabB_of_K inK (C p hp) ⟨bm, ob, m1, m2, fun z => ?_, fun z => ?_, free m3 (fun z => ?_) (fun z => ?_), m4, m5, m6⟩ nG
    · obtain ⟨o, es, ep, e, d, _⟩ := hns
      rw [z, e] at m3
      cases m3
      rw [d] at m6
      cases m6
    · rw [z, hT p hp] at m3
      cases m3
      cases m6
    · rw [z, ha] at m3
      cases m3
      cases m6
    · rw [m6] at z
      cases z
  obtain ⟨mc, l1, l2⟩ := hlim
  have e0 : Env0 P w K mg (hidT s.heap H) callerA [] s H :=
    ⟨rfl, ⟨inK, nsK hns, ⟨mb, nsK hb, hbb⟩, ⟨mc, nsK l1, l2⟩⟩, fun b o e => of_hidT e, Nat.le_of_eq (hidT_size _ _), trivial, fun b z => absurd (show b ∈ ([] : List Addr) from z) (by simp), R.ok, .of_eq hg⟩
  refine codeAny_mono ((F _ inK (nsK hns) TB).run (us := [.ref a]) (vs := [.ref a]) rfl hr e0 (hbind s (.ref a)) (.cons rfl .nil) (hsp H RT R.scr)) fun r s' z => ?_
  cases r with
  | error e =>
    obtain ⟨_, _, _, _, _, _, _, _, _, _, _, _, no⟩ := z
    exact no.elim
  | ok fl =>
    cases fl with
    | next => exact z.elim
    | brk => exact z.elim
    | cont => exact z.elim
    | ret u =>
      obtain ⟨v, H', os, bare, un, ok', rv, (q : v = .bl true)⟩ := z
      subst q
      cases (show u = Value.bool true from rv)
      have old : ∀ b o, b ∉ cs.map (·.2) → s.heap.get? b = some o → s'.heap.get? b = some o := fun b o nb e => by
        rcases R.only b nb with n | ⟨ob, xs, n⟩
        · exact un.keep b o e n (by simp [frs]) (by simp)
        · have o1 := (R.ok b _ n).1
          have o2 := (ok' b _ (un.frzs b ob _ n)).1
          rw [e] at o1; cases o1
          exact o2
      have grown : ∀ p ∈ cs, ∃ more : Array Value, s'.heap.get? p.2 = some { cls := .none, data := .fields more } := fun p hp => by
        obtain ⟨more, z⟩ := un.tbls _ _ (RT p hp)
        exact ⟨_, ok' _ _ z⟩
      refine ⟨rfl, ⟨fun b u e => ?_, fun b u e => ?_⟩, os, bare⟩
      · by_cases inT : b ∈ cs.map (·.2)
        · obtain ⟨p, hp, rfl⟩ := List.mem_map.mp inT
          obtain ⟨us, hm⟩ := grown p hp
          rw [hT p hp] at e
          cases e
          exact .inr (.inl ⟨((PySem.W.codeHd_of_K KX (C p hp)).tab (hT p hp)).isCodeTable, rfl, #[], us, rfl, by rw [Array.empty_append]; exact hm⟩)
        · exact .inl (old b u inT e)
      · by_cases inT : b ∈ cs.map (·.2)
        · obtain ⟨p, hp, rfl⟩ := List.mem_map.mp inT
          obtain ⟨us, hm⟩ := grown p hp
          exact ⟨_, hm⟩
        · exact ⟨u, old b u inT e⟩
end
/-- .. as walk_ofE says it -/
theorem walk_ofEG {l : PySem.W.OpenLaw} {n k : Nat} {q : Program} {loose : List Str} {XP : (Str → Option Value) → Heap → Prop} {YP : World → Heap → Prop} {d : DefRec} {x : Str}
    (hn : l.most = some n) (hn2 : n ≤ sizeLine) (hdf : d.params.defaults = []) (hr : Room k callerA)
    (F : ∀ (w : World) (mg : Str → Option Value) (fa : Addr) (h : Heap), YP w h → h.Ns mainGlobals mg → mg d.name = some (.ref fa) →
      ∃ (K : PySem.W.Frag) (fd : FuncData) (cs : List (Addr × Addr)) (sp : Sp), K.In h ∧ (∀ p ∈ cs, h.get? p.2 = some tabO) ∧ (∀ p ∈ cs, K.lookup p.2 = none) ∧ (∀ p ∈ cs, PySem.W.codeHdIn K p.1 p.2 = true) ∧ (∀ (s : Shared) (u : Value), BindsTo s fd ⟨[u], []⟩ [(x, u)]) ∧
        (∀ (H : Hp) (a : Addr) (ns : List Int), ns.length ≤ n → (∀ p ∈ cs, H p.2 = some (.tbl #[])) → SqL K H a (ns.map V.int) → sp [.ref a] H (fun v _ => v = .bl true) fun _ _ _ => False) ∧
        ∀ base : Heap, (∀ p ∈ cs, LamX.TabB base mg p.1 p.2) → FnG l.prog w K mg base k fa fd [x] sp) : PySem.W.WalkO q loose XP YP l.row.toRowW d [] (fun f vs => PySem.call f vs) := by
  refine Att.attach_call hn hdf fun w s₀ s₁ mg mb fa o pm cd doc a vs ns G Y ho hd hcd hmg hobj hints hlen hg => ?_
  obtain ⟨K, fd, cs, sp, KX, hT, nT, C, hb, hsp, hF⟩ := F w mg fa _ Y G.T.g hmg
  exact law_callG KX G.T.g G.T.b G.T.builtins G.T.nolimit hg hT nT C G.T.bmain hobj hints (Nat.le_trans hlen hn2) hr (fun base _ _ tb => hF base tb) hb fun H hO hS => hsp H a ns hlen hO hS
def HasG (P : Program) (w : World) (K : PySem.W.Frag) (mg : Str → Option Value) (k : Nat) (x : Str) (ps : List Str) (df : DF) : Prop :=
  ∃ f fd, (∀ base, BaseOk K mg base → FnG P w K mg base k f fd ps (spQ K mg ps.length df)) ∧ mg x = some (.ref f) ∧ PySem.W.keepIn K (.ref f) = true ∧ ∀ (s : Shared) (us : List Value), us.length = ps.length → BindsTo s fd ⟨us, []⟩ (ps.zip us)
section
variable {P : Program} {w : World} {K : PySem.W.Frag} {mg : Str → Option Value}
theorem Has.g {k : Nat} {x : Str} {ps : List Str} {df : DF} (h : Has P w K mg k x ps df) : HasG P w K mg k x ps df := by
  obtain ⟨f, fd, F, r⟩ := h
  exact ⟨f, fd, fun base bo => .of (F base bo), r⟩
theorem has_mkG {x : Str} {st : Stmt} {N ps : List Str} {k : Nat} {ds : DS} (D : Def K mg x st) (S : FnScope N ps (defScope st))
    (hb : ∀ (kV doc pm : Value) (an : Option Addr) (cdv ct : Value) (us : List Value), us.length = ps.length → bindArgs (PySem.W.fnOf x x (defArgs st) (defBody st) (defScope st) .none kV doc pm an cdv ct) ⟨us, []⟩ = pure (ps.zip us))
    (h : ∀ (base : Heap) (bo : BaseOk K mg base) (f : Addr) (cdv : Value) (hcd : cdv = .ref (He.codeOf K (x, none))) (A : Around) (outer : List PySem.Env) (s : Shared) (H : Hp) (E : XK), A.guards = some [] → Room k (A.deeper (envOfC x (defScope st) s.heap.objs.size f cdv)) →
      Takes (cxOf (L2.CX P w) P w K mg base N x (defScope st) f cdv A outer s H E) (fun cls d _ H => E cls d H) →
      PassesOwn (model P w) (A.deeper (envOfC x (defScope st) s.heap.objs.size f cdv)) (envOfC x (defScope st) s.heap.objs.size f cdv) (cxOf (L2.CX P w) P w K mg base N x (defScope st) f cdv A outer s H E).xe →
      Passes (L2.CX P w) (cxOf (L2.CX P w) P w K mg base N x (defScope st) f cdv A outer s H E) E →
      ∃ ts, SSs (cxOf (L2.CX P w) P w K mg base N x (defScope st) f cdv A outer s H E) E (defBody st) ts ds) :
    HasG P w K mg (k + 1) x ps (runF N.length ds) := by
  obtain ⟨fd, F, gm⟩ := D
  generalize hf : He.ga K x = f at F gm
  refine ⟨f, fd, fun base bo => ?_, gm, F.kp, F.bindsA hb⟩
  refine fng_body F S (fun vs H Q E ⟨F, k, c, ts, h1, _, h3, _⟩ => by rw [← h3.length, h1]) fun cdv A outer s H vs Q E hc g hr ⟨F, kk, c, ts, h1, ok, h3, p⟩ => ?_
  obtain ⟨cc, e1, e2⟩ := hc
  have hcd : cdv = .ref (He.codeOf K (x, none)) := by rw [e1, e2 (x, none) hf]
  have tk : Takes (cxOf (L2.CX P w) P w K mg base N x (defScope st) f cdv A outer s H E) (fun cls d _ H => E cls d H) := takes_of rfl rfl rfl rfl
  obtain ⟨tr, hs⟩ := h base bo f cdv hcd A outer s H E g hr tk (passes_of (X := cxOf (L2.CX P w) P w K mg base N x (defScope st) f cdv A outer s H E) rfl) (passes_call tk fun _ _ _ _ h => h)
  refine ⟨tr, hs.pe, hs.rd ⟨H, F, kk⟩ (entE N.length ts) c F kk _ H _ (SR.start (NN := N) ok h3) ?_⟩
  unfold runF at p
  cases e : ds (entE N.length ts) c with
  | stk => rw [e] at p; exact p
  | ok a c1 =>
    rw [e] at p
    cases a with
    | nxt r => exact fun σ H1 F1 k1 S1 _ _ => p .non F1 k1 H1 S1.ok S1.ge .non
    | ret t => exact fun v F1 k1 H1 ok1 g1 r1 => p v F1 k1 H1 ok1 g1 r1
  | err er c1 => rw [e] at p; exact fun cls d F1 k1 H1 ok1 g1 r1 => p cls d F1 k1 H1 ok1 g1 r1
end
section
variable {X : Cx} {W : XK} {e a : Expr} {es : List Expr} {t : TA} {da : DA} {x : Str} {p pos : Pos} {k j : Nat} {ps : List Str} {df : DF} {ta : TE} {d : D}
theorem ee_hasG (K : PySem.W.Frag) (mg : Str → Option Value) {P : Program} {w : World} (bo : BaseOk K mg X.base) (h : HasG P w K mg k x ps df) (gd : X.A.guards = some []) (hr : Room j X.A) (hp : Passes (L2.CX X.prog X.w) X W) (ha : EA X W (e :: es) t da) (hk : k ≤ j := by decide) (hg : Gl X x := by rfl) (hdb : (x == ("__debug__" : Str)) = false := by decide)
    (he : starEach (e :: es) X.env = (false, eval e X.env) :: starEach es X.env := by rfl) (hpl : (backTo pos (starEach es X.env)).any (·.1) = false := by rfl) (hK : X.K = K := by rfl) (hM : X.mg = mg := by rfl) (hP : X.prog = P := by rfl) (hw : X.w = w := by rfl) :
    EE X W (.Call (.Name x p) (e :: es) [] pos) (tCall (spQ K mg ps.length df) [] W t) (dCall ps.length df da) := by
  subst hK hM hP hw
  obtain ⟨f, fd, Fo, gm, kp, bd⟩ := h
  exact ⟨pe_callG (Fo _ bo) gd (hr.mono hk) hg gm kp (binds_any bd) hp ha.pe hdb he hpl, rd_call ha.rd⟩
mutual
theorem pyT_noDict : ∀ t : T, (pyT t).hasDict = false
  | .non => rfl
  | .bl _ => rfl
  | .int _ => rfl
  | .str _ => rfl
  | .tup ts => by simp only [pyT, PyData.hasDict]; exact pyTs_noDict ts
  | .lst ts => by simp only [pyT, PyData.hasDict]; exact pyTs_noDict ts
  | .scr ts => by simp only [pyT, PyData.hasDict]; exact pyTs_noDict ts
  | .dct _ _ => rfl
  | .cel _ => rfl
  | .adr _ => rfl
  | .glo _ => rfl
  | .exo _ _ _ _ => rfl
  | .dtu _ _ => rfl
theorem pyTs_noDict : ∀ ts : List T, PyData.hasDictAll (pyTs ts) = false
  | [] => rfl
  | t :: ts => by simp only [pyTs, PyData.hasDictAll]; rw [pyT_noDict t, pyTs_noDict ts]; rfl
end
def seqT : T → Bool
  | .tup _ => true
  | .lst _ => true
  | .scr _ => true
  | _ => false
def reprT (t : T) : Option T := if (seqT t && plain t && (pyT t).showable && decide ((pyT t).shown.length ≤ sizeLine)) = true then some (.str (pyT t).shown) else none
theorem op1_repr {K : PySem.W.Frag} : Op1 K (fun x H Q => rRepr K [x] H Q) reprT := fun x t v c F k H Q e ok rx g => by
  unfold reprT at e
  split at e
  · rename_i hh
    simp only [Bool.and_eq_true, decide_eq_true_eq] at hh
    obtain ⟨⟨⟨h1, h2⟩, h3⟩, h4⟩ := hh
    cases e
    have dp := rx.dp ok h2
    have ra : ∃ a, v = .ref a := by
      cases x <;> try (cases h1)
      case tup ts => obtain ⟨a, xs, rfl, _⟩ := rx.tup_of ok; exact ⟨a, rfl⟩
      case lst ts => obtain ⟨a, xs, rfl, _⟩ := rx; exact ⟨a, rfl⟩
      case scr ts => obtain ⟨a, xs, rfl, _⟩ := rx.scr_of ok; exact ⟨a, rfl⟩
    obtain ⟨a, rfl⟩ := ra
    have hd := (plT_lay 20 x h2).2
    exact ⟨a, pyT x, rfl, dp, h3, pyT_noDict x, by omega, h4, g.same ok (.str _)⟩
  · cases e
end
theorem pyTs_ints (xs : List Int) : pyTs (xs.map T.int) = xs.map PyData.int := by
  rw [pyTs_map, List.map_map]; rfl
theorem showable_ints : ∀ xs : List Int, (∀ x ∈ xs, x.natAbs < 10 ^ 12) → PyData.showableAll (xs.map PyData.int) = true
  | [], _ => rfl
  | x :: xs, h => by
    have hx := h x List.mem_cons_self
    have l : x.natAbs.log2 < 1920 := by
      by_cases z : x.natAbs = 0
      · rw [z]; decide
      · exact (Nat.log2_lt z).mpr (Nat.lt_of_lt_of_le (Nat.lt_of_lt_of_le hx (by decide : 10 ^ 12 ≤ 2 ^ 40)) (Nat.pow_le_pow_right (by decide) (by decide)))
    rw [List.map_cons, PyData.showableAll, PyData.showable, decide_eq_true l, showable_ints xs fun y hy => h y (List.mem_cons_of_mem _ hy)]
    rfl
theorem weight_ints : ∀ xs : List Int, (∀ x ∈ xs, x.natAbs < 10 ^ 12) → PyData.weightAll (xs.map PyData.int) ≤ 42 * xs.length
  | [], _ => Nat.le_refl _
  | x :: xs, h => by
    have hx := h x List.mem_cons_self
    have ih := weight_ints xs fun y hy => h y (List.mem_cons_of_mem _ hy)
    have w : (PyData.int x).weight ≤ 41 := by
      simp only [PyData.weight]
      split
      · omega
      · have z : x.natAbs ≠ 0 := by
          intro z
          have : x = 0 := Int.natAbs_eq_zero.mp z
          simp_all
        have := (Nat.log2_lt z (k := 40)).mpr (Nat.lt_of_lt_of_le hx (by decide))
        omega
    rw [List.map_cons, PyData.weightAll, List.length_cons]
    omega
theorem short_ints : ∀ xs : List Int, (∀ x ∈ xs, x.natAbs < 10 ^ 12) → PyData.leavesShortAll 13 (xs.map PyData.int) = true
  | [], _ => rfl
  | x :: xs, h => by
    rw [List.map_cons, PyData.leavesShortAll, PyData.leavesShort, decide_eq_true (PyData.shown_int_le (h x List.mem_cons_self)), short_ints xs fun y hy => h y (List.mem_cons_of_mem _ hy)]
    rfl
theorem reprT_ints {xs : List Int} (h : ∀ x ∈ xs, x.natAbs < 10 ^ 12) (hl : xs.length ≤ 1000) : reprT (.tup (xs.map T.int)) = some (.str (pyT (.tup (xs.map T.int))).shown) ∧ reprT (.lst (xs.map T.int)) = some (.str (pyT (.lst (xs.map T.int))).shown) := by
  have sh := showable_ints xs h
  have wt : PyData.weightAll (xs.map PyData.int) ≤ 2 ^ 20 := Nat.le_trans (weight_ints xs h) (by omega)
  have ls := short_ints xs h
  have all : ∀ t ∈ xs.map T.int, plT 19 t = true := by simp [plT]
  constructor
  · have f : (PyData.tuple (xs.map PyData.int)).shown.length ≤ sizeLine := PyData.shown_fits (B := 13) (by decide) (by decide) (by rw [PyData.leavesShort]; exact ls) (by rw [PyData.weight]; exact wt)
    have pl : plain (.tup (xs.map T.int)) = true := by unfold plain; rw [plT]; exact List.all_eq_true.mpr all
    unfold reprT
    rw [pyT, pyTs_ints, pl, PyData.showable, sh, decide_eq_true f]
    rfl
  · have f : (PyData.list (xs.map PyData.int)).shown.length ≤ sizeLine := PyData.shown_fits (B := 13) (by decide) (by decide) (by rw [PyData.leavesShort]; exact ls) (by rw [PyData.weight]; exact wt)
    have pl : plain (.lst (xs.map T.int)) = true := by unfold plain; rw [plT]; exact List.all_eq_true.mpr all
    unfold reprT
    rw [pyT, pyTs_ints, pl, PyData.showable, sh, decide_eq_true f]
    rfl
def rEqW (K : PySem.W.Frag) : R2 := fun x y H Q => (∃ a b : Str, x = .str a ∧ y = .str b ∧ Q (.bl (a == b)) H) ∨ rEqD K x y H Q
theorem op_eqW {X : Cx} {k : Nat} (h : Room k X.A) : OpR X (compareOp .Eq) (rEqW X.K) := by
  intro pins s σ H x y v u Q I rx ry q
  rcases q with ⟨a, b, rfl, rfl, q⟩ | q
  · obtain ⟨t, rfl⟩ := rx
    obtain ⟨t2, rfl⟩ := ry
    exact PyProof.Rows.eq_str ⟨.bl _, H, I, rfl, q⟩
  · exact opr_eq h pins s σ H x y v u Q I rx ry q
def eqW (x y : T) : Option T := match x, y with
  | .str a, .str b => some (.bl (a == b))
  | x, y => eqT x y
theorem op2_eqW {K : PySem.W.Frag} : Op2 K (rEqW K) eqW := fun x y t v u c F k H Q e ok rx ry g => by
  by_cases hs : ∃ a b, x = .str a ∧ y = .str b
  · obtain ⟨a, b, rfl, rfl⟩ := hs
    cases e
    exact .inl ⟨a, b, by cases rx with | str => rfl, by cases ry with | str => rfl, g.same ok (.bl _)⟩
  · have e2 : eqT x y = some t := by
      unfold eqW at e
      split at e
      · exact absurd ⟨_, _, rfl, rfl⟩ hs
      · exact e
    exact .inr (op2_eq x y t v u c F k H Q e2 ok rx ry g)
@[simp] theorem eqW_str {a b : Str} : eqW (.str a) (.str b) = some (.bl (a == b)) := (rfl)
end Q
namespace PySem
open Sem (wp)
theorem meets_enumerate_newB1 {v : Value} {o : Obj} {H : Heap → Prop} (B : Begins v o H) :
    Meets (Builtin.«enumerate.__new__» ⟨[.type "enumerate", v], []⟩) (fun _ R s => H s.heap ∧
      R (.ok (.ret (.ref (s.heap.push o).objs.size))) { s with heap := (s.heap.push o).push { cls := .type "enumerate", data := .fields #[.none, .bool false, .ref s.heap.objs.size, rawInt 0, .none, .none] } }) :=
  .of_wp fun prog w A R s h => by
    obtain ⟨hp, g, d, tk, os⟩ := s; obtain ⟨h1, h⟩ := h
    have hsub := sub_enumerate
    have q1 : ∀ {A' : Around} {E : Value → Shared → Prop} {Q : Value → Shared → Prop}, Q (.ref hp.objs.size) ⟨hp.push o, g, d, tk, os⟩ → wpAny (model prog w) A' (pyIter v) Q E ⟨hp, g, d, tk, os⟩ :=
      fun q => B.iter prog w _ _ ⟨hp, g, d, tk, os⟩ _ h1 q
    wp_walk using q1
    refine wpAny_stack_any fun st => wpAny_pure ?_
    split
    · rename_i c _ _ _ _ _
      cases (c == Value.type "enumerate")
      · wp_walk using q1
        exact ⟨_, rfl, h⟩
      · wp_walk using q1
        exact ⟨_, rfl, h⟩
    · wp_walk using q1
      exact ⟨_, rfl, h⟩
theorem call_enumB {prog : Program} {w : World} {A : Around} {E : Value → Shared → Prop} {s : Shared} {v : Value} {o : Obj} {H : Heap → Prop} {Q : Value → Shared → Prop} (B : Begins v o H) (h1 : H s.heap)
    (h : ∀ h', IsEnum h' (s.heap.objs.size + 1) s.heap.objs.size 0 .none → h'.get? s.heap.objs.size = some o → h'.objs.size = s.heap.objs.size + 2 →
      (∀ b o, s.heap.get? b = some o → h'.get? b = some o) → Q (.ref (s.heap.objs.size + 1)) { s with heap := h' }) :
    wpAny (model prog w) A (call (.type "enumerate") [v]) Q E s := by
  refine callType_new F.called_enumerate (by decide) (F.typeCall_enumerate_1 _) (F.newCall_enumerate_1 _) (fun obj => F.args_object_init_2 obj _) F.entry_enumerate_new
    (meets_enumerate_newB1 B) ⟨h1, ?_⟩
  have hz : (s.heap.push o).objs.size = s.heap.objs.size + 1 := Heap.size_push ..
  show _ ∧ _
  rw [hz]
  have he : IsEnum ((s.heap.push o).push { cls := .type "enumerate", data := .fields #[.none, .bool false, .ref s.heap.objs.size, rawInt 0, .none, .none] }) (s.heap.objs.size + 1) s.heap.objs.size 0 .none := by
    have := Heap.get?_push_size (s.heap.push o) (o := { cls := .type "enumerate", data := .fields #[.none, .bool false, .ref s.heap.objs.size, rawInt 0, .none, .none] }) rfl
    rw [hz] at this; exact this
  refine ⟨⟨_, he, rfl⟩, h _ he (Heap.get?_push_of_some _ (Heap.get?_push_size _ B.free)) (by rw [Heap.size_push, hz]) fun b o x => Heap.get?_push_of_some _ (Heap.get?_push_of_some _ x)⟩
end PySem
namespace Q
open PySem PySem.Spec PyProof.Rows L2
def wipeF (vs : List Nat) : Flow → Flow
  | .nxt r => .nxt (wipeE r vs)
  | .ret t => .ret t
def dWipe (vs : List Nat) (ds : DS) : DS := fun r c => (ds r c).bind fun fl c => .ok (wipeF vs fl) c
@[simp] theorem wipeF_nxt {vs : List Nat} {r : Env} : wipeF vs (.nxt r) = .nxt (wipeE r vs) := (rfl)
@[simp] theorem wipeF_ret {vs : List Nat} {t : T} : wipeF vs (.ret t) = .ret t := (rfl)
@[simp] theorem wipeE_nil {r : Env} : wipeE r [] = r := (rfl)
@[simp] theorem wipeE_cons {r : Env} {v : Nat} {vs : List Nat} : wipeE r (v :: vs) = (wipeE r vs).set v .un := (rfl)
@[simp] theorem dWipe_e {vs : List Nat} {ds : DS} {r : Env} {c : Cs} : dWipe vs ds r c = (ds r c).bind fun fl c => .ok (wipeF vs fl) c := (rfl)
theorem SR.forget {K : PySem.W.Frag} {N : Ent} {F H : Hp} {k : List Addr} {c : Cs} {r : Env} {σ : L2.St} (S : SR K N F k c r σ H) : ∀ vs : List Nat, SR K N F k c (wipeE r vs) σ H
  | [] => S
  | v :: vs => by
    have S' := SR.forget S vs
    rw [wipeE_cons]
    by_cases hv : v < (wipeE r vs).length
    · have e : σ.set v (σ[v]'(by rw [← S'.len]; exact hv)) = σ := List.set_getElem_self _
      have := S'.setU (v := σ[v]'(by rw [← S'.len]; exact hv)) hv
      rw [e] at this
      exact this
    · rw [List.set_eq_of_length_le (by omega)]
      exact S'
section
variable {X : Cx} {W : XK} {st : Stmt} {sts : List Stmt} {ts : TS} {ds : DS}
theorem rd_wipe {K : PySem.W.Frag} {mg : Str → Option Value} (vs : List Nat) (h : RdStm K mg W ts ds) : RdStm K mg W ts (dWipe vs ds) := fun N r c F k σ H D S p => h N r c F k σ H D S (by
  unfold dWipe at p
  cases e : ds r c with
  | stk => rw [e] at p; exact p
  | err er c1 => rw [e] at p; exact p
  | ok fl c1 =>
    rw [e] at p
    cases fl with
    | nxt r1 => exact fun σ H F k S s q => p σ H F k (S.forget vs) s q
    | ret t => exact p)
theorem ss_wipe (vs : List Nat) (h : SS X W st ts ds) : SS X W st ts (dWipe vs ds) := ⟨h.pe, rd_wipe vs h.rd⟩
theorem sss_wipe (vs : List Nat) (h : SSs X W sts ts ds) : SSs X W sts ts (dWipe vs ds) := ⟨h.pe, rd_wipe vs h.rd⟩
end
def SqB (K : PySem.W.Frag) (q : Bool) (H : Hp) (a : Addr) (xs : List V) : Prop := match q with
  | false => SqL K H a xs
  | true => SqT K H a xs
def IsSq (q : Bool) (h : Heap) (a : Addr) (items : Array Value) : Prop := match q with
  | false => h.IsList a items
  | true => h.IsTuple a items
def IsIt (q : Bool) (h : Heap) (it a : Addr) (i : Nat) : Prop := match q with
  | false => h.IsListIter it a i
  | true => h.IsTupleIter it a i
def itO (q : Bool) (a : Addr) : Obj := match q with
  | false => { cls := .type "list_iterator", data := .fields #[.ref a, .int 0 0] }
  | true => { cls := .type "tuple_iterator", data := .fields #[.ref a, .int 0 0] }
theorem begB (q : Bool) (a : Addr) (items : Array Value) : Begins (.ref a) (itO q a) fun h => IsSq q h a items := by
  cases q
  · exact begins_list a items
  · exact begins_tuple a items
theorem drawB {prog : Program} {w : World} {A : Around} (hh : A.handled = none) (q : Bool) (it a : Addr) (hne : a ≠ it) (items : Array Value) :
    Draws prog w A it [it, a] items.size (fun i v => items[i]? = some v) (fun i h => IsIt q h it a i ∧ IsSq q h a items) := by
  cases q
  · exact Draws.list hh it a hne items
  · exact Draws.tuple hh it a hne items
theorem isIt_new {q : Bool} {h : Heap} {it a : Addr} (e : h.get? it = some (itO q a)) : IsIt q h it a 0 := by
  cases q
  · exact ⟨_, e, rfl, rfl⟩
  · exact ⟨_, e, rfl, rfl⟩
theorem isIt_obj {q : Bool} {h : Heap} {it a : Addr} {i : Nat} (e : IsIt q h it a i) : ∃ o, h.get? it = some o ∧ ∀ v, o.data ≠ .cell v := by
  cases q
  · obtain ⟨o, ho, _, hd⟩ := e
    exact ⟨o, ho, fun v z => by rw [hd] at z; cases z⟩
  · obtain ⟨o, ho, _, hd⟩ := e
    exact ⟨o, ho, fun v z => by rw [hd] at z; cases z⟩
theorem isIt_at {q : Bool} {h h' : Heap} {it a : Addr} {i : Nat} (e : IsIt q h it a i) (k : ∀ o, h.get? it = some o → h'.get? it = some o) : IsIt q h' it a i := by
  cases q
  · obtain ⟨o, ho, r⟩ := e; exact ⟨o, k o ho, r⟩
  · obtain ⟨o, ho, r⟩ := e; exact ⟨o, k o ho, r⟩
theorem isSq_lt {q : Bool} {h : Heap} {a : Addr} {items : Array Value} (e : IsSq q h a items) : a < h.objs.size := by
  cases q
  · obtain ⟨o, ho, _⟩ := e; exact Heap.lt_size ho
  · obtain ⟨o, ho, _⟩ := e; exact Heap.lt_size ho
section
variable {X : Cx} {pins : List (Addr × Obj)} {σ : L2.St} {H : Hp} {s : Shared} {q : Bool} {a : Addr} {xs ys : List V}
theorem inv_sq (I : Inv X pins σ H s) (h : SqB X.K q H a xs) : ∃ its : List Value, Vals xs its ∧ IsSq q s.heap a its.toArray ∧ xs.length ≤ sizeLine := by
  cases q
  · obtain ⟨its, rv, p, hz⟩ := I.list h
    exact ⟨its, rv, p.isList, hz⟩
  · obtain ⟨its, rv, p, hz⟩ := I.tuple h
    exact ⟨its, rv, p, hz⟩
theorem inv_sq_inj (I : Inv X pins σ H s) (h : SqB X.K q H a xs) (h' : SqB X.K q H a ys) : xs = ys := by
  cases q
  · exact I.list_inj h h'
  · exact I.tuple_inj h h'
end
theorem SqB.sub {K : PySem.W.Frag} {F G : Hp} {q : Bool} {a : Addr} {xs : List V} (h : SqB K q F a xs) (s : Sub F G) : SqB K q G a xs := by
  cases q
  · exact SqL.sub h s
  · exact SqT.sub h s
def IteB (K : PySem.W.Frag) (q : Bool) (a : Addr) : It :=
  ⟨fun i H => ∃ (xs : List V) (x : V), SqB K q H a xs ∧ xs[i]? = some x, fun i H v H' => ∃ T o x, v = .ref T ∧ H T = none ∧ Nd o ∧ H' = upd H T (.frz o (.tup [.int (i : Nat), x])) ∧ ∀ xs, SqB K q H a xs → xs[i]? = some x, fun i H => ∃ xs : List V, SqB K q H a xs ∧ xs.length = i⟩
theorem turn_enumB {P : Program} {w : World} {K : PySem.W.Frag} {elts : List Expr} {kk : Nat} {tpos : Pos} (q : Bool) (a e it : Addr) :
    Turn P w K (.Tuple elts kk tpos) (IteB K q a) [e, it] e (fun i h => (∃ old, IsEnum h e it ((i : Nat) : Int) old) ∧ IsIt q h it a i ∧ e ≠ it ∧ a ≠ it ∧ e ≠ a) where
  mem := by simp
  obj := fun i h st b hb => by
    obtain ⟨⟨old, he⟩, hi, _⟩ := st
    have e' : b = e ∨ b = it := by simpa using hb
    rcases e' with z | z
    · rw [z]; exact ⟨_, he, fun v q => nomatch q⟩
    · rw [z]; exact isIt_obj hi
  keep := fun i h h' st k => by
    obtain ⟨⟨old, he⟩, hi, hne⟩ := st
    exact ⟨⟨old, k e (by simp) _ he⟩, isIt_at hi fun o q => k it (by simp) o q, hne⟩
  item := by
    intro X hP hw hK hc i pins s σ H E I hf st hg
    subst hP hw hK
    obtain ⟨⟨old, he⟩, hit, h1, h2, h3⟩ := st
    obtain ⟨xs, x, hq, hx⟩ := hg
    obtain ⟨its, rv, p, hz⟩ := inv_sq I hq
    obtain ⟨u, hu, ru⟩ := rv.get hx
    have hel : e < s.heap.objs.size := Heap.lt_size he
    have hil : it < s.heap.objs.size := by obtain ⟨_, z, _⟩ := isIt_obj hit; exact Heap.lt_size z
    have hlt : i < its.toArray.size := by
      have := (List.getElem?_eq_some_iff.mp hu).1
      simpa using this
    refine wpAny_pyNext_enum_itemD (drawB (A := X.A.in1) (I.ok.hd hc) q it a h2 its.toArray) he ⟨hit, p⟩ hlt h1 (by simp [h1, h3]) fun u' h' tk hP ho hs' hT hsz hk => ?_
    obtain rfl : u' = u := by
      have z : its.toArray[i]? = some u' := hP
      have z2 : its.toArray[i]? = some u := by simpa using hu
      rw [z] at z2; exact Option.some.inj z2
    refine ⟨_, rfl, wpAny_letOwnedTupleGo_enum (s := { s with heap := h', toks := tk + 1 }) ho fun h'' he' sb => ?_⟩
    have hT2 : h''.get? s.heap.objs.size = some { cls := .type "tuple", data := .seq #[.int i tk, u'] } := (sb.2 _ (Nat.ne_of_gt hel)).trans hT
    have new : ObjOk X.prog X.w (upd H s.heap.objs.size (.frz { cls := .type "tuple", data := .seq #[.int i tk, u'] } (.tup [.int (i : Nat), x]))) h'' s.heap.objs.size (.frz { cls := .type "tuple", data := .seq #[.int i tk, u'] } (.tup [.int (i : Nat), x])) :=
      ⟨hT2, by show 2 ≤ sizeLine; decide, [.int i tk, u'], .cons ⟨_, rfl⟩ (.cons ru .nil), ⟨_, hT2, rfl, _, rfl⟩⟩
    have I1 : Inv X pins σ (upd H s.heap.objs.size (.frz { cls := .type "tuple", data := .seq #[.int i tk, u'] } (.tup [.int (i : Nat), x]))) { s with heap := h'', toks := tk + 1 } :=
      I.turnedNew (ch := [e, it]) (fun b ob hb q => (sb.2 b (fun z => hb (by simp [z]))).trans (hk b ob (fun z => hb (by simp [z])) (fun z => hb (by simp [z])) q)) hf (Nat.le_refl _) new
    refine ⟨.ref s.heap.objs.size, _, I1, rfl, ⟨_, _, x, rfl, I.hok.fresh (Nat.le_refl _), ⟨rfl, rfl⟩, rfl, fun ys hy => by rw [inv_sq_inj I hy hq]; exact hx⟩, ⟨⟨u', ?_⟩, isIt_at hs'.1 fun o q => (sb.2 it (Ne.symm h1)).trans q, h1, h2, h3⟩, fun b hb => ?_⟩
    · have e1 : ((i + 1 : Nat) : Int) = (i : Int) + 1 := by omega
      rw [e1]; exact he'
    · have hb' : b < s.heap.objs.size := by
        have e' : b = e ∨ b = it := by simpa using hb
        rcases e' with z | z
        · rw [z]; exact hel
        · rw [z]; exact hil
      rw [upd_ne (Nat.ne_of_lt hb')]
      exact (hf b hb).1
  done := by
    intro X hP hw hK hc i pins s σ H E I hf st hg
    subst hP hw hK
    obtain ⟨⟨old, he⟩, hit, h1, h2, h3⟩ := st
    obtain ⟨xs, hq, hx⟩ := hg
    obtain ⟨its, rv, p, hz⟩ := inv_sq I hq
    obtain ⟨f0, f1, f2, f3, f4, f5⟩ := hf it (by simp)
    have hl := rv.length
    have hn : i = its.toArray.size := by simp; omega
    subst hn
    exact wpAny_pyNext_enum_endD (drawB (A := X.A.in1) (I.ok.hd hc) q it a h2 its.toArray) he ⟨hit, p⟩ fun h' eb => ⟨rfl, I.turned (t' := s.toks) (fun b o hb q => eb b o hb q) f0 f1 f3 f4 f5⟩
  self := fun A i s Q E st h => let ⟨⟨_, he⟩, _⟩ := st; wpAny_pyIter_enum he h
def iEnumB (K : PySem.W.Frag) (ta : TA) : TI := fun σ H R => ta σ H fun vs H1 => ∃ (q : Bool) (a : Addr) (xs : List V), vs = [.ref a] ∧ SqB K q H1 a xs ∧ R (IteB K q a) H1
theorem pi_enumB {X : Cx} {e : Expr} {ta : TA} {p pos tpos : Pos} {elts : List Expr} {kk : Nat} (hg : Gl X "enumerate") (hm : X.mg "enumerate" = none) (ha : PA X [e] ta) (hs : starEach [e] X.env = [(false, eval e X.env)] := by rfl) :
    PI X (.Tuple elts kk tpos) (.Call (.Name "enumerate" p) [e] [] pos) (iEnumB X.K ta) := by
  refine ⟨fun pins s σ H R I h => ?_⟩
  refine Call_ (ld_blt I hg hm boot_enumerate (PyProof.Rows.callWith_type1 (thn (ha.run pos pins s σ H _ I h) fun us s1 ⟨vs, H1, I1, r1, q1⟩ => ?_) hs rfl))
  obtain ⟨qb, a, xs, ex, hq, q⟩ := q1
  subst ex
  cases r1 with
  | cons r rr =>
    cases rr
    cases r
    obtain ⟨its, rv, p', hz⟩ := inv_sq I1 hq
    refine call_enumB (begB qb a its.toArray) p' fun h' he hit hsz hk => wpAny_pyIter_enum he ?_
    have I2 : Inv X pins σ H1 { s1 with heap := h' } := I1.kept (t' := s1.toks) hk
    have la := isSq_lt p'
    refine ⟨s1.heap.objs.size + 1, [s1.heap.objs.size + 1, s1.heap.objs.size], _, _, H1, rfl, I2, turn_enumB qb a (s1.heap.objs.size + 1) s1.heap.objs.size, ⟨⟨.none, he⟩, isIt_new hit, Nat.succ_ne_self _, Nat.ne_of_lt la, Nat.ne_of_gt (Nat.lt_succ_of_lt la)⟩, fun b hb => ?_, q⟩
    have e' : b = s1.heap.objs.size + 1 ∨ b = s1.heap.objs.size := by simpa using hb
    have hle : s1.heap.objs.size ≤ b := by
      rcases e' with z | z
      · rw [z]; exact Nat.le_add_right _ _
      · rw [z]; exact Nat.le_refl _
    exact I1.fpOk hle (I1.hok.fresh hle)
def ItzB (K : PySem.W.Frag) (q1 q2 : Bool) (a b : Addr) : It :=
  ⟨fun i H => ∃ (xs ys : List V) (x y : V), SqB K q1 H a xs ∧ SqB K q2 H b ys ∧ xs[i]? = some x ∧ ys[i]? = some y,
    fun i H v H' => ∃ T o x y, v = .ref T ∧ H T = none ∧ Nd o ∧ H' = upd H T (.frz o (.tup [x, y])) ∧ (∀ xs, SqB K q1 H a xs → xs[i]? = some x) ∧ ∀ ys, SqB K q2 H b ys → ys[i]? = some y,
    fun i H => ∃ xs ys : List V, SqB K q1 H a xs ∧ SqB K q2 H b ys ∧ i ≤ xs.length ∧ i ≤ ys.length ∧ (i = xs.length ∨ i = ys.length)⟩
theorem turn_zipB {P : Program} {w : World} {K : PySem.W.Frag} {elts : List Expr} {kk : Nat} {tpos : Pos} (q1 q2 : Bool) {a b z TI TO i1 i2 : Addr} (D : ZipSep2 z TI TO i1 i2 [i1, a] [i2, b]) :
    Turn P w K (.Tuple elts kk tpos) (ItzB K q1 q2 a b) [z, TI, TO, i1, i2] z (fun i h => IsZip h z TI TO .none ∧ IsTupOf2 h TI (.ref i1) (.ref i2) ∧ (∃ x y, IsTupOf2 h TO x y) ∧ IsIt q1 h i1 a i ∧ IsIt q2 h i2 b i ∧ a ≠ i1 ∧ b ≠ i2) where
  mem := by simp
  obj := fun i h st c hc => by
    obtain ⟨hz, hTI, ⟨x, y, hTO⟩, h1, h2, _⟩ := st
    have e' : c = z ∨ c = TI ∨ c = TO ∨ c = i1 ∨ c = i2 := by simpa using hc
    rcases e' with q | q | q | q | q
    · rw [q]; exact ⟨_, hz, fun v q => nomatch q⟩
    · rw [q]; exact ⟨_, hTI, fun v q => nomatch q⟩
    · rw [q]; exact ⟨_, hTO, fun v q => nomatch q⟩
    · rw [q]; exact isIt_obj h1
    · rw [q]; exact isIt_obj h2
  keep := fun i h h' st k => by
    obtain ⟨hz, hTI, ⟨x, y, hTO⟩, h1, h2, h3⟩ := st
    exact ⟨k z (by simp) _ hz, k TI (by simp) _ hTI, ⟨x, y, k TO (by simp) _ hTO⟩, isIt_at h1 fun o q => k i1 (by simp) o q, isIt_at h2 fun o q => k i2 (by simp) o q, h3⟩
  item := by
    intro X hP hw hK hc i pins s σ H E I hf st hg
    subst hP hw hK
    obtain ⟨hz, hTI, ⟨x0, y0, hTO⟩, h1, h2, n1, n2⟩ := st
    obtain ⟨xs, ys, x, y, hqx, hqy, hx, hy⟩ := hg
    obtain ⟨its, rv, p, _⟩ := inv_sq I hqx
    obtain ⟨its2, rv2, p2, _⟩ := inv_sq I hqy
    obtain ⟨u, hu, ru⟩ := rv.get hx
    obtain ⟨u2, hu2, ru2⟩ := rv2.get hy
    have hzl : z < s.heap.objs.size := Heap.lt_size hz
    have l1 : i < its.toArray.size := by simpa using (List.getElem?_eq_some_iff.mp hu).1
    have l2 : i < its2.toArray.size := by simpa using (List.getElem?_eq_some_iff.mp hu2).1
    refine wpAny_pyNext_zipD2_item D (drawB (A := X.A.in1) (I.ok.hd hc) q1 i1 a n1 its.toArray) (drawB (A := X.A.in1) (I.ok.hd hc) q2 i2 b n2 its2.toArray) hz hTI hTO ⟨h1, p⟩ ⟨h2, p2⟩ l1 l2 fun w1 w2 h' tk e1 e2 z' TO' h1' h2' hT hsz hk => ?_
    obtain rfl : w1 = u := by
      have z : its.toArray[i]? = some w1 := e1
      have z2 : its.toArray[i]? = some u := by simpa using hu
      rw [z] at z2; exact Option.some.inj z2
    obtain rfl : w2 = u2 := by
      have z : its2.toArray[i]? = some w2 := e2
      have z2 : its2.toArray[i]? = some u2 := by simpa using hu2
      rw [z] at z2; exact Option.some.inj z2
    refine ⟨_, rfl, wpAny_letOwnedTupleGo_zip (s := { s with heap := h', toks := tk }) z' fun h'' z'' sb => ?_⟩
    have hT2 : h''.get? s.heap.objs.size = some { cls := .type "tuple", data := .seq #[w1, w2] } := (sb.2 _ (Nat.ne_of_gt hzl)).trans hT
    have new : ObjOk X.prog X.w (upd H s.heap.objs.size (.frz { cls := .type "tuple", data := .seq #[w1, w2] } (.tup [x, y]))) h'' s.heap.objs.size (.frz { cls := .type "tuple", data := .seq #[w1, w2] } (.tup [x, y])) :=
      ⟨hT2, by show 2 ≤ sizeLine; decide, [w1, w2], .cons ru (.cons ru2 .nil), ⟨_, hT2, rfl, _, rfl⟩⟩
    have I1 : Inv X pins σ (upd H s.heap.objs.size (.frz { cls := .type "tuple", data := .seq #[w1, w2] } (.tup [x, y]))) { s with heap := h'', toks := tk } :=
      I.turnedNew (t' := tk) (ch := [z, TI, TO, i1, i2]) (fun c o hb q => (sb.2 c (fun q' => hb (by simp [q']))).trans (hk c o (fun q' => hb (by simp [q'])) (fun q' => hb (by simp [q'])) (fun q' => hb (by simp [q'])) (fun q' => hb (by simp [q'])) q)) hf (Nat.le_refl _) new
    refine ⟨.ref s.heap.objs.size, _, I1, rfl, ⟨_, _, x, y, rfl, I.hok.fresh (Nat.le_refl _), ⟨rfl, rfl⟩, rfl, fun l hl => by rw [inv_sq_inj I hl hqx]; exact hx, fun l hl => by rw [inv_sq_inj I hl hqy]; exact hy⟩, ⟨z'', ?_, ⟨w1, w2, ?_⟩, ?_, ?_, n1, n2⟩, fun c hcm => ?_⟩
    · exact (sb.2 _ D.TIz).trans (hk _ _ D.TIz D.TITO D.TIi1 D.TIi2 hTI)
    · exact (sb.2 _ D.TOz).trans TO'
    · exact isIt_at h1'.1 fun o q => (sb.2 _ (Ne.symm D.zi1)).trans q
    · exact isIt_at h2'.1 fun o q => (sb.2 _ (Ne.symm D.zi2)).trans q
    · have hlt : c < s.heap.objs.size := by
        have e' : c = z ∨ c = TI ∨ c = TO ∨ c = i1 ∨ c = i2 := by simpa using hcm
        rcases e' with q | q | q | q | q
        · rw [q]; exact hzl
        · rw [q]; exact Heap.lt_size hTI
        · rw [q]; exact Heap.lt_size hTO
        · rw [q]; obtain ⟨_, e1, _⟩ := isIt_obj h1; exact Heap.lt_size e1
        · rw [q]; obtain ⟨_, e1, _⟩ := isIt_obj h2; exact Heap.lt_size e1
      rw [upd_ne (Nat.ne_of_lt hlt)]
      exact (hf c hcm).1
  done := by
    intro X hP hw hK hc i pins s σ H E I hf st hg
    subst hP hw hK
    obtain ⟨hz, hTI, ⟨x0, y0, hTO⟩, h1, h2, n1, n2⟩ := st
    obtain ⟨xs, ys, hqx, hqy, l1, l2, hend⟩ := hg
    obtain ⟨its, rv, p, _⟩ := inv_sq I hqx
    obtain ⟨its2, rv2, p2, _⟩ := inv_sq I hqy
    have e1 := rv.length
    have e2 := rv2.length
    exact wpAny_pyNext_zipD2_end D (drawB (A := X.A.in1) (I.ok.hd hc) q1 i1 a n1 its.toArray) (drawB (A := X.A.in1) (I.ok.hd hc) q2 i2 b n2 its2.toArray) hz hTI hTO ⟨h1, p⟩ ⟨h2, p2⟩ (by simp; omega) (by simp; omega) (by simp; omega) fun h' tk hk => ⟨rfl, I.turnedL (t' := tk) (ch := [z, TI, TO, i1, i2]) (fun c o hb q =>
      hk c o (fun q' => hb (by simp [q'])) (fun q' => hb (by simp [q'])) (fun q' => hb (by simp [q'])) (fun q' => hb (by simp [q'])) q) hf⟩
  self := fun A i s Q E st h => wpAny_pyIter_zip st.1 h
def iZipB (K : PySem.W.Frag) (ta : TA) : TI := fun σ H R => ta σ H fun vs H1 => ∃ (q1 q2 : Bool) (a b : Addr) (xs ys : List V), vs = [.ref a, .ref b] ∧ SqB K q1 H1 a xs ∧ SqB K q2 H1 b ys ∧ R (ItzB K q1 q2 a b) H1
theorem pi_zipB {X : Cx} {e e2 : Expr} {ta : TA} {p pos tpos : Pos} {elts : List Expr} {kk : Nat} (hg : Gl X "zip") (hm : X.mg "zip" = none) (ha : PA X [e, e2] ta)
    (hs : starEach [e, e2] X.env = (false, eval e X.env) :: starEach [e2] X.env := by rfl) (hpl : (backTo pos (starEach [e2] X.env)).any (·.1) = false := by rfl) :
    PI X (.Tuple elts kk tpos) (.Call (.Name "zip" p) [e, e2] [] pos) (iZipB X.K ta) := by
  refine ⟨fun pins s σ H R I h => ?_⟩
  refine Call_ (ld_blt I hg hm PyProof.Rows.boot_zip (PyProof.Rows.callWith_type1 (thn (ha.run pos pins s σ H _ I h) fun us s1 ⟨vs, H1, I1, r1, q1⟩ => ?_) hs hpl))
  obtain ⟨b1, b2, a, b, xs, ys, ex, hqx, hqy, q⟩ := q1
  subst ex
  cases r1 with
  | cons r rr =>
    cases rr with
    | cons r' rr =>
      cases rr
      cases r
      cases r'
      obtain ⟨its, rv, p1, _⟩ := inv_sq I1 hqx
      obtain ⟨its2, rv2, p2, _⟩ := inv_sq I1 hqy
      have la := isSq_lt p1
      have lb := isSq_lt p2
      refine zip_begins2 (begB b1 a its.toArray) (begB b2 b its2.toArray) p1 p2 fun h' hz hTI hTO h1 h2 hsz hk => wpAny_pyIter_zip hz ?_
      have I2 : Inv X pins σ H1 { s1 with heap := h' } := I1.kept (t' := s1.toks) hk
      refine ⟨s1.heap.objs.size + 4, [s1.heap.objs.size + 4, s1.heap.objs.size + 2, s1.heap.objs.size + 3, s1.heap.objs.size, s1.heap.objs.size + 1], _, _, H1, rfl, I2,
        turn_zipB b1 b2 (zip_sep2 (N := s1.heap.objs.size) (fp1 := [a]) (fp2 := [b]) (by simpa using la) (by simpa using lb)), ⟨hz, hTI, ⟨_, _, hTO⟩, isIt_new h1, isIt_new h2, Nat.ne_of_lt la, Nat.ne_of_lt (Nat.lt_succ_of_lt lb)⟩, fun c hcm => ?_, q⟩
      have e' : c = s1.heap.objs.size + 4 ∨ c = s1.heap.objs.size + 2 ∨ c = s1.heap.objs.size + 3 ∨ c = s1.heap.objs.size ∨ c = s1.heap.objs.size + 1 := by simpa using hcm
      have hle : s1.heap.objs.size ≤ c := by
        rcases e' with z | z | z | z | z
        · rw [z]; exact Nat.le_add_right _ _
        · rw [z]; exact Nat.le_add_right _ _
        · rw [z]; exact Nat.le_add_right _ _
        · rw [z]; exact Nat.le_refl _
        · rw [z]; exact Nat.le_add_right _ _
      exact I1.fpOk hle (I1.hok.fresh hle)
end Q
namespace Q
open PySem PySem.Spec PyProof.Rows L2
section
variable {K : PySem.W.Frag} {F H : Hp} {k : List Addr} {c : Cs}
/-- the pairs (i, x) -/
def enumT (ts : List T) : List T := ts.zipIdx.map fun p => .tup [.int (p.2 : Nat), p.1]
def zipT (ts us : List T) : List T := (ts.zip us).map fun p => .tup [p.1, p.2]
theorem enumT_get {ts : List T} {i : Nat} : (enumT ts)[i]? = (ts[i]?).map fun t => T.tup [.int (i : Nat), t] := by
  unfold enumT
  rw [List.getElem?_map, List.getElem?_zipIdx]
  cases ts[i]? <;> simp
theorem zipT_get {ts us : List T} {i : Nat} {z : T} (h : (zipT ts us)[i]? = some z) : ∃ t u, ts[i]? = some t ∧ us[i]? = some u ∧ z = .tup [t, u] := by
  unfold zipT at h
  rw [List.getElem?_map] at h
  cases e : (ts.zip us)[i]? with
  | none => rw [e] at h; cases h
  | some p =>
    rw [e] at h
    cases h
    obtain ⟨h1, h2⟩ := List.getElem?_zip_eq_some.mp e
    exact ⟨_, _, h1, h2, rfl⟩
theorem wk_enumB {q : Bool} {a : Addr} {xs : List V} {ts : List T} (h : SqB K q F a xs) (r : Reps K F k ts xs) : Wk K (IteB K q a) (enumT ts) F k := fun F1 k1 c1 H1 ok s p => by
  have h1 : SqB K q H1 a xs := SqB.sub (SqB.sub h s) ok.sub
  refine ⟨⟨xs, h1, by rw [← r.length]; simp [enumT]⟩, fun i t e => ?_⟩
  rw [enumT_get] at e
  cases e0 : ts[i]? with
  | none => rw [e0] at e; cases e
  | some t0 =>
    rw [e0] at e; cases e
    obtain ⟨v, e1, e2⟩ := r.get e0
    refine ⟨⟨xs, v, h1, e1⟩, fun x H' ⟨T0, o0, x0, ex, nT, nd, eH, q0⟩ => ?_⟩
    subst ex eH
    have e3 := q0 xs h1
    rw [e1] at e3; cases e3
    have g : Ge F1 k1 H1 (upd F1 T0 (.frz o0 (.tup [.int (i : Nat), v]))) k1 (upd H1 T0 (.frz o0 (.tup [.int (i : Nat), v]))) := Ge.push ok nT
    exact ⟨upd F1 T0 (.frz o0 (.tup [.int (i : Nat), v])), ok.push nT, g, .tup (SqD.new nd) (.cons (.int _) (.cons ((e2.mono s p).mono g.f g.pk) .nil))⟩
theorem wk_zipB {q1 q2 : Bool} {a b : Addr} {xs ys : List V} {ts us : List T} (h : SqB K q1 F a xs) (h' : SqB K q2 F b ys) (r : Reps K F k ts xs) (r' : Reps K F k us ys) : Wk K (ItzB K q1 q2 a b) (zipT ts us) F k := fun F1 k1 c1 H1 ok s p => by
  have h1 : SqB K q1 H1 a xs := SqB.sub (SqB.sub h s) ok.sub
  have h2 : SqB K q2 H1 b ys := SqB.sub (SqB.sub h' s) ok.sub
  have l1 := r.length
  have l2 := r'.length
  refine ⟨⟨xs, ys, h1, h2, by simp [zipT]; omega, by simp [zipT]; omega, by simp [zipT]; omega⟩, fun i t e => ?_⟩
  obtain ⟨t0, u0, e0, e0', rfl⟩ := zipT_get e
  obtain ⟨v, e1, e2⟩ := r.get e0
  obtain ⟨w, e1', e2'⟩ := r'.get e0'
  refine ⟨⟨xs, ys, v, w, h1, h2, e1, e1'⟩, fun x H' ⟨T0, o0, x0, y0, ex, nT, nd, eH, q0, q0'⟩ => ?_⟩
  subst ex eH
  have e3 := q0 xs h1
  rw [e1] at e3; cases e3
  have e3' := q0' ys h2
  rw [e1'] at e3'; cases e3'
  have g : Ge F1 k1 H1 (upd F1 T0 (.frz o0 (.tup [v, w]))) k1 (upd H1 T0 (.frz o0 (.tup [v, w]))) := Ge.push ok nT
  exact ⟨upd F1 T0 (.frz o0 (.tup [v, w])), ok.push nT, g, .tup (SqD.new nd) (.cons ((e2.mono s p).mono g.f g.pk) (.cons ((e2'.mono s p).mono g.f g.pk) .nil))⟩
theorem sqB_of {t : T} {ts : List T} {v : V} (e : itT t = some ts) (r : Rep K F k t v) : ∃ (q : Bool) (a : Addr) (xs : List V), v = .ref a ∧ SqB K q F a xs ∧ Reps K F k ts xs := by
  cases t <;> try (cases e; done)
  case tup us => cases e; cases r with | tup h rr => exact ⟨true, _, _, rfl, h.t, rr⟩
  case lst us => cases e; cases r with | lst h rr => exact ⟨false, _, _, rfl, SqL.of h, rr⟩
  case scr us => cases e; cases r with | scr h rr => exact ⟨false, _, _, rfl, h, rr⟩
theorem seqB_of {t : T} {ts : List T} {v : V} (ok : Ok K F k c H) (e : itT t = some ts) (r : SeqR K F k H t v) : ∃ (q : Bool) (a : Addr) (xs : List V), v = .ref a ∧ SqB K q H a xs ∧ Reps K F k ts xs := by
  cases t <;> try (cases e; done)
  case tup us => cases e; obtain ⟨a, xs, rfl, _, h, rr⟩ := r.tup_of ok; exact ⟨true, _, _, rfl, h, rr⟩
  case lst us => cases e; obtain ⟨a, xs, rfl, h, _, rr⟩ := r; exact ⟨false, _, _, rfl, SqL.of h, rr⟩
  case scr us => cases e; obtain ⟨a, xs, rfl, h, rr⟩ := r.scr_of ok; exact ⟨false, _, _, rfl, h, rr⟩
end
def dEnum (d : D) : DI := fun r c => (d r c).bind fun x c => lift ((itT x).map enumT) c
def dZip (d d' : D) : DI := fun r c => (d r c).bind fun x c => (d' r c).bind fun y c => match itT x, itT y with
  | some ts, some us => .ok (zipT ts us) c
  | _, _ => .stk
@[simp] theorem dEnum_e {d : D} {r : Env} {c : Cs} : dEnum d r c = (d r c).bind fun x c => lift ((itT x).map enumT) c := (rfl)
@[simp] theorem dZip_e {d d' : D} {r : Env} {c : Cs} : dZip d d' r c = (d r c).bind fun x c => (d' r c).bind fun y c => match itT x, itT y with
  | some ts, some us => .ok (zipT ts us) c
  | _, _ => .stk := (rfl)
section
variable {X : Cx} {W : XK} {e e2 tg : Expr} {te te2 : TE} {d d' : D} {p pos tpos : Pos} {elts : List Expr} {kk : Nat}
theorem ei_enum (K : PySem.W.Frag) (hm : X.mg "enumerate" = none) (h : EE X W e te d) (hg : Gl X "enumerate" := by rfl) (na : starEach [e] X.env = (false, eval e X.env) :: starEach [] X.env := by rfl) (hs : starEach [e] X.env = [(false, eval e X.env)] := by rfl) (hK : X.K = K := by rfl) :
    EI X W (.Tuple elts kk tpos) (.Call (.Name "enumerate" p) [e] [] pos) (iEnumB K (tCons te tNil)) (dEnum d) := by
  subst hK
  refine ⟨pi_enumB hg hm (pa_cons h.pe pa_nil na) hs, fun N r c F k σ H R S pp => ?_⟩
  show te σ H _
  refine h.rd N r c F k σ H _ S (pp.seq fun x c1 v F1 k1 H1 q1 ok1 g1 r1 p1 => ?_)
  clear q1
  cases e1 : itT x with
  | none => rw [e1] at p1; exact p1.elim
  | some ts =>
    rw [e1] at p1
    obtain ⟨q, a, xs, rfl, hq, rr⟩ := sqB_of e1 r1
    exact ⟨q, a, xs, rfl, SqB.sub hq ok1.sub, p1 _ F1 k1 H1 ok1 Ge.refl (wk_enumB hq rr)⟩
theorem ei_zip (K : PySem.W.Frag) (hm : X.mg "zip" = none) (h : EE X W e te d) (h2 : EE X W e2 te2 d') (hg : Gl X "zip" := by rfl) (na : starEach [e, e2] X.env = (false, eval e X.env) :: starEach [e2] X.env := by rfl) (nb : starEach [e2] X.env = (false, eval e2 X.env) :: starEach [] X.env := by rfl)
    (hpl : (backTo pos (starEach [e2] X.env)).any (·.1) = false := by rfl) (hK : X.K = K := by rfl) :
    EI X W (.Tuple elts kk tpos) (.Call (.Name "zip" p) [e, e2] [] pos) (iZipB K (tCons te (tCons te2 tNil))) (dZip d d') := by
  subst hK
  refine ⟨pi_zipB hg hm (pa_cons h.pe (pa_cons h2.pe pa_nil nb) na) na hpl, fun N r c F k σ H R S pp => ?_⟩
  show te σ H _
  refine h.rd N r c F k σ H _ S (pp.seq fun x c1 v F1 k1 H1 q1 ok1 g1 r1 p1 => ?_)
  refine h2.rd N r c1 F1 k1 σ H1 _ (S.step ok1 g1) (p1.seq fun y c2 u F2 k2 H2 q2 ok2 g2 r2 p2 => ?_)
  clear q1 q2
  cases e1 : itT x with
  | none => rw [e1] at p2; exact p2.elim
  | some ts =>
    cases e2 : itT y with
    | none => rw [e1, e2] at p2; exact p2.elim
    | some us =>
      rw [e1, e2] at p2
      obtain ⟨q, a, xs, rfl, hq, rr⟩ := sqB_of e1 (r1.mono g2.f g2.pk)
      obtain ⟨q', b, ys, rfl, hq', rr'⟩ := sqB_of e2 r2
      exact ⟨q, q', a, b, xs, ys, rfl, SqB.sub hq ok2.sub, SqB.sub hq' ok2.sub, p2 _ F2 k2 H2 ok2 Ge.refl (wk_zipB hq hq' rr rr')⟩
end
def dst : List Int → List Int
  | [] => []
  | x :: xs => if x ∈ xs then dst xs else x :: dst xs
theorem mem_dst {y : Int} : ∀ {xs : List Int}, y ∈ dst xs ↔ y ∈ xs
  | [] => Iff.rfl
  | x :: xs => by
    unfold dst
    split
    · rename_i h
      rw [mem_dst, List.mem_cons]
      exact ⟨.inr, fun z => z.elim (fun e => e ▸ h) id⟩
    · rw [List.mem_cons, List.mem_cons, mem_dst]
theorem nodup_dst : ∀ xs : List Int, (dst xs).Nodup
  | [] => List.nodup_nil
  | x :: xs => by
    unfold dst
    split
    · exact nodup_dst xs
    · rename_i h
      exact List.nodup_cons.mpr ⟨fun z => h (mem_dst.mp z), nodup_dst xs⟩
theorem dst_le : ∀ xs : List Int, (dst xs).length ≤ xs.length
  | [] => Nat.le_refl _
  | x :: xs => by
    unfold dst
    have := dst_le xs
    split
    · simp; omega
    · simp; omega
theorem dst_eq {xs : List Int} : (dst xs).length = xs.length ↔ xs.Nodup := by
  induction xs with
  | nil => simp [dst]
  | cons x xs ih =>
    have h := dst_le xs
    unfold dst
    split
    · rename_i hx
      rw [List.nodup_cons]
      simp [hx]
      omega
    · rename_i hx
      rw [List.nodup_cons, List.length_cons, List.length_cons]
      simp only [hx, not_false_eq_true, true_and, ← ih]
      omega
theorem len_same {xs ys : List Int} (h1 : xs.Nodup) (h2 : ys.Nodup) (h : ∀ k, k ∈ xs ↔ k ∈ ys) : xs.length = ys.length :=
  ((List.perm_ext_iff_of_nodup h1 h2).mpr h).length_eq
theorem firstMet_nd (val : Nat → Int) : ∀ i, (firstMet val i).Nodup
  | 0 => List.nodup_nil
  | i + 1 => by
    rw [firstMet_succ]
    unfold PyProof.Rows.step_dedup
    have ih := firstMet_nd val i
    split
    · exact ih
    · rename_i h
      rw [List.nodup_append]
      refine ⟨ih, by simp, fun x hx y hy e => ?_⟩
      have : y = val i := by simpa using hy
      subst this
      rw [e] at hx
      exact h (List.any_eq_true.mpr ⟨_, hx, beq_self_eq_true _⟩)
theorem firstMet_len (ns : List Int) : (firstMet (fun i => ns.getD i 0) ns.length).length = (dst ns).length := by
  refine len_same (firstMet_nd _ _) (nodup_dst ns) fun k => ?_
  have h := firstMet_any (fun i => ns.getD i 0) ns.length k
  have e : (List.range ns.length).map (fun i => ns.getD i 0) = ns := by
    apply List.ext_getElem
    · simp
    · intro i h1 h2
      simp [h2]
  rw [e] at h
  rw [mem_dst]
  constructor
  · intro hk
    have z : ns.any (· == k) = true := by rw [← h]; exact List.any_eq_true.mpr ⟨k, hk, beq_self_eq_true _⟩
    obtain ⟨y, hy, ey⟩ := List.any_eq_true.mp z
    rw [← eq_of_beq ey]; exact hy
  · intro hk
    have z : (firstMet (fun i => ns.getD i 0) ns.length).any (· == k) = true := by rw [h]; exact List.any_eq_true.mpr ⟨k, hk, beq_self_eq_true _⟩
    obtain ⟨y, hy, ey⟩ := List.any_eq_true.mp z
    rw [← eq_of_beq ey]; exact hy
def tLenSetB (K : PySem.W.Frag) (ta : TE) : TE := fun σ H Q => ta σ H fun x H1 => ∃ (q : Bool) (l : Addr) (ns : List Int), x = .ref l ∧ SqB K q H1 l (ns.map V.int) ∧ ns.length ≤ 1000 ∧ Q (.int ((dst ns).length : Nat)) H1
theorem pe_lenSetB {X : Cx} {a : Expr} {ta : TE} {p p2 q pos : Pos} (hg : Gl X "len") (hm : X.mg "len" = none) (hg2 : Gl X "set") (hm2 : X.mg "set" = none) (ha : PE X a ta) (hc : X.calm = true := by rfl)
    (na : starEach [a] X.env = (false, eval a X.env) :: starEach [] X.env := by rfl) : PE X (.Call (.Name "len" p) [.Call (.Name "set" p2) [a] [] q] [] pos) (tLenSetB X.K ta) := by
  refine ⟨fun pins s σ H Q I h => ?_⟩
  refine Call_ (ld_blt I hg hm boot_len ?_)
  refine PyProof.Rows.callWith_builtin1 (PyProof.Rows.args_cons ?_ rfl) rfl rfl
  refine Call_ (ld_blt I hg2 hm2 PyProof.Rows.boot_set ?_)
  refine PyProof.Rows.callWith_type1 (PyProof.Rows.args_cons (thn (ha.run pins s σ H _ I h) fun v s1 ⟨x, H1, I1, r1, q1⟩ => PyProof.Rows.args_nil ?_) na) na rfl
  obtain ⟨qb, l, ns, rfl, hq, hl, q1⟩ := q1
  cases r1
  cases qb with
  | false =>
    obtain ⟨its, r, pl, hz⟩ := I1.list (show SqL X.K H1 l (ns.map V.int) from hq)
    have hlen : its.toArray.size = ns.length := by rw [List.size_toArray, ← r.length, List.length_map]
    refine call_set_list (I1.ok.hd hc) pl.isList (by simpa using ints_of_vals r) (by rw [hlen]; unfold scanBound; omega) fun h' tk hS hk => ?_
    refine PyProof.Rows.args_nil ?_
    rw [hlen, firstMet_len] at hS
    obtain ⟨o, es, ep, t, ho, hex, hd, _, _, _, hf, hn⟩ := hS
    have I2 : Inv X pins σ H1 { s1 with heap := h', toks := tk } := I1.kept fun b o e => hk b o (Heap.lt_size e) e
    have hle := dst_le ns
    exact call_len_set ho hex hd hf (by rw [hn] <;> omega) ⟨.int (dst ns).length, H1, I2.tok _, ⟨_, by rw [hn]⟩, q1⟩
  | true =>
    obtain ⟨its, r, pl, hz⟩ := I1.tuple (show SqT X.K H1 l (ns.map V.int) from hq)
    refine call_set_tupI ns (I1.ok.hd hc) (show s1.heap.IsTuple l its.toArray from pl) (by simpa using ints_of_vals r) (by unfold scanBound; omega) fun h' tk n hS hn1 hk => ?_
    refine PyProof.Rows.args_nil ?_
    obtain ⟨o, es, ep, t, ho, hex, hd, _, nd, hm', _, hf, hn, _⟩ := hS
    have e1 : es.size = (dst ns).length := by
      rw [← len_same nd (nodup_dst ns) fun k => by rw [mem_dst, ← hm' k, decide_eq_true_eq], List.length_map, Array.length_toList]
    have I2 : Inv X pins σ H1 { s1 with heap := h', toks := tk } := I1.kept hk
    have hle := dst_le ns
    exact call_len_set ho hex hd hf (by rw [e1] <;> omega) ⟨.int (dst ns).length, H1, I2.tok _, ⟨_, by rw [e1]⟩, q1⟩
def lenSetT (t : T) : Option T := ((itT t).bind intsOf).bind fun ns => if ns.length ≤ 1000 then some (.int ((dst ns).length : Nat)) else none
theorem ee_lenSet (K : PySem.W.Frag) {X : Cx} {W : XK} {a : Expr} {ta : TE} {d : D} {p p2 q pos : Pos} (hm : X.mg "len" = none) (hm2 : X.mg "set" = none) (ha : ES X W a ta d) (hg : Gl X "len" := by rfl) (hg2 : Gl X "set" := by rfl) (hc : X.calm = true := by rfl)
    (na : starEach [a] X.env = (false, eval a X.env) :: starEach [] X.env := by rfl) (hK : X.K = K := by rfl) : EE X W (.Call (.Name "len" p) [.Call (.Name "set" p2) [a] [] q] [] pos) (tLenSetB K ta) (d1 lenSetT d) := by
  subst hK
  refine ⟨pe_lenSetB hg hm hg2 hm2 ha.pe hc na, fun N r c F k σ H Q S pp => ?_⟩
  refine ha.rd N r c F k σ H _ S (pp.seq fun x c1 v F1 k1 H1 q1 ok1 g1 r1 p1 => ?_)
  clear q1
  unfold lenSetT at p1
  cases e1 : itT x with
  | none => rw [e1] at p1; exact p1.elim
  | some ts =>
    rw [e1] at p1
    cases e2 : intsOf ts with
    | none =>
      have z : (some ts).bind intsOf = none := e2
      rw [z] at p1; exact p1.elim
    | some ns =>
      have z : (some ts).bind intsOf = some ns := e2
      rw [z] at p1
      replace p1 : Post X.K X.mg (RV X.K) F1 k1 H1 (lift (if ns.length ≤ 1000 then some (.int ((dst ns).length : Nat)) else none) c1) Q W := p1
      by_cases hl : ns.length ≤ 1000
      · rw [if_pos hl] at p1
        obtain ⟨qb, l, xs, rfl, hq, rr⟩ := seqB_of ok1 e1 r1
        rw [intsOf_eq e2] at rr
        rw [rr.ints] at hq
        exact ⟨qb, l, ns, rfl, hq, hl, p1 _ F1 k1 H1 ok1 Ge.refl (.int _)⟩
      · rw [if_neg hl] at p1; exact p1.elim
@[simp] theorem lenSetT_lst {ns : List Int} : lenSetT (.lst (ns.map T.int)) = if ns.length ≤ 1000 then some (.int ((dst ns).length : Nat)) else none := by
  unfold lenSetT
  show ((some (ns.map T.int)).bind intsOf).bind _ = _
  rw [show (some (ns.map T.int)).bind intsOf = some ns from intsOf_map ns]; rfl
@[simp] theorem lenSetT_tup {ns : List Int} : lenSetT (.tup (ns.map T.int)) = if ns.length ≤ 1000 then some (.int ((dst ns).length : Nat)) else none := by
  unfold lenSetT
  show ((some (ns.map T.int)).bind intsOf).bind _ = _
  rw [show (some (ns.map T.int)).bind intsOf = some ns from intsOf_map ns]; rfl
section
variable {K : PySem.W.Frag} {X : Cx} {W : XK} {o e : Expr} {to te : TE} {d d' : D} {apos cpos : Pos}
def isLst : T → Bool
  | .lst _ => true
  | .scr _ => true
  | _ => false
def dLM (f : T → T → Option T) (a b : D) : D := fun r c => (a r c).bind fun x c => if isLst x = true then (b r c).bind fun y c => lift (f x y) c else .stk
@[simp] theorem dLM_e {f : T → T → Option T} {a b : D} {r : Env} {c : Cs} : dLM f a b r c = (a r c).bind fun x c => if isLst x = true then (b r c).bind fun y c => lift (f x y) c else .stk := (rfl)
@[simp] theorem isLst_lst {ts : List T} : isLst (.lst ts) = true := (rfl)
theorem rd_lm {mg : Str → Option Value} {r0 : V → List V → Hp → VK → Prop} {f : T → T → Option T} (h : Op2 K (fun x y H Q => r0 x [y] H Q) f) (ha : RdS K mg W to d) (hb : RdS K mg W te d') : Rd K mg W (tBM K "list" r0 to (tCons te tNil)) (dLM f d d') := fun N r c F k σ H Q S pp => by
  refine ha N r c F k σ H _ S (pp.seq fun x c1 v F1 k1 H1 q1 ok1 g1 r1 p1 => ?_)
  clear q1
  by_cases hx : isLst x = true
  · rw [if_pos hx] at p1
    refine ⟨?_, ?_⟩
    · cases x <;> try (cases hx; done)
      case lst ts => obtain ⟨a, xs, rfl, h1, _⟩ := r1; exact .inl ⟨rfl, xs, SqL.of h1⟩
      case scr ts => obtain ⟨a, xs, rfl, h1, _⟩ := r1.scr_of ok1; exact .inl ⟨rfl, xs, h1⟩
    · refine hb N r c1 F1 k1 σ H1 _ (S.step ok1 g1) (p1.seq fun y c2 u F2 k2 H2 q2 ok2 g2 r2 p2 => ?_)
      clear q2
      cases e1 : f x y with
      | none => rw [e1] at p2; exact p2.elim
      | some t => rw [e1] at p2; exact h x y t v u c2 F2 k2 H2 Q e1 ok2 (r1.step g2) r2 p2
  · rw [if_neg hx] at p1; exact p1.elim
def findT (x : T) : List T → Option Nat
  | [] => none
  | t :: ts => if eqD t x = true then some 0 else (findT x ts).map (· + 1)
theorem findT_spec {x : T} : ∀ {ts : List T} {j : Nat}, findT x ts = some j → ∃ z, ts[j]? = some z ∧ eqD z x = true ∧ ∀ m z', m < j → ts[m]? = some z' → eqD z' x = false
  | [], _, h => by cases h
  | t :: ts, j, h => by
    unfold findT at h
    split at h
    · cases h
      exact ⟨t, rfl, ‹_›, fun m z' hm => absurd hm (Nat.not_lt_zero _)⟩
    · rename_i hne
      cases e : findT x ts with
      | none => rw [e] at h; cases h
      | some i =>
        rw [e] at h
        cases h
        obtain ⟨z, h1, h2, h3⟩ := findT_spec e
        refine ⟨z, by simpa using h1, h2, fun m z' hm hz => ?_⟩
        cases m with
        | zero => simp at hz; subst hz; simpa using hne
        | succ m => exact h3 m z' (Nat.lt_of_succ_lt_succ hm) (by simpa using hz)
def indexT (x y : T) : Option T := match x with
  | .lst ts => if (plain x && plain y) = true then (findT y ts).map fun j => .int (j : Nat) else none
  | .scr ts => if (plain x && plain y) = true then (findT y ts).map fun j => .int (j : Nat) else none
  | _ => none
theorem dp_lst {F H : Hp} {k : List Addr} {c : Cs} {x y : T} {ts : List T} {v u : V} {j : Nat} {Q : VK} (ok : Ok K F k c H) (hx : itT x = some ts) (hp : pyT x = .list (pyTs ts)) (h1 : plain x = true) (h2 : plain y = true) (rx : SeqR K F k H x v) (ry : SeqR K F k H y u) (e : findT y ts = some j) (q : Q (.int (j : Nat)) H) : rIndexD K v [u] H Q := by
  obtain ⟨z, e1, e2, e3⟩ := findT_spec e
  have dx := rx.dp ok h1
  rw [hp] at dx
  obtain ⟨qb, a, xs, rfl, _, _⟩ := seqB_of ok hx rx
  have sx := plain_shaped h1
  rw [hp] at sx
  refine ⟨a, u, pyT y, pyTs ts, j, pyT z, rfl, rfl, dx, ry.dp ok h2, sx, plain_shaped h2, ?_, e2, fun m z' hm hz => ?_, q⟩
  · rw [pyTs_map, List.getElem?_map, e1]; rfl
  · rw [pyTs_map, List.getElem?_map] at hz
    cases e4 : ts[m]? with
    | none => rw [e4] at hz; cases hz
    | some t => rw [e4] at hz; cases hz; exact e3 m t hm e4
theorem op2_index : Op2 K (fun x y H Q => rIndexD K x [y] H Q) indexT := fun x y t v u c F k H Q e ok rx ry g => by
  cases x <;> try (cases e; done)
  case lst ts =>
    simp only [indexT] at e
    split at e
    · rename_i hh
      rw [Bool.and_eq_true] at hh
      cases e1 : findT y ts with
      | none => rw [e1] at e; cases e
      | some j => rw [e1] at e; cases e; exact dp_lst ok rfl rfl hh.1 hh.2 rx ry e1 (g.same ok (.int _))
    · cases e
  case scr ts =>
    simp only [indexT] at e
    split at e
    · rename_i hh
      rw [Bool.and_eq_true] at hh
      cases e1 : findT y ts with
      | none => rw [e1] at e; cases e
      | some j => rw [e1] at e; cases e; exact dp_lst ok rfl rfl hh.1 hh.2 rx ry e1 (g.same ok (.int _))
    · cases e
theorem ee_lindex (K : PySem.W.Frag) {k : Nat} (hr : Room k X.A) (ho : ES X W o to d) (he : ES X W e te d') (hbase : attributeBase o "index" X.env (eval o X.env) = eval o X.env := by rfl)
    (hfew : ((backTo cpos (starEach [e] X.env)).all (fun x => !x.1) && (backToKw cpos (keywordEach [] X.env)).all (fun x => x.1.isSome) && decide (([e]).length + ([] : List Keyword).length + (if ([] : List Keyword).isEmpty then 0 else 1) < 30)) = true := by rfl)
    (hline : (apos.endLine == cpos.line) = true := by rfl) (hs : starEach [e] X.env = (false, eval e X.env) :: starEach [] X.env := by rfl) (hplain : (backTo cpos (starEach [] X.env)).any (·.1) = false := by rfl) (hK : X.K = K := by rfl) :
    EE X W (.Call (.Attribute o "index" apos) [e] [] cpos) (tBM K "list" (rIndexD K) to (tCons te tNil)) (dLM indexT d d') := by
  subst hK
  exact ⟨pe_bm PySem.F.plainAttrs_list PySem.F.slot_list_index PySem.F.type_list_index (mt_indexD (u65 hr)) ho.pe (pa_cons he.pe pa_nil hs) hbase hfew hline hs hplain, rd_lm op2_index ho.rd he.rd⟩
end
end Q
namespace Q
open PySem PySem.Spec PyProof.Rows L2
theorem kit_NoneType_int : kitB "NoneType" "int" = some false := by decide +kernel
theorem kit_NoneType_bool : kitB "NoneType" "bool" = some false := by decide +kernel
theorem kit_NoneType_str : kitB "NoneType" "str" = some false := by decide +kernel
theorem kit_NoneType_list : kitB "NoneType" "list" = some false := by decide +kernel
theorem kit_NoneType_tuple : kitB "NoneType" "tuple" = some false := by decide +kernel
theorem kit_NoneType_dict : kitB "NoneType" "dict" = some false := by decide +kernel
theorem kit_bool_str : kitB "bool" "str" = some false := by decide +kernel
theorem kit_bool_list : kitB "bool" "list" = some false := by decide +kernel
theorem kit_bool_tuple : kitB "bool" "tuple" = some false := by decide +kernel
theorem kit_bool_dict : kitB "bool" "dict" = some false := by decide +kernel
theorem kit_dict_int : kitB "dict" "int" = some false := by decide +kernel
theorem kit_dict_bool : kitB "dict" "bool" = some false := by decide +kernel
theorem kit_dict_str : kitB "dict" "str" = some false := by decide +kernel
theorem kit_dict_list : kitB "dict" "list" = some false := by decide +kernel
theorem kit_dict_tuple : kitB "dict" "tuple" = some false := by decide +kernel
theorem kit_dict_dict : kitB "dict" "dict" = some true := by decide +kernel
theorem kit_int_str : kitB "int" "str" = some false := by decide +kernel
theorem kit_int_list : kitB "int" "list" = some false := by decide +kernel
theorem kit_int_tuple : kitB "int" "tuple" = some false := by decide +kernel
theorem kit_int_dict : kitB "int" "dict" = some false := by decide +kernel
theorem kit_list_int : kitB "list" "int" = some false := by decide +kernel
theorem kit_list_bool : kitB "list" "bool" = some false := by decide +kernel
theorem kit_list_str : kitB "list" "str" = some false := by decide +kernel
theorem kit_list_list : kitB "list" "list" = some true := by decide +kernel
theorem kit_list_tuple : kitB "list" "tuple" = some false := by decide +kernel
theorem kit_list_dict : kitB "list" "dict" = some false := by decide +kernel
theorem kit_str_int : kitB "str" "int" = some false := by decide +kernel
theorem kit_str_bool : kitB "str" "bool" = some false := by decide +kernel
theorem kit_str_str : kitB "str" "str" = some true := by decide +kernel
theorem kit_str_list : kitB "str" "list" = some false := by decide +kernel
theorem kit_str_tuple : kitB "str" "tuple" = some false := by decide +kernel
theorem kit_str_dict : kitB "str" "dict" = some false := by decide +kernel
theorem kit_tuple_int : kitB "tuple" "int" = some false := by decide +kernel
theorem kit_tuple_bool : kitB "tuple" "bool" = some false := by decide +kernel
theorem kit_tuple_str : kitB "tuple" "str" = some false := by decide +kernel
theorem kit_tuple_list : kitB "tuple" "list" = some false := by decide +kernel
theorem kit_tuple_tuple : kitB "tuple" "tuple" = some true := by decide +kernel
theorem kit_tuple_dict : kitB "tuple" "dict" = some false := by decide +kernel
@[simp] theorem isi_non_int : isiT "int" (.non) = some (.bl false) := by show (kitB "NoneType" "int").map T.bl = _; rw [kit_NoneType_int]; rfl
@[simp] theorem isi_non_bool : isiT "bool" (.non) = some (.bl false) := by show (kitB "NoneType" "bool").map T.bl = _; rw [kit_NoneType_bool]; rfl
@[simp] theorem isi_non_str : isiT "str" (.non) = some (.bl false) := by show (kitB "NoneType" "str").map T.bl = _; rw [kit_NoneType_str]; rfl
@[simp] theorem isi_non_list : isiT "list" (.non) = some (.bl false) := by show (kitB "NoneType" "list").map T.bl = _; rw [kit_NoneType_list]; rfl
@[simp] theorem isi_non_tuple : isiT "tuple" (.non) = some (.bl false) := by show (kitB "NoneType" "tuple").map T.bl = _; rw [kit_NoneType_tuple]; rfl
@[simp] theorem isi_non_dict : isiT "dict" (.non) = some (.bl false) := by show (kitB "NoneType" "dict").map T.bl = _; rw [kit_NoneType_dict]; rfl
@[simp] theorem isi_bl_int {b : Bool} : isiT "int" (.bl b) = some (.bl true) := by show (kitB "bool" "int").map T.bl = _; rw [kit_bool_int]; rfl
@[simp] theorem isi_bl_bool {b : Bool} : isiT "bool" (.bl b) = some (.bl true) := by show (kitB "bool" "bool").map T.bl = _; rw [kit_bool_bool]; rfl
@[simp] theorem isi_bl_str {b : Bool} : isiT "str" (.bl b) = some (.bl false) := by show (kitB "bool" "str").map T.bl = _; rw [kit_bool_str]; rfl
@[simp] theorem isi_bl_list {b : Bool} : isiT "list" (.bl b) = some (.bl false) := by show (kitB "bool" "list").map T.bl = _; rw [kit_bool_list]; rfl
@[simp] theorem isi_bl_tuple {b : Bool} : isiT "tuple" (.bl b) = some (.bl false) := by show (kitB "bool" "tuple").map T.bl = _; rw [kit_bool_tuple]; rfl
@[simp] theorem isi_bl_dict {b : Bool} : isiT "dict" (.bl b) = some (.bl false) := by show (kitB "bool" "dict").map T.bl = _; rw [kit_bool_dict]; rfl
@[simp] theorem isi_int_str {i : Int} : isiT "str" (.int i) = some (.bl false) := by show (kitB "int" "str").map T.bl = _; rw [kit_int_str]; rfl
@[simp] theorem isi_int_list {i : Int} : isiT "list" (.int i) = some (.bl false) := by show (kitB "int" "list").map T.bl = _; rw [kit_int_list]; rfl
@[simp] theorem isi_int_tuple {i : Int} : isiT "tuple" (.int i) = some (.bl false) := by show (kitB "int" "tuple").map T.bl = _; rw [kit_int_tuple]; rfl
@[simp] theorem isi_int_dict {i : Int} : isiT "dict" (.int i) = some (.bl false) := by show (kitB "int" "dict").map T.bl = _; rw [kit_int_dict]; rfl
@[simp] theorem isi_str_int {x : Str} : isiT "int" (.str x) = some (.bl false) := by show (kitB "str" "int").map T.bl = _; rw [kit_str_int]; rfl
@[simp] theorem isi_str_bool {x : Str} : isiT "bool" (.str x) = some (.bl false) := by show (kitB "str" "bool").map T.bl = _; rw [kit_str_bool]; rfl
@[simp] theorem isi_str_str {x : Str} : isiT "str" (.str x) = some (.bl true) := by show (kitB "str" "str").map T.bl = _; rw [kit_str_str]; rfl
@[simp] theorem isi_str_list {x : Str} : isiT "list" (.str x) = some (.bl false) := by show (kitB "str" "list").map T.bl = _; rw [kit_str_list]; rfl
@[simp] theorem isi_str_tuple {x : Str} : isiT "tuple" (.str x) = some (.bl false) := by show (kitB "str" "tuple").map T.bl = _; rw [kit_str_tuple]; rfl
@[simp] theorem isi_str_dict {x : Str} : isiT "dict" (.str x) = some (.bl false) := by show (kitB "str" "dict").map T.bl = _; rw [kit_str_dict]; rfl
@[simp] theorem isi_tup_int {ts : List T} : isiT "int" (.tup ts) = some (.bl false) := by show (kitB "tuple" "int").map T.bl = _; rw [kit_tuple_int]; rfl
@[simp] theorem isi_tup_bool {ts : List T} : isiT "bool" (.tup ts) = some (.bl false) := by show (kitB "tuple" "bool").map T.bl = _; rw [kit_tuple_bool]; rfl
@[simp] theorem isi_tup_str {ts : List T} : isiT "str" (.tup ts) = some (.bl false) := by show (kitB "tuple" "str").map T.bl = _; rw [kit_tuple_str]; rfl
@[simp] theorem isi_tup_list {ts : List T} : isiT "list" (.tup ts) = some (.bl false) := by show (kitB "tuple" "list").map T.bl = _; rw [kit_tuple_list]; rfl
@[simp] theorem isi_tup_tuple {ts : List T} : isiT "tuple" (.tup ts) = some (.bl true) := by show (kitB "tuple" "tuple").map T.bl = _; rw [kit_tuple_tuple]; rfl
@[simp] theorem isi_tup_dict {ts : List T} : isiT "dict" (.tup ts) = some (.bl false) := by show (kitB "tuple" "dict").map T.bl = _; rw [kit_tuple_dict]; rfl
@[simp] theorem isi_lst_int {ts : List T} : isiT "int" (.lst ts) = some (.bl false) := by show (kitB "list" "int").map T.bl = _; rw [kit_list_int]; rfl
@[simp] theorem isi_lst_bool {ts : List T} : isiT "bool" (.lst ts) = some (.bl false) := by show (kitB "list" "bool").map T.bl = _; rw [kit_list_bool]; rfl
@[simp] theorem isi_lst_str {ts : List T} : isiT "str" (.lst ts) = some (.bl false) := by show (kitB "list" "str").map T.bl = _; rw [kit_list_str]; rfl
@[simp] theorem isi_lst_list {ts : List T} : isiT "list" (.lst ts) = some (.bl true) := by show (kitB "list" "list").map T.bl = _; rw [kit_list_list]; rfl
@[simp] theorem isi_lst_tuple {ts : List T} : isiT "tuple" (.lst ts) = some (.bl false) := by show (kitB "list" "tuple").map T.bl = _; rw [kit_list_tuple]; rfl
@[simp] theorem isi_lst_dict {ts : List T} : isiT "dict" (.lst ts) = some (.bl false) := by show (kitB "list" "dict").map T.bl = _; rw [kit_list_dict]; rfl
@[simp] theorem isi_dct_int {ks : List Str} {vs : List T} : isiT "int" (.dct ks vs) = some (.bl false) := by show (kitB "dict" "int").map T.bl = _; rw [kit_dict_int]; rfl
@[simp] theorem isi_dct_bool {ks : List Str} {vs : List T} : isiT "bool" (.dct ks vs) = some (.bl false) := by show (kitB "dict" "bool").map T.bl = _; rw [kit_dict_bool]; rfl
@[simp] theorem isi_dct_str {ks : List Str} {vs : List T} : isiT "str" (.dct ks vs) = some (.bl false) := by show (kitB "dict" "str").map T.bl = _; rw [kit_dict_str]; rfl
@[simp] theorem isi_dct_list {ks : List Str} {vs : List T} : isiT "list" (.dct ks vs) = some (.bl false) := by show (kitB "dict" "list").map T.bl = _; rw [kit_dict_list]; rfl
@[simp] theorem isi_dct_tuple {ks : List Str} {vs : List T} : isiT "tuple" (.dct ks vs) = some (.bl false) := by show (kitB "dict" "tuple").map T.bl = _; rw [kit_dict_tuple]; rfl
@[simp] theorem isi_dct_dict {ks : List Str} {vs : List T} : isiT "dict" (.dct ks vs) = some (.bl true) := by show (kitB "dict" "dict").map T.bl = _; rw [kit_dict_dict]; rfl
section
variable {a b : Int} {ts us : List T} {t : T}
@[simp high] theorem modT_p (h : 0 < b) : modT (.int a) (.int b) = some (.int (a % b)) := by rw [modT_int, if_pos h]
@[simp high] theorem divT_p (h : 0 < b) (h2 : b < 2 ^ 200) : divT (.int a) (.int b) = some (.int (a / b)) := by rw [divT_int, if_pos (divOk_i ⟨h, h2⟩)]
@[simp high] theorem divmodT_p (h : 0 < b) (h2 : b < 2 ^ 200) : divmodT (.int a) (.int b) = some (.tup [.int (a / b), .int (a % b)]) := by rw [divmodT_int, if_pos (divOk_i ⟨h, h2⟩)]
@[simp high] theorem mulT_l (h : -(2 ^ 64) < a) (h2 : a < 2 ^ 64) : mulT (.int a) (.int b) = some (.int (a * b)) := by rw [mulT_int, if_pos (mulOk_l ⟨h, h2⟩)]
@[simp high] theorem mulT_r (h : -(2 ^ 64) < b) (h2 : b < 2 ^ 64) : mulT (.int a) (.int b) = some (.int (a * b)) := by rw [mulT_int, if_pos (mulOk_r ⟨h, h2⟩)]
@[simp high] theorem addT_tup_p (h : ts.length + us.length ≤ 1000000) : addT (.tup ts) (.tup us) = some (.tup (ts ++ us)) := by rw [addT_tup, if_pos h]
@[simp high] theorem catT_p (h : ts.length + us.length ≤ 1000000) : catT (.lst ts) (.lst us) = some (ts ++ us) := by rw [catT_lst, if_pos h]
@[simp high] theorem appM_p (h : ts.length < 1000000) : appM ts [t] = some (ts ++ [t], .non) := by
  show (if ts.length < 1000000 then some (ts ++ [t], T.non) else none) = _
  rw [if_pos h]
@[simp high] theorem extM_p (h : ts.length + us.length ≤ 1000000) : extM ts [.lst us] = some (ts ++ us, .non) := by
  show (if ts.length + us.length ≤ 1000000 then some (ts ++ us, T.non) else none) = _
  rw [if_pos h]
@[simp high] theorem insM_p {i : Int} (h : ts.length < 1000000) (h0 : 0 ≤ i) (h1 : i < 1000000) : insM ts [.int i, t] = some (ts.take i.toNat ++ [t] ++ ts.drop i.toNat, .non) := by
  show (if (decide (ts.length < 1000000) && decide (0 ≤ i) && decide (i < 1000000)) = true then some (ts.take i.toNat ++ [t] ++ ts.drop i.toNat, T.non) else none) = _
  rw [if_pos (by simp [h, h0, h1])]
@[simp] theorem popM_c : popM (ts ++ [t]) [] = some (ts, t) := by
  show (((ts ++ [t])[(ts ++ [t]).length - 1]?).map fun t' => ((ts ++ [t]).dropLast, t')) = _
  simp
@[simp] theorem popM_one : popM [t] [] = some ([], t) := (rfl)
theorem rgOk_p (h1 : -1000000 ≤ a) (h2 : a ≤ 1000000) (h3 : -1000000 ≤ b) (h4 : b ≤ 1000000) : rgOk a b = true := by unfold rgOk; simp [h1, h2, h3, h4]
@[simp high] theorem rgOk_p' (h1 : -1000000 ≤ a) (h2 : a ≤ 1000000) (h3 : -1000000 ≤ b) (h4 : b ≤ 1000000) : (rgOk a b = true) = True := eq_true (rgOk_p h1 h2 h3 h4)
@[simp] theorem rgI_len : (rgI a b).length = (b - a).toNat := rgI_length a b
@[simp high] theorem lenSetT_lst_p {ns : List Int} (h : ns.length ≤ 1000) : lenSetT (.lst (ns.map T.int)) = some (.int ((dst ns).length : Nat)) := by rw [lenSetT_lst, if_pos h]
@[simp high] theorem lenSetT_tup_p {ns : List Int} (h : ns.length ≤ 1000) : lenSetT (.tup (ns.map T.int)) = some (.int ((dst ns).length : Nat)) := by rw [lenSetT_tup, if_pos h]
@[simp high] theorem repTT_p {k : Int} (h1 : -1000 ≤ k) (h2 : k ≤ 1000) (h3 : ts.length ≤ 1000) : repTT (.tup ts) (.int k) = some (.tup (List.replicate k.toNat ts).flatten) := by rw [repTT_e, if_pos ⟨h1, h2, h3⟩]
@[simp high] theorem repT_p {k : Int} (h1 : -1000000 ≤ k) (h2 : k ≤ 1000000) (h3 : ts.length * k.toNat ≤ 1000000) : repT (.lst ts) (.int k) = some (List.replicate k.toNat ts).flatten := by rw [repT_e, if_pos ⟨h1, h2, h3⟩]
end
abbrev tI (xs : List Int) : T := .tup (xs.map .int)
abbrev lI (xs : List Int) : T := .lst (xs.map .int)
/-- the number at a place -/
def gI (xs : List Int) (i : Int) : Int := xs.getD i.toNat 0
theorem ixN_p {n : Nat} {i : Int} (h0 : 0 ≤ i) (h : i < n) : ixN n i = some i.toNat := by
  unfold ixN
  rw [if_pos h0]
  rw [if_pos (by omega)]
@[simp high] theorem atI_ints {xs : List Int} {i : Int} (h0 : 0 ≤ i) (h : i < xs.length) : atI (xs.map T.int) i = some (.int (gI xs i)) := by
  unfold atI
  rw [ixN_p h0 (by rw [List.length_map]; exact h)]
  show (xs.map T.int)[i.toNat]? = _
  rw [List.getElem?_map, List.getElem?_eq_getElem (by omega)]
  unfold gI
  rw [List.getD_eq_getElem?_getD, List.getElem?_eq_getElem (by omega)]
  rfl
theorem atI_map {α : Type} {u : α → T} {xs : List α} {i : Int} {x : α} (h0 : 0 ≤ i) (h : xs[i.toNat]? = some x) : atI (xs.map u) i = some (u x) := by
  have hl := (List.getElem?_eq_some_iff.mp h).1
  unfold atI
  rw [ixN_p h0 (by rw [List.length_map]; omega)]
  show (xs.map u)[i.toNat]? = _
  rw [List.getElem?_map, h]; rfl
theorem gI_at {xs : List Int} {i : Nat} (h : i < xs.length) : gI xs i = xs[i] := by
  unfold gI
  rw [List.getD_eq_getElem?_getD, Int.toNat_natCast, List.getElem?_eq_getElem h]; rfl
theorem gI_mem {xs : List Int} {i : Int} (h0 : 0 ≤ i) (h : i < xs.length) : gI xs i ∈ xs := by
  have : i = (i.toNat : Int) := by omega
  rw [this, gI_at (by omega)]
  exact List.getElem_mem _
theorem gI_rg {b i : Int} (h0 : 0 ≤ i) (h : i < b) : gI (rgI 0 b) i = i := by
  have e : i = (i.toNat : Int) := by omega
  rw [e, gI_at (by rw [rgI_len]; omega)]
  unfold rgI
  simp
theorem gI_map {f : Int → Int} {xs : List Int} {i : Int} (h0 : 0 ≤ i) (h : i < xs.length) : gI (xs.map f) i = f (gI xs i) := by
  have e : i = (i.toNat : Int) := by omega
  rw [e, gI_at (by rw [List.length_map]; omega), gI_at (by omega), List.getElem_map]
theorem ext_gI {xs ys : List Int} (hl : xs.length = ys.length) (h : ∀ i : Int, 0 ≤ i → i < xs.length → gI xs i = gI ys i) : xs = ys := by
  apply List.ext_getElem hl
  intro i h1 h2
  have := h i (by omega) (by omega)
  rwa [gI_at h1, gI_at h2] at this
@[simp high] theorem putAt_ints {xs : List Int} {i v : Int} (h0 : 0 ≤ i) (h : i < xs.length) : putAt (xs.map T.int) (.int i) (.int v) = some ((xs.set i.toNat v).map T.int) := by
  show (ixN (xs.map T.int).length i).map (fun j => (xs.map T.int).set j (.int v)) = _
  rw [ixN_p h0 (by rw [List.length_map]; exact h), List.map_set]; rfl
theorem atI_last {zs : List Int} {z : Int} : atI ((zs ++ [z]).map T.int) (-1) = some (.int z) := by
  have e : ixN ((zs ++ [z]).map T.int).length (-1) = some zs.length := by
    unfold ixN
    rw [if_neg (by omega), List.length_map, List.length_append, List.length_singleton, if_pos (by omega)]
    congr 1
    omega
  unfold atI
  rw [e]
  simp
theorem map_int_inj : ∀ {xs ys : List Int}, xs.map T.int = ys.map T.int → xs = ys
  | [], [], _ => rfl
  | [], y :: ys, h => by cases h
  | x :: xs, [], h => by cases h
  | x :: xs, y :: ys, h => by
    rw [List.map_cons, List.map_cons, List.cons.injEq, T.int.injEq] at h
    rw [h.1, map_int_inj h.2]
/-- a part of mapped things is mapped things -/
theorem map_split {α : Type} {u : α → T} {xs : List α} {pre post : List T} {t : T} (e : xs.map u = pre ++ t :: post) : ∃ (a : List α) (x : α) (b : List α), xs = a ++ x :: b ∧ pre = a.map u ∧ t = u x ∧ post = b.map u := by
  obtain ⟨l1, l2, rfl, h1, h2⟩ := List.map_eq_append_iff.mp e
  obtain ⟨x, l3, rfl, h3, h4⟩ := List.map_eq_cons_iff.mp h2
  exact ⟨l1, x, l3, rfl, h1.symm, h3.symm, h4.symm⟩
theorem ints_split {xs : List Int} {pre post : List T} {t : T} (e : xs.map T.int = pre ++ t :: post) : ∃ (a : List Int) (x : Int) (b : List Int), xs = a ++ x :: b ∧ pre = a.map T.int ∧ t = .int x ∧ post = b.map T.int := map_split e
theorem mem_rgI {a b x : Int} : x ∈ rgI a b ↔ a ≤ x ∧ x < b := by
  unfold rgI
  rw [List.mem_map]
  constructor
  · rintro ⟨i, hi, rfl⟩
    have := List.mem_range.mp hi
    omega
  · rintro ⟨h1, h2⟩
    exact ⟨(x - a).toNat, List.mem_range.mpr (by omega), by omega⟩
/-- the part of a range ahead of an item -/
theorem rgI_split {a b x : Int} {pre post : List Int} (e : rgI a b = pre ++ x :: post) : x = a + pre.length ∧ pre = rgI a x ∧ a ≤ x ∧ x < b := by
  have hlen := congrArg List.length e
  rw [rgI_length] at hlen
  simp at hlen
  have hx : x ∈ rgI a b := by rw [e]; simp
  have hx2 := mem_rgI.mp hx
  have e1 : (rgI a b)[pre.length]? = some x := by rw [e]; simp
  unfold rgI at e1
  rw [List.getElem?_map, List.getElem?_range (by omega)] at e1
  have ex : x = a + pre.length := by simpa using e1.symm
  refine ⟨ex, ?_, hx2⟩
  have e2 : (rgI a b).take pre.length = pre := by rw [e]; simp
  rw [← e2]
  unfold rgI
  rw [← List.map_take, List.take_range]
  congr 2
  omega
theorem rgI_snoc {a x : Int} (h : a ≤ x) : rgI a (x + 1) = rgI a x ++ [x] := by
  unfold rgI
  have e : (x + 1 - a).toNat = (x - a).toNat + 1 := by omega
  rw [e, List.range_succ, List.map_append]
  simp
  omega
theorem rgI_nil {a b : Int} (h : b ≤ a) : rgI a b = [] := by
  unfold rgI
  have e : (b - a).toNat = 0 := by omega
  rw [e]; rfl
theorem rgI_nodup (a b : Int) : (rgI a b).Nodup := by
  unfold rgI List.Nodup
  rw [List.pairwise_map]
  exact List.pairwise_lt_range.imp fun h => by omega
theorem eqvAll_ints : ∀ xs ys : List Int, PyData.eqvAll (pyTs (xs.map T.int)) (pyTs (ys.map T.int)) = (xs == ys)
  | [], [] => by simp [pyTs, PyData.eqvAll]
  | x :: xs, [] => by simp [pyTs, PyData.eqvAll]
  | [], y :: ys => by simp [pyTs, PyData.eqvAll]
  | x :: xs, y :: ys => by
    have := eqvAll_ints xs ys
    simp only [List.map_cons, pyTs, PyData.eqvAll, pyT, PyData.eqv, this]
    rfl
theorem plain_ints {xs : List Int} : plain (.lst (xs.map T.int)) = true ∧ plain (.tup (xs.map T.int)) = true := by
  simp [plain, plT]
@[simp] theorem eqD_int {a b : Int} : eqD (.int a) (.int b) = (a == b) := (rfl)
@[simp] theorem eqD_tI {xs ys : List Int} : eqD (.tup (xs.map T.int)) (.tup (ys.map T.int)) = (xs == ys) := by
  unfold eqD
  simp only [pyT, PyData.eqv, eqvAll_ints]
@[simp] theorem eqD_lI {xs ys : List Int} : eqD (.lst (xs.map T.int)) (.lst (ys.map T.int)) = (xs == ys) := by
  unfold eqD
  simp only [pyT, PyData.eqv, eqvAll_ints]
@[simp] theorem eqT_ints {xs ys : List Int} : eqT (.lst (xs.map T.int)) (.lst (ys.map T.int)) = some (.bl (xs == ys)) := by
  unfold eqT
  rw [plain_ints.1, plain_ints.1, Bool.and_self, if_pos rfl, eqD_lI]
@[simp] theorem eqT_intsT {xs ys : List Int} : eqT (.tup (xs.map T.int)) (.tup (ys.map T.int)) = some (.bl (xs == ys)) := by
  unfold eqT
  rw [plain_ints.2, plain_ints.2, Bool.and_self, if_pos rfl, eqD_tI]
@[simp] theorem neT_ints {xs ys : List Int} : neT (.lst (xs.map T.int)) (.lst (ys.map T.int)) = some (.bl (!(xs == ys))) := by
  unfold neT
  rw [plain_ints.1, plain_ints.1, Bool.and_self, if_pos rfl, eqD_lI]
@[simp] theorem neT_intsT {xs ys : List Int} : neT (.tup (xs.map T.int)) (.tup (ys.map T.int)) = some (.bl (!(xs == ys))) := by
  unfold neT
  rw [plain_ints.2, plain_ints.2, Bool.and_self, if_pos rfl, eqD_tI]
@[simp] theorem eqT_nilT {xs : List Int} : eqT (.tup (xs.map T.int)) (.tup []) = some (.bl (xs == [])) := eqT_intsT (ys := [])
@[simp] theorem neT_nilT {xs : List Int} : neT (.tup (xs.map T.int)) (.tup []) = some (.bl (!(xs == []))) := neT_intsT (ys := [])
@[simp] theorem eqT_nil {xs : List Int} : eqT (.lst (xs.map T.int)) (.lst []) = some (.bl (xs == [])) := eqT_ints (ys := [])
@[simp] theorem neT_nil {xs : List Int} : neT (.lst (xs.map T.int)) (.lst []) = some (.bl (!(xs == []))) := neT_ints (ys := [])
@[simp] theorem eqT_nn : eqT (.lst []) (.lst []) = some (.bl true) := (rfl)
@[simp] theorem neT_nn : neT (.lst []) (.lst []) = some (.bl false) := (rfl)
@[simp] theorem eqT_nnT : eqT (.tup []) (.tup []) = some (.bl true) := (rfl)
@[simp] theorem neT_nnT : neT (.tup []) (.tup []) = some (.bl false) := (rfl)
@[simp] theorem eqT_snoc {xs : List Int} {x : Int} : eqT (.lst (xs.map T.int ++ [.int x])) (.lst []) = some (.bl false) := by
  have := eqT_nil (xs := xs ++ [x])
  rw [List.map_append] at this
  exact this.trans (by cases xs <;> rfl)
@[simp] theorem neT_snoc {xs : List Int} {x : Int} : neT (.lst (xs.map T.int ++ [.int x])) (.lst []) = some (.bl true) := by
  have := neT_nil (xs := xs ++ [x])
  rw [List.map_append] at this
  exact this.trans (by cases xs <;> rfl)
@[simp] theorem eqT_snocT {xs : List Int} {x : Int} : eqT (.tup (xs.map T.int ++ [.int x])) (.tup []) = some (.bl false) := by
  have := eqT_nilT (xs := xs ++ [x])
  rw [List.map_append] at this
  exact this.trans (by cases xs <;> rfl)
@[simp] theorem neT_snocT {xs : List Int} {x : Int} : neT (.tup (xs.map T.int ++ [.int x])) (.tup []) = some (.bl true) := by
  have := neT_nilT (xs := xs ++ [x])
  rw [List.map_append] at this
  exact this.trans (by cases xs <;> rfl)
@[simp] theorem atI_snoc {ts : List T} {t : T} : atI (ts ++ [t]) (-1) = some t := by
  have e : ixN (ts ++ [t]).length (-1) = some ts.length := by
    unfold ixN
    rw [if_neg (by omega), List.length_append, List.length_singleton, if_pos (by omega)]
    congr 1
    omega
  unfold atI
  rw [e]
  simp
/-- parts of lists of ints -/
theorem cut_ints {xs : List Int} {lo hi : Option Int} : cutT (xs.map T.int) lo hi = ((xs.drop (HT.sIx xs.length 0 lo)).take (HT.sIx xs.length xs.length hi - HT.sIx xs.length 0 lo)).map T.int := by
  unfold cutT
  rw [List.length_map, ← List.map_drop, ← List.map_take]
theorem cutT_lo {ts : List T} {a : Int} (h : 0 ≤ a) : cutT ts none (some a) = ts.take a.toNat := by
  unfold cutT HT.sIx
  simp only
  rw [if_neg (by omega), List.drop_zero, Nat.sub_zero]
  by_cases hl : a.toNat ≤ ts.length
  · rw [Nat.min_eq_left hl]
  · rw [Nat.min_eq_right (by omega), List.take_of_length_le (Nat.le_refl _), List.take_of_length_le (by omega)]
theorem cutT_hi {ts : List T} {a : Int} (h : 0 ≤ a) : cutT ts (some a) none = ts.drop a.toNat := by
  unfold cutT HT.sIx
  simp only
  rw [if_neg (by omega)]
  by_cases hl : a.toNat ≤ ts.length
  · rw [Nat.min_eq_left hl, List.take_of_length_le (by simp)]
  · rw [Nat.min_eq_right (by omega), List.drop_of_length_le (Nat.le_refl _), List.drop_of_length_le (by omega)]
    simp
theorem cut_lo {xs : List Int} {a : Int} (h : 0 ≤ a) : cutT (xs.map T.int) none (some a) = (xs.take a.toNat).map T.int := by rw [cutT_lo h, List.map_take]
theorem cut_hi {xs : List Int} {a : Int} (h : 0 ≤ a) : cutT (xs.map T.int) (some a) none = (xs.drop a.toNat).map T.int := by rw [cutT_hi h, List.map_drop]
theorem cut_map {α : Type} {f : α → T} {xs : List α} {a b : Option Int} : ∃ ys : List α, cutT (xs.map f) a b = ys.map f ∧ ys.length ≤ xs.length := by
  unfold cutT
  rw [List.length_map, ← List.map_drop, ← List.map_take]
  exact ⟨_, rfl, by simp; omega⟩
section
variable {r : Env} {c : Cs} {g : DG} {ds : DS} {dt : DB} {d : D} {α : Type}
/-- a for over mapped things, the slots told by what was gone through -/
theorem forL_pre {u : α → T} (env : List α → Env) {xs : List α} (h0 : r = env []) (h : ∀ pre x post, xs = pre ++ x :: post → ∃ r', g (u x) (env pre) = some r' ∧ ds r' c = .ok (.nxt (env (pre ++ [x]))) c) : forL g ds (xs.map u) r c = .ok (.nxt (env xs)) c := by
  subst h0
  have main : ∀ (post pre : List α), xs = pre ++ post → forL g ds (post.map u) (env pre) c = .ok (.nxt (env xs)) c := by
    intro post
    induction post with
    | nil => intro pre e; rw [List.append_nil] at e; subst e; rfl
    | cons x post ih =>
      intro pre e
      obtain ⟨r', e1, e2⟩ := h pre x post e
      rw [List.map_cons, forL_cons, e1]
      show (ds r' c).bind _ = _
      rw [e2, bind_ok, fseq_nxt, ih (pre ++ [x]) (by rw [e, List.append_assoc]; rfl)]
  exact main xs [] rfl
/-- a for that goes on, or hands back at the first item that is so -/
theorem forL_find {u : α → T} {v : T} {xs : List α} (p : α → Bool) (h : ∀ x ∈ xs, ∃ r', g (u x) r = some r' ∧ ds r' c = .ok (if p x = true then .ret v else .nxt r) c) : forL g ds (xs.map u) r c = .ok (if xs.any p = true then .ret v else .nxt r) c := by
  induction xs with
  | nil => rfl
  | cons x xs ih =>
    obtain ⟨r', e1, e2⟩ := h x List.mem_cons_self
    rw [List.map_cons, forL_cons, e1]
    show (ds r' c).bind _ = _
    rw [e2, bind_ok, List.any_cons]
    cases hp : p x with
    | true => simp
    | false => simp only [Bool.false_or, Bool.false_eq_true, if_false, fseq_nxt]; exact ih fun y hy => h y (List.mem_cons_of_mem _ hy)
/-- .. that goes on at each -/
theorem forL_same {u : α → T} {xs : List α} (h : ∀ x ∈ xs, ∃ r', g (u x) r = some r' ∧ ds r' c = .ok (.nxt r) c) : forL g ds (xs.map u) r c = .ok (.nxt r) c := by
  have := forL_find (v := .non) (fun _ => false) (g := g) (ds := ds) (r := r) (c := c) (u := u) (xs := xs) fun x hx => h x hx
  rwa [show xs.any (fun _ => false) = false by simp] at this
theorem lcL_filterOf {u : α → T} {xs : List α} {p : α → Bool} {f : α → T} (h : ∀ x ∈ xs, lcTurn g dt d r (u x) c = .ok (if p x = true then some (f x) else none) c) : lcL g dt d r (xs.map u) c = .ok ((xs.filter p).map f) c := by
  induction xs with
  | nil => rfl
  | cons x xs ih =>
    rw [List.map_cons, lcL_cons, h x List.mem_cons_self, noErr_ok, bind_ok, ih fun y hy => h y (List.mem_cons_of_mem _ hy), bind_ok, List.filter_cons]
    cases p x <;> simp
end
structure RP (n w : Nat) (t : T) : Prop where
  pl : plT n t = true
  sh : (pyT t).showable = true
  ls : (pyT t).leavesShort 13 = true
  wt : (pyT t).weight ≤ w
theorem plT_succ : ∀ (n : Nat) (t : T), plT n t = true → plT (n + 1) t = true
  | _, .non, _ => rfl
  | _, .bl _, _ => rfl
  | _, .int _, _ => rfl
  | n, .str x, h => by
    have h' : PyData.strOk x = true := by cases n <;> exact h
    exact h'
  | 0, .tup ts, h => by cases h
  | 0, .lst ts, h => by cases h
  | 0, .scr ts, h => by cases h
  | n + 1, .tup ts, h => List.all_eq_true.mpr fun t ht => plT_succ n t (List.all_eq_true.mp h t ht)
  | n + 1, .lst ts, h => List.all_eq_true.mpr fun t ht => plT_succ n t (List.all_eq_true.mp h t ht)
  | n + 1, .scr ts, h => List.all_eq_true.mpr fun t ht => plT_succ n t (List.all_eq_true.mp h t ht)
  | 0, .dct _ _, h => by cases h
  | n + 1, .dct _ _, h => by cases h
  | 0, .cel _, h => by cases h
  | n + 1, .cel _, h => by cases h
  | 0, .adr _, h => by cases h
  | n + 1, .adr _, h => by cases h
  | 0, .glo _, h => by cases h
  | n + 1, .glo _, h => by cases h
  | 0, .exo _ _ _ _, h => by cases h
  | n + 1, .exo _ _ _ _, h => by cases h
  | 0, .dtu _ _, h => by cases h
  | n + 1, .dtu _ _, h => by cases h
theorem plT_mono {n m : Nat} {t : T} (h : n ≤ m) (p : plT n t = true) : plT m t = true := by
  induction h with
  | refl => exact p
  | step _ ih => exact plT_succ _ _ ih
theorem RP.mono {n m w v : Nat} {t : T} (h : RP n w t) (h1 : n ≤ m) (h2 : w ≤ v) : RP m v t := ⟨plT_mono h1 h.pl, h.sh, h.ls, Nat.le_trans h.wt h2⟩
theorem rp_int {i : Int} (h : i.natAbs < 10 ^ 12) : RP 0 41 (.int i) := by
  have a := showable_ints [i] (by simpa using h)
  have b := weight_ints [i] (by simpa using h)
  have c := short_ints [i] (by simpa using h)
  simp only [List.map_cons, List.map_nil, PyData.showableAll, PyData.weightAll, PyData.leavesShortAll, Bool.and_true, List.length_singleton] at a b c
  exact ⟨rfl, a, c, by show (PyData.int i).weight ≤ 41; omega⟩
theorem rp_bl {b : Bool} : RP 0 41 (.bl b) := ⟨rfl, rfl, rfl, Nat.zero_le _⟩
theorem rp_non : RP 0 41 .non := ⟨rfl, rfl, rfl, Nat.zero_le _⟩
theorem rp_all {n w : Nat} : ∀ {ts : List T}, (∀ t ∈ ts, RP n w t) → ts.all (plT n) = true ∧ PyData.showableAll (pyTs ts) = true ∧ PyData.leavesShortAll 13 (pyTs ts) = true ∧ PyData.weightAll (pyTs ts) ≤ (w + 1) * ts.length
  | [], _ => ⟨rfl, rfl, rfl, Nat.zero_le _⟩
  | t :: ts, h => by
    obtain ⟨a, b, c, d⟩ := rp_all fun u hu => h u (List.mem_cons_of_mem _ hu)
    have q := h t List.mem_cons_self
    refine ⟨by rw [List.all_cons, q.pl, a]; rfl, by rw [pyTs, PyData.showableAll, q.sh, b]; rfl, by rw [pyTs, PyData.leavesShortAll, q.ls, c]; rfl, ?_⟩
    rw [pyTs, PyData.weightAll, List.length_cons, Nat.mul_add]
    have := q.wt
    omega
theorem rp_tup {n w : Nat} {ts : List T} (h : ∀ t ∈ ts, RP n w t) : RP (n + 1) ((w + 1) * ts.length) (.tup ts) := by
  obtain ⟨a, b, c, d⟩ := rp_all h
  exact ⟨a, by rw [pyT, PyData.showable]; exact b, by rw [pyT, PyData.leavesShort]; exact c, by rw [pyT, PyData.weight]; exact d⟩
theorem rp_lst {n w : Nat} {ts : List T} (h : ∀ t ∈ ts, RP n w t) : RP (n + 1) ((w + 1) * ts.length) (.lst ts) := by
  obtain ⟨a, b, c, d⟩ := rp_all h
  exact ⟨a, by rw [pyT, PyData.showable]; exact b, by rw [pyT, PyData.leavesShort]; exact c, by rw [pyT, PyData.weight]; exact d⟩
theorem rp_tI {xs : List Int} (h : ∀ x ∈ xs, x.natAbs < 10 ^ 12) : RP 1 (42 * xs.length) (tI xs) := by
  have := rp_tup (n := 0) (w := 41) (ts := xs.map T.int) fun t ht => by
    obtain ⟨x, hx, rfl⟩ := List.mem_map.mp ht
    exact rp_int (h x hx)
  rwa [List.length_map] at this
theorem rp_lI {xs : List Int} (h : ∀ x ∈ xs, x.natAbs < 10 ^ 12) : RP 1 (42 * xs.length) (lI xs) := by
  have := rp_lst (n := 0) (w := 41) (ts := xs.map T.int) fun t ht => by
    obtain ⟨x, hx, rfl⟩ := List.mem_map.mp ht
    exact rp_int (h x hx)
  rwa [List.length_map] at this
theorem reprT_rp {n w : Nat} {t : T} (h : RP n w t) (hn : n ≤ 20) (hw : w ≤ 2 ^ 20) (hs : seqT t = true) : ∃ s, reprT t = some (.str s) := by
  have f : (pyT t).shown.length ≤ sizeLine := PyData.shown_fits (B := 13) (by decide) (by decide) h.ls (Nat.le_trans h.wt hw)
  have pl : plain t = true := plT_mono hn h.pl
  refine ⟨(pyT t).shown, ?_⟩
  unfold reprT
  rw [hs, pl, h.sh, decide_eq_true f]
  rfl
end Q
namespace Q
open PySem PySem.Spec PyProof.Rows L2
section
variable {r : Env} {c : Cs} {g : DG} {ds : DS} {dt : DB} {d : D} {α β : Type}
theorem enumT_map {u : α → T} {xs : List α} : enumT (xs.map u) = xs.zipIdx.map fun p => T.tup [.int (p.2 : Nat), u p.1] := by
  unfold enumT
  rw [List.zipIdx_map, List.map_map]; rfl
theorem zipT_map {u : α → T} {v : β → T} {xs : List α} {ys : List β} : zipT (xs.map u) (ys.map v) = (xs.zip ys).map fun p => T.tup [u p.1, v p.2] := by
  unfold zipT
  rw [List.zip_map, List.map_map]; rfl
/-- a for over enumerate -/
theorem forL_enum {u : α → T} (env : List α → Env) {xs : List α} (h0 : r = env []) (h : ∀ pre x post, xs = pre ++ x :: post → ∃ r', g (.tup [.int (pre.length : Nat), u x]) (env pre) = some r' ∧ ds r' c = .ok (.nxt (env (pre ++ [x]))) c) : forL g ds (enumT (xs.map u)) r c = .ok (.nxt (env xs)) c := by
  subst h0
  have main : ∀ (post pre : List α), xs = pre ++ post → forL g ds ((post.zipIdx pre.length).map fun p => T.tup [.int (p.2 : Nat), u p.1]) (env pre) c = .ok (.nxt (env xs)) c := by
    intro post
    induction post with
    | nil => intro pre e; rw [List.append_nil] at e; subst e; rfl
    | cons x post ih =>
      intro pre e
      obtain ⟨r', e1, e2⟩ := h pre x post e
      rw [List.zipIdx_cons, List.map_cons, forL_cons]
      show (match g (.tup [.int (pre.length : Nat), u x]) (env pre) with | some r' => (ds r' c).bind (fseq (forL g ds _)) | none => .stk) = _
      rw [e1]
      show (ds r' c).bind _ = _
      have := ih (pre ++ [x]) (by rw [e, List.append_assoc]; rfl)
      rw [List.length_append, List.length_singleton] at this
      rw [e2, bind_ok, fseq_nxt, this]
  rw [enumT_map]
  exact main xs [] rfl
/-- a comprehension over enumerate -/
theorem lcL_enum {u : α → T} {xs : List α} {f : Nat → α → T} (h : ∀ i x, xs[i]? = some x → lcTurn g dt d r (.tup [.int (i : Nat), u x]) c = .ok (some (f i x)) c) : lcL g dt d r (enumT (xs.map u)) c = .ok (xs.zipIdx.map fun p => f p.2 p.1) c := by
  rw [enumT_map]
  refine lcL_mapOf fun p hp => ?_
  have := List.mem_zipIdx_iff_getElem?.mp hp
  exact h p.2 p.1 this
theorem lcL_enumF {u : α → T} {xs : List α} {p : Nat → α → Bool} {f : Nat → α → T} (h : ∀ i x, xs[i]? = some x → lcTurn g dt d r (.tup [.int (i : Nat), u x]) c = .ok (if p i x = true then some (f i x) else none) c) : lcL g dt d r (enumT (xs.map u)) c = .ok ((xs.zipIdx.filter fun q => p q.2 q.1).map fun q => f q.2 q.1) c := by
  rw [enumT_map]
  refine lcL_filterOf fun q hq => ?_
  have := List.mem_zipIdx_iff_getElem?.mp hq
  exact h q.2 q.1 this
theorem lcL_zip {u : α → T} {v : β → T} {xs : List α} {ys : List β} {f : α → β → T} (h : ∀ x y, (x, y) ∈ xs.zip ys → lcTurn g dt d r (.tup [u x, v y]) c = .ok (some (f x y)) c) : lcL g dt d r (zipT (xs.map u) (ys.map v)) c = .ok ((xs.zip ys).map fun p => f p.1 p.2) c := by
  rw [zipT_map]
  exact lcL_mapOf fun p hp => h p.1 p.2 hp
end
/-- f 0 .. f (n - 1) -/
def tab (n : Int) (f : Int → Int) : List Int := (rgI 0 n).map f
@[simp] theorem tab_len {n : Int} {f : Int → Int} : (tab n f).length = n.toNat := by unfold tab; simp
theorem gI_tab {n i : Int} {f : Int → Int} (h0 : 0 ≤ i) (h : i < n) : gI (tab n f) i = f i := by
  unfold tab
  rw [gI_map h0 (by rw [rgI_len]; omega), gI_rg h0 h]
theorem gI_out {xs : List Int} {i : Int} (h0 : 0 ≤ i) (h : xs.length ≤ i) : gI xs i = 0 := by
  unfold gI
  rw [List.getD_eq_getElem?_getD, List.getElem?_eq_none (by omega)]; rfl
theorem tab_gI (xs : List Int) : tab xs.length (gI xs) = xs := by
  refine ext_gI (by simp) fun i h0 h => ?_
  rw [tab_len] at h
  exact gI_tab h0 (by omega)
theorem tab_congr {n : Int} {f g : Int → Int} (h : ∀ i, 0 ≤ i → i < n → f i = g i) : tab n f = tab n g := List.map_congr_left fun i hi => h i (mem_rgI.mp hi).1 (mem_rgI.mp hi).2
theorem gI_set {xs : List Int} {i j v : Int} (h0 : 0 ≤ i) (hi : i < xs.length) (hj : 0 ≤ j) : gI (xs.set j.toNat v) i = if i = j then v else gI xs i := by
  unfold gI
  rw [List.getD_eq_getElem?_getD, List.getElem?_set]
  by_cases e : i = j
  · subst e
    rw [if_pos rfl, if_pos rfl, if_pos (by omega)]; rfl
  · rw [if_neg (by omega), if_neg e, List.getD_eq_getElem?_getD]
theorem set_tab {n j v : Int} {f : Int → Int} (h0 : 0 ≤ j) (h : j < n) : (tab n f).set j.toNat v = tab n fun k => if k = j then v else f k := by
  refine ext_gI (by simp) fun i i0 i1 => ?_
  rw [List.length_set, tab_len] at i1
  rw [gI_set i0 (by rw [tab_len]; exact i1) h0, gI_tab (f := fun k => if k = j then v else f k) i0 (by omega), gI_tab i0 (by omega)]
theorem tab_noughts {k : Nat} : List.replicate k (0 : Int) = tab k fun _ => 0 := by
  refine ext_gI (by simp) fun i i0 i1 => ?_
  rw [gI_tab i0 (by simpa using i1)]
  have e : i = (i.toNat : Int) := by omega
  rw [e, gI_at (by simp at i1 ⊢; omega)]
  simp
theorem gI_append {xs ys : List Int} {i : Int} (h0 : 0 ≤ i) : gI (xs ++ ys) i = if i < xs.length then gI xs i else gI ys (i - xs.length) := by
  unfold gI
  rw [List.getD_eq_getElem?_getD, List.getElem?_append]
  by_cases h : i < xs.length
  · rw [if_pos (by omega), if_pos h, List.getD_eq_getElem?_getD]
  · rw [if_neg (by omega), if_neg h, List.getD_eq_getElem?_getD]
    congr 3
    omega
theorem tab_map {n : Int} {f : Int → Int} {g : Int → Int} : (tab n f).map g = tab n fun i => g (f i) := by unfold tab; rw [List.map_map]; rfl
theorem flat_one {n : Nat} {t : T} : (List.replicate n [t]).flatten = List.replicate n t := by
  induction n with
  | zero => rfl
  | succ n ih => rw [List.replicate_succ, List.flatten_cons, ih, List.replicate_succ]; rfl
theorem rep_int {n : Nat} {i : Int} : List.replicate n (T.int i) = (List.replicate n i).map T.int := by rw [List.map_replicate]
def sm (n : Int) (f : Int → Int) : Int := ((rgI 0 n).map f).sum
theorem sm_nil {n : Int} {f : Int → Int} (h : n ≤ 0) : sm n f = 0 := by unfold sm; rw [rgI_nil h]; rfl
theorem sm_succ {n : Int} {f : Int → Int} (h : 0 ≤ n) : sm (n + 1) f = sm n f + f n := by
  unfold sm
  rw [rgI_snoc h, List.map_append, List.sum_append]
  simp
theorem sm_congr {n : Int} {f g : Int → Int} (h : ∀ i, 0 ≤ i → i < n → f i = g i) : sm n f = sm n g := by
  unfold sm
  rw [List.map_congr_left fun i hi => h i (mem_rgI.mp hi).1 (mem_rgI.mp hi).2]
theorem sm_ind {P : Int → Prop} (h0 : ∀ n, n ≤ 0 → P n) (hs : ∀ n, 0 ≤ n → P n → P (n + 1)) (n : Int) : P n := by
  by_cases h : n ≤ 0
  · exact h0 n h
  · have main : ∀ k : Nat, P (k : Int) := fun k => by
      induction k with
      | zero => exact h0 0 (Int.le_refl _)
      | succ k ih => exact hs k (by omega) ih
    have e : n = (n.toNat : Int) := by omega
    rw [e]; exact main _
theorem sm_add {f g : Int → Int} (n : Int) : sm n (fun i => f i + g i) = sm n f + sm n g := by
  refine sm_ind (P := fun n => sm n (fun i => f i + g i) = sm n f + sm n g) (fun n h => by rw [sm_nil h, sm_nil h, sm_nil h]; rfl) (fun n h ih => ?_) n
  rw [sm_succ h, sm_succ h, sm_succ h, ih]; omega
theorem sm_mul {f : Int → Int} (a n : Int) : sm n (fun i => a * f i) = a * sm n f := by
  refine sm_ind (P := fun n => sm n (fun i => a * f i) = a * sm n f) (fun n h => by rw [sm_nil h, sm_nil h]; simp) (fun n h ih => ?_) n
  rw [sm_succ h, sm_succ h, ih, Int.mul_add]
theorem sm_zero (n : Int) : sm n (fun _ => 0) = 0 := by
  refine sm_ind (P := fun n => sm n (fun _ => 0) = 0) (fun n h => sm_nil h) (fun n h ih => ?_) n
  rw [sm_succ h, ih]; rfl
/-- one that stands alone -/
theorem sm_one {n j v : Int} : sm n (fun i => if i = j then v else 0) = if 0 ≤ j ∧ j < n then v else 0 := by
  refine sm_ind (P := fun n => sm n (fun i => if i = j then v else 0) = if 0 ≤ j ∧ j < n then v else 0) (fun n h => by rw [sm_nil h, if_neg (by omega)]) (fun n h ih => ?_) n
  rw [sm_succ h, ih]
  by_cases e : n = j
  · subst e
    rw [if_neg (by omega), if_pos rfl, if_pos (by omega)]; omega
  · rw [if_neg e]
    by_cases h2 : 0 ≤ j ∧ j < n
    · rw [if_pos h2, if_pos (by omega)]; omega
    · rw [if_neg h2, if_neg (by omega)]; rfl
/-- noughts behind do not count -/
theorem sm_grow {n m : Int} {f : Int → Int} (h : n ≤ m) (h0 : 0 ≤ n) (hz : ∀ i, n ≤ i → i < m → f i = 0) : sm m f = sm n f := by
  have main : ∀ k : Nat, n + k ≤ m → sm (n + k) f = sm n f := fun k => by
    induction k with
    | zero => intro _; simp
    | succ k ih =>
      intro hk
      have e : n + ((k + 1 : Nat) : Int) = (n + k) + 1 := by omega
      rw [e, sm_succ (by omega), ih (by omega), hz _ (by omega) (by omega)]; omega
  have := main (m - n).toNat (by omega)
  rwa [show n + ((m - n).toNat : Int) = m by omega] at this
theorem sm_filter {n : Int} {p : Int → Bool} {f : Int → Int} : (((rgI 0 n).filter p).map f).sum = sm n fun i => if p i = true then f i else 0 := by
  refine sm_ind (P := fun n => (((rgI 0 n).filter p).map f).sum = sm n fun i => if p i = true then f i else 0) (fun n h => by rw [sm_nil h, rgI_nil h]; rfl) (fun n h ih => ?_) n
  rw [sm_succ h, rgI_snoc h, List.filter_append, List.map_append, List.sum_append, ih, List.filter_cons]
  cases p n <;> simp
/-- turned about -/
theorem sm_rev {n : Int} {f : Int → Int} : sm n (fun i => f (n - 1 - i)) = sm n f := by
  have e : (rgI 0 n).map (fun i => n - 1 - i) = (rgI 0 n).reverse := by
    refine ext_gI (by simp) fun i h0 h => ?_
    rw [List.length_map, rgI_len] at h
    rw [gI_map h0 (by rw [rgI_len]; omega), gI_rg h0 (by omega)]
    have e1 : i = (i.toNat : Int) := by omega
    rw [e1, gI_at (by rw [List.length_reverse, rgI_len]; omega), List.getElem_reverse]
    unfold rgI
    simp
    omega
  unfold sm
  have e2 : (rgI 0 n).map (fun i => f (n - 1 - i)) = ((rgI 0 n).map fun i => n - 1 - i).map f := by rw [List.map_map]; rfl
  rw [e2, e, List.map_reverse, List.sum_reverse]
end Q
namespace Q
open PySem PySem.Spec PyProof.Rows L2
section
variable {X : Cx}
def atomS : V → Option Str
  | .non => some "None"
  | .bl b => some (if b then "True" else "False" : String)
  | .int i => if i.natAbs.log2 < 1920 then some (toString i : String) else none
  | .str x => if (reprText x).length ≤ sizeLine then some (reprText x) else none
  | _ => none
def dct1 (x : Str) (i : Int) : PyData := .dict [(.str x, .int i)]
def rReprC : List V → Hp → VK → Prop := fun vs H Q => ∃ (a : Addr) (x : Str) (i : Int), vs = [.ref a] ∧ H a = some (.dK [(.inr x, .int i)]) ∧ (dct1 x i).showable = true ∧ (dct1 x i).shown.length ≤ sizeLine ∧ Q (.str (dct1 x i).shown) H
/-- a dict of one text and one int -/
theorem cr_reprC {k : Nat} (gd : X.A.guards = some []) (hr : Room k X.A) : CallR X (.builtin "repr") rReprC := by
  intro pins s σ H vs us Q I r h
  obtain ⟨a, x, i, rfl, ha, h1, h4, q⟩ := h
  obtain rfl := Vals.ref1 r
  obtain ⟨_, hs, kvs, kv, o, es, ep, e, ed, da, _, pr, _⟩ := I.hok a _ ha
  match kvs, kv with
  | (k0, v0) :: _, .cons ⟨ek, rv⟩ kvn =>
    cases kvn
    have ek' : Sum.inr x = k0 := ek
    subst ek'
    obtain ⟨t, rfl⟩ := rv
    obtain ⟨l⟩ := es
    generalize hl : (Array.mk l).toList = l' at pr
    cases pr with
    | cons hk hv hn =>
      rename_i en es'
      cases hn
      have hl' : l = [en] := hl
      subst hl'
      obtain ⟨t2, hkey⟩ : ∃ t2, en.key = .str x t2 := by
        rcases keyIs_shape (k := .inr x) (v := en.key) hk with ⟨_, _, z, _⟩ | ⟨y, t2, z, z2⟩
        · cases z
        · cases z; exact ⟨t2, z2⟩
      have rd : Reads s.heap (.ref a) (dct1 x i) (a :: [] ++ []) := by
        refine .dict e ed.1 da ?_ ?_
        · show ReadsAll s.heap [en.key] [.str x] []
          rw [hkey]
          exact .cons (.str x t2) .nil
        · show ReadsAll s.heap [en.val] [.int i] []
          rw [hv]
          exact .cons (.int i t) .nil
      have hu := hr.units
      have hns : sysModules ∉ a :: [] ++ [] := fun hm => by
        have e2 : sysModules = a := by simpa using hm
        rw [← e2] at hs
        exact absurd hs (by decide)
      have hde : (dct1 x i).depth = 1 := by simp [dct1, PyData.depth, PyData.depthKv]
      exact repr_of_reads' rd h1 (fun _ => hns) gd (by omega) (fun _ _ e => e) (fun h' u tk kp => ⟨.str _, H, I.kept kp, ⟨u, rfl⟩, q⟩) h4
def rReprW (K : PySem.W.Frag) : List V → Hp → VK → Prop := fun vs H Q => (∃ x s, vs = [x] ∧ atomS x = some s ∧ Q (.str s) H) ∨ rRepr K vs H Q ∨ rReprC vs H Q
theorem cr_reprW {k : Nat} (gd : X.A.guards = some []) (hr : Room k X.A) : CallR X (.builtin "repr") (rReprW X.K) := by
  intro pins s σ H vs us Q I r h
  rcases h with ⟨x, z, rfl, hx, q⟩ | h | h
  · obtain ⟨u, rfl, rx⟩ := vals1 r
    cases x <;> try (cases hx; done)
    case non =>
      cases hx
      obtain rfl : u = Value.none := rx
      exact PySem.P.repr_of_none ⟨.str _, H, I.tok _, ⟨_, rfl⟩, q⟩
    case bl b =>
      cases hx
      obtain rfl : u = Value.bool b := rx
      refine PySem.P.repr_of_bool ⟨.str _, H, I.tok _, ⟨_, rfl⟩, ?_⟩
      cases b <;> exact q
    case int i =>
      obtain ⟨t, rfl⟩ := rx
      simp only [atomS] at hx
      split at hx
      · cases hx
        exact PySem.P.repr_of_int ‹_› ⟨.str _, H, I.tok _, ⟨_, rfl⟩, q⟩
      · cases hx
    case str y =>
      obtain ⟨t, rfl⟩ := rx
      simp only [atomS] at hx
      split at hx
      · cases hx
        exact PySem.P.repr_of_str ⟨.str _, H, I.tok _, ⟨_, rfl⟩, q⟩ ‹_›
      · cases hx
  · exact cr_repr gd hr pins s σ H vs us Q I r h
  · exact cr_reprC gd hr pins s σ H vs us Q I r h
end
def atomT : T → Option Str
  | .non => some "None"
  | .bl b => some (if b then "True" else "False" : String)
  | .int i => if i.natAbs.log2 < 1920 then some (toString i : String) else none
  | .str x => if (reprText x).length ≤ sizeLine then some (reprText x) else none
  | _ => none
def reprC : T → Option T
  | .dct [x] [.int i] => if ((dct1 x i).showable && decide ((dct1 x i).shown.length ≤ sizeLine)) = true then some (.str (dct1 x i).shown) else none
  | _ => none
def reprW (t : T) : Option T := match atomT t with
  | some s => some (.str s)
  | none => (reprT t).or (reprC t)
theorem op1_reprW {K : PySem.W.Frag} : Op1 K (fun x H Q => rReprW K [x] H Q) reprW := fun x t v c F k H Q e ok rx g => by
  unfold reprW at e
  cases ha : atomT x with
  | some s =>
    rw [ha] at e
    cases e
    refine .inl ⟨v, s, rfl, ?_, g.same ok (.str _)⟩
    cases x <;> try (cases ha; done)
    case non => cases rx; exact ha
    case bl b => cases rx; exact ha
    case int i => cases rx; exact ha
    case str y => cases rx; exact ha
  | none =>
    rw [ha] at e
    cases hr : reprT x with
    | some y =>
      rw [hr] at e
      cases e
      exact .inr (.inl (op1_repr x _ v c F k H Q hr ok rx g))
    | none =>
      rw [hr] at e
      change reprC x = some t at e
      unfold reprC at e
      split at e
      · rename_i y i
        split at e
        · rename_i h
          cases e
          simp only [Bool.and_eq_true, decide_eq_true_eq] at h
          cases rx with
          | dct h1 h2 h3 =>
            rename_i a kvs
            have hk : kvs = [(.inr y, .int i)] := by
              match kvs, h2, h3 with
              | [(k1, v1)], h2, h3 =>
                simp at h2
                subst h2
                cases h3 with
                | cons r _ => cases r; rfl
              | [], h2, _ => simp at h2
              | _ :: _ :: _, h2, _ => simp at h2
            subst hk
            exact .inr (.inr ⟨a, y, i, rfl, ok.sub _ _ h1, h.1, h.2, g.same ok (.str _)⟩)
        · cases e
      · cases e
theorem reprW_dct1 : reprW (.dct ["a"] [.int 1]) = some (.str (dct1 "a" 1).shown) := by
  have h : reprC (.dct ["a"] [.int 1]) = some (.str (dct1 "a" 1).shown) := by
    show (if ((dct1 "a" 1).showable && decide ((dct1 "a" 1).shown.length ≤ sizeLine)) = true then some (T.str (dct1 "a" 1).shown) else none) = _
    rw [if_pos (by decide +kernel)]
  unfold reprW
  rw [show atomT (.dct ["a"] [.int 1]) = none from rfl, show reprT (.dct ["a"] [.int 1]) = none from rfl]
  exact h
theorem reprW_rp {n w : Nat} {t : T} (h : RP n w t) (hn : n ≤ 20) (hw : w ≤ 2 ^ 20) : ∃ s, reprW t = some (.str s) := by
  unfold reprW
  cases ha : atomT t with
  | some s => exact ⟨s, rfl⟩
  | none =>
    cases t with
    | non => cases ha
    | bl b => cases ha
    | int i =>
      have := h.sh
      simp only [pyT, PyData.showable, decide_eq_true_eq] at this
      simp only [atomT] at ha
      rw [if_pos this] at ha
      cases ha
    | str x =>
      have f : (pyT (.str x)).shown.length ≤ sizeLine := PyData.shown_fits (B := 13) (by decide) (by decide) h.ls (Nat.le_trans h.wt hw)
      have e : (pyT (.str x)).shown = reprText x := by rw [pyT, PyData.shown]
      rw [e] at f
      simp only [atomT] at ha
      rw [if_pos f] at ha
      cases ha
    | tup ts =>
      obtain ⟨s, e⟩ := reprT_rp h hn hw rfl
      exact ⟨s, by rw [e]; rfl⟩
    | lst ts =>
      obtain ⟨s, e⟩ := reprT_rp h hn hw rfl
      exact ⟨s, by rw [e]; rfl⟩
    | scr ts =>
      obtain ⟨s, e⟩ := reprT_rp h hn hw rfl
      exact ⟨s, by rw [e]; rfl⟩
    | dct ks vs => have := h.pl; cases n <;> cases this
    | cel k => have := h.pl; cases n <;> cases this
    | adr a => have := h.pl; cases n <;> cases this
    | glo x => have := h.pl; cases n <;> cases this
    | exo _ _ _ _ => have := h.pl; cases n <;> cases this
    | dtu _ _ => have := h.pl; cases n <;> cases this
end Q
namespace Q
open PySem PySem.Spec PyProof.Rows L2
section
variable {X : Cx} {W : XK} {o e : Expr} {st : Stmt} {i j : Nat} {apos cpos pos py : Pos} {y : Str}
/-- nothing is said of this statement -/
def dStk : DS := fun _ _ => .stk
theorem ss_stk : SS X W st (fun _ _ _ => False) dStk := ⟨⟨fun _ _ _ _ _ _ h => h.elim⟩, fun _ _ _ _ _ _ _ _ _ p => p⟩
def dBot : D := fun _ _ => .stk
theorem ee_stk : EE X W e (fun _ _ _ => False) dBot := ⟨⟨fun _ _ _ _ _ _ h => h.elim⟩, fun _ _ _ _ _ _ _ _ _ p => p⟩
/-- the j-th slot gets the last item of the i-th slot's own list -/
def dPopTo (j i : Nat) : DS := fun r c => match r[i]? with
  | some (.own ts) => (match popM ts [] with
    | some (ts', t) => if j < r.length then .ok (.nxt ((r.set i (.own ts')).set j (.val t))) c else .stk
    | none => .stk)
  | _ => .stk
theorem rd_popTo {K : PySem.W.Frag} {mg : Str → Option Value} : RdStm K mg W (tAsg (tBM0 K "list" rPop (tVar i)) (gName j)) (dPopTo j i) := fun N r c F k σ H D S p => by
  unfold dPopTo at p
  split at p
  · rename_i ts e
    obtain ⟨a, xs, h1, h2, h3, h4, h5, h6⟩ := S.own i ts e
    split at p
    · rename_i ts' t e1
      split at p
      · rename_i hj
        exact ⟨.ref a, h1, Or.inl ⟨rfl, _, SqL.of h2⟩, mut_pop ts [] ts' t xs [] a H F k _ e1 h2 h3 .nil S.ok.sub fun ys w ry rw' => p _ _ F k ((S.wr e h1 ry).setV rw' (by rw [List.length_set]; exact hj)) (fun _ _ z => z) List.prefix_rfl⟩
      · exact p.elim
    · exact p.elim
  · exact p.elim
theorem ss_popTo (j : Nat) (ho : PE X o (tVar i)) (hN : X.N.Nodup) (hi : X.N[j]? = some y := by rfl) (hx : Loc X.env.scope y := by first | exact .inl rfl | exact .inr rfl) (hbase : attributeBase o "pop" X.env (eval o X.env) = eval o X.env := by rfl) (hline : (apos.endLine == cpos.line) = true := by rfl)
    (hsw : swapsWith (.Call (.Attribute o "pop" apos) [] [] cpos) (some (.Name y py)) pos.line X.env = pure false := by rfl) (hf : X.fn y = true ∨ X.env.scope.names.lookup y = some .local := by first | exact .inl rfl | exact .inr rfl | assumption) :
    SS X W (.Assign [.Name y py] (.Call (.Attribute o "pop" apos) [] [] cpos) pos) (tAsg (tBM0 X.K "list" rPop (tVar i)) (gName j)) (dPopTo j i) :=
  ⟨ps_name (pe_bm0 PySem.F.plainAttrs_list PySem.F.slot_list_pop PySem.F.type_list_pop mt_pop ho hbase hline) hN hi hx hsw hf, rd_popTo⟩
@[simp] theorem dPopTo_e {r : Env} {c : Cs} : dPopTo j i r c = match r[i]? with
  | some (.own ts) => (match popM ts [] with
    | some (ts', t) => if j < r.length then .ok (.nxt ((r.set i (.own ts')).set j (.val t))) c else .stk
    | none => .stk)
  | _ => .stk := (rfl)
@[simp] theorem dStk_e {r : Env} {c : Cs} : dStk r c = .stk := (rfl)
@[simp] theorem dBot_e {r : Env} {c : Cs} : dBot r c = .stk := (rfl)
end
end Q
namespace Q
open PySem PySem.Spec PyProof.Rows L2
section
variable {K : PySem.W.Frag} {X : Cx} {W : XK} {o e : Expr} {to te : TE} {d d' : D} {apos cpos : Pos}
def isTup : T → Bool
  | .tup _ => true
  | _ => false
def dTM (f : T → T → Option T) (a b : D) : D := fun r c => (a r c).bind fun x c => if isTup x = true then (b r c).bind fun y c => lift (f x y) c else .stk
@[simp] theorem dTM_e {f : T → T → Option T} {a b : D} {r : Env} {c : Cs} : dTM f a b r c = (a r c).bind fun x c => if isTup x = true then (b r c).bind fun y c => lift (f x y) c else .stk := (rfl)
@[simp] theorem isTup_tup {ts : List T} : isTup (.tup ts) = true := (rfl)
theorem rd_tm {mg : Str → Option Value} {r0 : V → List V → Hp → VK → Prop} {f : T → T → Option T} (h : Op2 K (fun x y H Q => r0 x [y] H Q) f) (ha : RdS K mg W to d) (hb : RdS K mg W te d') : Rd K mg W (tBT K r0 to (tCons te tNil)) (dTM f d d') := fun N r c F k σ H Q S pp => by
  refine ha N r c F k σ H _ S (pp.seq fun x c1 v F1 k1 H1 q1 ok1 g1 r1 p1 => ?_)
  clear q1
  by_cases hx : isTup x = true
  · rw [if_pos hx] at p1
    refine ⟨?_, ?_⟩
    · cases x <;> try (cases hx; done)
      case tup ts =>
        obtain ⟨a, xs, rfl, ⟨ob, h1, h2⟩ | ⟨ob, its, n, h1, h2, -⟩, _⟩ := r1.tup_of ok1
        · exact ⟨a, ob, rfl, h2, .inl ⟨xs, ok1.sub _ _ h1⟩⟩
        · exact ⟨a, ob, rfl, h2, .inr h1⟩
    · refine hb N r c1 F1 k1 σ H1 _ (S.step ok1 g1) (p1.seq fun y c2 u F2 k2 H2 q2 ok2 g2 r2 p2 => ?_)
      clear q2
      cases e1 : f x y with
      | none => rw [e1] at p2; exact p2.elim
      | some t => rw [e1] at p2; exact h x y t v u c2 F2 k2 H2 Q e1 ok2 (r1.step g2) r2 p2
  · rw [if_neg hx] at p1; exact p1.elim
def idxTT (x y : T) : Option T := match x, y with
  | .tup ts, .int k => (intsOf ts).bind fun ns => if k ∈ ns then some (.int (ns.idxOf k : Nat)) else none
  | _, _ => none
def cntTT (x y : T) : Option T := match x, y with
  | .tup ts, .int k => (intsOf ts).map fun ns => .int ((ns.countP fun n => n == k : Nat) : Int)
  | _, _ => none
@[simp] theorem idxTT_ints {ns : List Int} {k : Int} : idxTT (.tup (ns.map T.int)) (.int k) = if k ∈ ns then some (.int (ns.idxOf k : Nat)) else none := by
  unfold idxTT
  simp [intsOf_map]
@[simp] theorem cntTT_ints {ns : List Int} {k : Int} : cntTT (.tup (ns.map T.int)) (.int k) = some (.int ((ns.countP fun n => n == k : Nat) : Int)) := by
  unfold cntTT
  simp [intsOf_map]
theorem op2_tidx : Op2 K (fun x y H Q => rTIdx K x [y] H Q) idxTT := fun x y t v u c F k H Q e ok rx ry g => by
  cases x <;> try (cases e; done)
  case tup ts =>
    cases y <;> try (cases e; done)
    case int i =>
      obtain ⟨a, xs, rfl, _, a1, a2⟩ := rx.tup_of ok
      simp only [idxTT] at e
      cases e1 : intsOf ts with
      | none => rw [e1] at e; cases e
      | some ns =>
        rw [e1] at e
        replace e : (if i ∈ ns then some (T.int (ns.idxOf i : Nat)) else none) = some t := e
        split at e
        · cases e
          have e2 := intsOf_eq e1
          subst e2
          have ex := a2.ints
          subst ex
          exact ⟨a, ns, i, rfl, by rw [ry.int_of], a1, ‹_›, g.same ok (.int _)⟩
        · cases e
theorem op2_tcnt : Op2 K (fun x y H Q => rTCnt K x [y] H Q) cntTT := fun x y t v u c F k H Q e ok rx ry g => by
  cases x <;> try (cases e; done)
  case tup ts =>
    cases y <;> try (cases e; done)
    case int i =>
      obtain ⟨a, xs, rfl, _, a1, a2⟩ := rx.tup_of ok
      simp only [cntTT] at e
      cases e1 : intsOf ts with
      | none => rw [e1] at e; cases e
      | some ns =>
        rw [e1] at e
        cases e
        have e2 := intsOf_eq e1
        subst e2
        have ex := a2.ints
        subst ex
        exact ⟨a, ns, i, rfl, by rw [ry.int_of], a1, g.same ok (.int _)⟩
def gLstl (gs : List DG) : DG := fun t r => match t with
  | .lst ts => gAll gs ts r
  | _ => none
@[simp] theorem gLstl_e {gs : List DG} {ts : List T} {r : Env} : gLstl gs (.lst ts) r = gAll gs ts r := (rfl)
theorem eg_lstlk (K : PySem.W.Frag) {es : List Expr} {pos : Pos} {kk n : Nat} {g : TGs} {dgs : List DG} {is : List Nat} (h : EGs X es g dgs is) (hc : X.calm = true := by rfl)
    (hn : (assignEach es X.env).length = n := by rfl) (hst : (assignEach es X.env).findIdx? (·.1) = none := by rfl) (hl : dgs.length = n := by rfl) (hK : X.K = K := by rfl) : EG X (.Tuple es kk pos) (gUnl K n g) (gLstl dgs) is := by
  subst hK
  refine ⟨pg_unl hc h.pe hn hst, ⟨fun N r r' c F k σ H t v Q S rp e h' => ?_⟩⟩
  cases t <;> try (cases e; done)
  case lst ts =>
    have e : gAll dgs ts r = some r' := e
    cases rp with
    | lst q rr =>
      refine ⟨_, _, rfl, SqL.sub (SqL.of q) S.ok.sub, ?_, h.rd.rd N r r' c F k σ H ts _ Q S rr e h'⟩
      rw [← rr.length, ← reps_len (K := X.K) (F := F) (k := k) e, hl]
def isBT : T → T → Option T
  | .bl a, .bl b => some (.bl (decide (a = b)))
  | _, _ => none
def notBT : T → T → Option T
  | .bl a, .bl b => some (.bl (!decide (a = b)))
  | _, _ => none
@[simp] theorem isBT_bl {a b : Bool} : isBT (.bl a) (.bl b) = some (.bl (decide (a = b))) := (rfl)
@[simp] theorem notBT_bl {a b : Bool} : notBT (.bl a) (.bl b) = some (.bl (!decide (a = b))) := (rfl)
theorem op2_isB : Op2 K (fun x y H Q => ∃ a b, x = .bl a ∧ y = .bl b ∧ Q (.bl (decide (a = b))) H) isBT := fun x y t v u c F k H Q e ok rx ry g => by
  cases x <;> cases y <;> try (first | (cases e; done))
  case bl.bl a b => cases e; exact ⟨a, b, rx.bl_of, ry.bl_of, g.same ok (.bl _)⟩
theorem op2_notIsB : Op2 K (fun x y H Q => ∃ a b, x = .bl a ∧ y = .bl b ∧ Q (.bl (!decide (a = b))) H) notBT := fun x y t v u c F k H Q e ok rx ry g => by
  cases x <;> cases y <;> try (first | (cases e; done))
  case bl.bl a b => cases e; exact ⟨a, b, rx.bl_of, ry.bl_of, g.same ok (.bl _)⟩
theorem ee_tindex (K : PySem.W.Frag) (ho : ES X W o to d) (he : ES X W e te d') (hbase : attributeBase o "index" X.env (eval o X.env) = eval o X.env := by rfl)
    (hfew : ((backTo cpos (starEach [e] X.env)).all (fun x => !x.1) && (backToKw cpos (keywordEach [] X.env)).all (fun x => x.1.isSome) && decide (([e]).length + ([] : List Keyword).length + (if ([] : List Keyword).isEmpty then 0 else 1) < 30)) = true := by rfl)
    (hline : (apos.endLine == cpos.line) = true := by rfl) (hs : starEach [e] X.env = (false, eval e X.env) :: starEach [] X.env := by rfl) (hplain : (backTo cpos (starEach [] X.env)).any (·.1) = false := by rfl) (hK : X.K = K := by rfl) :
    EE X W (.Call (.Attribute o "index" apos) [e] [] cpos) (tBT K (rTIdx K) to (tCons te tNil)) (dTM idxTT d d') := by
  subst hK
  exact ⟨pe_bt PySem.F.slot_tuple_index PySem.F.type_tuple_index mt_tidx ho.pe (pa_cons he.pe pa_nil hs) hbase hfew hline hs hplain, rd_tm op2_tidx ho.rd he.rd⟩
theorem ee_tcount (K : PySem.W.Frag) (ho : ES X W o to d) (he : ES X W e te d') (hbase : attributeBase o "count" X.env (eval o X.env) = eval o X.env := by rfl)
    (hfew : ((backTo cpos (starEach [e] X.env)).all (fun x => !x.1) && (backToKw cpos (keywordEach [] X.env)).all (fun x => x.1.isSome) && decide (([e]).length + ([] : List Keyword).length + (if ([] : List Keyword).isEmpty then 0 else 1) < 30)) = true := by rfl)
    (hline : (apos.endLine == cpos.line) = true := by rfl) (hs : starEach [e] X.env = (false, eval e X.env) :: starEach [] X.env := by rfl) (hplain : (backTo cpos (starEach [] X.env)).any (·.1) = false := by rfl) (hK : X.K = K := by rfl) :
    EE X W (.Call (.Attribute o "count" apos) [e] [] cpos) (tBT K (rTCnt K) to (tCons te tNil)) (dTM cntTT d d') := by
  subst hK
  exact ⟨pe_bt PySem.F.slot_tuple_count PySem.F.type_tuple_count mt_tcnt ho.pe (pa_cons he.pe pa_nil hs) hbase hfew hline hs hplain, rd_tm op2_tcnt ho.rd he.rd⟩
end
end Q
namespace Q
open PySem PySem.Spec PyProof.Rows L2
section
variable {X : Cx} {W : XK} {x : Str} {i : Int} {j1 j2 : Nat} {p1 p2 pos : Pos}
/-- a dict of one text and one int -/
theorem ee_dct1 : EE X W (.Dict [some (.Constant (.str x) j1 p1)] [.Constant (.int i) j2 p2] pos) (tDisp [(tC (.str x), tC (.int i))]) (dC (.dct [x] [.int i])) := by
  refine ⟨pe_disp (pps_cons pe_str pe_int pps_nil) rfl rfl (by simp) (by simp), fun N r c F k σ H Qv S p => ?_⟩
  intro a na
  refine ⟨upd_same, [(.inr x, .int i)], rfl, by simp, ?_⟩
  rw [upd_upd]
  exact p _ (upd F a (.dK [(.inr x, .int i)])) k _ (S.ok.push na) (Ge.push S.ok na) (.dct upd_same rfl (.cons (.int i) .nil))
/-- a, b, c = x, y, z -/
def dPar3 (i j l : Nat) (da : DA) : DS := fun r c => (da r c).bind fun ts c => match ts with
  | [x, y, z] => if i < r.length ∧ j < r.length ∧ l < r.length then .ok (.nxt (((r.set i (.val x)).set j (.val y)).set l (.val z))) c else .stk
  | _ => .stk
@[simp] theorem dPar3_e {i j l : Nat} {da : DA} {r : Env} {c : Cs} : dPar3 i j l da r c = (da r c).bind fun ts c => match ts with
  | [x, y, z] => if i < r.length ∧ j < r.length ∧ l < r.length then .ok (.nxt (((r.set i (.val x)).set j (.val y)).set l (.val z))) c else .stk
  | _ => .stk := (rfl)
theorem ss_par3 {es : List Expr} {t : TA} {da : DA} {st : Stmt} {i j l : Nat} (h : PS X st (tPar3 i j l t)) (ha : EA X W es t da) : SS X W st (tPar3 i j l t) (dPar3 i j l da) := by
  refine ⟨h, fun N r c F k σ H D S p => ha.rd N r c F k σ H _ S (PostS.seq S.ge p fun ts c1 vs F1 k1 H1 ok1 g1 r1 p1 => ?_)⟩
  cases r1 with
  | nil => exact p1.elim
  | cons ra rb => cases rb with
    | nil => exact p1.elim
    | cons rc rd => cases rd with
      | nil => exact p1.elim
      | cons re rf => cases rf with
        | cons _ _ => exact p1.elim
        | nil =>
          rename_i t1 v1 t2 v2 t3 v3
          replace p1 : PostS X.K X.mg N F1 k1 (if i < r.length ∧ j < r.length ∧ l < r.length then .ok (.nxt (((r.set i (.val t1)).set j (.val t2)).set l (.val t3))) c1 else .stk) D W := p1
          by_cases hh : i < r.length ∧ j < r.length ∧ l < r.length
          · rw [if_pos hh] at p1
            exact ⟨_, _, _, rfl, p1 _ H1 F1 k1 ((((S.step ok1 g1).setV ra hh.1).setV rc (by rw [List.length_set]; exact hh.2.1)).setV re (by rw [List.length_set, List.length_set]; exact hh.2.2)) (fun _ _ z => z) List.prefix_rfl⟩
          · rw [if_neg hh] at p1; exact p1.elim
theorem ss_par3E (i j l : Nat) {x y z : Str} {a b c : Expr} {t : TA} {da : DA} {px py pz pt pos : Pos} {kt k2 pt2} (ha : EA X W [a, b, c] t da) (hN : X.N.Nodup) (hi : X.N[i]? = some x := by rfl) (hj : X.N[j]? = some y := by rfl) (hl : X.N[l]? = some z := by rfl) (hij : i ≠ j := by decide) (hil : i ≠ l := by decide) (hjl : j ≠ l := by decide)
    (hx : X.env.scope.names.lookup x = some .local := by rfl) (hy : X.env.scope.names.lookup y = some .local := by rfl) (hz : X.env.scope.names.lookup z = some .local := by rfl)
    (hw : swappedStores [.Tuple [.Name x px, .Name y py, .Name z pz] kt pt] (.Tuple [a, b, c] k2 pt2) X.env = pure (some [x, y, z]) := by rfl)
    (hs : swapsWithSole [.Tuple [.Name x px, .Name y py, .Name z pz] kt pt] (.Tuple [a, b, c] k2 pt2) pos.line X.env = pure false := by rfl) (hc : X.calm = true := by rfl) :
    SS X W (.Assign [.Tuple [.Name x px, .Name y py, .Name z pz] kt pt] (.Tuple [a, b, c] k2 pt2) pos) (tPar3 i j l t) (dPar3 i j l da) := ss_par3 (ps_par3 hc hN hi hj hl hij hil hjl hx hy hz ha.pe hw hs) ha
end
end Q
namespace Q
open PySem PySem.Spec PyProof.Rows L2
section
variable {K : PySem.W.Frag} {N : Ent} {F H H1 : Hp} {k : List Addr} {c : Cs} {r : Env} {σ : L2.St}
theorem Ok.ext (ok : Ok K F k c H) (e : LamX.ExtN H H1) (t : LamX.Tabs (tabsOf K) H1) : Ok K F k c H1 := by
  refine ⟨fun a o h => e a o (ok.sub a o h) fun ps z => ok.nt a ps (by rw [h, z]), fun n a h => ?_, ok.len, ok.nd, ok.nt, t⟩
  obtain ⟨ts, h1, h2, h4⟩ := ok.cel n a h
  obtain ⟨o, w1, w2, -⟩ := h2.there
  exact ⟨ts, h1, h2.mono (fun _ _ z => z) List.prefix_rfl (by rw [e _ _ w1 w2, w1]), h4⟩
theorem Ge.ext (e : LamX.ExtN H H1) : Ge F k H F k H1 :=
  ⟨fun _ _ h => h, fun _ _ h => .inl h, List.prefix_rfl, fun _ h => .inl h, fun a o h _ n => e a o h n, fun a o h n => ⟨o, e a o h n, n⟩⟩
end
def kinds : List (Str × Str) := [("NoBound", "bound"), ("NoPrime", "prime"), ("NoPower", "power"), ("NoNumber", "number"), ("NoFunction", "function"), ("NoPoly", "poly"), ("Apart", "apart"), ("NoRow", "row")]
/-- those with fields -/
def kindsF : List (Str × Str) := [("NoList", "list"), ("NoText", "text"), ("TooGreat", "great")]
def kindW (x : Str) : Option Str := kinds.lookup x
def wordOf (e : Er) : Option Str := match e.fs with
  | [] => kindW e.cls
  | _ => none
/-- a refusal with fields, as it is told -/
def saidF (e : Er) : Option T := match e.fs with
  | [(f, .int i)] => if f = "at" ∧ e.cls = "NoList" then some (.tup [.str "list", .int i]) else if f = "at" ∧ e.cls = "NoText" then some (.tup [.str "text", .int i]) else none
  | [(f, .int j), (g, .int i)] => if f = "most" ∧ g = "many" ∧ e.cls = "TooGreat" then some (.tup [.str "great", .int i, .int j]) else none
  | _ => none
def saidT : Out T → Out T
  | .stk => .stk
  | .ok t c => .ok (.tup [.str "told", t]) c
  | .err e c => (match wordOf e with
    | some w => .ok (.tup [.str w]) c
    | none => (match saidF e with
      | some t => .ok t c
      | none => .stk))
def dSaid (d : D) : D := fun r c => saidT (d r c)
section
variable {K : PySem.W.Frag} {mg : Str → Option Value} {F H : Hp} {k : List Addr} {Q : VK} {W W' : XK}
theorem said_post {o : Out T} (h : Post K mg (RV K) F k H (saidT o) Q W) : Post K mg (RV K) F k H (saidT o) Q W' := by
  cases o with
  | stk => exact h
  | ok t c => exact h
  | err e c =>
    simp only [saidT] at h ⊢
    cases hw : wordOf e with
    | none =>
      rw [hw] at h
      cases hf : saidF e with
      | none => rw [hf] at h; exact h
      | some t => rw [hf] at h; exact h
    | some w => rw [hw] at h; exact h
end
/-- what _law_said makes of the reading of what it was handed -/
def TTq (K : PySem.W.Frag) (mg : Str → Option Value) : (XK → Hp → VK → Prop) → Hp → VK → Prop := fun tl H Q =>
  ∃ F k c o, Ok K F k c H ∧ (∀ Q' E', Post K mg (RV K) F k H o Q' E' → tl E' H Q') ∧ Post K mg (RV K) F k H (saidT o) Q W0
/-- the def _law_said, as it stands -/
structure Said (P : Program) (w : World) (K : PySem.W.Frag) (mg : Str → Option Value) (j : Nat) : Prop where
  ex : ∃ (pg : Arguments) (bg : List Stmt) (sg : Scope) (dV kV doc pm cdv ct oc : Value) (an od : Option Addr) (osl : Array (Option Value)) (Ng : List Str),
    mg "_law_said" = some (.ref (He.ga K "_law_said")) ∧ PySem.W.keepIn K (.ref (He.ga K "_law_said")) = true ∧
    K.lookup (He.ga K "_law_said") = some ⟨oc, od, .func (PySem.W.fnOf "_law_said" "_law_said" pg bg sg dV kV doc pm an cdv ct), osl⟩ ∧ PySem.W.codeIn K cdv "_law_said" = true ∧
    L2.Binds K (PySem.W.fnOf "_law_said" "_law_said" pg bg sg dV kV doc pm an cdv ct) ["_law_call"] [] ∧ FnScope Ng ["_law_call"] sg ∧ Ng[0]? = some ("_law_call" : Str) ∧ Vis sg "_law_call" ∧
    ∀ (X : Cx) (q : Str), X.prog = P → X.w = w → X.K = K → X.mg = mg → BaseOk K mg X.base → Room (j + 1) X.A → LamX.GivesTo X Ng "_law_said" sg (He.ga K "_law_said") cdv bg "_law_call" q (TTq K mg)
/-- tables are told apart by their defs -/
def TabsU (K : PySem.W.Frag) : Prop := ∀ p ∈ tabsOf K, ∀ q ∈ tabsOf K, p.1 = q.1 → p.2 = q.2
section
variable {X : Cx} {W : XK}
theorem lam_passes {A : Around} {outer : List PySem.Env} {s : Shared} {H : Hp} {E : XK} {scope : Scope} {f c' : Addr} : Passes (L2.CX X.prog X.w) (LamX.lamCx X A outer s H E scope f c') E := by
  have tk : Takes (LamX.lamCx X A outer s H E scope f c') (fun cls d _ H => E cls d H) := takes_of rfl rfl rfl rfl
  exact passes_call tk fun _ _ _ _ h => h
theorem ee_said (K : PySem.W.Frag) (mg : Str → Option Value) (sc : Scope) {P : Program} {w : World} {x : Str} {params : Arguments} {body : Expr} {scope : Scope} {lpos p pos : Pos} {t : XK → TE} {d : D} {j k : Nat}
    (bo : BaseOk K mg X.base) (sd : Said P w K mg j) (hx : x ∈ lamsOf K) (hu : TabsU K) (hcode : X.env.code = .ref (He.codeOf K (x, none))) (hr : Room (k + 2) X.A)
    (hb : ∀ (A : Around) (outer : List PySem.Env) (s : Shared) (H : Hp) (E : XK) (f c' : Addr), Room k (LamX.lamCx X A outer s H E scope f c').A → Passes (L2.CX X.prog X.w) (LamX.lamCx X A outer s H E scope f c') E → BaseOk K mg (LamX.lamCx X A outer s H E scope f c').base → EE (LamX.lamCx X A outer s H E scope f c') E body (t E) d)
    (hjk : j ≤ k + 1 := by decide) (hq : X.env.qual = x ++ ".<locals>." := by rfl) (L : LamX.lamSB sc scope = true := by decide +kernel) (hsc : X.env.scope = sc := by rfl) (hdef : defaultsOf params X.env = ([], []) := by rfl)
    (hbind : ∀ (q : Str) (cl : List (Str × Addr)) (pm cv ctv : Value), bindArgs (PySem.W.kla_fn "<lambda>" q params body scope cl pm cv ctv) ⟨[], []⟩ = pure [] := by intros; rfl)
    (hg : Gl X "_law_said" := by rfl) (hK : X.K = K := by rfl) (hM : X.mg = mg := by rfl) (hP : X.prog = P := by rfl) (hw : X.w = w := by rfl) :
    EE X W (.Call (.Name "_law_said" p) [.Lambda params body scope lpos] [] pos) (LamX.tLam (tabsOf K) (TTq K mg) t) (dSaid d) := by
  subst hK hM hP hw
  obtain ⟨pg, bg, sg, dV, kV, doc, pm, cdv, ct, oc, an, od, osl, Ng, hm, hk, lk, hcg, hbi, Sg, hN, hv, hG⟩ := sd.ex
  have mem : (tabOf X.K x, X.env.qual ++ "<lambda>") ∈ tabsOf X.K := List.mem_map.mpr ⟨x, hx, by rw [hq]⟩
  refine ⟨LamX.pe_lamcall (P := tabOf X.K x) hg hm hk lk hcg hbi Sg hN hv (hG X _ rfl rfl rfl rfl bo (hr.mono (by omega))) (bo x hx) hcode mem (fun p hp e => hu p hp _ mem e) hr (by rw [hsc]; exact LamX.lamS_by L) hdef hbind
    fun A outer s H E f c' h => (hb A outer s H E f c' h lam_passes bo).pe, fun N r c F kk σ H Q S p => ⟨S.ok.tb, fun H1 e1 t1 => ?_⟩⟩
  have S1 := S.step (S.ok.ext e1 t1) (Ge.ext e1)
  refine ⟨F, kk, c, d r c, S1.ok, fun Q' E' h => ?_, (said_post p).ge (Ge.ext e1)⟩
  have rm : Room k (LamX.lamCx X (X.A.deeper X.env) [] X.s_0 X.H_0 E' scope 0 0).A := (hr.deeper _).deeper _
  exact (hb (X.A.deeper X.env) [] X.s_0 X.H_0 E' 0 0 rm lam_passes bo).rd N r c F kk σ H1 Q' S1 h
end
/-- a caught exception, its dict -/
def tAd : T → Option (Addr × Option Addr)
  | .adr a => some (a, none)
  | .exo a d _ _ => some (a, some d)
  | _ => none
open Classical in
noncomputable def clsW (K : PySem.W.Frag) (cls : Value) (d : Option Addr) : Option Str := match d with
  | none => (kinds.find? fun q => decide (cls = .ref (He.ga K q.1))).map (·.2)
  | some _ => (kindsF.find? fun q => decide (cls = .ref (He.ga K q.1))).map (·.2)
/-- the word for the exception that the i-th slot holds -/
noncomputable def dKind (K : PySem.W.Frag) (cls : Value) (d : Option Addr) (a : Addr) (i : Nat) : D := fun r c => match r[i]? with
  | some (.val t) => if tAd t = some (a, d) then lift ((clsW K cls d).map T.str) c else .stk
  | _ => .stk
/-- _law_kind called where an exception is handled -/
structure Kind (P : Program) (w : World) (K : PySem.W.Frag) (mg : Str → Option Value) : Prop where
  ex : ∃ f fd, mg "_law_kind" = some (.ref f) ∧ PySem.W.keepIn K (.ref f) = true ∧ L2.Binds K fd ["_law_e"] [] ∧
    ∀ (base : Heap) (A : Around) (outer : List PySem.Env) (s : Shared) (H : Hp) (args : Args) (us : List Value) (Q : VK) (p : Addr × Obj) (cls : Value) (d : Option Addr) (word : Str) (F : Hp) (k : List Addr) (c : Cs) (t : T), BaseOk K mg base → L2H.RoomH 1 A → L2H.PinOk outer H s p → Zc cls d p.2 → (∃ vs, p.2.data = .fields vs) → clsW K cls d = some word →
      Ok K F k c H → Rep K F k t (.ref p.1) → tAd t = some (p.1, d) → Env0 P w K mg base A outer s H → BindsTo s fd args ((["_law_e"] : List Str).zip us) → Vals [.ref p.1] us → (∀ v F' k' H', Ok K F' k' c H' → Ge F k H F' k' H' → Rep K F' k' (.str word) v → Q v H') → codeAny (model P w) A (.call (.ref f) args) (CR CX0 outer P w H s Q E0) s
def tKind (K : PySem.W.Frag) (cls : Value) (d : Option Addr) (a : Addr) (i : Nat) : TE := fun σ H Q => σ[i]? = some (some (.ref a)) ∧ ∃ word F k c t, clsW K cls d = some word ∧ Ok K F k c H ∧ Rep K F k t (.ref a) ∧ tAd t = some (a, d) ∧ ∀ v F' k' H', Ok K F' k' c H' → Ge F k H F' k' H' → Rep K F' k' (.str word) v → Q v H'
section
variable {X : Cx} {W : XK}
theorem ee_kind (K : PySem.W.Frag) (mg : Str → Option Value) {P : Program} {w : World} {a : Addr} {oe : Obj} {cls : Value} {d : Option Addr} {i : Nat} {e : Str} {p p2 pos : Pos} (bo : BaseOk K mg X.base) (kd : Kind P w K mg) (hr : L2H.RoomH 1 X.A) (hp : (a, oe) ∈ X.pn) (hz : Zc cls d oe) (hf : ∃ vs, oe.data = .fields vs)
    (hx : ∀ (pins : List (Addr × Obj)) (σ : L2.St) (H : Hp) (s : Shared) (e : Value) (s' : Shared), Inv X pins σ H s → CX0 X.stack H s E0 e s' → X.xe e s')
    (he : PE X (.Name e p2) (tVar i)) (hg : Gl X "_law_kind" := by rfl) (hs : starEach [.Name e p2] X.env = (false, eval (.Name e p2) X.env) :: starEach [] X.env := by rfl) (hpl : (backTo pos (starEach [] X.env)).any (·.1) = false := by rfl)
    (hK : X.K = K := by rfl) (hM : X.mg = mg := by rfl) (hP : X.prog = P := by rfl) (hw : X.w = w := by rfl) :
    EE X W (.Call (.Name "_law_kind" p) [.Name e p2] [] pos) (tKind K cls d a i) (dKind K cls d a i) := by
  subst hK hM hP hw
  obtain ⟨f, fd, hm, hk, hb, run⟩ := kd.ex
  refine ⟨⟨fun pins s σ H Q I h => ?_⟩, fun N r c F kk σ H Q S pp => ?_⟩
  · obtain ⟨hs0, word, F0, k0, c0, t0, hw0, ok0, rp0, ht0, hq⟩ := h
    refine wpAny_Call_Name_kw (ld_glob I hg hm ?_ (by decide))
    have ha : PA X [.Name e p2] (tCons (tVar i) tNil) := pa_cons he pa_nil hs
    refine PySem.W.callWith_K (h₀ := X.base) I.ok.mod.kin hk (thn (ha.run pos pins s σ H (fun vs H1 => vs = [V.ref a] ∧ H1 = H) I ⟨_, hs0, rfl, rfl⟩) fun us s1 ⟨vs, H1, J, rv, ev, eH⟩ => ⟨J.kIn, ?_⟩) hs hpl
    subst ev eH
    have hl : us.length = 1 := by rw [← rv.length]; rfl
    have pin := J.pin (a, oe) (List.mem_append_left _ hp)
    have po : L2H.PinOk X.stack H1 s1 (a, oe) := ⟨pin.1, pin.2.1, fun hm => (List.mem_cons.mp (J.stkSub _ hm)).elim pin.2.2.1 pin.2.2.2.1, pin.2.2.2.2⟩
    have bd := hb s1 us J.kIn (by rw [List.append_nil, hl]; rfl)
    rw [List.append_nil] at bd
    refine wpAny_call (codeAny_mono (run X.base X.A X.stack s1 H1 ⟨us, []⟩ us Q (a, oe) cls d word F0 k0 c0 t0 bo hr po hz hf hw0 ok0 rp0 ht0 J.env0 bd rv hq) fun o s' z => ?_)
    cases o with
    | error ex => exact hx pins σ H1 s1 ex s' J z
    | ok fl => cases fl <;> first | exact J.after z | exact False.elim z
  · unfold dKind at pp
    split at pp
    · rename_i t e1
      split at pp
      · rename_i e2
        obtain ⟨v, h1, h2⟩ := S.val i _ e1
        have hv : v = .ref a := by
          cases h2 <;> first | (simp [tAd] at e2; done) | (simp [tAd] at e2; rw [e2.1]) | (simp [tAd] at e2; rw [e2])
        subst hv
        cases hw0 : clsW X.K cls d with
        | none => rw [hw0] at pp; exact pp.elim
        | some word =>
          rw [hw0] at pp
          exact ⟨h1, word, F, kk, c, t, hw0, S.ok, h2, e2, fun v F' k' H' ok' g' r' => by cases r'; exact pp _ F' k' H' ok' g' (.str _)⟩
      · exact pp.elim
    · exact pp.elim
end
end Q
namespace Q
open PySem PySem.Spec PyProof.Rows L2
section
variable {X : Cx}
theorem opr_eqU (h : X.A.units + 65 < cLine) : OpR X (compareOp .Eq) (rEqD X.K) := op_eqD (by omega)
theorem opr_neU (h : X.A.units + 65 < cLine) : OpR X (compareOp .NotEq) (rNeD X.K) := op_neD (by omega)
theorem opr_inU (h : X.A.units + 65 < cLine) : OpR X (compareOp .In) (rInQ X.K) := opr_in h
theorem u65H {A : Around} {k : Nat} (h : L2H.RoomH k A) : A.units + 65 < cLine := by have := h.un; omega
end
def rCountD (K : PySem.W.Frag) : V → List V → Hp → VK → Prop := fun x xs H Q => ∃ (a : Addr) (y : V) (d : PyData) (ds : List PyData), x = .ref a ∧ xs = [y] ∧ Dp K H (.ref a) (.list ds) ∧ Dp K H y d ∧ SeqAt.shaped (.list ds) = true ∧ SeqAt.shaped d = true ∧ Q (.int ((ds.countP fun z => PyData.eqv z d : Nat) : Int)) H
section
variable {X : Cx}
theorem mt_countD (hu : X.A.units + 65 < cLine) : MtR X "list.count" (rCountD X.K) := by
  intro pins s σ H x xs v us Q I rx rxs h
  obtain ⟨a, y, d, ds, rfl, rfl, hl, hy, sl, sd, q⟩ := h
  cases rx
  obtain ⟨uy, rfl, ry⟩ := vals1 rxs
  obtain ⟨bs, r1⟩ := Dp.reads I d y uy hy ry
  cases hl with
  | lst hs ha =>
    obtain ⟨its, rv, pl, hz⟩ := I.list hs
    obtain ⟨as, r2⟩ := Dp.readsAll I ds _ its ha rv
    obtain ⟨⟨kcls, kd, kdt, slots⟩, m, ho, hc, hdn, hdt⟩ := pl
    simp only at hc hdt
    subst hc hdt
    refine call_meets PySem.F.slot_list_count ⟨_, ho, rfl⟩ PySem.F.entry_list_count (PySem.F.args_list_count_2 _ _) (SeqAt.list_countAt a its.toArray m kd slots uy (fun u => PyData.eqv (SeqAt.readOf s.heap u) d))
      ⟨ho, SeqAt.items_eqAt (vs := its.toArray) r2 r1 (SeqAt.canLay_of_shaped sl) (SeqAt.canLay_of_shaped sd) (room_in_shaped sd hu), ?_⟩
    have hm := SeqAt.readsAll_map ds its as (SeqAt.canLay_of_shaped sl) r2
    have hc : its.toArray.toList.countP (fun u => PyData.eqv (SeqAt.readOf s.heap u) d) = ds.countP fun z => PyData.eqv z d := by
      rw [← hm, List.countP_map]
      rfl
    rw [hc]
    exact ⟨.int _, H, I.tok _, ⟨_, rfl⟩, q⟩
end
def countT (x y : T) : Option T := match x with
  | .lst ts => if (plain x && plain y) = true then some (.int ((ts.countP fun z => eqD z y : Nat) : Int)) else none
  | _ => none
section
variable {X : Cx} {W : XK} {o e : Expr} {to te : TE} {d d' : D} {apos cpos : Pos}
theorem op2_count {K : PySem.W.Frag} : Op2 K (fun x y H Q => rCountD K x [y] H Q) countT := fun x y t v u c F k H Q e ok rx ry g => by
  cases x <;> try (cases e; done)
  case lst ts =>
    simp only [countT] at e
    split at e
    · rename_i hh
      rw [Bool.and_eq_true] at hh
      cases e
      have dx := rx.dp ok hh.1
      obtain ⟨a, xs, rfl, _⟩ := id rx
      refine ⟨a, u, pyT y, pyTs ts, rfl, rfl, dx, ry.dp ok hh.2, plain_shaped hh.1, plain_shaped hh.2, ?_⟩
      have e2 : (pyTs ts).countP (fun z => PyData.eqv z (pyT y)) = ts.countP fun z => eqD z y := by
        rw [pyTs_map, List.countP_map]; rfl
      rw [e2]
      exact g.same ok (.int _)
    · cases e
theorem ee_lcount (K : PySem.W.Frag) (hu : X.A.units + 65 < cLine) (ho : ES X W o to d) (he : ES X W e te d') (hbase : attributeBase o "count" X.env (eval o X.env) = eval o X.env := by rfl)
    (hfew : ((backTo cpos (starEach [e] X.env)).all (fun x => !x.1) && (backToKw cpos (keywordEach [] X.env)).all (fun x => x.1.isSome) && decide (([e]).length + ([] : List Keyword).length + (if ([] : List Keyword).isEmpty then 0 else 1) < 30)) = true := by rfl)
    (hline : (apos.endLine == cpos.line) = true := by rfl) (hs : starEach [e] X.env = (false, eval e X.env) :: starEach [] X.env := by rfl) (hplain : (backTo cpos (starEach [] X.env)).any (·.1) = false := by rfl) (hK : X.K = K := by rfl) :
    EE X W (.Call (.Attribute o "count" apos) [e] [] cpos) (tBM K "list" (rCountD K) to (tCons te tNil)) (dLM countT d d') := by
  subst hK
  exact ⟨pe_bm PySem.F.plainAttrs_list PySem.F.slot_list_count PySem.F.type_list_count (mt_countD hu) ho.pe (pa_cons he.pe pa_nil hs) hbase hfew hline hs hplain, rd_lm op2_count ho.rd he.rd⟩
theorem ee_lindexU (K : PySem.W.Frag) (hu : X.A.units + 65 < cLine) (ho : ES X W o to d) (he : ES X W e te d') (hbase : attributeBase o "index" X.env (eval o X.env) = eval o X.env := by rfl)
    (hfew : ((backTo cpos (starEach [e] X.env)).all (fun x => !x.1) && (backToKw cpos (keywordEach [] X.env)).all (fun x => x.1.isSome) && decide (([e]).length + ([] : List Keyword).length + (if ([] : List Keyword).isEmpty then 0 else 1) < 30)) = true := by rfl)
    (hline : (apos.endLine == cpos.line) = true := by rfl) (hs : starEach [e] X.env = (false, eval e X.env) :: starEach [] X.env := by rfl) (hplain : (backTo cpos (starEach [] X.env)).any (·.1) = false := by rfl) (hK : X.K = K := by rfl) :
    EE X W (.Call (.Attribute o "index" apos) [e] [] cpos) (tBM K "list" (rIndexD K) to (tCons te tNil)) (dLM indexT d d') := by
  subst hK
  exact ⟨pe_bm PySem.F.plainAttrs_list PySem.F.slot_list_index PySem.F.type_list_index (mt_indexD hu) ho.pe (pa_cons he.pe pa_nil hs) hbase hfew hline hs hplain, rd_lm op2_index ho.rd he.rd⟩
end
/-- what its class has to say -/
def xcB (K : PySem.W.Frag) (D : Addr) : Bool := (PySem.W.clsIn K D).isSome && (decide (PySem.W.findIn K (.ref D) "__getattribute__" = some (some (.builtin "BaseException.__getattribute__"))) && (decide (PySem.W.findIn K (.ref D) "__getattr__" = some none) &&
  (decide (PySem.W.subIn K (.ref D) (.type "BaseException") = some true) && (decide (PySem.W.findIn K (.ref D) "__class__" = some (some (.builtin "object.__class__"))) && (decide (PySem.W.specialIn K (.builtin "object.__class__") "__get__" = some (some (.builtin "getset_descriptor.__get__"))) &&
  (decide (PySem.W.takesIn K (.builtin "object.__class__") = some true) && decide (PySem.W.mroIn K D (.type "object") = some true)))))))
theorem xc_kit {K : PySem.W.Frag} {D a : Addr} {oe : Obj} {od : Option Obj} (h : xcB K D = true) : PySem.W.KitX K (.ref a) (.ref D) (fun h => PySem.W.InstAt h a oe D od) := by
  unfold xcB at h
  simp only [Bool.and_eq_true, decide_eq_true_eq] at h
  obtain ⟨h1, h2, h3, h4, h5, h6, h7, h8⟩ := h
  exact PySem.W.kitx_exc h1 h2 h3 h4 h5 h6 h7 h8
/-- the caught exception's dict stands -/
def XdAt (d : Option Addr) (H : Hp) : Prop := ∀ dd, d = some dd → ∃ fs, H dd = some (.xd fs)
/-- c, a class, and b: whether the exception at a is one of it -/
def rIsP (K : PySem.W.Frag) (D a : Addr) (d : Option Addr) (c : V) (b : Bool) : List V → Hp → VK → Prop := fun xs H Q => xs = [.ref a, c] ∧ XdAt d H ∧ Q (.bl b) H
section
variable {X : Cx} {W : XK} {a D : Addr} {d : Option Addr} {oe : Obj} {c : V} {cv : Value} {b : Bool}
theorem cr_isP (hp : (a, oe) ∈ X.pn) (C : xcB X.K D = true) (hz : Zc (.ref D) d oe) (hf : ∃ vs, oe.data = .fields vs) (hc : ∀ u, RelV c u → u = cv) (hb : PySem.W.kitOne X.K (.ref D) cv = some b) : CallR X (.builtin "isinstance") (rIsP X.K D a d c b) := by
  intro pins s σ H xs us Q I r h
  obtain ⟨rfl, hd, q⟩ := h
  obtain ⟨u, u', rfl, r1, r2⟩ := vals2 r
  cases r1
  obtain rfl := hc _ r2
  have at_ := (I.pin (a, oe) (List.mem_append_left _ hp)).1
  obtain ⟨vs, hv⟩ := hf
  have nc : PySem.W.notCls oe = true := by unfold PySem.W.notCls; rw [hv] <;> rfl
  cases d with
  | none => exact PySem.W.kia_one (xc_kit (od := none) C) I.kIn ⟨at_, hz.1, nc, by rw [hz.2]; trivial⟩ hb (fun z => nomatch z) fun tk => ⟨.bl b, H, I.kept (t' := tk) fun _ _ z => z, rfl, q⟩
  | some dd =>
    obtain ⟨fs, ea⟩ := hd dd rfl
    have hx : ObjOk X.prog X.w H s.heap dd (.xd fs) := I.hok dd _ ea
    obtain ⟨mA, hns, hr⟩ := hx
    obtain ⟨od, ho, hl⟩ := lookIn_ns hns
    exact PySem.W.kia_one (xc_kit (od := some od) C) I.kIn ⟨at_, hz.1, nc, by rw [hz.2]; exact ho⟩ hb (fun z => nomatch z) fun tk => ⟨.bl b, H, I.kept (t' := tk) fun _ _ z => z, rfl, q⟩
/-- isinstance(e, m) by what b says -/
def dIs (b : Option Bool) (a : Addr) (d : Option Addr) (i : Nat) : Q.D := fun r c => match r[i]? with
  | some (.val t) => if tAd t = some (a, d) then lift (b.map T.bl) c else .stk
  | _ => .stk
def tIs (b : Option Bool) (a : Addr) (d : Option Addr) (i : Nat) : TE := fun σ H Q => σ[i]? = some (some (.ref a)) ∧ XdAt d H ∧ ∃ x, b = some x ∧ Q (.bl x) H
theorem tAd_ref {K : PySem.W.Frag} {F H : Hp} {k : List Addr} {t : T} {v : V} (h2 : Rep K F k t v) (e2 : tAd t = some (a, d)) (s : Sub F H) : v = .ref a ∧ XdAt d H := by
  cases h2 <;> first | (simp [tAd] at e2; done) | skip
  case adr =>
    simp [tAd] at e2
    obtain ⟨rfl, rfl⟩ := e2
    exact ⟨rfl, fun dd z => by cases z⟩
  case exo h _ _ =>
    simp [tAd] at e2
    obtain ⟨rfl, rfl⟩ := e2
    exact ⟨rfl, fun dd z => by cases z; exact ⟨_, s _ _ h⟩⟩
theorem rd_is {K : PySem.W.Frag} {mg : Str → Option Value} {bo : Option Bool} {i : Nat} : Rd K mg W (tIs bo a d i) (dIs bo a d i) := fun N r c F k σ H Q S p => by
  unfold dIs at p
  split at p
  · rename_i t e1
    split at p
    · rename_i e2
      obtain ⟨v, h1, h2⟩ := S.val i _ e1
      obtain ⟨rfl, hd⟩ := tAd_ref h2 e2 S.ok.sub
      cases bo with
      | none => exact p.elim
      | some x => exact ⟨h1, hd, x, rfl, p _ F k H S.ok Ge.refl (.bl x)⟩
    · exact p.elim
  · exact p.elim
/-- of an own class -/
theorem ee_isP (K : PySem.W.Frag) {m e : Str} {i : Nat} {p p1 p2 pos : Pos} (hp : (a, oe) ∈ X.pn) (C : xcB K D = true) (hz : Zc (.ref D) d oe) (hf : ∃ vs, oe.data = .fields vs) (hm : X.mg "isinstance" = none) (hm2 : X.mg m = some (.ref (He.ga K m))) (he : PE X (.Name e p1) (tVar i))
    (hg : Gl X "isinstance" := by rfl) (hg2 : Gl X m := by rfl) (hd2 : (m == ("__debug__" : Str)) = false := by decide)
    (h1 : starEach [.Name e p1, .Name m p2] X.env = (false, eval (.Name e p1) X.env) :: starEach [.Name m p2] X.env := by rfl) (h2 : starEach [.Name m p2] X.env = (false, eval (.Name m p2) X.env) :: starEach [] X.env := by rfl) (hpl : (backTo pos (starEach [.Name m p2] X.env)).any (·.1) = false := by rfl) (hK : X.K = K := by rfl) :
    EE X W (.Call (.Name "isinstance" p) [.Name e p1, .Name m p2] [] pos) (tIs (PySem.W.kitOne K (.ref D) (.ref (He.ga K m))) a d i) (dIs (PySem.W.kitOne K (.ref D) (.ref (He.ga K m))) a d i) := by
  subst hK
  refine ⟨⟨fun pins s σ H Q I h => ?_⟩, rd_is⟩
  obtain ⟨hs, hd, x, hb, q⟩ := h
  exact (pe_callB (cr_isP (d := d) (c := .ref (He.ga X.K m)) hp C hz hf (fun u r => r) hb) hg hm (by decide +kernel) (pa_cons he (pa_cons (pe_glob (v := .ref (He.ga X.K m)) hg2 hm2 rfl hd2) pa_nil h2) h1) (by decide) (by decide) h1 hpl).run pins s σ H Q I ⟨_, hs, rfl, hd, q⟩
/-- of a built-in class -/
theorem ee_isPV (K : PySem.W.Frag) {m e : Str} (ms : String) {i : Nat} {p p1 p2 pos : Pos} (hp : (a, oe) ∈ X.pn) (C : xcB K D = true) (hz : Zc (.ref D) d oe) (hf : ∃ vs, oe.data = .fields vs) (hm : X.mg "isinstance" = none) (hm2 : X.mg m = none) (hv2 : bootBuiltins m = some (.type ms)) (he : PE X (.Name e p1) (tVar i))
    (hg : Gl X "isinstance" := by rfl) (hg2 : Gl X m := by rfl) (hn2 : m ≠ "__name__" := by decide) (hd2 : (m == ("__debug__" : Str)) = false := by decide)
    (h1 : starEach [.Name e p1, .Name m p2] X.env = (false, eval (.Name e p1) X.env) :: starEach [.Name m p2] X.env := by rfl) (h2 : starEach [.Name m p2] X.env = (false, eval (.Name m p2) X.env) :: starEach [] X.env := by rfl) (hpl : (backTo pos (starEach [.Name m p2] X.env)).any (·.1) = false := by rfl) (hK : X.K = K := by rfl) :
    EE X W (.Call (.Name "isinstance" p) [.Name e p1, .Name m p2] [] pos) (tIs (PySem.W.kitOne K (.ref D) (.type ms)) a d i) (dIs (PySem.W.kitOne K (.ref D) (.type ms)) a d i) := by
  subst hK
  refine ⟨⟨fun pins s σ H Q I h => ?_⟩, rd_is⟩
  obtain ⟨hs, hd, x, hb, q⟩ := h
  exact (pe_callB (cr_isP (d := d) (c := .ty ms) hp C hz hf (fun u r => r) hb) hg hm (by decide +kernel) (pa_cons he (pa_cons (pe_bltn (v := .ty ms) hg2 hm2 hv2 rfl hn2 hd2) pa_nil h2) h1) (by decide) (by decide) h1 hpl).run pins s σ H Q I ⟨_, hs, rfl, hd, q⟩
end
end Q
namespace Q
open PySem PySem.Spec PyProof.Rows L2
def elevens : List Str := ["NoBound", "NoPrime", "NoPower", "NoNumber", "NoFunction", "NoPoly", "Apart", "NoRow", "NoList", "NoText", "TooGreat"]
def kindsA : List (Str × Str) := kinds ++ kindsF
def fieldsA : List Str := ["at", "many", "most"]
structure KindOk (K : PySem.W.Frag) (mg : Str → Option Value) : Prop where
  xc : ∀ q ∈ kindsA, xcB K (He.ga K q.1) = true
  is : ∀ q ∈ kindsA, ∀ m ∈ elevens, PySem.W.kitOne K (.ref (He.ga K q.1)) (.ref (He.ga K m)) = some (m == q.1)
  isV : ∀ q ∈ kindsA, PySem.W.kitOne K (.ref (He.ga K q.1)) (.type "ValueError") = some true
  exm : ∀ q ∈ kindsA, PySem.W.exmOne K (.ref (He.ga K q.1)) (.ref (He.ga K "OnceError")) = some true
  gl : ∀ m ∈ ("OnceError" : Str) :: elevens, mg m = some (.ref (He.ga K m))
  inj : ∀ q ∈ kindsA, ∀ r ∈ kindsA, He.ga K q.1 = He.ga K r.1 → q = r
  xf : ∀ q ∈ kindsF, XfC K (He.ga K q.1)
  no : ∀ q ∈ kindsF, ∀ f ∈ fieldsA, PySem.W.findIn K (.ref (He.ga K q.1)) f = some none
def kindB (K : PySem.W.Frag) : Bool := (kindsA.all fun q => xcB K (He.ga K q.1) && ((elevens.all fun m => decide (PySem.W.kitOne K (.ref (He.ga K q.1)) (.ref (He.ga K m)) = some (m == q.1))) && (decide (PySem.W.kitOne K (.ref (He.ga K q.1)) (.type "ValueError") = some true) &&
  (decide (PySem.W.exmOne K (.ref (He.ga K q.1)) (.ref (He.ga K "OnceError")) = some true) && kindsA.all fun r => decide (q = r) || !decide (He.ga K q.1 = He.ga K r.1))))) && ((("OnceError" : Str) :: elevens).all (fun m => (He.Fa.glo m).ok K) &&
  kindsF.all fun q => xfB K (He.ga K q.1) && fieldsA.all fun f => He.eqO (PySem.W.findIn K (.ref (He.ga K q.1)) f) (some none))
theorem kind_ok {K : PySem.W.Frag} {mg : Str → Option Value} {h : Heap} (X : K.In h) (G : h.Ns mainGlobals mg) (c : kindB K = true) : KindOk K mg := by
  unfold kindB at c
  rw [Bool.and_eq_true, Bool.and_eq_true] at c
  obtain ⟨c1, c2, c3⟩ := c
  have a : ∀ q ∈ kindsA, _ := fun q hq => (List.all_eq_true.mp c1 q hq)
  simp only [Bool.and_eq_true, decide_eq_true_eq, List.all_eq_true, Bool.or_eq_true, Bool.not_eq_true', decide_eq_false_iff_not] at a
  have b : ∀ q ∈ kindsF, _ := fun q hq => (List.all_eq_true.mp c3 q hq)
  simp only [Bool.and_eq_true, List.all_eq_true] at b
  exact ⟨fun q hq => (a q hq).1, fun q hq m hm => (a q hq).2.1 m hm, fun q hq => (a q hq).2.2.1, fun q hq => (a q hq).2.2.2.1, fun m hm => He.glo_ok X G (List.all_eq_true.mp c2 m hm), fun q hq r hr e => ((a q hq).2.2.2.2 r hr).elim id fun n => absurd e n,
    fun q hq => xfB_ok (b q hq).1, fun q hq f hf => He.eqO_ok ((b q hq).2 f hf)⟩
theorem inA {q : Str × Str} (h : q ∈ kinds) : q ∈ kindsA := List.mem_append_left _ h
theorem inF {q : Str × Str} (h : q ∈ kindsF) : q ∈ kindsA := List.mem_append_right _ h
section
variable {K : PySem.W.Frag} {mg : Str → Option Value}
theorem find_some {l : List (Str × Str)} {cls : Value} {word : Str} (h : (l.find? fun q => decide (cls = .ref (He.ga K q.1))).map (·.2) = some word) : ∃ q ∈ l, cls = .ref (He.ga K q.1) ∧ q.2 = word := by
  cases e : l.find? (fun q => decide (cls = .ref (He.ga K q.1))) with
  | none => rw [e] at h; cases h
  | some q =>
    rw [e] at h
    have h1 := List.find?_some e
    exact ⟨q, List.mem_of_find?_eq_some e, by simpa using h1, Option.some.inj h⟩
theorem clsW_some {cls : Value} {d : Option Addr} {word : Str} (h : clsW K cls d = some word) : ∃ q ∈ kindsA, cls = .ref (He.ga K q.1) ∧ q.2 = word := by
  unfold clsW at h
  cases d with
  | none =>
    obtain ⟨q, h1, h2⟩ := find_some (l := kinds) (cls := cls) (word := word) (K := K) h
    exact ⟨q, inA h1, h2⟩
  | some d =>
    obtain ⟨q, h1, h2⟩ := find_some (l := kindsF) (cls := cls) (word := word) (K := K) h
    exact ⟨q, inF h1, h2⟩
theorem find_of {l : List (Str × Str)} (hl : ∀ q ∈ l, q ∈ kindsA) (KO : KindOk K mg) {q : Str × Str} (hq : q ∈ l) : (l.find? fun r => decide ((Value.ref (He.ga K q.1)) = .ref (He.ga K r.1))).map (·.2) = some q.2 := by
  cases e : l.find? (fun r => decide ((Value.ref (He.ga K q.1)) = .ref (He.ga K r.1))) with
  | none =>
    have := List.find?_eq_none.mp e q hq
    simp at this
  | some r =>
    have h1 := List.find?_some e
    have h2 : He.ga K q.1 = He.ga K r.1 := by simpa using h1
    rw [KO.inj q (hl q hq) r (hl r (List.mem_of_find?_eq_some e)) h2]
    rfl
theorem clsW_of (KO : KindOk K mg) {q : Str × Str} (hq : q ∈ kinds) : clsW K (.ref (He.ga K q.1)) none = some q.2 := by
  exact find_of (l := kinds) (fun _ h => inA h) KO hq
theorem clsW_ofF (KO : KindOk K mg) {q : Str × Str} {d : Addr} (hq : q ∈ kindsF) : clsW K (.ref (He.ga K q.1)) (some d) = some q.2 := by
  exact find_of (l := kindsF) (fun _ h => inF h) KO hq
end
def kindD (ix : Str → Option Bool) (iv : Option Bool) (a : Addr) (d : Option Addr) : DS :=
  dSeq (dSet 1 (dFrz (dLst (dCons (dIs (ix "NoBound") a d 0) (dCons (dIs (ix "NoPrime") a d 0) (dCons (dIs (ix "NoPower") a d 0) (dCons (dIs (ix "NoNumber") a d 0) dNil)))))))
  (dSeq (dSet 1 (dFrz (dF2 catT (dVar 1) (dFrz (dLst (dCons (dIs (ix "NoFunction") a d 0) (dCons (dIs (ix "NoPoly") a d 0) (dCons (dIs (ix "Apart") a d 0) dNil))))))))
  (dSeq (dSet 1 (dFrz (dF2 catT (dVar 1) (dFrz (dLst (dCons (dIs (ix "NoRow") a d 0) (dCons (dIs (ix "NoList") a d 0) (dCons (dIs (ix "NoText") a d 0) (dCons (dIs (ix "TooGreat") a d 0) dNil)))))))))
  (dSeq (dCond (dOrB (dNotB (dTest (dIs iv a d 0))) (dTest (d2 neT (dLM countT (dVar 1) (dC (.bl true))) (dC (.int 1))))) (dRet (dC (.str "other"))) dNext)
  (dSeq (dSet 2 (dFrz (dLst (dCons (dC (.str "bound")) (dCons (dC (.str "prime")) (dCons (dC (.str "power")) (dCons (dC (.str "number")) (dCons (dC (.str "function")) (dCons (dC (.str "poly")) (dCons (dC (.str "apart")) (dCons (dC (.str "row")) (dCons (dC (.str "list")) (dCons (dC (.str "text")) dNil)))))))))))))
  (dRet (dIx (dFrz (dF2 catT (dVar 2) (dFrz (dLst (dCons (dC (.str "great")) dNil))))) (dLM indexT (dVar 1) (dC (.bl true)))))))))
theorem kind_run {ix : Str → Option Bool} {a : Addr} {d : Option Addr} {t : T} {c : Cs} {q : Str × Str} (hq : q ∈ kindsA) (ht : tAd t = some (a, d)) (h : ∀ m ∈ elevens, ix m = some (m == q.1)) : runF 3 (kindD ix (some true) a d) [t] c = .ok (.str q.2) c := by
  have e : ∀ m ∈ elevens, ix m = some (m == q.1) := h
  simp only [elevens, List.forall_mem_cons] at e
  obtain ⟨e1, e2, e3, e4, e5, e6, e7, e8, e9, e10, e11, _⟩ := e
  have hs : ∀ {i : Nat} {b : Option Bool} {r : Env} {c : Cs}, r[i]? = some (.val t) → dIs b a d i r c = lift (b.map T.bl) c := fun {i b r c} h => by
    unfold dIs; rw [h]; simp [ht]
  simp only [kindsA, kinds, kindsF, List.cons_append, List.nil_append, List.mem_cons, List.not_mem_nil, or_false] at hq
  rcases hq with rfl | rfl | rfl | rfl | rfl | rfl | rfl | rfl | rfl | rfl | rfl <;> (unfold runF kindD; rw [e1, e2, e3, e4, e5, e6, e7, e8, e9, e10, e11]; simp [hs, entE]; rfl)
section
variable {P : Program} {w : World} {K : PySem.W.Frag} {mg : Str → Option Value}
theorem ok_bare {H : Hp} (tb : LamX.Tabs (tabsOf K) H) : Ok K (fun _ => none) [] [] H := ⟨fun a o z => (by cases (show (none : Option HO) = some o from z)), fun n a z => (by simp at z), rfl, List.nodup_nil, fun a ps z => (by cases (show (none : Option HO) = some _ from z)), tb⟩
theorem kind_mk {st : Stmt} {N : List Str} (D : Def K mg "_law_kind" st) (S : FnScope N ["_law_e"] (defScope st))
    (hb : ∀ (kV doc pm : Value) (an : Option Addr) (cdv ct : Value) (us : List Value), us.length = ([("_law_e" : Str)] : List Str).length → bindArgs (PySem.W.fnOf "_law_kind" "_law_kind" (defArgs st) (defBody st) (defScope st) .none kV doc pm an cdv ct) ⟨us, []⟩ = pure (([("_law_e" : Str)] : List Str).zip us))
    (KO : KindOk K mg) (hN : N.length = 3)
    (h : ∀ (base : Heap) (f : Addr) (cdv : Value) (A : Around) (outer : List PySem.Env) (s : Shared) (H : Hp) (a : Addr) (oe : Obj) (D : Addr) (d : Option Addr), (L2H.cxH CX0 P w K mg base N "_law_kind" (defScope st) f cdv A outer s H E0 (a, oe)).A.units + 65 < cLine → xcB K D = true → Zc (.ref D) d oe → (∃ vs, oe.data = .fields vs) →
      ∃ ts, SSs (L2H.cxH CX0 P w K mg base N "_law_kind" (defScope st) f cdv A outer s H E0 (a, oe)) W0 (defBody st) ts (kindD (fun m => PySem.W.kitOne K (.ref D) (.ref (He.ga K m))) (PySem.W.kitOne K (.ref D) (.type "ValueError")) a d)) : Kind P w K mg := by
  obtain ⟨fd, F, gm⟩ := D
  refine ⟨⟨_, fd, gm, F.kp, binds_any (F.bindsA hb), ?_⟩⟩
  obtain ⟨oc, od, dV, kV, doc, pm, an, cdv, ct, osl, rfl, lk, hcd, _, _⟩ := F.ex
  intro base A outer s H args us Q p cls d word F1 k1 c1 t1 bo hr hpin hz hf hcw ok1 rp1 ht1 e0 hbt rv hq
  obtain ⟨q, hqk, rfl, rfl⟩ := clsW_some hcw
  have old : ∀ b o, base.get? b = some o → s.heap.get? b = some o := fun b o e => (e0.bs b o e).1
  have KX := e0.mod.kin.keeps old
  have par : ∀ y ∈ (([("_law_e" : Str)] : List Str)).zip us, (defScope st).names.lookup y.1 = some .local ∨ ((defScope st).names.lookup y.1 = some .cell ∧ ((cellsFrom (s.heap.objs.size + 1) (defScope st).names []).lookup y.1).isSome = true) := by
    rintro ⟨n, v⟩ hy
    exact (S.par n (List.of_mem_zip hy).1).imp id fun q => ⟨q, PySem.W.cellsFrom_some _ _ _ (.inl q)⟩
  have hu : (L2H.cxH CX0 P w K mg base N "_law_kind" (defScope st) (He.ga K "_law_kind") cdv A outer s H E0 (p.1, p.2)).A.units + 65 < cLine := u65H (hr.deeper _)
  obtain ⟨t, ht⟩ := h base _ cdv A outer s H p.1 p.2 _ d hu (KO.xc q hqk) hz hf
  have run := kind_run (ix := fun m => PySem.W.kitOne K (.ref (He.ga K q.1)) (.ref (He.ga K m))) (a := p.1) (c := c1) hqk ht1 (KO.is q hqk)
  rw [← KO.isV q hqk, ← hN] at run
  have hq0 : t { nx := fun _ H' => Q .non H', rt := Q } (L2.start N [.ref p.1]) H := by
    refine ht.rd ⟨H, F1, k1⟩ (entE N.length [t1]) c1 F1 k1 _ H _ (SR.start (NN := N) ok1 (.cons rp1 .nil)) ?_
    unfold runF at run
    cases e : kindD (fun m => PySem.W.kitOne K (.ref (He.ga K q.1)) (.ref (He.ga K m))) (PySem.W.kitOne K (.ref (He.ga K q.1)) (.type "ValueError")) p.1 d (entE N.length [t1]) c1 with
    | stk => rw [e] at run; cases run
    | err er c1 => rw [e] at run; cases run
    | ok x c1 =>
      rw [e] at run
      cases x with
      | nxt r => cases run
      | ret u =>
        cases run
        exact fun v F1 k1 H1 ok1 g1 r1 => hq v F1 k1 H1 ok1 g1 r1
  refine codeAny_call_function hr.depth (KX _ _ lk) rfl S.co S.gen rfl (PySem.W.codeRec_of KX hcd) (hbt _ _ _ _ (wpAny_newFunctionEnv_cells S.kind par fun env he s1 y => ?_))
  subst he
  refine ⟨(e0.mod.nolimit.keeps old).keeps y.toInCall.keep, codeAny_func (wpAny_mono (ht.pe.run [] s1 (start N [.ref p.1]) H _ (L2H.inv_startH (p := (p.1, p.2)) S hpin e0 rfl rv y) hq0) (fun fl s' z => ?_) fun e s' z => z)⟩
  cases fl with
  | ret u => obtain ⟨v, _, H', J, rv, q⟩ := z; exact ⟨v, H', J.os, J.bare, J.base, J.hok, rv, q⟩
  | next => obtain ⟨_, H', J, q⟩ := z; exact ⟨V.non, H', J.os, J.bare, J.base, J.hok, rfl, q⟩
  | brk => exact z.elim fun _ z => z.elim fun _ z => z.2.elim
  | cont => exact z.elim fun _ z => z.elim fun _ z => z.2.elim
end
structure HotH (P : Program) (w : World) (K : PySem.W.Frag) (mg : Str → Option Value) (x : Str) (ps : List Str) (df : DF) : Prop where
  ex : ∃ f fd, mg x = some (.ref f) ∧ PySem.W.keepIn K (.ref f) = true ∧ L2.Binds K fd ps [] ∧
    ∀ (base : Heap) (A : Around) (outer : List PySem.Env) (s : Shared) (H : Hp) (args : Args) (us : List Value) (vs : List V) (Q : VK) (p : Addr × Obj) (F : Hp) (k : List Addr) (c : Cs) (ts : List T), BaseOk K mg base → L2H.RoomH 1 A → L2H.PinOk outer H s p →
      Env0 P w K mg base A outer s H → BindsTo s fd args (ps.zip us) → Vals vs us → ts.length = ps.length → Ok K F k c H → Reps K F k ts vs → Post K mg (RV K) F k H (df ts c) Q W0 → codeAny (model P w) A (.call (.ref f) args) (CR CX0 outer P w H s Q E0) s
section
variable {P : Program} {w : World} {K : PySem.W.Frag} {mg : Str → Option Value}
theorem hot_mk {x : Str} {st : Stmt} {N ps : List Str} {ds : DS} (D : Def K mg x st) (S : FnScope N ps (defScope st))
    (hb : ∀ (kV doc pm : Value) (an : Option Addr) (cdv ct : Value) (us : List Value), us.length = ps.length → bindArgs (PySem.W.fnOf x x (defArgs st) (defBody st) (defScope st) .none kV doc pm an cdv ct) ⟨us, []⟩ = pure (ps.zip us))
    (h : ∀ (base : Heap) (f : Addr) (cdv : Value) (A : Around) (outer : List PySem.Env) (s : Shared) (H : Hp) (p : Addr × Obj), ∃ ts, SSs (L2H.cxH CX0 P w K mg base N x (defScope st) f cdv A outer s H E0 p) W0 (defBody st) ts ds) : HotH P w K mg x ps (runF N.length ds) := by
  obtain ⟨fd, F, gm⟩ := D
  refine ⟨⟨_, fd, gm, F.kp, binds_any (F.bindsA hb), ?_⟩⟩
  obtain ⟨oc, od, dV, kV, doc, pm, an, cdv, ct, osl, rfl, lk, hcd, _, _⟩ := F.ex
  intro base A outer s H args us vs Q p F1 k1 c1 ts bo hr hpin e0 hbt rv hl ok1 rp1 hq
  have old : ∀ b o, base.get? b = some o → s.heap.get? b = some o := fun b o e => (e0.bs b o e).1
  have KX := e0.mod.kin.keeps old
  have par : ∀ y ∈ ps.zip us, (defScope st).names.lookup y.1 = some .local ∨ ((defScope st).names.lookup y.1 = some .cell ∧ ((cellsFrom (s.heap.objs.size + 1) (defScope st).names []).lookup y.1).isSome = true) := by
    rintro ⟨n, v⟩ hy
    exact (S.par n (List.of_mem_zip hy).1).imp id fun q => ⟨q, PySem.W.cellsFrom_some _ _ _ (.inl q)⟩
  obtain ⟨t, ht⟩ := h base (He.ga K x) cdv A outer s H p
  have hq0 : t { nx := fun _ H' => Q .non H', rt := Q } (L2.start N vs) H := by
    refine ht.rd ⟨H, F1, k1⟩ (entE N.length ts) c1 F1 k1 _ H _ (SR.start (NN := N) ok1 rp1) ?_
    unfold runF at hq
    cases e : ds (entE N.length ts) c1 with
    | stk => rw [e] at hq; exact hq
    | ok a c2 =>
      rw [e] at hq
      cases a with
      | nxt r => exact fun σ H1 F1 k1 S1 _ _ => hq .non F1 k1 H1 S1.ok S1.ge .non
      | ret t => exact fun v F1 k1 H1 ok1 g1 r1 => hq v F1 k1 H1 ok1 g1 r1
    | err er c2 => rw [e] at hq; exact fun cls d F1 k1 H1 ok1 g1 r1 => hq cls d F1 k1 H1 ok1 g1 r1
  refine codeAny_call_function hr.depth (KX _ _ lk) rfl S.co S.gen rfl (PySem.W.codeRec_of KX hcd) (hbt _ _ _ _ (wpAny_newFunctionEnv_cells S.kind par fun env he s1 y => ?_))
  subst he
  refine ⟨(e0.mod.nolimit.keeps old).keeps y.toInCall.keep, codeAny_func (wpAny_mono (ht.pe.run [] s1 (start N vs) H _ (L2H.inv_startH (p := (p.1, p.2)) S hpin e0 (by rw [← hl, ← rp1.length]) rv y) hq0) (fun fl s' z => ?_) fun e s' z => z)⟩
  cases fl with
  | ret u => obtain ⟨v, _, H', J, rv, q⟩ := z; exact ⟨v, H', J.os, J.bare, J.base, J.hok, rv, q⟩
  | next => obtain ⟨_, H', J, q⟩ := z; exact ⟨V.non, H', J.os, J.bare, J.base, J.hok, rfl, q⟩
  | brk => exact z.elim fun _ z => z.elim fun _ z => z.2.elim
  | cont => exact z.elim fun _ z => z.elim fun _ z => z.2.elim
end
def dHot (n : Nat) (df : DF) (a : DA) : D := fun r c => (a r c).bind fun ts c => if ts.length = n then noErr (df ts c) else .stk
def tHot (K : PySem.W.Frag) (mg : Str → Option Value) (n : Nat) (df : DF) (t : TA) : TE := fun σ H Q => t σ H fun vs H1 => ∃ F k c ts, ts.length = n ∧ Ok K F k c H1 ∧ Reps K F k ts vs ∧ Post K mg (RV K) F k H1 (df ts c) Q W0
section
variable {X : Cx} {W : XK}
theorem ee_hot (K : PySem.W.Frag) (mg : Str → Option Value) {P : Program} {w : World} {a : Addr} {oe : Obj} {x : Str} {ps : List Str} {df : DF} {e : Expr} {t : TA} {da : DA} {p pos : Pos} (bo : BaseOk K mg X.base) (hh : HotH P w K mg x ps df) (hr : L2H.RoomH 1 X.A) (hp : (a, oe) ∈ X.pn)
    (hx : ∀ (pins : List (Addr × Obj)) (σ : L2.St) (H : Hp) (s : Shared) (e : Value) (s' : Shared), Inv X pins σ H s → CX0 X.stack H s E0 e s' → X.xe e s')
    (ha : EA X W [e] t da) (hg : Gl X x := by rfl) (hdb : (x == ("__debug__" : Str)) = false := by decide) (hs : starEach [e] X.env = (false, eval e X.env) :: starEach [] X.env := by rfl) (hpl : (backTo pos (starEach [] X.env)).any (·.1) = false := by rfl)
    (hK : X.K = K := by rfl) (hM : X.mg = mg := by rfl) (hP : X.prog = P := by rfl) (hw : X.w = w := by rfl) :
    EE X W (.Call (.Name x p) [e] [] pos) (tHot K mg ps.length df t) (dHot ps.length df da) := by
  subst hK hM hP hw
  obtain ⟨f, fd, hm, hk, hb, run⟩ := hh.ex
  refine ⟨⟨fun pins s σ H Q I h => ?_⟩, fun N r c F kk σ H Q S pp => ?_⟩
  · refine wpAny_Call_Name_kw (ld_glob I hg hm ?_ hdb)
    refine PySem.W.callWith_K (h₀ := X.base) I.ok.mod.kin hk (thn (ha.pe.run pos pins s σ H _ I h) fun us s1 ⟨vs, H1, J, rv, F0, k0, c0, ts0, hl0, ok0, rp0, hq⟩ => ⟨J.kIn, ?_⟩) hs hpl
    have hl : us.length = ps.length := by rw [← rv.length, ← rp0.length, hl0]
    have pin := J.pin (a, oe) (List.mem_append_left _ hp)
    have po : L2H.PinOk X.stack H1 s1 (a, oe) := ⟨pin.1, pin.2.1, fun hm => (List.mem_cons.mp (J.stkSub _ hm)).elim pin.2.2.1 pin.2.2.2.1, pin.2.2.2.2⟩
    have bd := hb s1 us J.kIn (by rw [List.append_nil, hl])
    rw [List.append_nil] at bd
    refine wpAny_call (codeAny_mono (run X.base X.A X.stack s1 H1 ⟨us, []⟩ us vs Q (a, oe) F0 k0 c0 ts0 bo hr po J.env0 bd rv hl0 ok0 rp0 hq) fun o s' z => ?_)
    cases o with
    | error ex => exact hx pins σ H1 s1 ex s' J z
    | ok fl => cases fl <;> first | exact J.after z | exact False.elim z
  · refine ha.rd N r c F kk σ H _ S (pp.seq fun ts c1 vs F1 k1 H1 q1 ok1 g1 r1 p1 => ?_)
    clear q1
    by_cases hl : ts.length = ps.length
    · rw [if_pos hl] at p1
      refine ⟨F1, k1, c1, ts, hl, ok1, r1, ?_⟩
      cases hdf : df ts c1 with
      | stk => rw [hdf] at p1; exact p1
      | ok t c2 => rw [hdf] at p1; exact p1
      | err e c2 => rw [hdf] at p1; exact p1.elim
    · rw [if_neg hl] at p1; exact p1.elim
end
def XfOk (K : PySem.W.Frag) (cls : Value) (f : Str) : Prop := ∃ C, cls = .ref C ∧ XfC K C ∧ PySem.W.findIn K (.ref C) f = some none
open Classical in
noncomputable def dXf (K : PySem.W.Frag) (cls : Value) (d : Option Addr) (a : Addr) (f : Str) (i : Nat) : D := fun r c => match r[i]? with
  | some (.val (.exo a' d' ks vs)) => if a' = a ∧ d = some d' ∧ XfOk K cls f then lift ((ks.zip vs).lookup f) c else .stk
  | _ => .stk
def tXfG (K : PySem.W.Frag) (a : Addr) (cls : Value) (d : Option Addr) (f : Str) (te : TE) : TE := fun σ H Q => ∃ C, (cls = .ref C ∧ XfC K C ∧ PySem.W.findIn K (.ref C) f = some none) ∧ tXf a cls d C f te σ H Q
theorem reps_lookup {K : PySem.W.Frag} {F : Hp} {k : List Addr} {f : Str} {t : T} : ∀ {kvs : List (Str × V)} {vs : List T}, Reps K F k vs (kvs.map Prod.snd) → ((kvs.map Prod.fst).zip vs).lookup f = some t → ∃ v, kvs.lookup f = some v ∧ Rep K F k t v
  | [], _, _, h => by simp at h
  | (g, v) :: kvs, [], h, _ => by cases h
  | (g, v) :: kvs, u :: vs, h, e => by
    cases h with
    | cons a b =>
      simp only [List.map_cons, List.zip_cons_cons, List.lookup] at e ⊢
      cases hg : f == g with
      | true =>
        rw [hg] at e
        cases e
        exact ⟨v, rfl, a⟩
      | false =>
        rw [hg] at e
        exact reps_lookup b e
theorem ee_xf {X : Cx} {W : XK} (K : PySem.W.Frag) {a : Addr} {oe : Obj} {cls : Value} {d : Option Addr} {pn : List (Addr × Obj)} {e f : Str} {p2 pos : Pos} {i : Nat} (hz : Zc cls d oe) (hf : ∃ vs, oe.data = .fields vs)
    (he : PE (X.suite a ((a, oe) :: pn)) (.Name e p2) (tVar i)) (hb : attributeBase (.Name e p2) f X.env (eval (.Name e p2) X.env) = eval (.Name e p2) X.env := by rfl) (hK : X.K = K := by rfl) :
    EE (X.suite a ((a, oe) :: pn)) W (.Attribute (.Name e p2) f pos) (tXfG K a cls d f (tVar i)) (dXf K cls d a f i) := by
  subst hK
  refine ⟨⟨fun pins s σ H Q I h => ?_⟩, fun N r c F kk σ H Q S pp => ?_⟩
  · obtain ⟨C, ⟨_, T, hno⟩, h⟩ := h
    exact (pe_xf (X := X) T hno hz hf he hb).run pins s σ H Q I h
  · unfold dXf at pp
    split at pp
    · rename_i a' d' ks vs e1
      split at pp
      · rename_i e2
        obtain ⟨rfl, rfl, C, hc, hT, hno⟩ := e2
        obtain ⟨v, h1, h2⟩ := S.val i _ e1
        cases h2 with
        | exo hF hk hr =>
          subst hk
          cases hl : ((List.map Prod.fst _).zip vs).lookup f with
          | none => rw [hl] at pp; exact pp.elim
          | some t =>
            rw [hl] at pp
            obtain ⟨v, l1, l2⟩ := reps_lookup hr hl
            exact ⟨C, ⟨hc, hT, hno⟩, .ref a', h1, rfl, hc, d', _, v, rfl, S.ok.sub _ _ hF, l1, pp v F kk H S.ok Ge.refl l2⟩
      · exact pp.elim
    · exact pp.elim
def whD : DS := dRet (dAndV (d1 (isiT "int") (dVar 0)) (dNotV (d1 (isiT "bool") (dVar 0))))
theorem wh_int {i : Int} {c : Cs} : runF 1 whD [.int i] c = .ok (.bl true) c := by
  unfold runF whD
  simp [entE]
noncomputable def dFld (K : PySem.W.Frag) (cls : Value) (d : Option Addr) (a : Addr) (f : Str) : D := dIf (dTest (dHot 1 (runF 1 whD) (dCons (dXf K cls d a f 2) dNil))) (dXf K cls d a f 2) (dC .non)
noncomputable def suiteD (K : PySem.W.Frag) (cls : Value) (d : Option Addr) (a : Addr) : DS :=
  dSeq (dSet 3 (dKind K cls d a 2))
  (dSeq (dCond (dTest (d2 inT (dVar 3) (dTup (dCons (dC (.str "list")) (dCons (dC (.str "text")) dNil))))) (dRet (dTup (dCons (dVar 3) (dCons (dFld K cls d a "at") dNil)))) dNext)
  (dSeq (dCond (dTest (d2 eqT (dVar 3) (dC (.str "great")))) (dRet (dTup (dCons (dVar 3) (dCons (dFld K cls d a "many") (dCons (dFld K cls d a "most") dNil))))) dNext)
  (dRet (dTup (dCons (dVar 3) dNil)))))
theorem suite_run {K : PySem.W.Frag} {mg : Str → Option Value} (KO : KindOk K mg) {a : Addr} {c : Cs} {q : Str × Str} (hq : q ∈ kinds) : suiteD K (.ref (He.ga K q.1)) none a [.un, .un, .val (.adr a), .un] c = .ok (.ret (.tup [.str q.2])) c := by
  have hw := clsW_of KO hq
  have hs : ∀ {r : Env} {c : Cs}, r[2]? = some (.val (.adr a)) → dKind K (.ref (He.ga K q.1)) none a 2 r c = .ok (.str q.2) c := fun {r c} h => by
    unfold dKind; rw [h]; simp only [tAd, if_pos, hw, Option.map_some, lift_some]
  have h1 : inT (.str q.2) (.tup [.str "list", .str "text"]) = some (.bl false) := by
    simp only [kinds, List.mem_cons, List.not_mem_nil, or_false] at hq
    rcases hq with rfl | rfl | rfl | rfl | rfl | rfl | rfl | rfl <;> (simp [inT, inB, flatT, inD, eqD, pyT, PyData.eqv]; try decide)
  have h2 : eqT (.str q.2) (.str "great") = some (.bl false) := by
    simp only [kinds, List.mem_cons, List.not_mem_nil, or_false] at hq
    rcases hq with rfl | rfl | rfl | rfl | rfl | rfl | rfl | rfl <;> (simp [eqT, plain, plT, eqD, pyT, PyData.eqv]; decide +kernel)
  unfold suiteD
  simp [hs, h1, h2]
theorem lookup_snd {f g : Str} {x y : T} (h : f ≠ g) : (([g, f] : List Str).zip [x, y]).lookup f = some y := by
  have : (f == g) = false := by simpa using h
  simp [List.lookup, this]
theorem lookup_fst {f g : Str} {x y : T} : (([g, f] : List Str).zip [x, y]).lookup g = some x := by simp [List.lookup]
theorem fld_run {K : PySem.W.Frag} {cls : Value} {d a : Addr} {f : Str} {ks : List Str} {vs : List T} {i : Int} {b : B} {c : Cs} (hx : XfOk K cls f) (hl : (ks.zip vs).lookup f = some (.int i)) : dFld K cls (some d) a f [.un, .un, .val (.exo a d ks vs), b] c = .ok (.int i) c := by
  have h : dXf K cls (some d) a f 2 [.un, .un, .val (.exo a d ks vs), b] c = .ok (.int i) c := by
    unfold dXf
    simp [hx, hl]
  unfold dFld
  simp [h, dHot, wh_int, noErr]
theorem suite_runF {K : PySem.W.Frag} {mg : Str → Option Value} (KO : KindOk K mg) {a d : Addr} {c : Cs} {e : Er} {t : T} (hs : saidF e = some t) : suiteD K (.ref (He.ga K e.cls)) (some d) a [.un, .un, .val (.exo a d (e.fs.map Prod.fst) (e.fs.map Prod.snd)), .un] c = .ok (.ret t) c := by
  have hk : ∀ {q : Str × Str} (hq : q ∈ kindsF) {ks : List Str} {vs : List T}, dKind K (.ref (He.ga K q.1)) (some d) a 2 [.un, .un, .val (.exo a d ks vs), .un] c = .ok (.str q.2) c := fun {q} hq {ks vs} => by
    have hw := clsW_ofF (d := d) KO hq
    unfold dKind
    simp [tAd, hw]
  have hx : ∀ {q : Str × Str} (hq : q ∈ kindsF) {f : Str} (hf : f ∈ fieldsA), XfOk K (.ref (He.ga K q.1)) f := fun {q} hq {f} hf => ⟨_, rfl, KO.xf q hq, KO.no q hq f hf⟩
  obtain ⟨cls, fs⟩ := e
  unfold saidF at hs
  dsimp only at hs ⊢
  split at hs
  · rename_i f i
    split at hs
    · rename_i h
      obtain ⟨rfl, rfl⟩ := h
      cases hs
      have m : (("NoList", "list") : Str × Str) ∈ kindsF := by decide
      have h0 := hk m (ks := ["at"]) (vs := [.int i])
      have h1 : ∀ b, dFld K (.ref (He.ga K "NoList")) (some d) a "at" [.un, .un, .val (.exo a d ["at"] [.int i]), b] c = .ok (.int i) c := fun b => fld_run (hx m (by decide)) rfl
      have h2 : inT (.str "list") (.tup [.str "list", .str "text"]) = some (.bl true) := by simp [inT, inB, flatT, inD, eqD, pyT, PyData.eqv]
      unfold suiteD
      simp [h0, h1, h2]
    · split at hs
      · rename_i h
        obtain ⟨rfl, rfl⟩ := h
        cases hs
        have m : (("NoText", "text") : Str × Str) ∈ kindsF := by decide
        have h0 := hk m (ks := ["at"]) (vs := [.int i])
        have h1 : ∀ b, dFld K (.ref (He.ga K "NoText")) (some d) a "at" [.un, .un, .val (.exo a d ["at"] [.int i]), b] c = .ok (.int i) c := fun b => fld_run (hx m (by decide)) rfl
        have h2 : inT (.str "text") (.tup [.str "list", .str "text"]) = some (.bl true) := by simp [inT, inB, flatT, inD, eqD, pyT, PyData.eqv]
        unfold suiteD
        simp [h0, h1, h2]
      · cases hs
  · rename_i f j g i
    split at hs
    · rename_i h
      obtain ⟨rfl, rfl, rfl⟩ := h
      cases hs
      have m : (("TooGreat", "great") : Str × Str) ∈ kindsF := by decide
      have h0 := hk m (ks := ["most", "many"]) (vs := [.int j, .int i])
      have h1 : ∀ b, dFld K (.ref (He.ga K "TooGreat")) (some d) a "many" [.un, .un, .val (.exo a d ["most", "many"] [.int j, .int i]), b] c = .ok (.int i) c := fun b => fld_run (hx m (by decide)) (lookup_snd (by decide))
      have h2 : ∀ b, dFld K (.ref (He.ga K "TooGreat")) (some d) a "most" [.un, .un, .val (.exo a d ["most", "many"] [.int j, .int i]), b] c = .ok (.int j) c := fun b => fld_run (hx m (by decide)) lookup_fst
      have h3 : inT (.str "great") (.tup [.str "list", .str "text"]) = some (.bl false) := by simp [inT, inB, flatT, inD, eqD, pyT, PyData.eqv]; decide
      have h4 : eqT (.str "great") (.str "great") = some (.bl true) := by simp [eqT, plain, plT, eqD, pyT, PyData.eqv]; decide +kernel
      unfold suiteD
      simp [h0, h1, h2, h3, h4]
    · cases hs
  · cases hs
theorem saidF_in {e : Er} {t : T} (hs : saidF e = some t) : ∃ w, (e.cls, w) ∈ kindsF ∧ e.fs ≠ [] := by
  obtain ⟨cls, fs⟩ := e
  unfold saidF at hs
  dsimp only at hs ⊢
  split at hs
  · split at hs
    · rename_i h; obtain ⟨rfl, rfl⟩ := h; exact ⟨"list", by decide, by simp⟩
    · split at hs
      · rename_i h; obtain ⟨rfl, rfl⟩ := h; exact ⟨"text", by decide, by simp⟩
      · cases hs
  · split at hs
    · rename_i h; obtain ⟨rfl, rfl, rfl⟩ := h; exact ⟨"great", by decide, by simp⟩
    · cases hs
  · cases hs
abbrev sCx (P : Program) (w : World) (K : PySem.W.Frag) (mg : Str → Option Value) (base : Heap) (Ng : List Str) (st : Stmt) (g : Addr) (cdv : Value) (A : Around) (outer : List PySem.Env) (s : Shared) (H : Hp) : Cx := (cxOf C8.CX0 P w K mg base Ng "_law_said" (defScope st) g cdv A outer s H C8.E0).nox
section
variable {P : Program} {w : World} {K : PySem.W.Frag} {mg : Str → Option Value}
theorem said_mk {st b0 : Stmt} {suite : List Stmt} {rt : Expr} {a1 a2 a3 a4 a5 a6 a7 a13 : Pos} (D : Def K mg "_law_said" st) (S : FnScope ["_law_call", "_law_found", "_law_e", "_law_word"] ["_law_call"] (defScope st))
    (hb : ∀ (kV doc pm : Value) (an : Option Addr) (cdv ct : Value) (us : List Value), us.length = ([("_law_call" : Str)] : List Str).length → bindArgs (PySem.W.fnOf "_law_said" "_law_said" (defArgs st) (defBody st) (defScope st) .none kV doc pm an cdv ct) ⟨us, []⟩ = pure (([("_law_call" : Str)] : List Str).zip us))
    (KO : KindOk K mg)
    (hbody : defBody st = [.Try [.Assign [.Name "_law_found" a1] (.Call (.Name "_law_call" a2) [] [] a3) a4] [.ExceptHandler (some (.Name "OnceError" a5)) (some "_law_e") (b0 :: suite) a6] [] [] a7, .Return (some rt) a13])
    (hge : (defScope st).names.lookup ("OnceError" : Str) = some .globalImplicit) (hln : (defScope st).names.lookup ("_law_e" : Str) = some .local) (hv : Vis (defScope st) "_law_call")
    (hasg : ∀ (base : Heap) (g : Addr) (cdv : Value) (A : Around) (outer : List PySem.Env) (s : Shared) (H : Hp) (pn : List (Addr × Obj)) (xe : Value → Shared → Prop) (te : TE), PE ((sCx P w K mg base ["_law_call", "_law_found", "_law_e", "_law_word"] st g cdv A outer s H).tr pn xe) (.Call (.Name "_law_call" a2) [] [] a3) te →
      PS ((sCx P w K mg base ["_law_call", "_law_found", "_law_e", "_law_word"] st g cdv A outer s H).tr pn xe) (.Assign [.Name "_law_found" a1] (.Call (.Name "_law_call" a2) [] [] a3) a4) (tAsg te (gName 1)))
    (hret : ∀ (base : Heap) (g : Addr) (cdv : Value) (A : Around) (outer : List PySem.Env) (s : Shared) (H : Hp), PE (sCx P w K mg base ["_law_call", "_law_found", "_law_e", "_law_word"] st g cdv A outer s H) rt (tTupN (tCons (tC (.str "told")) (tCons (tVar 1) tNil))))
    (hsu : ∀ (base : Heap) (g : Addr) (cdv : Value) (A : Around) (outer : List PySem.Env) (s : Shared) (H : Hp), BaseOk K mg base → L2H.RoomH 1 (A.deeper (envOfC "_law_said" (defScope st) s.heap.objs.size g cdv)) → ∃ ts : Addr → Value → Option Addr → TS, ∀ (a : Addr) (oe : Obj) (cls : Value) (d : Option Addr) (pn : List (Addr × Obj)), Zc cls d oe → (∃ vs, oe.data = .fields vs) →
      SSs ((sCx P w K mg base ["_law_call", "_law_found", "_law_e", "_law_word"] st g cdv A outer s H).suite a ((a, oe) :: pn)) W0 (b0 :: suite) (ts a cls d) (suiteD K cls d a)) : Said P w K mg 1 := by
  obtain ⟨fd, F, gm⟩ := D
  have hbi := binds_any (K := K) (F.bindsA hb)
  obtain ⟨oc, od, dV, kV, doc, pm, an, cdv, ct, osl, rfl, lk, hcd, _, _⟩ := F.ex
  refine ⟨⟨_, _, _, dV, kV, doc, pm, cdv, ct, oc, an, od, osl, _, gm, F.kp, lk, hcd, hbi, S, rfl, hv, fun X q hP hw hK hM bo hr => ?_⟩⟩
  subst hP hw hK hM
  intro f c' s H Q tl act hco h
  obtain ⟨F0, k0, c0, o, ok, hl, hp⟩ := h
  obtain ⟨ts, hts⟩ := hsu X.base (He.ga X.K "_law_said") cdv X.A X.stack s H bo (L2H.roomH_of (hr.deeper _))
  rw [hbody]
  have hgl : Gl (sCx X.prog X.w X.K X.mg X.base ["_law_call", "_law_found", "_law_e", "_law_word"] st (He.ga X.K "_law_said") cdv X.A X.stack s H) "OnceError" := hge
  refine ⟨_, pss_cons (ps_try_as (i := 2) (c := .ref (He.ga X.K "OnceError"))
      (tb := fun W D σ H => ∃ Ech : XK, (∀ cls d σ' H', σ'.length = 4 → Ech cls d H' → W cls d σ' H') ∧ σ[0]? = some (some (.ref f)) ∧ H c' = some (LamX.CodeO c' q) ∧ tl Ech H fun v H' => D.nx (σ.set 1 (some v)) H')
      rfl rfl S.nd rfl hln ⟨hgl, by decide, .inl (KO.gl _ List.mem_cons_self)⟩ LamX.takes0 (fun W pn xe tk _ => ?_) (fun a oe cls d pn hz hf => (hts a oe cls d pn hz hf).pe)) (pss_one (ps_ret (hret _ _ _ _ _ _ _))), ?_⟩
  · refine ⟨fun pins s' σ H' D I h' => ?_⟩
    obtain ⟨Ech, hW, h1, h2, h3⟩ := h'
    have tk' : Takes ((sCx X.prog X.w X.K X.mg X.base ["_law_call", "_law_found", "_law_e", "_law_word"] st (He.ga X.K "_law_said") cdv X.A X.stack s H).tr pn xe) (fun cls d σ H => σ.length = 4 → W cls d σ H) := fun u s' x => by
      obtain ⟨a, B, sI, pins, σ, H, cls, d, e, J, nb, up, sky, na, os, ag, w⟩ := x
      exact tk u s' ⟨a, B, sI, pins, σ, H, cls, d, e, J, nb, up, sky, na, os, ag, w J.len⟩
    have hp := act (fun cls d σ H => σ.length = 4 → W cls d σ H) pn xe Ech a2 a3 tk' fun cls d σ' H' z hl => hW cls d σ' H' hl z
    exact (pss_one (hasg _ _ _ _ _ _ _ pn xe _ hp)).run pins s' σ H' D I ⟨h1, h2, h3⟩
  · refine ⟨fun cls d H' => ∀ σ' : L2.St, σ'.length = 4 → wAs X.K (.ref (He.ga X.K "OnceError")) 2 ts (fun _ _ _ _ => False) _ cls d σ' H', fun cls d σ' H' hl z => z σ' hl, rfl, hco, ?_⟩
    refine hl _ _ ?_
    cases o with
    | stk => exact hp.elim
    | ok t c1 =>
      intro v F1 k1 H1 ok1 g1 r1
      refine ⟨v, rfl, by show 2 ≤ sizeLine; rw [sizeLine_eq]; decide, ?_⟩
      exact Gives.tup (ts := [.str "told", t]) (fun b F2 k2 H2 ok2 g2 r2 => hp b F2 k2 H2 ok2 (g1.trans g2) r2) ok1 (.cons (.str _) (.cons r1 .nil))
    | err e c1 =>
      intro cls d F1 k1 H1 ok1 g1 rx σ' hl'
      simp only [saidT] at hp
      cases hw : wordOf e with
      | none =>
        rw [hw] at hp
        cases hf : saidF e with
        | none => rw [hf] at hp; exact hp.elim
        | some t =>
          rw [hf] at hp
          obtain ⟨wd, hq, hne⟩ := saidF_in hf
          obtain ⟨⟨C, m1, rfl⟩, m3⟩ := rx
          have in11 : ∀ q ∈ kindsF, q.1 ∈ elevens := by decide
          have m2 := KO.gl e.cls (List.mem_cons_of_mem _ (in11 _ hq))
          rw [m2] at m1
          cases m1
          obtain ⟨dd, fvs, rfl, m4, m5, m6⟩ : ∃ (dd : Addr) (fvs : List (Str × V)), d = some dd ∧ F1 dd = some (.xd fvs) ∧ fvs.map Prod.fst = e.fs.map Prod.fst ∧ Reps X.K F1 k1 (e.fs.map Prod.snd) (fvs.map Prod.snd) := by
            cases he : e.fs with
            | nil => exact absurd he hne
            | cons p ps => rw [he] at m3; exact m3
          refine ⟨true, KO.exm _ (inF hq), fun _ a na => ?_, fun z => by cases z⟩
          have S1 : SR X.K ⟨H1, F1, k1⟩ F1 k1 c1 [.un, .un, .val (.exo a dd (e.fs.map Prod.fst) (e.fs.map Prod.snd)), .un] (σ'.set 2 (some (.ref a))) H1 := by
            refine ⟨ok1, Ge.refl, by simp [hl'], fun i t z => ?_, fun i us z => ?_, fun i j b ⟨⟨us, z⟩, _⟩ _ => ?_, fun i us z => ?_⟩
            · rcases i with _ | _ | _ | _ | i
              · simp at z
              · simp at z
              · simp at z
                subst z
                exact ⟨_, by rw [List.getElem?_set_self (by omega)], .exo m4 m5 m6⟩
              · simp at z
              · simp at z
            · rcases i with _ | _ | _ | _ | i <;> simp at z
            · rcases i with _ | _ | _ | _ | i <;> simp at z
            · rcases i with _ | _ | _ | _ | i <;> simp at z
          have hz0 : Zc (.ref (He.ga X.K e.cls)) (some dd) ({ cls := .ref (He.ga X.K e.cls), dict := some dd, data := .fields #[] } : Obj) := ⟨rfl, rfl⟩
          refine (hts a { cls := .ref (He.ga X.K e.cls), dict := some dd, data := .fields #[] } _ (some dd) [] hz0 ⟨_, rfl⟩).rd ⟨H1, F1, k1⟩ _ c1 F1 k1 _ H1 _ S1 ?_
          rw [suite_runF KO hf]
          exact fun v F2 k2 H2 ok2 g2 r2 => hp v F2 k2 H2 ok2 (g1.trans g2) r2
      | some word =>
        rw [hw] at hp
        obtain ⟨ex, fs⟩ := e
        obtain ⟨⟨C, m1, rfl⟩, m3⟩ := rx
        cases fs with
        | cons _ _ => cases hw
        | nil =>
          have hq : (ex, word) ∈ kinds := PySem.mem_of_lookup hw
          have in11 : ∀ q ∈ kinds, q.1 ∈ elevens := by decide
          have m2 := KO.gl ex (List.mem_cons_of_mem _ (in11 _ hq))
          rw [m2] at m1
          cases m1
          obtain rfl : d = none := m3
          refine ⟨true, KO.exm _ (inA hq), fun _ a na => ?_, fun z => by cases z⟩
          have S1 : SR X.K ⟨H1, F1, k1⟩ F1 k1 c1 [.un, .un, .val (.adr a), .un] (σ'.set 2 (some (.ref a))) H1 := by
            refine ⟨ok1, Ge.refl, by simp [hl'], fun i t z => ?_, fun i us z => ?_, fun i j b ⟨⟨us, z⟩, _⟩ _ => ?_, fun i us z => ?_⟩
            · rcases i with _ | _ | _ | _ | i
              · simp at z
              · simp at z
              · simp at z
                subst z
                exact ⟨_, by rw [List.getElem?_set_self (by omega)], .adr a⟩
              · simp at z
              · simp at z
            · rcases i with _ | _ | _ | _ | i <;> simp at z
            · rcases i with _ | _ | _ | _ | i <;> simp at z
            · rcases i with _ | _ | _ | _ | i <;> simp at z
          have hz0 : Zc (.ref (He.ga X.K ex)) none ({ cls := .ref (He.ga X.K ex), dict := none, data := .fields #[] } : Obj) := ⟨rfl, rfl⟩
          refine (hts a { cls := .ref (He.ga X.K ex), dict := none, data := .fields #[] } _ none [] hz0 ⟨_, rfl⟩).rd ⟨H1, F1, k1⟩ _ c1 F1 k1 _ H1 _ S1 ?_
          rw [suite_run KO hq]
          exact fun v F2 k2 H2 ok2 g2 r2 => hp v F2 k2 H2 ok2 (g1.trans g2) r2
end
end Q
namespace Q
open PySem PySem.Spec PyProof.Rows L2
/-- what is looked at besides: the defs that may make lambdas, their tables, the classes of errors -/
def exB (kd : Bool) (names : List Str) (K : PySem.W.Frag) : Bool := decide (lamsOf K = names) && ((names.all fun x => names.all fun y => decide (x = y) || !decide (tabOf K x = tabOf K y)) && (!kd || kindB K))
structure Grd (kd : Bool) (names : List Str) (K : PySem.W.Frag) (mg : Str → Option Value) : Prop where
  lm : lamsOf K = names
  tu : TabsU K
  ko : kd = true → KindOk K mg
theorem grd_of {kd : Bool} {names : List Str} {K : PySem.W.Frag} {mg : Str → Option Value} {h : Heap} (X : K.In h) (G : h.Ns mainGlobals mg) (c : exB kd names K = true) : Grd kd names K mg := by
  unfold exB at c
  simp only [Bool.and_eq_true, decide_eq_true_eq, Bool.or_eq_true, Bool.not_eq_true', List.all_eq_true, decide_eq_false_iff_not] at c
  obtain ⟨c1, c2, c3⟩ := c
  refine ⟨c1, fun p hp q hq e => ?_, fun hk => kind_ok X G (c3.elim (fun z => by rw [hk] at z; cases z) id)⟩
  unfold tabsOf at hp hq
  rw [c1] at hp hq
  obtain ⟨x, hx, rfl⟩ := List.mem_map.mp hp
  obtain ⟨y, hy, rfl⟩ := List.mem_map.mp hq
  rcases c2 x hx y hy with z | z
  · rw [z]
  · exact absurd e z
theorem walk_law {l : PySem.W.OpenLaw} {n k : Nat} {q : Program} {loose : List Str} {XP : (Str → Option Value) → Heap → Prop} {YP : World → Heap → Prop} {d : DefRec} {x : Str} {kd : Bool} {names : List Str} {fa : List He.Fa} {fn : List He.DefD} {df : DF}
    (hn : l.most = some n) (hn2 : n ≤ sizeLine) (hdf : d.params.defaults = []) (hr : Room k callerA) (hname : d.name = "law")
    (hY : ∀ w h, YP w h → ∃ K : PySem.W.Frag, K.In h ∧ He.SaysX fa fn [] (names.map fun x => (x, none)) (exB kd names) w h K)
    (ht : ∀ ns : List Int, ns.length ≤ n → ∃ c, df [T.scr (ns.map T.int)] [] = .ok (.bl true) c)
    (F : ∀ (w : World) (mg : Str → Option Value) (K : PySem.W.Frag) (h : Heap), K.In h → h.Ns mainGlobals mg → He.SaysD fa fn K → Grd kd names K mg → HasG l.prog w K mg k "law" [x] df) :
    PySem.W.WalkO q loose XP YP l.row.toRowW d [] (fun f vs => PySem.call f vs) := by
  refine walk_ofEG (x := x) hn hn2 hdf hr fun w mg f h Y G hm => ?_
  obtain ⟨K, KX, c⟩ := hY w h Y
  have g := grd_of KX G c.more
  obtain ⟨f', fd, hF, gm, kp, bd⟩ := F w mg K h KX G c.t.d g
  rw [hname, gm] at hm
  cases hm
  have inT : ∀ y ∈ lamsOf K, (y, none) ∈ names.map fun x => ((x, none) : He.Defn) := fun y hy => List.mem_map.mpr ⟨y, by rw [← g.lm]; exact hy, rfl⟩
  refine ⟨K, fd, (lamsOf K).map fun x => He.cT K (x, none), spQ K mg 1 df, KX, fun p hp => ?_, fun p hp => ?_, fun p hp => ?_, fun s u => bd s [u] rfl, fun H a ns hl hT hS => ?_, fun base hb => hF base fun y hy => ?_⟩
  · obtain ⟨y, hy, rfl⟩ := List.mem_map.mp hp
    exact c.empty _ (inT y hy)
  · obtain ⟨y, hy, rfl⟩ := List.mem_map.mp hp
    exact c.out _ (inT y hy)
  · obtain ⟨y, hy, rfl⟩ := List.mem_map.mp hp
    exact c.hd _ (inT y hy)
  · exact law_post (fun y hy => hT _ (List.mem_map.mpr ⟨y, hy, rfl⟩)) hS (ht ns hl) fun _ => rfl
  · exact hb _ (List.mem_map.mpr ⟨y, hy, rfl⟩)
end Q
namespace Q
open PySem PySem.Spec PyProof.Rows L2
section
variable {r : Env} {c : Cs} {d : D} {t : T}
@[simp] theorem dSaid_e : dSaid d r c = saidT (d r c) := (rfl)
@[simp] theorem saidT_ok : saidT (.ok t c) = .ok (.tup [.str "told", t]) c := (rfl)
@[simp] theorem saidT_stk : saidT .stk = .stk := (rfl)
@[simp] theorem said_bound : saidT (.err ⟨"NoBound", []⟩ c) = .ok (.tup [.str "bound"]) c := (rfl)
@[simp] theorem said_prime : saidT (.err ⟨"NoPrime", []⟩ c) = .ok (.tup [.str "prime"]) c := (rfl)
@[simp] theorem said_power : saidT (.err ⟨"NoPower", []⟩ c) = .ok (.tup [.str "power"]) c := (rfl)
@[simp] theorem said_number : saidT (.err ⟨"NoNumber", []⟩ c) = .ok (.tup [.str "number"]) c := (rfl)
@[simp] theorem said_function : saidT (.err ⟨"NoFunction", []⟩ c) = .ok (.tup [.str "function"]) c := (rfl)
@[simp] theorem said_poly : saidT (.err ⟨"NoPoly", []⟩ c) = .ok (.tup [.str "poly"]) c := (rfl)
@[simp] theorem said_apart : saidT (.err ⟨"Apart", []⟩ c) = .ok (.tup [.str "apart"]) c := (rfl)
@[simp] theorem said_row : saidT (.err ⟨"NoRow", []⟩ c) = .ok (.tup [.str "row"]) c := (rfl)
theorem neW {x : Str} (h : PyData.strOk x = true) : neT (.tup [.str x]) (.tup [.str x]) = some (.bl false) := by
  simp [neT, plain, plT, eqD, pyT, pyTs, PyData.eqv, PyData.eqvAll, h]
@[simp] theorem ne_bound : neT (.tup [.str "bound"]) (.tup [.str "bound"]) = some (.bl false) := neW (by decide +kernel)
@[simp] theorem ne_prime : neT (.tup [.str "prime"]) (.tup [.str "prime"]) = some (.bl false) := neW (by decide +kernel)
@[simp] theorem ne_power : neT (.tup [.str "power"]) (.tup [.str "power"]) = some (.bl false) := neW (by decide +kernel)
@[simp] theorem ne_number : neT (.tup [.str "number"]) (.tup [.str "number"]) = some (.bl false) := neW (by decide +kernel)
@[simp] theorem ne_function : neT (.tup [.str "function"]) (.tup [.str "function"]) = some (.bl false) := neW (by decide +kernel)
@[simp] theorem ne_poly : neT (.tup [.str "poly"]) (.tup [.str "poly"]) = some (.bl false) := neW (by decide +kernel)
@[simp] theorem ne_apart : neT (.tup [.str "apart"]) (.tup [.str "apart"]) = some (.bl false) := neW (by decide +kernel)
theorem eqW1 {x : Str} (h : PyData.strOk x = true) : eqT (.tup [.str x]) (.tup [.str x]) = some (.bl true) := by
  simp [eqT, plain, plT, eqD, pyT, pyTs, PyData.eqv, PyData.eqvAll, h]
@[simp] theorem eq_bound : eqT (.tup [.str "bound"]) (.tup [.str "bound"]) = some (.bl true) := eqW1 (by decide +kernel)
@[simp] theorem eq_prime : eqT (.tup [.str "prime"]) (.tup [.str "prime"]) = some (.bl true) := eqW1 (by decide +kernel)
@[simp] theorem eq_power : eqT (.tup [.str "power"]) (.tup [.str "power"]) = some (.bl true) := eqW1 (by decide +kernel)
@[simp] theorem eq_number : eqT (.tup [.str "number"]) (.tup [.str "number"]) = some (.bl true) := eqW1 (by decide +kernel)
@[simp] theorem eq_function : eqT (.tup [.str "function"]) (.tup [.str "function"]) = some (.bl true) := eqW1 (by decide +kernel)
@[simp] theorem eq_poly : eqT (.tup [.str "poly"]) (.tup [.str "poly"]) = some (.bl true) := eqW1 (by decide +kernel)
@[simp] theorem eq_apart : eqT (.tup [.str "apart"]) (.tup [.str "apart"]) = some (.bl true) := eqW1 (by decide +kernel)
end
end Q
namespace Q
open PySem PySem.Spec PyProof.Rows L2
section
variable {P : Program} {w : World} {K : PySem.W.Frag} {mg : Str → Option Value} {X : Cx} {W : XK}
theorem ee_glo {x : Str} {pos : Pos} (hm : X.mg x = some (.ref (He.ga X.K x))) (hg : Gl X x := by rfl) (hd : (x == ("__debug__" : Str)) = false := by decide) : EE X W (.Name x pos) (tC (.ref (He.ga X.K x))) (dC (.glo x)) :=
  ee_c (pe_glob hg hm rfl hd) fun _ _ => .glo x
abbrev TblV := List (Str × Nat × DF)
/-- the defs that a slot may hold -/
structure HasV (P : Program) (w : World) (K : PySem.W.Frag) (mg : Str → Option Value) (k : Nat) (tbl : TblV) : Prop where
  at_ : ∀ e ∈ tbl, ∃ ps : List Str, e.2.1 = ps.length ∧ Has P w K mg k e.1 ps e.2.2 ∧ mg e.1 = some (.ref (He.ga K e.1))
theorem Has.mono {j k : Nat} {x : Str} {ps : List Str} {df : DF} (h : Has P w K mg j x ps df) (hj : j ≤ k) : Has P w K mg k x ps df := by
  obtain ⟨f, fd, F, r⟩ := h
  exact ⟨f, fd, fun base bo => (F base bo).mono hj, r⟩
theorem hasV_nil {k : Nat} : HasV P w K mg k [] := ⟨fun e h => by simp at h⟩
theorem hasV_cons {j k : Nat} {x : Str} {ps : List Str} {df : DF} {tbl : TblV} (h : Has P w K mg j x ps df) (g : mg x = some (.ref (He.ga K x))) (r : HasV P w K mg k tbl) (hj : j ≤ k := by decide) : HasV P w K mg k ((x, ps.length, df) :: tbl) := ⟨fun e he => by
  rcases List.mem_cons.mp he with rfl | he
  · exact ⟨ps, rfl, h.mono hj, g⟩
  · exact r.at_ e he⟩
def dCallV (i : Nat) (tbl : TblV) (a : DA) : D := fun r c => match r[i]? with
  | some (.val (.glo x)) => (match tbl.find? fun e => e.1 == x with
    | some e => dCall e.2.1 e.2.2 a r c
    | none => .stk)
  | _ => .stk
def tCallV (K : PySem.W.Frag) (mg : Str → Option Value) (W : XK) (i : Nat) (tbl : TblV) (t : TA) : TE := fun σ H Q => ∃ e ∈ tbl, σ[i]? = some (some (.ref (He.ga K e.1))) ∧ t σ H fun vs H1 => spQ K mg e.2.1 e.2.2 vs H1 Q W
theorem ee_callV (K : PySem.W.Frag) (mg : Str → Option Value) {i k j : Nat} {tbl : TblV} {x : Str} {p pos : Pos} {e : Expr} {es : List Expr} {t : TA} {da : DA} (bo : BaseOk K mg X.base) (h : HasV P w K mg k tbl) (hr : Room j X.A) (hp : Passes (L2.CX X.prog X.w) X W) (ha : EA X W (e :: es) t da) (hk : k ≤ j := by decide)
    (hN : X.N[i]? = some x := by rfl) (hv : Vis X.env.scope x := by first | exact Or.inl rfl | exact Or.inr (Or.inl rfl) | exact Or.inr (Or.inr rfl)) (hdb : (x == ("__debug__" : Str)) = false := by decide) (hcd : (x == ("__classdict__" : Str)) = false := by decide)
    (he : starEach (e :: es) X.env = (false, eval e X.env) :: starEach es X.env := by rfl) (hpl : (backTo pos (starEach es X.env)).any (·.1) = false := by rfl) (hK : X.K = K := by rfl) (hM : X.mg = mg := by rfl) (hP : X.prog = P := by rfl) (hw : X.w = w := by rfl) :
    EE X W (.Call (.Name x p) (e :: es) [] pos) (tCallV K mg W i tbl t) (dCallV i tbl da) := by
  subst hK hM hP hw
  refine ⟨⟨fun pins s σ H Q I hh => ?_⟩, fun N r c F kk σ H Q S pp => ?_⟩
  · obtain ⟨en, hen, hs, ht⟩ := hh
    obtain ⟨ps, e1, hd, hgl⟩ := h.at_ en hen
    obtain ⟨f, fd, Fo, gm, kp, bd⟩ := hd
    rw [hgl] at gm
    cases gm
    rw [e1] at ht
    refine (pe_callL (i := i) (dvs := []) (ds := []) ((Fo _ bo).mono hk) hr hN hv kp (binds_any bd) .nil hp ha.pe hdb hcd he hpl).run pins s σ H Q I ⟨hs, ?_⟩
    have e0 : (fun (vs : List V) (H1 : Hp) => spQ X.K X.mg ps.length en.2.2 (vs ++ []) H1 Q W) = fun vs H1 => spQ X.K X.mg ps.length en.2.2 vs H1 Q W := by
      funext vs H1
      rw [List.append_nil]
    rw [e0]
    exact ht
  · unfold dCallV at pp
    split at pp
    · rename_i x' e1
      split at pp
      · rename_i en e2
        have hx : en.1 = x' := by simpa using List.find?_some e2
        obtain ⟨v, h1, h2⟩ := S.val i _ e1
        cases h2
        refine ⟨en, List.mem_of_find?_eq_some e2, by rw [hx]; exact h1, ?_⟩
        have q := rd_call (n := en.2.1) (df := en.2.2) ha.rd N r c F kk σ H Q S pp
        have e0 : (fun (vs : List V) (H1 : Hp) => spQ X.K X.mg en.2.1 en.2.2 (vs ++ []) H1 Q W) = fun vs H1 => spQ X.K X.mg en.2.1 en.2.2 vs H1 Q W := by
          funext vs H1
          rw [List.append_nil]
        have q' : t σ H (fun vs H1 => spQ X.K X.mg en.2.1 en.2.2 (vs ++ []) H1 Q W) := q
        rw [e0] at q'
        exact q'
      · exact pp.elim
    · exact pp.elim
@[simp] theorem dCallV_e {i : Nat} {tbl : TblV} {a : DA} {r : Env} {c : Cs} : dCallV i tbl a r c = match r[i]? with
  | some (.val (.glo x)) => (match tbl.find? fun e => e.1 == x with
    | some e => dCall e.2.1 e.2.2 a r c
    | none => .stk)
  | _ => .stk := (rfl)
end
end Q
namespace Q
open PySem PySem.Spec PyProof.Rows L2
def rNeX (K : PySem.W.Frag) : R2 := fun x y H Q => (∃ a b : Str, x = .str a ∧ y = .str b ∧ Q (.bl (!(a == b))) H) ∨ rNeD K x y H Q
theorem op_neX {X : Cx} {k : Nat} (h : Room k X.A) : OpR X (compareOp .NotEq) (rNeX X.K) := by
  intro pins s σ H x y v u Q I rx ry q
  rcases q with ⟨a, b, rfl, rfl, q⟩ | q
  · obtain ⟨t, rfl⟩ := rx
    obtain ⟨t2, rfl⟩ := ry
    exact PyProof.Rows.ne_str ⟨.bl _, H, I, rfl, q⟩
  · exact opr_ne h pins s σ H x y v u Q I rx ry q
def neX (x y : T) : Option T := match x, y with
  | .str a, .str b => some (.bl (!(a == b)))
  | x, y => neT x y
theorem op2_neX {K : PySem.W.Frag} : Op2 K (rNeX K) neX := fun x y t v u c F k H Q e ok rx ry g => by
  by_cases hs : ∃ a b, x = .str a ∧ y = .str b
  · obtain ⟨a, b, rfl, rfl⟩ := hs
    cases e
    exact .inl ⟨a, b, by cases rx with | str => rfl, by cases ry with | str => rfl, g.same ok (.bl _)⟩
  · have e2 : neT x y = some t := by
      unfold neX at e
      split at e
      · exact absurd ⟨_, _, rfl, rfl⟩ hs
      · exact e
    exact .inr (op2_ne x y t v u c F k H Q e2 ok rx ry g)
@[simp] theorem neX_str {a b : Str} : neX (.str a) (.str b) = some (.bl (!(a == b))) := (rfl)
end Q
namespace Q
open PySem PySem.Spec PyProof.Rows L2
mutual
/-- no list within -/
def noL : T → Bool
  | .tup ts => noLs ts
  | .lst _ => false
  | .scr _ => false
  | .dct _ _ => false
  | .exo _ _ _ _ => false
  | .dtu _ _ => false
  | _ => true
def noLs : List T → Bool
  | [] => true
  | t :: ts => noL t && noLs ts
end
def noB : B → Bool
  | .un => true
  | .val t => noL t
  | .own ts => noLs ts
  | .len _ => false
section
variable {K : PySem.W.Frag} {mg : Str → Option Value} {N : Ent} {F F' H H' : Hp} {k k' : List Addr} {c c' : Cs} {r : Env} {σ : L2.St}
/-- a list taken out of what is frozen -/
def cutA (F : Hp) (a : Addr) : Hp := fun b => if b = a then none else F b
theorem cutA_ne {a b : Addr} (h : b ≠ a) : cutA F a b = F b := if_neg h
theorem cutA_self {a : Addr} : cutA F a a = none := if_pos rfl
mutual
theorem Rep.cut {a : Addr} {xs : List V} (ha : F a = some (.lst xs)) : ∀ {t : T} {v : V}, Rep K F k t v → noL t = true → Rep K (cutA F a) k t v
  | _, _, .non, _ => .non
  | _, _, .bl b, _ => .bl b
  | _, _, .int i, _ => .int i
  | _, _, .str x, _ => .str x
  | _, _, .tup h r, e => .tup (by
      rcases h with ⟨o, h, n⟩ | h
      · exact .inl ⟨o, by rw [cutA_ne (fun z => by rw [z, ha] at h; cases h)]; exact h, n⟩
      · exact .inr h) (Reps.cut ha r (by rw [noL] at e; exact e))
  | _, _, .lst _ _, e => by simp [noL] at e
  | _, _, .scr _ _, e => by simp [noL] at e
  | _, _, .dct _ _ _, e => by simp [noL] at e
  | _, _, .exo _ _ _, e => by simp [noL] at e
  | _, _, .dtu _ _ _ _, e => by simp [noL] at e
  | _, _, .cel h, _ => .cel h
  | _, _, .adr a, _ => .adr a
  | _, _, .glo x, _ => .glo x
theorem Reps.cut {a : Addr} {xs : List V} (ha : F a = some (.lst xs)) : ∀ {ts : List T} {vs : List V}, Reps K F k ts vs → noLs ts = true → Reps K (cutA F a) k ts vs
  | _, _, .nil, _ => .nil
  | _, _, .cons r s, e => by
    rw [noLs, Bool.and_eq_true] at e
    exact .cons (Rep.cut ha r e.1) (Reps.cut ha s e.2)
end
/-- a slot's own list is lent -/
theorem SR.lend {i : Nat} {ts : List T} (S : SR K N F k c r σ H) (e : r[i]? = some (.own ts)) : ∃ F', SR K N F' k c (r.set i (.len ts)) σ H ∧ Sub F F' := by
  have hi : i < r.length := (List.getElem?_eq_some_iff.mp e).1
  obtain ⟨a, xs, h1, h2, h3, h4, h5, h6⟩ := S.own i ts e
  have sF : Sub F (upd F a (.lst xs)) := fun b u q => by rw [upd_ne (ne_of_none q h4)]; exact q
  have own : ∀ (j : Nat) (b : Addr), OwnAt (r.set i (.len ts)) σ j b → OwnAt r σ j b ∧ j ≠ i := fun j b ⟨⟨vs, e1⟩, e2⟩ => by
    by_cases h : i = j
    · subst h; rw [List.getElem?_set_self hi] at e1; cases e1
    · rw [List.getElem?_set_ne h] at e1; exact ⟨⟨⟨vs, e1⟩, e2⟩, Ne.symm h⟩
  refine ⟨upd F a (.lst xs), ⟨S.ok.freeze h2 h5 h4, ⟨fun b o q => sF b o (S.ge.f b o q), fun b o q => ?_, S.ge.pk, S.ge.kn, S.ge.hs, S.ge.hd⟩, by simp [S.len], fun j u ej => ?_, fun j vs ej => ?_, fun j l b x y => S.dis j l b (own j b x).1 (own l b y).1, fun j vs ej => ?_⟩, sF⟩
  · by_cases h : b = a
    · subst h; exact .inr h6
    · rw [upd_ne h] at q; exact S.ge.fn b o q
  · by_cases h : i = j
    · subst h; rw [List.getElem?_set_self hi] at ej; cases ej
    · rw [List.getElem?_set_ne h] at ej
      obtain ⟨v, g1, g2⟩ := S.val j u ej
      exact ⟨v, g1, g2.mono sF List.prefix_rfl⟩
  · by_cases h : i = j
    · subst h; rw [List.getElem?_set_self hi] at ej; cases ej
    · rw [List.getElem?_set_ne h] at ej
      obtain ⟨b, zs, g1, g2, g3, g4, g5, g6⟩ := S.own j vs ej
      have hne : b ≠ a := fun z => by
        subst z
        exact h (S.dis i j b ⟨⟨ts, e⟩, h1⟩ ⟨⟨vs, ej⟩, g1⟩)
      exact ⟨b, zs, g1, g2, g3.mono sF List.prefix_rfl, by rw [upd_ne hne]; exact g4, g5, g6⟩
  · by_cases h : i = j
    · subst h
      rw [List.getElem?_set_self hi] at ej
      cases ej
      refine ⟨a, xs, h1, upd_same, h3.mono sF List.prefix_rfl, h5, h6, ?_⟩
      cases z : N.F a with
      | none => rfl
      | some o => have q := S.ge.f a o z; rw [h4] at q; cases q
    · rw [List.getElem?_set_ne h] at ej
      obtain ⟨b, zs, g1, g2, g3, g4, g5⟩ := S.lnt j vs ej
      exact ⟨b, zs, g1, sF b _ g2, g3.mono sF List.prefix_rfl, g4, g5⟩
/-- the entry, what is frozen by now put to it -/
theorem SR.here {i : Nat} (S : SR K N F k c r σ H) (hr : ∀ (j : Nat) (ts : List T), r[j]? ≠ some (B.len ts)) : SR K ⟨N.H, F, N.k⟩ F k c r σ H :=
  ⟨S.ok, ⟨fun _ _ z => z, fun a o z => .inl z, S.ge.pk, S.ge.kn, S.ge.hs, S.ge.hd⟩, S.len, S.val, S.own, S.dis, fun j ts e => absurd e (hr j ts)⟩
theorem Ge.there {F0 H0 : Hp} {k0 : List Addr} (g0 : Ge N.F N.k N.H F0 k0 H0) (g : Ge F0 N.k N.H F k H) : Ge N.F N.k N.H F k H :=
  ⟨fun a o z => g.f a o (g0.f a o z), fun a o z => by
    rcases g.fn a o z with z | z
    · exact g0.fn a o z
    · exact .inr z, g.pk, g.kn, g.hs, g.hd⟩
/-- .. and given back -/
theorem SR.back {i : Nat} {ts : List T} {F0 H0 : Hp} {k0 : List Addr} (g0 : Ge N.F N.k N.H F0 k0 H0) (S : SR K ⟨N.H, F0, N.k⟩ F k c r σ H) (e : r[i]? = some (.len ts)) (hr : ∀ j b, j ≠ i → r[j]? = some b → noB b = true) (ht : noLs ts = true) (hc : ∀ us ∈ c, noLs us = true) : ∃ F', SR K N F' k c (r.set i (.own ts)) σ H ∧ Sub F0 F' := by
  have hi : i < r.length := (List.getElem?_eq_some_iff.mp e).1
  obtain ⟨a, xs, h1, h2, h3, h5, h6, h7⟩ := S.lnt i ts e
  have sF : Sub (cutA F a) F := fun b u q => by
    by_cases h : b = a
    · subst h; rw [cutA_self] at q; cases q
    · rw [cutA_ne h] at q; exact q
  have s0 : Sub F0 (cutA F a) := fun b u q => by
    have hne : b ≠ a := fun z => by
      subst z
      have q2 : F0 b = none := h7
      rw [q] at q2; cases q2
    rw [cutA_ne hne]
    exact S.ge.f b u q
  have hlen : ∀ (j : Nat) (us : List T), j ≠ i → r[j]? ≠ some (B.len us) := fun j us hj z => by
    have := hr j _ hj z
    simp [noB] at this
  have own : ∀ (j : Nat) (b : Addr), j ≠ i → OwnAt (r.set i (.own ts)) σ j b → OwnAt r σ j b := fun j b h ⟨⟨us, e1⟩, e2⟩ => by
    rw [List.getElem?_set_ne (Ne.symm h)] at e1; exact ⟨⟨us, e1⟩, e2⟩
  have nota : ∀ j b, j ≠ i → OwnAt r σ j b → b ≠ a := fun j b hj ⟨⟨us, e1⟩, e2⟩ z => by
    subst z
    obtain ⟨b', ys, g1, g2, g3, g4, g5, g6⟩ := S.own j us e1
    rw [g1] at e2
    cases e2
    rw [h2] at g4; cases g4
  refine ⟨cutA F a, ⟨⟨fun b u q => S.ok.sub b u (sF b u q), fun n b q => ?_, S.ok.len, S.ok.nd, fun b ps q => S.ok.nt b ps (sF b _ q), S.ok.tb⟩, ?_, by simp [S.len], fun j u ej => ?_, fun j vs ej => ?_, fun j l b x y => ?_, fun j vs ej => ?_⟩, s0⟩
  · obtain ⟨us, q1, q2, q4⟩ := S.ok.cel n b q
    have hus := hc us (List.mem_of_getElem? q1)
    have nd : noDt us = some us := noDt_self fun ks vs z => by rw [z] at hus; simp [noLs, noL] at hus
    obtain ⟨ys, q2, q3⟩ := q2.lst (noDt_eq nd).2
    refine ⟨us, q1, .inl ⟨ys, q2, q3.cut h2 hus, nd⟩, ?_⟩
    by_cases h : b = a
    · subst h; exact cutA_self
    · rw [cutA_ne h]; exact q4
  · have g := Ge.there g0 S.ge
    refine ⟨fun b o z => ?_, fun b o z => g.fn b o (sF b o z), g.pk, g.kn, g.hs, g.hd⟩
    exact s0 b o (g0.f b o z)
  · by_cases h : i = j
    · subst h; rw [List.getElem?_set_self hi] at ej; cases ej
    · rw [List.getElem?_set_ne h] at ej
      obtain ⟨v, g1, g2⟩ := S.val j u ej
      exact ⟨v, g1, g2.cut h2 (hr j _ (Ne.symm h) ej)⟩
  · by_cases h : i = j
    · subst h
      rw [List.getElem?_set_self hi] at ej
      cases ej
      exact ⟨a, xs, h1, S.ok.sub a _ h2, h3.cut h2 ht, cutA_self, h5, h6⟩
    · rw [List.getElem?_set_ne h] at ej
      obtain ⟨b, zs, g1, g2, g3, g4, g5, g6⟩ := S.own j vs ej
      refine ⟨b, zs, g1, g2, g3.cut h2 (hr j _ (Ne.symm h) ej), ?_, g5, g6⟩
      by_cases hb : b = a
      · subst hb; exact cutA_self
      · rw [cutA_ne hb]; exact g4
  · by_cases hj : j = i
    · by_cases hl : l = i
      · omega
      · subst hj
        have e2 := x.2
        rw [h1] at e2
        cases e2
        exact absurd rfl (nota l a hl (own l a hl y))
    · by_cases hl : l = i
      · subst hl
        have e2 := y.2
        rw [h1] at e2
        cases e2
        exact absurd rfl (nota j a hj (own j a hj x))
      · exact S.dis j l b (own j b hj x) (own l b hl y)
  · by_cases h : i = j
    · subst h; rw [List.getElem?_set_self hi] at ej; cases ej
    · rw [List.getElem?_set_ne h] at ej
      exact absurd ej (hlen j vs (Ne.symm h))
end
def isLen : B → Bool
  | .len _ => true
  | _ => false
/-- a statement while the i-th slot's own list is lent -/
def dLend (i : Nat) (ds : DS) : DS := fun r c => match r[i]? with
  | some (.own ts) => if r.any isLen = false then (ds (r.set i (.len ts)) c).bind fun fl c => match fl with
      | .ret t => .ok (.ret t) c
      | .nxt r' => (match r'[i]? with
        | some (.len us) => if (noLs us && (r'.set i .un).all noB && c.all noLs) = true then .ok (.nxt (r'.set i (.own us))) c else .stk
        | _ => .stk)
    else .stk
  | _ => .stk
theorem rd_lend {K : PySem.W.Frag} {mg : Str → Option Value} {W : XK} {ts : TS} {ds : DS} (i : Nat) (h : RdStm K mg W ts ds) : RdStm K mg W ts (dLend i ds) := fun N r c F k σ H D S p => by
  unfold dLend at p
  split at p
  · rename_i us e
    split at p
    · rename_i hl
      have hr : ∀ (j : Nat) (vs : List T), r[j]? ≠ some (B.len vs) := fun j vs z => by
        have := List.any_eq_false.mp hl _ (List.mem_of_getElem? z)
        simp [isLen] at this
      obtain ⟨F1, S1, s1⟩ := (S.here (i := i) hr).lend e
      refine h ⟨N.H, F, N.k⟩ _ c F1 k σ H D S1 ?_
      generalize ds (r.set i (.len us)) c = o at p
      cases o with
      | stk => exact p
      | err er c1 => exact fun cls d F2 k2 H2 ok g rx => p cls d F2 k2 H2 ok (Ge.there S.ge g) rx
      | ok fl c1 => cases fl with
        | ret t => exact fun v F2 k2 H2 ok g rx => p v F2 k2 H2 ok (Ge.there S.ge g) rx
        | nxt r' =>
          intro σ2 H2 F2 k2 S2 s2 pk
          replace p : PostS K mg N F k (match r'[i]? with
            | some (.len us) => if (noLs us && (r'.set i .un).all noB && c1.all noLs) = true then .ok (.nxt (r'.set i (.own us))) c1 else .stk
            | _ => .stk) D W := p
          split at p
          · rename_i vs e2
            split at p
            · rename_i hh
              simp only [Bool.and_eq_true] at hh
              have hi : i < r'.length := (List.getElem?_eq_some_iff.mp e2).1
              obtain ⟨F3, S3, s3⟩ := SR.back S.ge S2 e2 (fun j b hj ej => List.all_eq_true.mp hh.1.2 b (List.mem_of_getElem? (i := j) (by rw [List.getElem?_set_ne (Ne.symm hj)]; exact ej))) hh.1.1 (fun us hu => List.all_eq_true.mp hh.2 us hu)
              exact p σ2 H2 F3 k2 S3 s3 pk
            · exact p.elim
          · exact p.elim
    · exact p.elim
  · exact p.elim
section
variable {X : Cx} {W : XK} {e : Expr} {te : TE} {d : D} {st : Stmt} {ts : TS} {ds : DS}
theorem ss_lend (i : Nat) (h : SS X W st ts ds) : SS X W st ts (dLend i ds) := ⟨h.pe, rd_lend i h.rd⟩
/-- a lent list read -/
def dLen (i : Nat) : D := fun r c => match r[i]? with
  | some (.len ts) => .ok (.lst ts) c
  | _ => .stk
theorem ee_lent {i : Nat} (h : PE X e (tVar i)) : EE X W e (tVar i) (dLen i) := by
  refine ⟨h, fun N r c F k σ H Q S p => ?_⟩
  unfold dLen at p
  split at p
  · rename_i ts e1
    obtain ⟨a, xs, h1, h2, h3, _⟩ := S.lnt i ts e1
    exact ⟨_, h1, p _ F k H S.ok Ge.refl (.lst h2 h3)⟩
  · exact p.elim
@[simp] theorem dLen_e {i : Nat} {r : Env} {c : Cs} : dLen i r c = match r[i]? with
  | some (.len ts) => .ok (.lst ts) c
  | _ => .stk := (rfl)
@[simp] theorem dLend_e {i : Nat} {r : Env} {c : Cs} : dLend i ds r c = match r[i]? with
  | some (.own ts) => if r.any isLen = false then (ds (r.set i (.len ts)) c).bind fun fl c => match fl with
      | .ret t => .ok (.ret t) c
      | .nxt r' => (match r'[i]? with
        | some (.len us) => if (noLs us && (r'.set i .un).all noB && c.all noLs) = true then .ok (.nxt (r'.set i (.own us))) c else .stk
        | _ => .stk)
    else .stk
  | _ => .stk := (rfl)
end
@[simp] theorem isLen_un : isLen .un = false := (rfl)
@[simp] theorem isLen_val {t : T} : isLen (.val t) = false := (rfl)
@[simp] theorem isLen_own {ts : List T} : isLen (.own ts) = false := (rfl)
@[simp] theorem noB_un : noB .un = true := (rfl)
@[simp] theorem noB_val {t : T} : noB (.val t) = noL t := (rfl)
@[simp] theorem noB_own {ts : List T} : noB (.own ts) = noLs ts := (rfl)
@[simp] theorem noL_int {i : Int} : noL (.int i) = true := by simp [noL]
@[simp] theorem noL_bl {b : Bool} : noL (.bl b) = true := by simp [noL]
@[simp] theorem noL_non : noL .non = true := by simp [noL]
@[simp] theorem noL_str {x : Str} : noL (.str x) = true := by simp [noL]
@[simp] theorem noL_cel {n : Nat} : noL (.cel n) = true := by simp [noL]
@[simp] theorem noL_tup {ts : List T} : noL (.tup ts) = noLs ts := by rw [noL]
@[simp] theorem noLs_nil : noLs [] = true := by simp [noLs]
@[simp] theorem noLs_cons {t : T} {ts : List T} : noLs (t :: ts) = (noL t && noLs ts) := by rw [noLs]
@[simp] theorem noLs_ints {xs : List Int} : noLs (xs.map T.int) = true := by
  induction xs with
  | nil => simp
  | cons x xs ih => simp [ih]
end Q
namespace Q
open PySem PySem.Spec PyProof.Rows L2
def rg3Ok (i j c : Int) : Bool := decide (c ≠ 0) && decide (c.natAbs < 1073741824) && Builtin.Range.small i j c && decide (0 ≤ Builtin.Range.rangeSize i j c)
def rg3 (i j c : Int) : List Int := (List.range (Builtin.Range.rangeSize i j c).toNat).map fun m => i + (m : Nat) * c
def dItR3 (a : DA) : DI := fun r c => (a r c).bind fun ts c => match ts with
  | [.int i, .int j, .int k] => if rg3Ok i j k = true then .ok ((rg3 i j k).map T.int) c else .stk
  | _ => .stk
section
variable {K : PySem.W.Frag} {F H : Hp} {k : List Addr}
theorem wk_rangeC {lo c : Int} {n : Nat} : Wk K (Itc lo c n) ((List.range n).map fun i => T.int (lo + (i : Nat) * c)) F k := fun F1 k1 c1 H1 ok s p => by
  refine ⟨by show n ≤ _; simp, fun i t e => ?_⟩
  rw [List.getElem?_map] at e
  by_cases hi : i < n
  · rw [List.getElem?_range hi] at e
    cases e
    refine ⟨hi, fun x H' ⟨eH, q⟩ => ?_⟩
    subst eH q
    exact ⟨F1, ok, Ge.refl, .int _⟩
  · rw [List.getElem?_eq_none (by simpa using hi)] at e; cases e
end
section
variable {X : Cx} {W : XK} {tg a b e2 : Expr} {t : TA} {d : DA} {p pos : Pos}
theorem ei_range3 (hm : X.mg "range" = none) (h : EA X W [a, b, e2] t d) (hg : Gl X "range" := by rfl)
    (hs : starEach [a, b, e2] X.env = (false, eval a X.env) :: starEach [b, e2] X.env := by rfl) (hpl : (backTo pos (starEach [b, e2] X.env)).any (·.1) = false := by rfl) : EI X W tg (.Call (.Name "range" p) [a, b, e2] [] pos) (iRng3 t) (dItR3 d) := by
  refine ⟨pi_range3 hg hm h.pe hs hpl, fun N r c F k σ H R S pp => ?_⟩
  show t σ H _
  unfold dItR3 at pp
  refine h.rd N r c F k σ H _ S (pp.seq fun ts c1 vs F1 k1 H1 q1 ok1 g1 r1 p1 => ?_)
  clear q1
  split at p1
  · rename_i i j m
    split at p1
    · rename_i hh
      unfold rg3Ok at hh
      simp only [Bool.and_eq_true, decide_eq_true_eq] at hh
      obtain ⟨⟨⟨c0, c1'⟩, c2⟩, c3⟩ := hh
      cases r1 with
      | cons r r1 => cases r1 with
        | cons r' r1 => cases r1 with
          | cons r'' r1 =>
            cases r1
            cases r
            cases r'
            cases r''
            refine ⟨i, j, m, (Builtin.Range.rangeSize i j m).toNat, rfl, ⟨c0, c1', c2, (Int.toNat_of_nonneg c3).symm⟩, p1 _ F1 k1 H1 ok1 Ge.refl ?_⟩
            show Wk _ _ _ _ _
            have e : (rg3 i j m).map T.int = (List.range (Builtin.Range.rangeSize i j m).toNat).map fun n => T.int (i + (n : Nat) * m) := by unfold rg3; rw [List.map_map]; rfl
            rw [e]
            exact wk_rangeC
    · exact p1.elim
  · exact p1.elim
end
@[simp] theorem dItR3_e {a : DA} {r : Env} {c : Cs} : dItR3 a r c = (a r c).bind fun ts c => match ts with
  | [.int i, .int j, .int k] => if rg3Ok i j k = true then .ok ((rg3 i j k).map T.int) c else .stk
  | _ => .stk := (rfl)
theorem rg3_down {i j : Int} (h1 : -1000000 ≤ i) (h2 : i ≤ 1000000) (h3 : -1000000 ≤ j) (h4 : j ≤ 1000000) : rg3Ok i j (-1) = true ∧ rg3 i j (-1) = (List.range (i - j).toNat).map fun m => i - (m : Nat) := by
  obtain ⟨a, b, c, d⟩ := RgC.neg (i := i) (j := j) (by omega) (by omega) (by omega) (by omega)
  refine ⟨?_, ?_⟩
  · unfold rg3Ok
    rw [c, d]
    simp
    omega
  · unfold rg3
    rw [d, Int.toNat_natCast]
    refine List.map_congr_left fun m _ => ?_
    omega
end Q
namespace Q
open PySem PySem.Spec PyProof.Rows L2
/-- no list within any shared list -/
def Fb (c : Cs) : Bool := c.all noLs
theorem Fb_of {c : Cs} (h : ∀ us ∈ c, noLs us = true) : Fb c = true := List.all_eq_true.mpr h
/-- without all lists -/
def cutL (F : Hp) : Hp := fun b => match F b with
  | some (.lst _) => none
  | o => o
section
variable {K : PySem.W.Frag} {mg : Str → Option Value} {N : Ent} {F F' H H' : Hp} {k k' : List Addr} {c c' : Cs} {r : Env} {σ : L2.St}
theorem cutL_some {b : Addr} {o : HO} (h : cutL F b = some o) : F b = some o ∧ ∀ xs, o ≠ .lst xs := by
  unfold cutL at h
  split at h
  · cases h
  · rename_i hn
    refine ⟨h, fun xs e => ?_⟩
    subst e
    exact hn xs h
theorem cutL_keep {b : Addr} {o : HO} (h : F b = some o) (hn : ∀ xs, o ≠ .lst xs) : cutL F b = some o := by
  unfold cutL
  split
  · rename_i xs e
    rw [e] at h
    cases h
    exact absurd rfl (hn xs)
  · exact h
theorem cutL_none {b : Addr} (h : F b = none) : cutL F b = none := by
  unfold cutL
  rw [h]
mutual
theorem Rep.nolist : ∀ {t : T} {v : V}, Rep K F k t v → noL t = true → Rep K (cutL F) k t v
  | _, _, .non, _ => .non
  | _, _, .bl b, _ => .bl b
  | _, _, .int i, _ => .int i
  | _, _, .str x, _ => .str x
  | _, _, .tup h r, e => .tup (by
      rcases h with ⟨o, h, n⟩ | h
      · exact .inl ⟨o, cutL_keep h (fun xs z => by cases z), n⟩
      · exact .inr h) (Reps.nolist r (by rw [noL] at e; exact e))
  | _, _, .lst _ _, e => by simp [noL] at e
  | _, _, .scr _ _, e => by simp [noL] at e
  | _, _, .dct _ _ _, e => by simp [noL] at e
  | _, _, .exo _ _ _, e => by simp [noL] at e
  | _, _, .dtu _ _ _ _, e => by simp [noL] at e
  | _, _, .cel h, _ => .cel h
  | _, _, .adr a, _ => .adr a
  | _, _, .glo x, _ => .glo x
theorem Reps.nolist : ∀ {ts : List T} {vs : List V}, Reps K F k ts vs → noLs ts = true → Reps K (cutL F) k ts vs
  | _, _, .nil, _ => .nil
  | _, _, .cons r s, e => by
    rw [noLs, Bool.and_eq_true] at e
    exact .cons (Rep.nolist r e.1) (Reps.nolist s e.2)
end
/-- F, and what is no list of F1 -/
def glue (F F1 : Hp) : Hp := fun b => match F b with
  | some o => some o
  | none => cutL F1 b
theorem glue_l {F1 : Hp} : Sub F (glue F F1) := fun b o h => by unfold glue; rw [h]
theorem glue_r {F1 H1 : Hp} (hF : Sub F H1) (h1 : Sub F1 H1) : Sub (cutL F1) (glue F F1) := fun b o z => by
  unfold glue
  split
  · rename_i o' e
    obtain ⟨z1, z2⟩ := cutL_some z
    have := hF b o' e
    rw [h1 b o z1] at this
    exact this.symm
  · exact z
theorem glue_sub {F1 H1 : Hp} (hF : Sub F H1) (h1 : Sub F1 H1) : Sub (glue F F1) H1 := fun b o z => by
  unfold glue at z
  split at z
  · rename_i o' e
    exact hF b o (e.trans z)
  · exact h1 b o (cutL_some z).1
theorem glue_some {F1 : Hp} {b : Addr} {o : HO} (z : glue F F1 b = some o) : F b = some o ∨ (F b = none ∧ F1 b = some o ∧ ∀ xs, o ≠ .lst xs) := by
  unfold glue at z
  split at z
  · rename_i o' e
    exact .inl (e.trans z)
  · rename_i e
    obtain ⟨z1, z2⟩ := cutL_some z
    exact .inr ⟨e, z1, z2⟩
theorem glue_none {F1 : Hp} {b : Addr} (h : F b = none) (h1 : cutL F1 b = none) : glue F F1 b = none := by
  unfold glue
  rw [h]
  exact h1
theorem Ok.noLists (ok : Ok K F k c H) (hc : ∀ us ∈ c, noLs us = true) : Ok K (cutL F) k c H :=
  ⟨fun b o z => ok.sub b o (cutL_some z).1, fun n a h => by
    obtain ⟨ts, h1, h2, h4⟩ := ok.cel n a h
    have hus := hc ts (List.mem_of_getElem? h1)
    have nd : noDt ts = some ts := noDt_self fun ks vs z => by rw [z] at hus; simp [noLs, noL] at hus
    obtain ⟨xs, h2, h3⟩ := h2.lst (noDt_eq nd).2
    exact ⟨ts, h1, .inl ⟨xs, h2, h3.nolist hus, nd⟩, cutL_none h4⟩, ok.len, ok.nd, fun a ps z => ok.nt a ps (cutL_some z).1, ok.tb⟩
/-- after a run on what is frozen without lists: all that was frozen is so still -/
theorem Ok.glue {F1 H1 : Hp} {k1 : List Addr} {c1 : Cs} (ok : Ok K F k c H) (g : Ge (cutL F) k H F1 k1 H1) (ok1 : Ok K F1 k1 c1 H1) (hc : ∀ us ∈ c1, noLs us = true) : Sub F H1 ∧ Ok K (glue F F1) k1 c1 H1 ∧ Ge F k H (glue F F1) k1 H1 := by
  have ink : ∀ a ∈ k, F a = none := fun a hm => by
    obtain ⟨n, hn, e⟩ := List.getElem_of_mem hm
    obtain ⟨_, _, _, z⟩ := ok.cel n a (by rw [List.getElem?_eq_getElem hn, e])
    exact z
  have sF : Sub F H1 := fun b o h => g.hs b o (ok.sub b o h) (fun hm => by rw [ink b hm] at h; cases h) fun ps z => ok.nt b ps (by rw [h, z])
  refine ⟨sF, ⟨glue_sub sF ok1.sub, fun n a h => ?_, ok1.len, ok1.nd, fun a ps z => ?_, ok1.tb⟩, ⟨glue_l, fun a o z => ?_, g.pk, g.kn, g.hs, g.hd⟩⟩
  · obtain ⟨ts, h1, h2, h4⟩ := ok1.cel n a h
    have hus := hc ts (List.mem_of_getElem? h1)
    have nd : noDt ts = some ts := noDt_self fun ks vs z => by rw [z] at hus; simp [noLs, noL] at hus
    obtain ⟨xs, h2, h3⟩ := h2.lst (noDt_eq nd).2
    refine ⟨ts, h1, .inl ⟨xs, h2, (h3.nolist hus).mono (glue_r sF ok1.sub) List.prefix_rfl, nd⟩, glue_none ?_ (cutL_none h4)⟩
    rcases g.kn a (List.mem_of_getElem? h) with q | q
    · exact ink a q
    · cases e : F a with
      | none => rfl
      | some o => obtain ⟨ps, q2⟩ := q o (ok.sub a o e); exact absurd (by rw [e, q2]) (ok.nt a ps)
  · rcases glue_some z with q | ⟨_, q, _⟩
    · exact ok.nt a ps q
    · exact ok1.nt a ps q
  · rcases glue_some z with q | ⟨_, q, q2⟩
    · exact .inl q
    · rcases g.fn a o q with q3 | q3
      · exact .inl (cutL_some q3).1
      · exact .inr q3
def newOf : Out T → Out (List T)
  | .stk => .stk
  | .ok (.lst ts) c => if (noLs ts && c.all noLs) = true then .ok ts c else .stk
  | .ok _ _ => .stk
  | .err ⟨x, []⟩ c => if c.all noLs = true then .err ⟨x, []⟩ c else .stk
  | .err ⟨_, _ :: _⟩ _ => .stk
/-- a call whose answer is a list that it has made -/
def dNew (n : Nat) (df : DF) (a : DA) : DA := fun r c => (a r c).bind fun ts c => if (decide (ts.length = n) && (noLs ts && c.all noLs)) = true then newOf (df ts c) else .stk
theorem rd_new {W : XK} {t : TA} {da : DA} {n : Nat} {df : DF} (h : RdA K mg W t da) : RdF K mg W (tCall (spQ K mg n df) [] W t) (dNew n df da) := fun N r c F k σ H Q S pp => by
  refine h N r c F k σ H _ S (pp.seq fun ts c1 vs F1 k1 H1 q1 ok1 g1 r1 p1 => ?_)
  by_cases hl : (decide (ts.length = n) && (noLs ts && c1.all noLs)) = true
  · rw [if_pos hl] at p1
    simp only [Bool.and_eq_true, decide_eq_true_eq] at hl
    obtain ⟨hl1, hl2, hl3⟩ := hl
    have hc1 : ∀ us ∈ c1, noLs us = true := fun us hu => List.all_eq_true.mp hl3 us hu
    refine ⟨cutL F1, k1, c1, ts, hl1, ok1.noLists hc1, ?_, ?_⟩
    · rw [List.append_nil]; exact r1.nolist hl2
    · generalize df ts c1 = o at p1
      rcases o with _ | ⟨t, c2⟩ | ⟨⟨x, fs⟩, c2⟩
      · exact p1
      · cases t with
        | lst us =>
          simp only [newOf] at p1
          split at p1
          · rename_i hh
            rw [Bool.and_eq_true] at hh
            have hc2 : ∀ us ∈ c2, noLs us = true := fun us hu => List.all_eq_true.mp hh.2 us hu
            intro v F2 k2 H2 ok2 g2 rv
            obtain ⟨sF, ok3, g3⟩ := Ok.glue ok1 g2 ok2 hc2
            cases rv with
            | lst ha rs =>
              rename_i a xs
              have fr : Fr0 H1 a := by
                rcases g2.fn a _ ha with q | q
                · exact absurd rfl ((cutL_some q).2 xs)
                · exact q
              refine p1 _ (glue F1 F2) k2 H2 ok3 g3 ⟨a, xs, rfl, ok2.sub a _ ha, (rs.nolist hh.1).mono (glue_r sF ok2.sub) List.prefix_rfl, glue_none ?_ ?_, fun hm => ?_, g1.none_of fr⟩
              · cases e : F1 a with
                | none => rfl
                | some o => obtain ⟨ps, q2⟩ := fr o (ok1.sub a o e); exact absurd (by rw [e, q2]) (ok1.nt a ps)
              · unfold cutL; rw [ha]
              · obtain ⟨n, hn, e⟩ := List.getElem_of_mem hm
                obtain ⟨_, _, _, z⟩ := ok2.cel n a (by rw [List.getElem?_eq_getElem hn, e])
                rw [ha] at z; cases z
          · exact p1.elim
        | _ => exact p1.elim
      · cases fs with
        | nil =>
          simp only [newOf] at p1
          split at p1
          · rename_i hh
            have hc2 : ∀ us ∈ c2, noLs us = true := fun us hu => List.all_eq_true.mp hh us hu
            intro cls d F2 k2 H2 ok2 g2 rx
            obtain ⟨sF, ok3, g3⟩ := Ok.glue ok1 g2 ok2 hc2
            exact p1 cls d (glue F1 F2) k2 H2 ok3 g3 rx
          · exact p1.elim
        | cons _ _ => exact p1.elim
  · rw [if_neg hl] at p1; exact p1.elim
@[simp] theorem dNew_e {n : Nat} {df : DF} {a : DA} : dNew n df a r c = (a r c).bind fun ts c => if (decide (ts.length = n) && (noLs ts && Fb c)) = true then newOf (df ts c) else .stk := (rfl)
@[simp] theorem newOf_lst {ts : List T} : newOf (.ok (.lst ts) c) = if (noLs ts && Fb c) = true then .ok ts c else .stk := (rfl)
@[simp] theorem newOf_err {x : Str} : newOf (.err ⟨x, []⟩ c) = if Fb c = true then .err ⟨x, []⟩ c else .stk := (rfl)
end
section
variable {X : Cx} {W : XK} {x : Str} {ps : List Str} {df : DF} {e : Expr} {es : List Expr} {t : TA} {da : DA} {p pos : Pos} {k j : Nat}
theorem ef_has (K : PySem.W.Frag) (mg : Str → Option Value) {P : Program} {w : World} (bo : BaseOk K mg X.base) (h : Has P w K mg k x ps df) (hr : Room j X.A) (hp : Passes (L2.CX X.prog X.w) X W) (ha : EA X W (e :: es) t da) (hk : k ≤ j := by decide) (hg : Gl X x := by rfl) (hdb : (x == ("__debug__" : Str)) = false := by decide)
    (he : starEach (e :: es) X.env = (false, eval e X.env) :: starEach es X.env := by rfl) (hpl : (backTo pos (starEach es X.env)).any (·.1) = false := by rfl) (hK : X.K = K := by rfl) (hM : X.mg = mg := by rfl) (hP : X.prog = P := by rfl) (hw : X.w = w := by rfl) :
    EF X W (.Call (.Name x p) (e :: es) [] pos) (tCall (spQ K mg ps.length df) [] W t) (dNew ps.length df da) :=
  ⟨(ee_has K mg bo h hr hp ha hk hg hdb he hpl hK hM hP hw).pe, by subst hK hM; exact rd_new ha.rd⟩
theorem ef_hasG (K : PySem.W.Frag) (mg : Str → Option Value) {P : Program} {w : World} (bo : BaseOk K mg X.base) (h : HasG P w K mg k x ps df) (gd : X.A.guards = some []) (hr : Room j X.A) (hp : Passes (L2.CX X.prog X.w) X W) (ha : EA X W (e :: es) t da) (hk : k ≤ j := by decide) (hg : Gl X x := by rfl) (hdb : (x == ("__debug__" : Str)) = false := by decide)
    (he : starEach (e :: es) X.env = (false, eval e X.env) :: starEach es X.env := by rfl) (hpl : (backTo pos (starEach es X.env)).any (·.1) = false := by rfl) (hK : X.K = K := by rfl) (hM : X.mg = mg := by rfl) (hP : X.prog = P := by rfl) (hw : X.w = w := by rfl) :
    EF X W (.Call (.Name x p) (e :: es) [] pos) (tCall (spQ K mg ps.length df) [] W t) (dNew ps.length df da) :=
  ⟨(ee_hasG K mg bo h gd hr hp ha hk hg hdb he hpl hK hM hP hw).pe, by subst hK hM; exact rd_new ha.rd⟩
end
def lentB {α : Type} : Out α → Out α
  | .stk => .stk
  | .ok b c => if c.all noLs = true then .ok b c else .stk
  | .err ⟨x, []⟩ c => if c.all noLs = true then .err ⟨x, []⟩ c else .stk
  | .err ⟨_, _ :: _⟩ _ => .stk
def dLendB (i : Nat) (db : DB) : DB := fun r c => match r[i]? with
  | some (.own ts) => if r.any isLen = false then lentB (db (r.set i (.len ts)) c) else .stk
  | _ => .stk
section
variable {K : PySem.W.Frag} {mg : Str → Option Value} {N : Ent} {F F' H H' : Hp} {k k' : List Addr} {c c' : Cs} {r : Env} {σ : L2.St}
theorem Ok.cutOne {a : Addr} {xs : List V} (ok : Ok K F k c H) (ha : F a = some (.lst xs)) (hc : ∀ us ∈ c, noLs us = true) : Ok K (cutA F a) k c H := by
  have sF : Sub (cutA F a) F := fun b u q => by
    by_cases h : b = a
    · subst h; rw [cutA_self] at q; cases q
    · rw [cutA_ne h] at q; exact q
  refine ⟨fun b u q => ok.sub b u (sF b u q), fun n b q => ?_, ok.len, ok.nd, fun b ps q => ok.nt b ps (sF b _ q), ok.tb⟩
  obtain ⟨us, q1, q2, q4⟩ := ok.cel n b q
  have hus := hc us (List.mem_of_getElem? q1)
  have nd : noDt us = some us := noDt_self fun ks vs z => by rw [z] at hus; simp [noLs, noL] at hus
  obtain ⟨ys, q2, q3⟩ := q2.lst (noDt_eq nd).2
  refine ⟨us, q1, .inl ⟨ys, q2, q3.cut ha hus, nd⟩, ?_⟩
  by_cases h : b = a
  · subst h; exact cutA_self
  · rw [cutA_ne h]; exact q4
theorem SR.lendX {i : Nat} {ts : List T} (S : SR K N F k c r σ H) (e : r[i]? = some (.own ts)) : ∃ (a : Addr) (xs : List V), SR K N (upd F a (.lst xs)) k c (r.set i (.len ts)) σ H ∧ F a = none ∧ a ∉ k ∧ H a = some (.lst xs) := by
  have hi : i < r.length := (List.getElem?_eq_some_iff.mp e).1
  obtain ⟨a, xs, h1, h2, h3, h4, h5, h6⟩ := S.own i ts e
  have sF : Sub F (upd F a (.lst xs)) := fun b u q => by rw [upd_ne (ne_of_none q h4)]; exact q
  have own : ∀ (j : Nat) (b : Addr), OwnAt (r.set i (.len ts)) σ j b → OwnAt r σ j b ∧ j ≠ i := fun j b ⟨⟨vs, e1⟩, e2⟩ => by
    by_cases h : i = j
    · subst h; rw [List.getElem?_set_self hi] at e1; cases e1
    · rw [List.getElem?_set_ne h] at e1; exact ⟨⟨⟨vs, e1⟩, e2⟩, Ne.symm h⟩
  refine ⟨a, xs, ⟨S.ok.freeze h2 h5 h4, ⟨fun b o q => sF b o (S.ge.f b o q), fun b o q => ?_, S.ge.pk, S.ge.kn, S.ge.hs, S.ge.hd⟩, by simp [S.len], fun j u ej => ?_, fun j vs ej => ?_, fun j l b x y => S.dis j l b (own j b x).1 (own l b y).1, fun j vs ej => ?_⟩, h4, h5, h2⟩
  · by_cases h : b = a
    · subst h; exact .inr h6
    · rw [upd_ne h] at q; exact S.ge.fn b o q
  · by_cases h : i = j
    · subst h; rw [List.getElem?_set_self hi] at ej; cases ej
    · rw [List.getElem?_set_ne h] at ej
      obtain ⟨v, g1, g2⟩ := S.val j u ej
      exact ⟨v, g1, g2.mono sF List.prefix_rfl⟩
  · by_cases h : i = j
    · subst h; rw [List.getElem?_set_self hi] at ej; cases ej
    · rw [List.getElem?_set_ne h] at ej
      obtain ⟨b, zs, g1, g2, g3, g4, g5, g6⟩ := S.own j vs ej
      have hne : b ≠ a := fun z => by
        subst z
        exact h (S.dis i j b ⟨⟨ts, e⟩, h1⟩ ⟨⟨vs, ej⟩, g1⟩)
      exact ⟨b, zs, g1, g2, g3.mono sF List.prefix_rfl, by rw [upd_ne hne]; exact g4, g5, g6⟩
  · by_cases h : i = j
    · subst h
      rw [List.getElem?_set_self hi] at ej
      cases ej
      refine ⟨a, xs, h1, upd_same, h3.mono sF List.prefix_rfl, h5, h6, ?_⟩
      cases z : N.F a with
      | none => rfl
      | some o => have q := S.ge.f a o z; rw [h4] at q; cases q
    · rw [List.getElem?_set_ne h] at ej
      obtain ⟨b, zs, g1, g2, g3, g4, g5⟩ := S.lnt j vs ej
      exact ⟨b, zs, g1, sF b _ g2, g3.mono sF List.prefix_rfl, g4, g5⟩
theorem rd_lendB {W : XK} {tt : TT} {db : DB} (i : Nat) (h : RdB K mg W tt db) : RdB K mg W tt (dLendB i db) := fun N r c F k σ H Q S p => by
  unfold dLendB at p
  split at p
  · rename_i ts e
    split at p
    · obtain ⟨a, xs, S1, f0, ak, hH⟩ := S.lendX e
      have back : ∀ {F2 k2 H2 c2}, Ge (upd F a (.lst xs)) k H F2 k2 H2 → Ok K F2 k2 c2 H2 → c2.all noLs = true → Ok K (cutA F2 a) k2 c2 H2 ∧ Ge F k H (cutA F2 a) k2 H2 := fun {F2 k2 H2 c2} g ok2 hc => by
        have f2 : F2 a = some (.lst xs) := g.f a _ upd_same
        refine ⟨ok2.cutOne f2 fun us hu => List.all_eq_true.mp hc us hu, ⟨fun b o z => ?_, fun b o z => ?_, g.pk, g.kn, g.hs, g.hd⟩⟩
        · have hne : b ≠ a := fun q => by subst q; rw [f0] at z; cases z
          rw [cutA_ne hne]
          exact g.f b o (by rw [upd_ne hne]; exact z)
        · have hne : b ≠ a := fun q => by subst q; rw [cutA_self] at z; cases z
          rw [cutA_ne hne] at z
          rcases g.fn b o z with q | q
          · rw [upd_ne hne] at q; exact .inl q
          · exact .inr q
      refine h N _ c _ k σ H Q S1 ?_
      generalize db (r.set i (.len ts)) c = o at p
      rcases o with _ | ⟨b, c2⟩ | ⟨⟨x, fs⟩, c2⟩
      · exact p
      · simp only [lentB] at p
        split at p
        · rename_i hc
          intro b' F2 k2 H2 ok2 g2 rb
          obtain ⟨ok3, g3⟩ := back g2 ok2 hc
          exact p b' _ k2 H2 ok3 g3 rb
        · exact p.elim
      · cases fs with
        | nil =>
          simp only [lentB] at p
          split at p
          · rename_i hc
            intro cls d F2 k2 H2 ok2 g2 rx
            obtain ⟨ok3, g3⟩ := back g2 ok2 hc
            exact p cls d _ k2 H2 ok3 g3 rx
          · exact p.elim
        | cons _ _ => exact p.elim
    · exact p.elim
  · exact p.elim
@[simp] theorem lentB_ok {α : Type} {b : α} : lentB (.ok b c) = if Fb c = true then .ok b c else .stk := (rfl)
@[simp] theorem dLendB_e {i : Nat} {db : DB} : dLendB i db r c = match r[i]? with
  | some (.own ts) => if r.any isLen = false then lentB (db (r.set i (.len ts)) c) else .stk
  | _ => .stk := (rfl)
end
theorem et_lend {X : Cx} {W : XK} {e : Expr} {tt : TT} {db : DB} (i : Nat) (h : ET X W e tt db) : ET X W e tt (dLendB i db) := ⟨h.pe, rd_lendB i h.rd⟩
end Q
namespace Q
open PySem PySem.Spec PyProof.Rows L2
def dParO (i j : Nat) (da : DA) (d : D) : DS := fun r c => (da r c).bind fun ts c => (d r c).bind fun t c => if i < r.length ∧ j < r.length ∧ i ≠ j then .ok (.nxt ((r.set j (.val t)).set i (.own ts))) c else .stk
section
variable {X : Cx} {W : XK} {a b : Expr} {ta tb : TE} {da : DA} {d : D}
theorem ss_parO {st : Stmt} {i j : Nat} (h : PS X st (tPar i j (tCons ta (tCons tb tNil)))) (ha : EF X W a ta da) (hb : EE X W b tb d) : SS X W st (tPar i j (tCons ta (tCons tb tNil))) (dParO i j da d) := by
  refine ⟨h, fun N r c F k σ H D S p => ?_⟩
  refine ha.rd N r c F k σ H _ S (PostS.seq S.ge p fun ts c1 v F1 k1 H1 ok1 g1 r1 p1 => ?_)
  obtain ⟨a, xs, rfl, h1, h2, h3, h4, h5⟩ := r1
  have S1 := S.step ok1 g1
  refine hb.rd N r c1 F1 k1 σ H1 _ S1 (PostS.seq S1.ge p1 fun t c2 w F2 k2 H2 ok2 g2 r2 p2 => ?_)
  by_cases hh : i < r.length ∧ j < r.length ∧ i ≠ j
  · rw [if_pos hh] at p2
    have S2 := S1.step ok2 g2
    have f2 : F2 a = none := by
      cases e : F2 a with
      | none => rfl
      | some o =>
        rcases g2.fn a o e with q | q
        · rw [h3] at q; cases q
        · exact (fr0_lst q h1).elim
    have k2' : a ∉ k2 := fun hm => by
      rcases g2.kn a hm with q | q
      · exact h4 q
      · exact fr0_lst q h1
    have H2a : H2 a = some (.lst xs) := g2.hs a _ h1 h4 (fun ps z => by cases z)
    have S3 := (S2.setV r2 hh.2.1).setO (i := i) (by simpa using hh.1) H2a (h2.mono g2.f g2.pk) f2 k2' (S.ge.none_of h5) fun l hl ⟨⟨us, e1⟩, e2⟩ => by
      by_cases hj : j = l
      · subst hj; rw [List.getElem?_set_self hh.2.1] at e1; cases e1
      · rw [List.getElem?_set_ne hj] at e1 e2
        obtain ⟨b, ys, g1', g2', _⟩ := S.own l us e1
        rw [g1'] at e2
        cases e2
        exact fr0_lst h5 g2'
    rw [List.set_comm _ _ (Ne.symm hh.2.2)] at S3
    have e3 : (σ.set j (some w)).set i (some (.ref a)) = (σ.set i (some (.ref a))).set j (some w) := List.set_comm _ _ (Ne.symm hh.2.2)
    rw [List.set_comm _ _ (Ne.symm hh.2.2)] at p2
    rw [e3] at S3
    exact ⟨_, _, rfl, p2 _ H2 F2 k2 S3 (fun _ _ z => z) List.prefix_rfl⟩
  · rw [if_neg hh] at p2; exact p2.elim
theorem ss_parOE (i j : Nat) {x y : Str} {px py pt : Pos} {kt k2 pt2} {pos : Pos} (ha : EF X W a ta da) (hb : EE X W b tb d) (hN : X.N.Nodup) (hi : X.N[i]? = some x := by rfl) (hj : X.N[j]? = some y := by rfl) (hij : i ≠ j := by decide)
    (hx : X.env.scope.names.lookup x = some .local := by rfl) (hy : X.env.scope.names.lookup y = some .local := by rfl)
    (hw : swappedStores [.Tuple [.Name x px, .Name y py] kt pt] (.Tuple [a, b] k2 pt2) X.env = pure (some [x, y]) := by rfl)
    (hs : swapsWithSole [.Tuple [.Name x px, .Name y py] kt pt] (.Tuple [a, b] k2 pt2) pos.line X.env = pure false := by rfl) (hc : X.calm = true := by rfl)
    (hs1 : starEach (a :: [b]) X.env = (false, eval a X.env) :: starEach [b] X.env := by rfl) (hs2 : starEach (b :: []) X.env = (false, eval b X.env) :: starEach [] X.env := by rfl) :
    SS X W (.Assign [.Tuple [.Name x px, .Name y py] kt pt] (.Tuple [a, b] k2 pt2) pos) (tPar i j (tCons ta (tCons tb tNil))) (dParO i j da d) := ss_parO (ps_par hc hN hi hj hij hx hy (pa_cons ha.pe (pa_cons hb.pe pa_nil hs2) hs1) hw hs) ha hb
@[simp] theorem dParO_e {i j : Nat} {r : Env} {c : Cs} : dParO i j da d r c = (da r c).bind fun ts c => (d r c).bind fun t c => if i < r.length ∧ j < r.length ∧ i ≠ j then .ok (.nxt ((r.set j (.val t)).set i (.own ts))) c else .stk := (rfl)
end
end Q
namespace Q
open PySem PySem.Spec PyProof.Rows L2
open PySem.W (minD dataLt AlikeAll min_list_data readsAll_at)
theorem minD_mem : ∀ (xs : List PyData) (x : PyData), minD x xs ∈ x :: xs
  | [], x => by simp [minD]
  | y :: xs, x => by
    have e : minD x (y :: xs) = minD (if dataLt y x then y else x) xs := rfl
    rw [e]
    have := minD_mem xs (if dataLt y x then y else x)
    by_cases h : dataLt y x = true
    · rw [if_pos h] at this ⊢; exact List.mem_cons_of_mem _ this
    · rw [if_neg h] at this ⊢
      rcases List.mem_cons.mp this with q | q
      · rw [q]; exact List.mem_cons_self
      · exact List.mem_cons_of_mem _ (List.mem_cons_of_mem _ q)
theorem canLay_mem : ∀ {ds : List PyData} {d : PyData}, PyData.canLayAll0 ds = true → d ∈ ds → d.canLay0 = true
  | x :: ds, d, h, hm => by
    rw [PyData.canLayAll0, Bool.and_eq_true] at h
    rcases List.mem_cons.mp hm with rfl | hm
    · exact h.1
    · exact canLay_mem h.2 hm
def rMinT (K : PySem.W.Frag) : List V → Hp → VK → Prop := fun vs H Q => ∃ (a : Addr) (xs : List V) (x : PyData) (rest : List PyData), vs = [V.ref a] ∧ H a = some (.lst xs) ∧ DpAll K H xs (x :: rest) ∧ SeqAt.shaped (.list (x :: rest)) = true ∧ AlikeAll (x :: rest) ∧
  ∀ (i : Nat) (v : V), xs[i]? = some v → (x :: rest)[i]? = some (minD x rest) → Q v H
section
variable {X : Cx}
theorem cr_minT (hc : X.calm = true) (hu : X.A.units + 65 < cLine) : CallR X (.builtin "min") (rMinT X.K) := by
  intro pins s σ H vs us Q I r h
  obtain ⟨a, xs, x, rest, rfl, hs, ha, sh, al, q⟩ := h
  rw [Vals.ref1 r]
  obtain ⟨its, rv, hl, _⟩ := I.list (SqL.of hs)
  obtain ⟨as, r2⟩ := Dp.readsAll I _ _ its ha rv
  have hcl : PyData.canLayAll0 (x :: rest) = true := SeqAt.canLay_of_shaped sh
  have hroom : X.A.units + 1 + PyData.depthAll (x :: rest) < cLine := by
    have h1 := SeqAt.depth_of_shaped sh
    rw [PyData.depth] at h1
    omega
  refine min_list_data (I.ok.hd hc) hl.isList r2 al hroom fun i v h' tk bs hv hr hk => ?_
  have hv' : its[i]? = some v := by simpa using hv
  obtain ⟨cs, r3, hi, hm, _⟩ := readsAll_at r2 i v hv'
  have e1 := SeqAt.readOf_eq (canLay_mem hcl hm) (Reads.keeps hk r3)
  have e2 := SeqAt.readOf_eq (canLay_mem hcl (minD_mem rest x)) hr
  rw [e1] at e2
  have hxl : i < xs.length := by
    have := rv.length
    have := (List.getElem?_eq_some_iff.mp hv').1
    omega
  obtain ⟨u, hu1, hu2⟩ := rv.get (List.getElem?_eq_getElem hxl)
  rw [hv'] at hu1
  cases hu1
  refine ⟨xs[i], H, I.kept hk, hu2, q i _ (List.getElem?_eq_getElem hxl) ?_⟩
  rw [List.getElem?_eq_getElem hi, ← e2]
  congr 1
  rw [List.getD_eq_getElem?_getD, List.getElem?_eq_getElem hi]
  rfl
end
/-- the first of the least of some tuples of ints -/
def itT1 : T → Bool
  | .tup ts => (intsOf ts).isSome
  | _ => false
theorem itT1_tup {t : T} (h : itT1 t = true) : ∃ xs : List Int, t = .tup (xs.map T.int) := by
  cases t with
  | tup ts =>
    simp only [itT1, Option.isSome_iff_exists] at h
    obtain ⟨xs, e⟩ := h
    exact ⟨xs, by rw [intsOf_eq e]⟩
  | _ => cases h
theorem alike_ints : ∀ (xs ys : List Int), PySem.W.alikeAll (xs.map PyData.int) (ys.map PyData.int) = true
  | [], _ => rfl
  | _ :: _, [] => rfl
  | x :: xs, y :: ys => by
    rw [List.map_cons, List.map_cons, PySem.W.alikeAll, alike_ints xs ys]
    rfl
def minTs (t : T) (ts : List T) : T := ts.foldl (fun a y => if dataLt (pyT y) (pyT a) = true then y else a) t
theorem minTs_py : ∀ (ts : List T) (t : T), pyT (minTs t ts) = minD (pyT t) (pyTs ts)
  | [], _ => rfl
  | u :: ts, t => by
    show pyT (minTs (if dataLt (pyT u) (pyT t) = true then u else t) ts) = minD (if dataLt (pyT u) (pyT t) then pyT u else pyT t) (pyTs ts)
    rw [minTs_py ts]
    congr 1
    split <;> rfl
theorem minTs_mem : ∀ (ts : List T) (t : T), minTs t ts ∈ t :: ts
  | [], _ => List.mem_cons_self
  | u :: ts, t => by
    have e : minTs t (u :: ts) = minTs (if dataLt (pyT u) (pyT t) = true then u else t) ts := rfl
    rw [e]
    have := minTs_mem ts (if dataLt (pyT u) (pyT t) = true then u else t)
    rcases List.mem_cons.mp this with q | q
    · rw [q]
      split <;> simp
    · exact List.mem_cons_of_mem _ (List.mem_cons_of_mem _ q)
def minW : T → Option T
  | .lst (t :: ts) => if (t :: ts).all itT1 = true then some (minTs t ts) else minLT (.lst (t :: ts))
  | _ => none
def rMinW (K : PySem.W.Frag) : List V → Hp → VK → Prop := fun vs H Q => rMin K vs H Q ∨ rMinT K vs H Q
theorem cr_minW {X : Cx} (hc : X.calm = true) (hu : X.A.units + 65 < cLine) : CallR X (.builtin "min") (rMinW X.K) := by
  intro pins s σ H vs us Q I r h
  rcases h with h | h
  · exact cr_min hc pins s σ H vs us Q I r h
  · exact cr_minT hc hu pins s σ H vs us Q I r h
theorem pyT_it {xs : List Int} : pyT (.tup (xs.map T.int)) = .tuple (xs.map PyData.int) := by rw [pyT, pyTs_ints]
theorem pyint_inj : ∀ {xs ys : List Int}, xs.map PyData.int = ys.map PyData.int → xs = ys
  | [], [], _ => rfl
  | [], _ :: _, h => by cases h
  | _ :: _, [], h => by cases h
  | x :: xs, y :: ys, h => by
    rw [List.map_cons, List.map_cons] at h
    injection h with h1 h2
    injection h1 with h1
    rw [h1, pyint_inj h2]
theorem op1_minW {K : PySem.W.Frag} : Op1 K (fun x H Q => rMinW K [x] H Q) minW := fun x t v c F k H Q e ok rx g => by
  cases x <;> try (first | (cases e; done))
  case lst ts =>
    cases ts with
    | nil => cases e
    | cons u us =>
      simp only [minW] at e
      split at e
      · rename_i hall
        cases e
        obtain ⟨a, xs, rfl, a1, a2, a3⟩ := rx
        have hpl : plain (.lst (u :: us)) = true := by
          unfold plain
          rw [plT]
          refine List.all_eq_true.mpr fun z hz => ?_
          obtain ⟨is, rfl⟩ := itT1_tup (List.all_eq_true.mp hall z hz)
          rw [plT, List.all_map]
          exact List.all_eq_true.mpr fun _ _ => by simp [plT]
        have dp := Reps.dp ok.sub 19 (by unfold plain at hpl; rw [plT] at hpl; exact hpl) a3
        have epy : pyTs (u :: us) = pyT u :: pyTs us := by rw [pyTs]
        rw [epy] at dp
        refine .inr ⟨a, xs, pyT u, pyTs us, rfl, a1, dp, ?_, ?_, fun i v hi hz => ?_⟩
        · have := plain_shaped hpl
          rwa [pyT, epy] at this
        · rw [← epy, pyTs_map]
          refine ⟨fun p hp q hq => ?_, fun p hp => ?_⟩
          · obtain ⟨z, hz, rfl⟩ := List.mem_map.mp hp
            obtain ⟨w, hw, rfl⟩ := List.mem_map.mp hq
            obtain ⟨is, rfl⟩ := itT1_tup (List.all_eq_true.mp hall z hz)
            obtain ⟨js, rfl⟩ := itT1_tup (List.all_eq_true.mp hall w hw)
            rw [pyT_it, pyT_it, PySem.W.alike]
            exact alike_ints _ _
          · obtain ⟨z, hz, rfl⟩ := List.mem_map.mp hp
            obtain ⟨is, rfl⟩ := itT1_tup (List.all_eq_true.mp hall z hz)
            rw [pyT_it]
            exact fun q => by cases q
        · obtain ⟨z, hz1, hz2⟩ := a3.getV hi
          have ez : z = minTs u us := by
            rw [← epy, pyTs_map, List.getElem?_map, hz1, ← minTs_py us u] at hz
            have hz := Option.some.inj hz
            obtain ⟨is, rfl⟩ := itT1_tup (List.all_eq_true.mp hall z (List.mem_of_getElem? hz1))
            obtain ⟨js, ej⟩ := itT1_tup (List.all_eq_true.mp hall _ (minTs_mem us u))
            rw [ej] at hz ⊢
            rw [pyT_it, pyT_it] at hz
            injection hz with hz
            rw [pyint_inj hz]
          subst ez
          exact g.same ok hz2
      · exact .inl (op1_minL _ t v c F k H Q e ok rx g)
@[simp] theorem minW_tI {x : List Int} {xs : List (List Int)} : minW (.lst ((x :: xs).map fun y => .tup (y.map T.int))) = some (minTs (.tup (x.map T.int)) (xs.map fun y => .tup (y.map T.int))) := by
  have : ((x :: xs).map fun y => T.tup (y.map T.int)).all itT1 = true := List.all_eq_true.mpr fun z hz => by
    obtain ⟨y, _, rfl⟩ := List.mem_map.mp hz
    simp [itT1, intsOf_map]
  rw [List.map_cons] at this ⊢
  simp only [minW]
  rw [if_pos this]
end Q
namespace Q
open PySem PySem.Spec PyProof.Rows L2
/-- what stands there -/
def bas (i : Int) : Option (Int × Int) := if i = 4 then some (2, 2) else if i = 8 then some (2, 3) else if i = 9 then some (3, 2) else if i = 16 then some (2, 4) else none
def tyB (c : Value) (x : String) : Bool := match c with
  | .type n => decide (n = x)
  | _ => false
theorem tyB_eq {c : Value} {x : String} (h : tyB c x = true) : c = .type x := by
  unfold tyB at h
  split at h
  · rw [of_decide_eq_true h]
  · cases h
def two (p q : Int) : List Value → Bool
  | [v, w] => Value.isInt p v && Value.isInt q w
  | _ => false
def tupB (K : PySem.W.Frag) (v : Value) (p q : Int) : Bool := match v with
  | .ref a => (match K.lookup a with
    | some ⟨c, none, .seq its _, _⟩ => tyB c "tuple" && two p q its.toList
    | _ => false)
  | _ => false
def entB (K : PySem.W.Frag) (e : DictEntry) (k p q : Int) : Bool := Value.isInt k e.key && (decide (e.hash = hashInt k) && tupB K e.val p q)
def entsB (K : PySem.W.Frag) : List DictEntry → Bool
  | [e1, e2, e3, e4] => entB K e1 4 2 2 && (entB K e2 8 2 3 && (entB K e3 9 3 2 && entB K e4 16 2 4))
  | _ => false
def basB (K : PySem.W.Frag) : Bool := match K.lookup (He.ga K "BASES") with
  | some ⟨c, none, .dict es _, sl⟩ => tyB c "dict" && (sl.isEmpty && (!(He.ga K "BASES" == sysModules) && entsB K es.toList))
  | _ => false
structure BasOk (K : PySem.W.Frag) : Prop where
  ex : ∃ es n, K.lookup (He.ga K "BASES") = some ⟨.type "dict", none, .dict es n, #[]⟩ ∧ entsB K es.toList = true
  low : (He.ga K "BASES" == sysModules) = false
theorem bas_ok {K : PySem.W.Frag} (h : basB K = true) : BasOk K := by
  unfold basB at h
  split at h
  · rename_i c es n sl e
    simp only [Bool.and_eq_true, Bool.not_eq_true'] at h
    obtain ⟨h1, h2, h3, h4⟩ := h
    have hs : sl = #[] := by simpa using h2
    rw [tyB_eq h1, hs] at e
    exact ⟨⟨es, n, e, h4⟩, h3⟩
  · cases h
section
variable {K : PySem.W.Frag}
theorem ent_key {e : DictEntry} {k p q : Int} (h : entB K e k p q = true) : (∃ t, e.key = .int k t) ∧ e.hash = hashInt k ∧ tupB K e.val p q = true := by
  unfold entB at h
  simp only [Bool.and_eq_true, decide_eq_true_eq] at h
  exact ⟨Value.isInt_shape h.1, h.2.1, h.2.2⟩
theorem tup_at {v : Value} {p q : Int} (h : tupB K v p q = true) : ∃ a, v = .ref a ∧ KTup K a [.int p, .int q] := by
  unfold tupB at h
  split at h
  · rename_i a
    split at h
    · rename_i c its n sl e
      simp only [Bool.and_eq_true] at h
      obtain ⟨h1, h2⟩ := h
      refine ⟨a, rfl, _, its, n, e, ⟨tyB_eq h1, rfl⟩, rfl, ?_, ?_⟩
      · have : its.toList.length = 2 := by
          unfold two at h2
          split at h2
          · rename_i e2; rw [e2]; rfl
          · cases h2
        rw [Array.length_toList] at this
        rw [this, sizeLine_eq]
        omega
      · unfold two at h2
        split at h2
        · rename_i v w e2
          rw [Bool.and_eq_true] at h2
          obtain ⟨t1, rfl⟩ := Value.isInt_shape h2.1
          obtain ⟨t2, rfl⟩ := Value.isInt_shape h2.2
          rw [e2]
          exact .cons ⟨t1, rfl⟩ (.cons ⟨t2, rfl⟩ .nil)
        · cases h2
    · cases h
  · cases h
theorem bas_find {es : Array DictEntry} (h : entsB K es.toList = true) (i : Int) : (bas i = none → findBy Value.isInt es i = none) ∧ (∀ p q, bas i = some (p, q) → ∃ a, findBy Value.isInt es i = some (.ref a) ∧ KTup K a [.int p, .int q]) := by
  obtain ⟨l⟩ := es
  change entsB K l = true at h
  unfold findBy
  rw [List.find?_toArray]
  unfold entsB at h
  split at h
  · rename_i e1 e2 e3 e4
    simp only [Bool.and_eq_true] at h
    obtain ⟨h1, h2, h3, h4⟩ := h
    obtain ⟨⟨t1, k1⟩, _, v1⟩ := ent_key h1
    obtain ⟨⟨t2, k2⟩, _, v2⟩ := ent_key h2
    obtain ⟨⟨t3, k3⟩, _, v3⟩ := ent_key h3
    obtain ⟨⟨t4, k4⟩, _, v4⟩ := ent_key h4
    simp only [List.find?, k1, k2, k3, k4, Value.isInt]
    unfold bas
    by_cases q1 : i = 4
    · subst q1
      obtain ⟨a, ea, sa⟩ := tup_at v1
      refine ⟨fun q => by simp at q, fun p q e => ?_⟩
      simp at e
      obtain ⟨rfl, rfl⟩ := e
      exact ⟨a, by simp [ea], sa⟩
    by_cases q2 : i = 8
    · subst q2
      obtain ⟨a, ea, sa⟩ := tup_at v2
      refine ⟨fun q => by simp at q, fun p q e => ?_⟩
      simp at e
      obtain ⟨rfl, rfl⟩ := e
      exact ⟨a, by simp [ea], sa⟩
    by_cases q3 : i = 9
    · subst q3
      obtain ⟨a, ea, sa⟩ := tup_at v3
      refine ⟨fun q => by simp at q, fun p q e => ?_⟩
      simp at e
      obtain ⟨rfl, rfl⟩ := e
      exact ⟨a, by simp [ea], sa⟩
    by_cases q4 : i = 16
    · subst q4
      obtain ⟨a, ea, sa⟩ := tup_at v4
      refine ⟨fun q => by simp at q, fun p q e => ?_⟩
      simp at e
      obtain ⟨rfl, rfl⟩ := e
      exact ⟨a, by simp [ea], sa⟩
    refine ⟨fun _ => ?_, fun p q e => ?_⟩
    · rw [show ((4 : Int) == i) = false by simp; omega, show ((8 : Int) == i) = false by simp; omega, show ((9 : Int) == i) = false by simp; omega, show ((16 : Int) == i) = false by simp; omega]
      rfl
    · simp [q1, q2, q3, q4] at e
  · cases h
theorem bas_keys {es : Array DictEntry} (h : entsB K es.toList = true) : ∀ e ∈ es, ∃ k, Value.isInt k e.key = true ∧ e.hash = hashInt k := fun e he => by
  have he := Array.mem_toList_iff.mpr he
  generalize es.toList = l at *
  unfold entsB at h
  split at h
  · rename_i e1 e2 e3 e4
    simp only [Bool.and_eq_true] at h
    obtain ⟨h1, h2, h3, h4⟩ := h
    have g : ∀ {e : DictEntry} {k p q : Int}, entB K e k p q = true → ∃ k, Value.isInt k e.key = true ∧ e.hash = hashInt k := fun {e k p q} h => by
      obtain ⟨⟨t, k1⟩, k2, _⟩ := ent_key h
      exact ⟨k, by rw [k1]; simp [Value.isInt], k2⟩
    simp at he
    rcases he with rfl | rfl | rfl | rfl
    · exact g h1
    · exact g h2
    · exact g h3
    · exact g h4
  · cases h
end
section
variable {X : Cx}
def isBas (i : Int) : Bool := (bas i).isSome
def rNinB (K : PySem.W.Frag) : R2 := fun x y H Q => ∃ i : Int, x = .int i ∧ y = .ref (He.ga K "BASES") ∧ Q (.bl (!isBas i)) H
theorem op_ninB (B : BasOk X.K) : OpR X (compareOp .NotIn) (rNinB X.K) := by
  intro pins s σ H x y v u Q I rx ry h
  obtain ⟨i, rfl, rfl, q⟩ := h
  obtain ⟨t, rfl⟩ := rx
  cases ry
  obtain ⟨es, n, e, he⟩ := B.ex
  have hm : s.heap.MapOf (PySem.intKind X.prog X.w) (He.ga X.K "BASES") (fun k => findBy Value.isInt es k) := ⟨_, es, n, I.kIn _ _ e, ⟨rfl, rfl, rfl⟩, rfl, bas_keys he, fun _ => rfl⟩
  refine wpAny_notIn_of (knd := PySem.intKind X.prog X.w) (k := i) (by simp [PySem.intKind, Value.isInt]) B.low hm ?_
  have e2 : (findBy Value.isInt es i).isSome = isBas i := by
    obtain ⟨f1, f2⟩ := bas_find he i
    unfold isBas
    cases hb : bas i with
    | none => rw [f1 hb]; rfl
    | some pq =>
      obtain ⟨a, ea, _⟩ := f2 pq.1 pq.2 hb
      rw [ea]; rfl
  show _
  rw [e2]
  exact ⟨.bl (!isBas i), H, I.tok _, rfl, q⟩
def rIxB (K : PySem.W.Frag) : R2 := fun x y H Q => ∃ (i p q : Int), x = .ref (He.ga K "BASES") ∧ y = .int i ∧ bas i = some (p, q) ∧ ∀ a, KTup K a [.int p, .int q] → Q (.ref a) H
theorem ix_bas (B : BasOk X.K) : IxR X (rIxB X.K) := by
  intro value slice pins s σ H x y v u Q I rx ry h hs
  obtain ⟨i, p, q, rfl, rfl, hb, hq⟩ := h
  cases rx
  obtain ⟨t, rfl⟩ := ry
  obtain ⟨es, n, e, he⟩ := B.ex
  have hm : s.heap.MapOf (PySem.intKind X.prog X.w) (He.ga X.K "BASES") (fun k => findBy Value.isInt es k) := ⟨_, es, n, I.kIn _ _ e, ⟨rfl, rfl, rfl⟩, rfl, bas_keys he, fun _ => rfl⟩
  obtain ⟨a, ea, sa⟩ := (bas_find he i).2 p q hb
  exact tail_any hm.typeIs slot_dict_getitem.lookup (wpAny_getItem_of (knd := PySem.intKind X.prog X.w) (k := i) (by simp [PySem.intKind, Value.isInt]) hm ea ⟨.ref a, H, I.tok _, rfl, hq a sa⟩) hs
end
/-- x not in BASES -/
def ninBT (x y : T) : Option T := match x, y with
  | .int i, .glo z => if z = "BASES" then some (.bl (!isBas i)) else none
  | _, _ => none
@[simp] theorem ninBT_i {i : Int} : ninBT (.int i) (.glo "BASES") = some (.bl (!isBas i)) := by simp [ninBT]
theorem op2_ninB {K : PySem.W.Frag} : Op2 K (rNinB K) ninBT := fun x y t v u c F k H Q e ok rx ry g => by
  cases x <;> try (cases e; done)
  case int i =>
    cases y <;> try (cases e; done)
    case glo z =>
      simp only [ninBT] at e
      split at e
      · rename_i hz
        subst hz
        cases e
        cases ry
        exact ⟨i, rx.int_of, rfl, g.same ok (.bl _)⟩
      · cases e
theorem KTup.t {K : PySem.W.Frag} {F : Hp} {a : Addr} {xs : List V} (h : KTup K a xs) : SqT K F a xs := SqD.t (.inr h)
/-- BASES[x] -/
def dBasT (d : D) : D := fun r c => (d r c).bind fun t c => match t with
  | .int i => lift ((bas i).map fun pq => T.tup [.int pq.1, .int pq.2]) c
  | _ => .stk
@[simp] theorem dBasT_e {d : D} {r : Env} {c : Cs} : dBasT d r c = (d r c).bind fun t c => match t with
  | .int i => lift ((bas i).map fun pq => T.tup [.int pq.1, .int pq.2]) c
  | _ => .stk := (rfl)
theorem ee_basT {X : Cx} {W : XK} {o e : Expr} {te : TE} {d : D} {pos : Pos} (B : BasOk X.K) (ho : EE X W o (tC (.ref (He.ga X.K "BASES"))) (dC (.glo "BASES"))) (he : EE X W e te d)
    (h1 : PlainIx e := by exact fun _ _ => rfl) :
    EE X W (.Subscript o e pos) (tOp (rIxB X.K) (tC (.ref (He.ga X.K "BASES"))) te) (dBasT d) := by
  refine ⟨pe_ix (ix_bas B) ho.pe he.pe h1, fun N r c F k σ H Q S p => ?_⟩
  show te σ H (fun y H1 => rIxB X.K (.ref (He.ga X.K "BASES")) y H1 Q)
  refine he.rd N r c F k σ H _ S (p.seq fun t c1 v F1 k1 H1 q1 ok1 g1 r1 p1 => ?_)
  clear q1
  cases t <;> try (exact p1.elim)
  rename_i i
  cases r1
  replace p1 : Post X.K X.mg (RV X.K) F1 k1 H1 (lift ((bas i).map fun pq => T.tup [.int pq.1, .int pq.2]) c1) Q W := p1
  cases hb : bas i with
  | none => rw [hb] at p1; exact p1.elim
  | some pq =>
    rw [hb] at p1
    exact ⟨i, pq.1, pq.2, rfl, rfl, hb, fun a sa => p1 _ F1 k1 H1 ok1 Ge.refl (.tup (.inr sa) (.cons (.int _) (.cons (.int _) .nil)))⟩
/-- BASES[x][0] -/
def dBas0 (d : D) : D := fun r c => (d r c).bind fun t c => match t with
  | .int i => lift ((bas i).map fun pq => T.int pq.1) c
  | _ => .stk
@[simp] theorem dBas0_e {d : D} {r : Env} {c : Cs} : dBas0 d r c = (d r c).bind fun t c => match t with
  | .int i => lift ((bas i).map fun pq => T.int pq.1) c
  | _ => .stk := (rfl)
theorem ee_bas0 {X : Cx} {W : XK} {o e z : Expr} {te : TE} {d : D} {pos pos2 : Pos} (B : BasOk X.K) (ho : EE X W o (tC (.ref (He.ga X.K "BASES"))) (dC (.glo "BASES"))) (he : EE X W e te d) (hz : EE X W z (tC (.int 0)) (dC (.int 0)))
    (h1 : PlainIx e := by exact fun _ _ => rfl) (h2 : PlainIx z := by exact fun _ _ => rfl) :
    EE X W (.Subscript (.Subscript o e pos) z pos2) (tOp (rIxT X.K) (tOp (rIxB X.K) (tC (.ref (He.ga X.K "BASES"))) te) (tC (.int 0))) (dBas0 d) := by
  refine ⟨pe_ix ix_tup (pe_ix (ix_bas B) ho.pe he.pe h1) hz.pe h2, fun N r c F k σ H Q S p => ?_⟩
  show te σ H (fun y H1 => rIxB X.K (.ref (He.ga X.K "BASES")) y H1 fun x H1 => rIxT X.K x (.int 0) H1 Q)
  refine he.rd N r c F k σ H _ S (p.seq fun t c1 v F1 k1 H1 q1 ok1 g1 r1 p1 => ?_)
  clear q1
  cases t <;> try (exact p1.elim)
  rename_i i
  cases r1
  replace p1 : Post X.K X.mg (RV X.K) F1 k1 H1 (lift ((bas i).map fun pq => T.int pq.1) c1) Q W := p1
  cases hb : bas i with
  | none => rw [hb] at p1; exact p1.elim
  | some pq =>
    rw [hb] at p1
    exact ⟨i, pq.1, pq.2, rfl, rfl, hb, fun a sa => ⟨a, [.int pq.1, .int pq.2], 0, .int pq.1, rfl, rfl, KTup.t sa, rfl, p1 _ F1 k1 H1 ok1 Ge.refl (.int _)⟩⟩
def exB2 (kd : Bool) (names : List Str) (K : PySem.W.Frag) : Bool := exB kd names K && basB K
theorem walk_law2 {l : PySem.W.OpenLaw} {n k : Nat} {q : Program} {loose : List Str} {XP : (Str → Option Value) → Heap → Prop} {YP : World → Heap → Prop} {d : DefRec} {x : Str} {kd : Bool} {names : List Str} {fa : List He.Fa} {fn : List He.DefD} {df : DF}
    (hn : l.most = some n) (hn2 : n ≤ sizeLine) (hdf : d.params.defaults = []) (hr : Room k callerA) (hname : d.name = "law")
    (hY : ∀ w h, YP w h → ∃ K : PySem.W.Frag, K.In h ∧ He.SaysX fa fn [] (names.map fun x => (x, none)) (exB2 kd names) w h K)
    (ht : ∀ ns : List Int, ns.length ≤ n → ∃ c, df [T.scr (ns.map T.int)] [] = .ok (.bl true) c)
    (F : ∀ (w : World) (mg : Str → Option Value) (K : PySem.W.Frag) (h : Heap), K.In h → h.Ns mainGlobals mg → He.SaysD fa fn K → Grd kd names K mg → BasOk K → HasG l.prog w K mg k "law" [x] df) :
    PySem.W.WalkO q loose XP YP l.row.toRowW d [] (fun f vs => PySem.call f vs) := by
  refine walk_ofEG (x := x) hn hn2 hdf hr fun w mg f h Y G hm => ?_
  obtain ⟨K, KX, c⟩ := hY w h Y
  have hex := c.more
  unfold exB2 at hex
  rw [Bool.and_eq_true] at hex
  have g := grd_of KX G hex.1
  obtain ⟨f', fd, hF, gm, kp, bd⟩ := F w mg K h KX G c.t.d g (bas_ok hex.2)
  rw [hname, gm] at hm
  cases hm
  have inT : ∀ y ∈ lamsOf K, (y, none) ∈ names.map fun x => ((x, none) : He.Defn) := fun y hy => List.mem_map.mpr ⟨y, by rw [← g.lm]; exact hy, rfl⟩
  refine ⟨K, fd, (lamsOf K).map fun x => He.cT K (x, none), spQ K mg 1 df, KX, fun p hp => ?_, fun p hp => ?_, fun p hp => ?_, fun s u => bd s [u] rfl, fun H a ns hl hT hS => ?_, fun base hb => hF base fun y hy => ?_⟩
  · obtain ⟨y, hy, rfl⟩ := List.mem_map.mp hp
    exact c.empty _ (inT y hy)
  · obtain ⟨y, hy, rfl⟩ := List.mem_map.mp hp
    exact c.out _ (inT y hy)
  · obtain ⟨y, hy, rfl⟩ := List.mem_map.mp hp
    exact c.hd _ (inT y hy)
  · exact law_post (fun y hy => hT _ (List.mem_map.mpr ⟨y, hy, rfl⟩)) hS (ht ns hl) fun _ => rfl
  · exact hb _ (List.mem_map.mpr ⟨y, hy, rfl⟩)
end Q
namespace Q
open PySem PySem.Spec PyProof.Rows L2
section
variable {X : Cx}
def rInTD (K : PySem.W.Frag) : R2 := fun x y H Q => ∃ d ds, Dp K H x d ∧ Dp K H y (.tuple ds) ∧ SeqAt.shaped d = true ∧ SeqAt.shaped (.tuple ds) = true ∧ Q (.bl (ds.any fun z => PyData.eqv z d)) H
def rNotInTD (K : PySem.W.Frag) : R2 := fun x y H Q => ∃ d ds, Dp K H x d ∧ Dp K H y (.tuple ds) ∧ SeqAt.shaped d = true ∧ SeqAt.shaped (.tuple ds) = true ∧ Q (.bl (!ds.any fun z => PyData.eqv z d)) H
theorem op_inTD (hu : X.A.units + 65 < cLine) : OpR X (compareOp .In) (rInTD X.K) := by
  intro pins s σ H x y v u Q I rx ry h
  obtain ⟨d, ds, hd, he, sd, se, q⟩ := h
  obtain ⟨as, r1⟩ := Dp.reads I d x v hd rx
  obtain ⟨bs, r2⟩ := Dp.reads I (.tuple ds) y u he ry
  exact SeqAt.in_tuple_reads r2 r1 (SeqAt.canLay_of_shaped se) (SeqAt.canLay_of_shaped sd) (room_in_shaped sd hu) ⟨.bl _, H, I, rfl, q⟩
theorem op_notInTD (hu : X.A.units + 65 < cLine) : OpR X (compareOp .NotIn) (rNotInTD X.K) := by
  intro pins s σ H x y v u Q I rx ry h
  obtain ⟨d, ds, hd, he, sd, se, q⟩ := h
  obtain ⟨as, r1⟩ := Dp.reads I d x v hd rx
  obtain ⟨bs, r2⟩ := Dp.reads I (.tuple ds) y u he ry
  exact SeqAt.notIn_tuple_reads r2 r1 (SeqAt.canLay_of_shaped se) (SeqAt.canLay_of_shaped sd) (room_in_shaped sd hu) ⟨.bl _, H, I, rfl, q⟩
end
section
variable {K : PySem.W.Frag}
def inWB (x y : T) : Option Bool := match y with
  | .tup us => if (plain x && plain (.tup us)) = true then some (inD x us) else none
  | _ => none
def inW (x y : T) : Option T := (inWB x y).map T.bl
def ninW (x y : T) : Option T := (inWB x y).map fun b => T.bl (!b)
theorem op2_inW : Op2 K (rInTD K) inW := fun x y t v u c F k H Q e ok rx ry g => by
  unfold inW inWB at e
  cases y <;> try (cases e; done)
  case tup us =>
    simp only at e
    split at e
    · rename_i hh
      rw [Bool.and_eq_true] at hh
      cases e
      refine ⟨pyT x, pyTs us, rx.dp ok hh.1, ry.dp ok hh.2, plain_shaped hh.1, plain_shaped (t := .tup us) hh.2, ?_⟩
      rw [in_any]; exact g.same ok (.bl _)
    · cases e
theorem op2_ninW : Op2 K (rNotInTD K) ninW := fun x y t v u c F k H Q e ok rx ry g => by
  unfold ninW inWB at e
  cases y <;> try (cases e; done)
  case tup us =>
    simp only at e
    split at e
    · rename_i hh
      rw [Bool.and_eq_true] at hh
      cases e
      refine ⟨pyT x, pyTs us, rx.dp ok hh.1, ry.dp ok hh.2, plain_shaped hh.1, plain_shaped (t := .tup us) hh.2, ?_⟩
      rw [in_any]; exact g.same ok (.bl _)
    · cases e
end
section
variable {X : Cx} {W : XK} {a b e3 e4 : Expr} {ta tb tc td : TE} {da db dc dd : D} {pos : Pos}
/-- a op1 b op2 c op3 d -/
def tChain3 (r r' r'' : R2) (ta tb tc td : TE) : TE := fun σ H Q => ta σ H fun x H1 => tb σ H1 fun y H2 => r x y H2 fun z H3 => ∃ k, z = .bl k ∧
  (if k = true then tc σ H3 fun w' H4 => r' y w' H4 fun z' H5 => ∃ k', z' = .bl k' ∧ (if k' = true then td σ H5 fun w'' H6 => r'' w' w'' H6 Q else Q (.bl false) H5) else Q (.bl false) H3)
theorem pe_chain3 {op op' op'' : CmpOp} {r r' r'' : R2} (ho : OpR X (compareOp op) r) (ho' : OpR X (compareOp op') r') (ho'' : OpR X (compareOp op'') r'') (ha : PE X a ta) (hb : PE X b tb) (hc : PE X e3 tc) (hd : PE X e4 td)
    (hm : lastMarks [op, op', op''] [b, e3, e4] = false := by with_unfolding_all rfl) : PE X (.Compare a [op, op', op''] [b, e3, e4] pos) (tChain3 r r' r'' ta tb tc td) := by
  refine ⟨fun pins s σ H Q I h => ?_⟩
  refine Compare_chain (thn (ha.run pins s σ H _ I h) fun v s1 ⟨x, H1, I1, r1, q1⟩ => chain_link (thn (hb.run pins s1 σ H1 _ I1 q1) fun u s2 ⟨y, H2, I2, r2, q2⟩ =>
    thn (ho pins s2 σ H2 x y v u _ I2 r1 r2 q2) fun d s3 ⟨z, H3, I3, r3, k, e, q3⟩ => ?_)) hm
  subst e
  cases r3
  refine wpAny_truthy_bool ?_
  cases k with
  | false => exact ite_ff ⟨.bl false, H3, I3, rfl, q3⟩
  | true =>
    refine ite_tt (chain_link (thn (hc.run pins s3 σ H3 _ I3 q3) fun w' s4 ⟨z', H4, I4, r4, q4⟩ => thn (ho' pins s4 σ H4 y z' u w' _ I4 r2 r4 q4) fun d s5 ⟨z5, H5, I5, r5, k', e', q5⟩ => ?_))
    subst e'
    cases r5
    refine wpAny_truthy_bool ?_
    cases k' with
    | false => exact ite_ff ⟨.bl false, H5, I5, rfl, q5⟩
    | true => exact ite_tt (chain_last (thn (hd.run pins s5 σ H5 _ I5 q5) fun w'' s6 ⟨z'', H6, I6, r6, q6⟩ => ho'' pins s6 σ H6 z' z'' w' w'' Q I6 r4 r6 q6))
def dChain3 (f f' f'' : T → T → Option T) (a b c d : D) : D := fun r s => (a r s).bind fun x s => (b r s).bind fun y s => match f x y with
  | some (.bl true) => (c r s).bind fun z s => match f' y z with
    | some (.bl true) => (d r s).bind fun w s => lift (f'' z w) s
    | some (.bl false) => .ok (.bl false) s
    | _ => .stk
  | some (.bl false) => .ok (.bl false) s
  | _ => .stk
@[simp] theorem dChain3_e {f f' f'' : T → T → Option T} {a b c d : D} {r : Env} {s : Cs} : dChain3 f f' f'' a b c d r s = (a r s).bind fun x s => (b r s).bind fun y s => match f x y with
  | some (.bl true) => (c r s).bind fun z s => match f' y z with
    | some (.bl true) => (d r s).bind fun w s => lift (f'' z w) s
    | some (.bl false) => .ok (.bl false) s
    | _ => .stk
  | some (.bl false) => .ok (.bl false) s
  | _ => .stk := (rfl)
theorem ee_chain3k (K : PySem.W.Frag) {op op' op'' : CmpOp} {r r' r'' : R2} {f f' f'' : T → T → Option T}
    (hf : ∀ x y v u c F k H Q b, f x y = some (.bl b) → Ok K F k c H → SeqR K F k H x v → SeqR K F k H y u → Q (.bl b) H → r v u H Q)
    (hg : ∀ x y v u c F k H Q b, f' x y = some (.bl b) → Ok K F k c H → SeqR K F k H x v → SeqR K F k H y u → Q (.bl b) H → r' v u H Q)
    (hf' : Op2 K r'' f'') (ho : OpR X (compareOp op) r) (ho' : OpR X (compareOp op') r') (ho'' : OpR X (compareOp op'') r'')
    (ha : ES X W a ta da) (hb : ES X W b tb db) (hc : ES X W e3 tc dc) (hd : ES X W e4 td dd) (h1 : lastMarks [op, op', op''] [b, e3, e4] = false := by with_unfolding_all rfl) (hK : X.K = K := by rfl) :
    EE X W (.Compare a [op, op', op''] [b, e3, e4] pos) (tChain3 r r' r'' ta tb tc td) (dChain3 f f' f'' da db dc dd) := by
  subst hK
  refine ⟨pe_chain3 ho ho' ho'' ha.pe hb.pe hc.pe hd.pe h1, fun N ρ c F k σ H Q S p => ?_⟩
  refine ha.rd N ρ c F k σ H _ S (p.seq fun x c1 v F1 k1 H1 _ ok1 g1 r1 p1 => ?_)
  have S1 := S.step ok1 g1
  refine hb.rd N ρ c1 F1 k1 σ H1 _ S1 (p1.seq fun y c2 u F2 k2 H2 _ ok2 g2 r2 p2 => ?_)
  have S2 := S1.step ok2 g2
  cases e : f x y with
  | none => rw [e] at p2; exact p2.elim
  | some t =>
    rw [e] at p2
    cases t with
    | bl t =>
      refine hf x y v u c2 F2 k2 H2 _ t e ok2 (r1.step g2) r2 ⟨t, rfl, ?_⟩
      cases t with
      | true =>
        rw [if_pos rfl]
        refine hc.rd N ρ c2 F2 k2 σ H2 _ S2 (Post.seq (f := fun z s => match f' y z with
          | some (.bl true) => (dd ρ s).bind fun w s => lift (f'' z w) s
          | some (.bl false) => .ok (.bl false) s
          | _ => .stk) p2 fun z c3 w F3 k3 H3 _ ok3 g3 r3 p3 => ?_)
        have S3 := S2.step ok3 g3
        cases e' : f' y z with
        | none => rw [e'] at p3; exact p3.elim
        | some t' =>
          rw [e'] at p3
          cases t' with
          | bl t' =>
            refine hg y z u w c3 F3 k3 H3 _ t' e' ok3 (r2.step g3) r3 ⟨t', rfl, ?_⟩
            cases t' with
            | true =>
              rw [if_pos rfl]
              refine hd.rd N ρ c3 F3 k3 σ H3 _ S3 (Post.seq (f := fun w s => lift (f'' z w) s) p3 fun w4 c4 v4 F4 k4 H4 _ ok4 g4 r4 p4 => ?_)
              cases e'' : f'' z w4 with
              | none => rw [e''] at p4; exact p4.elim
              | some t4 => rw [e''] at p4; exact hf' z w4 t4 w v4 c4 F4 k4 H4 Q e'' ok4 (r3.step g4) r4 p4
            | false =>
              rw [if_neg Bool.false_ne_true]
              exact p3 (.bl false) F3 k3 H3 ok3 Ge.refl (.bl false)
          | _ => exact p3.elim
      | false =>
        rw [if_neg Bool.false_ne_true]
        exact p2 (.bl false) F2 k2 H2 ok2 Ge.refl (.bl false)
    | _ => exact p2.elim
end
end Q
namespace Q
open PySem PySem.Spec PyProof.Rows L2
def clsBody (s : Stmt) : List Stmt := match s with
  | .ClassDef _ _ _ body _ _ _ _ _ _ _ => body
  | _ => []
/-- the i-th statement of a class -/
def metSt (s : Stmt) (i : Nat) : Stmt := (clsBody s).getD i (.Pass ⟨0, 0, 0, 0⟩)
def oexB (K : PySem.W.Frag) (C : Addr) : Bool := (match K.lookup C with
  | some ⟨.type "type", _, .cls cd, sl⟩ => (match cd.mro, sl.toList with
    | .ref C' :: bm, [_, _, _, _, some (.builtin n), _] => C' == C && n == "ValueError.__new__" && !cd.hasDel && cd.hasDict && PySem.HandSPX.refsVE bm
    | _, _ => false)
  | _ => false) && (He.eqO (PySem.W.findIn K (.ref C) "__setattr__") (some (some (.builtin "object.__setattr__"))) && (decide (PySem.W.subIn K (.ref C) (.type "BaseException") = some true) && (decide (PySem.W.typeIn K (.ref C) = some (.type "type")) && PySem.W.keepIn K (.ref C))))
theorem oexB_ok {K : PySem.W.Frag} {C : Addr} (h : oexB K C = true) : OexC K C := by
  unfold oexB at h
  rw [Bool.and_eq_true, Bool.and_eq_true, Bool.and_eq_true, Bool.and_eq_true, decide_eq_true_eq, decide_eq_true_eq] at h
  obtain ⟨q, h2, h3, h4, h5⟩ := h
  refine ⟨?_, He.eqO_ok h2, h3, h4, h5⟩
  split at q
  · rename_i dd cd sl ho
    split at q
    · rename_i C' bm k0 k1 k2 k3 n k5 hm hs
      simp only [Bool.and_eq_true, beq_iff_eq, Bool.not_eq_true'] at q
      obtain ⟨⟨⟨⟨rfl, rfl⟩, hdel⟩, hd⟩, hbm⟩ := q
      obtain ⟨nm, bs, mro, ns, qn, hdd, sn, sub, ab, col, del⟩ := cd
      dsimp only at hm hdel hd
      subst hm hdel hd
      have hsl : sl = #[k0, k1, k2, k3, some (.builtin "ValueError.__new__"), k5] := by
        obtain ⟨l⟩ := sl
        simp only at hs
        rw [hs]
      subst hsl
      exact ⟨nm, qn, ns, bs, bm, sn, sub, ab, col, dd, k0, k1, k2, k3, k5, ho, hbm⟩
    · cases q
  · cases q
/-- the class that they stand under -/
structure OnceOk (K : PySem.W.Frag) (mg : Str → Option Value) : Prop where
  gl : mg "OnceError" = some (.ref (He.ga K "OnceError"))
  rd : PySem.W.readsIn K (He.ga K "OnceError") (.type "type") = true
  ga : PySem.W.specialIn K (.ref (He.ga K "OnceError")) "__getattribute__" = some (some (.builtin "type.__getattribute__"))
  at_ : PySem.W.findCls K (.ref (He.ga K "OnceError")) (.type "type") "__init__" = some (.val (.builtin "ValueError.__init__"))
abbrev iniF (K : PySem.W.Frag) (x : Str) : Addr := He.fAd K (x, some "__init__")
structure IniC (K : PySem.W.Frag) (mg : Str → Option Value) (x : Str) : Prop where
  gl : mg x = some (.ref (He.ga K x))
  oex : OexC K (He.ga K x)
  ini : PySem.W.findIn K (.ref (He.ga K x)) "__init__" = some (some (.ref (iniF K x)))
  ty : PySem.W.typeIn K (.ref (iniF K x)) = some (.type "function")
  no : ∀ f ∈ fieldsA, PySem.W.findIn K (.ref (He.ga K x)) f = some none
structure IniOk (K : PySem.W.Frag) (mg : Str → Option Value) : Prop where
  once : OnceOk K mg
  cls : ∀ q ∈ kindsF, IniC K mg q.1
def isVal (o : Option PySem.W.CFound) (v : Value) : Bool := match o with
  | some (.val u) => decide (u = v)
  | _ => false
theorem isVal_ok {o : Option PySem.W.CFound} {v : Value} (h : isVal o v = true) : o = some (.val v) := by
  unfold isVal at h
  split at h
  · rw [of_decide_eq_true h]
  · cases h
def iniB (K : PySem.W.Frag) : Bool := ((He.Fa.glo "OnceError").ok K && (PySem.W.readsIn K (He.ga K "OnceError") (.type "type") && (He.eqO (PySem.W.specialIn K (.ref (He.ga K "OnceError")) "__getattribute__") (some (some (.builtin "type.__getattribute__"))) &&
  isVal (PySem.W.findCls K (.ref (He.ga K "OnceError")) (.type "type") "__init__") (.builtin "ValueError.__init__")))) &&
  kindsF.all fun q => (He.Fa.glo q.1).ok K && (oexB K (He.ga K q.1) && (He.eqO (PySem.W.findIn K (.ref (He.ga K q.1)) "__init__") (some (some (.ref (iniF K q.1)))) && (decide (PySem.W.typeIn K (.ref (iniF K q.1)) = some (.type "function")) && fieldsA.all fun f => He.eqO (PySem.W.findIn K (.ref (He.ga K q.1)) f) (some none))))
theorem ini_ok {K : PySem.W.Frag} {mg : Str → Option Value} {h : Heap} (X : K.In h) (G : h.Ns mainGlobals mg) (c : iniB K = true) : IniOk K mg := by
  unfold iniB at c
  rw [Bool.and_eq_true, Bool.and_eq_true, Bool.and_eq_true, Bool.and_eq_true] at c
  obtain ⟨⟨c1, c2, c3, c4⟩, c5⟩ := c
  refine ⟨⟨He.glo_ok X G c1, c2, He.eqO_ok c3, isVal_ok c4⟩, fun q hq => ?_⟩
  have b := List.all_eq_true.mp c5 q hq
  rw [Bool.and_eq_true, Bool.and_eq_true, Bool.and_eq_true, Bool.and_eq_true, decide_eq_true_eq] at b
  obtain ⟨b1, b2, b3, b4, b5⟩ := b
  exact ⟨He.glo_ok X G b1, oexB_ok b2, He.eqO_ok b3, b4, fun f hf => He.eqO_ok (List.all_eq_true.mp b5 f hf)⟩
section
variable {X : Cx} {e : Expr} {es : List Expr} {ta : TA} {p1 p2 pos : Pos}
theorem pe_oinit {pl : Sem Bool} (O : OnceOk X.K X.mg) (ha : PA X (e :: es) ta) (hg : Gl X "OnceError" := by rfl)
    (hc : eval (.Call (.Attribute (.Name "OnceError" p1) "__init__" p2) (e :: es) [] pos) X.env = (do
      let ov ← eval (.Name "OnceError" p1) X.env
      standAt p2.atName
      let (f, first) ← holding [ov] (getMethod ov "__init__" pl)
      callWith pos f first (backTo pos (starEach (e :: es) X.env)) (backToKw pos (keywordEach [] X.env))) := by rfl)
    (he : starEach (e :: es) X.env = (false, eval e X.env) :: starEach es X.env := by rfl) (hpl : (backTo pos (starEach es X.env)).any (·.1) = false := by rfl) :
    PE X (.Call (.Attribute (.Name "OnceError" p1) "__init__" p2) (e :: es) [] pos) (tVeI X.K ta) := by
  refine ⟨fun pins s σ H Q I h => ?_⟩
  refine PySem.W.methodCall_KW (ld_glob I hg O.gl ?_ (by decide)) hc
  refine PySem.W.method_cls I.kIn O.ga (PySem.W.cls_value I.kIn O.rd O.at_ (by decide +kernel) ?_)
  show wpAny _ _ (callWith pos (Value.builtin "ValueError.__init__") [] (backTo pos (starEach (e :: es) X.env)) []) _ _ _
  refine PyProof.Rows.callWith_method1 (thn (ha.run pos pins _ σ H _ (I.tok _) h) fun us s1 ⟨vs, H1, I1, r1, a, C, ws, ev, hl, T, ea, q⟩ => ?_) he hpl
  subst ev
  cases r1 with
  | @cons _ u0 _ ur ra rw' =>
    obtain rfl : u0 = Value.ref a := ra
    have hlen : ur.length ≤ sizeLine := by
      rw [← Paired.length rw', sizeLine_eq]
      omega
    exact oinit_ok T I1 ea hlen fun s' J => ⟨.non, H1, J, rfl, q⟩
end
/-- the fields laid, one behind the other -/
def iniEnd (H : Hp) (a C dx : Addr) : List (Str × V) → Hp
  | [] => H
  | p :: fs => match fs with
    | [] => upd (upd H dx (exd dx [p])) a (exo a C (some dx))
    | _ => upd (iniEnd H a C dx fs) dx (exd dx (p :: fs))
def spI (K : PySem.W.Frag) (fl : List Str) : Sp := fun vs H Q E => ∃ a C ys, vs = .ref a :: ys ∧ ys.length = fl.length ∧ OexC K C ∧ (∀ f ∈ fl, PySem.W.findIn K (.ref C) f = some none) ∧ H a = some (exo a C none) ∧ ∀ dx, H dx = none → dx ≠ a → Q .non (iniEnd H a C dx (fl.zip ys).reverse)
abbrev tIni1 (K : PySem.W.Frag) (f : Str) : TS := tSeq (tDrop (tVeI K (tCons (tVar 0) (tCons (tVar 1) tNil)))) (tOst K f (tVar 0) (tVar 1))
abbrev tIni2 (K : PySem.W.Frag) (f g : Str) : TS := tSeq (tDrop (tVeI K (tCons (tVar 0) (tCons (tVar 1) (tCons (tVar 2) tNil))))) (tSeq (tOst K f (tVar 0) (tVar 1)) (tOst K g (tVar 0) (tVar 2)))
structure IniFn (P : Program) (w : World) (K : PySem.W.Frag) (mg : Str → Option Value) (x : Str) (fl : List Str) : Prop where
  ex : ∃ fd, (∀ base, FnOk P w K mg base (L2.CX P w) 1 (iniF K x) fd ("self" :: fl) (spI K fl)) ∧ PySem.W.keepIn K (.ref (iniF K x)) = true ∧ L2.Binds K fd ("self" :: fl) []
section
variable {P : Program} {w : World} {K : PySem.W.Frag} {mg : Str → Option Value}
theorem ini1_mk {x qual f : Str} {params : Arguments} {body : List Stmt} {scope : Scope} (D : ∃ fd, FunD K "__init__" qual params body scope [] [] (iniF K x) fd) (S : FnScope ["self", f] ["self", f] scope)
    (hb : ∀ (kV doc pm : Value) (an : Option Addr) (cdv ct : Value) (us : List Value), us.length = (["self", f] : List Str).length → bindArgs (PySem.W.fnOf "__init__" qual params body scope .none kV doc pm an cdv ct) ⟨us, []⟩ = pure ((["self", f] : List Str).zip us))
    (h : ∀ (base : Heap) (cdv : Value) (A : Around) (outer : List PySem.Env) (s : Shared) (H : Hp) (E : XK), PSs (cxOf (L2.CX P w) P w K mg base ["self", f] qual scope (iniF K x) cdv A outer s H E) body (tIni1 K f)) : IniFn P w K mg x [f] := by
  obtain ⟨fd, F⟩ := D
  refine ⟨⟨fd, fun base => F.ok (k := 0) S (fun vs H Q E ⟨a, C, ys, e1, e2, _⟩ => by rw [e1]; simp [e2]) fun cdv A outer s H vs Q E hr hs => ⟨_, h base cdv A outer s H E, ?_⟩, F.kp, binds_any (F.bindsA hb)⟩⟩
  obtain ⟨a, C, ys, rfl, hl, T, hno, ha, hq⟩ := hs
  match ys, hl with
  | [y], _ =>
    refine ⟨.ref a, rfl, y, rfl, a, C, [y], rfl, by simp, T, ha, ?_⟩
    refine ⟨y, rfl, .ref a, rfl, a, C, rfl, T, hno f (by simp), .inl ⟨ha, fun dx n ne => hq dx n ne⟩⟩
theorem ini2_mk {x qual f g : Str} {params : Arguments} {body : List Stmt} {scope : Scope} (D : ∃ fd, FunD K "__init__" qual params body scope [] [] (iniF K x) fd) (S : FnScope ["self", f, g] ["self", f, g] scope)
    (hb : ∀ (kV doc pm : Value) (an : Option Addr) (cdv ct : Value) (us : List Value), us.length = (["self", f, g] : List Str).length → bindArgs (PySem.W.fnOf "__init__" qual params body scope .none kV doc pm an cdv ct) ⟨us, []⟩ = pure ((["self", f, g] : List Str).zip us))
    (h : ∀ (base : Heap) (cdv : Value) (A : Around) (outer : List PySem.Env) (s : Shared) (H : Hp) (E : XK), PSs (cxOf (L2.CX P w) P w K mg base ["self", f, g] qual scope (iniF K x) cdv A outer s H E) body (tIni2 K f g)) : IniFn P w K mg x [f, g] := by
  obtain ⟨fd, F⟩ := D
  refine ⟨⟨fd, fun base => F.ok (k := 0) S (fun vs H Q E ⟨a, C, ys, e1, e2, _⟩ => by rw [e1]; simp [e2]) fun cdv A outer s H vs Q E hr hs => ⟨_, h base cdv A outer s H E, ?_⟩, F.kp, binds_any (F.bindsA hb)⟩⟩
  obtain ⟨a, C, ys, rfl, hl, T, hno, ha, hq⟩ := hs
  match ys, hl with
  | [y, z], _ =>
    refine ⟨.ref a, rfl, y, rfl, z, rfl, a, C, [y, z], rfl, by simp, T, ha, ?_⟩
    refine ⟨y, rfl, .ref a, rfl, a, C, rfl, T, hno f (by simp), .inl ⟨ha, fun dx n ne => ?_⟩⟩
    refine ⟨z, rfl, .ref a, rfl, a, C, rfl, T, hno g (by simp), .inr ⟨dx, [(f, y)], upd_same, ?_, by simp, hq dx n ne⟩⟩
    rw [upd_ne ne, upd_same]
end
def dRaiseF (x : Str) (fl : List Str) (da : DA) : DS := fun r c => (da r c).bind fun ts c => if ts.length = fl.length then .err ⟨x, (fl.zip ts).reverse⟩ c else .stk
@[simp] theorem dRaiseF_e {x : Str} {fl : List Str} {da : DA} {r : Env} {c : Cs} : dRaiseF x fl da r c = (da r c).bind fun ts c => if ts.length = fl.length then .err ⟨x, (fl.zip ts).reverse⟩ c else .stk := (rfl)
theorem iniEnd_at {H : Hp} {a C dx : Addr} (ne : dx ≠ a) : ∀ {fs : List (Str × V)}, fs ≠ [] → iniEnd H a C dx fs a = some (exo a C (some dx)) ∧ iniEnd H a C dx fs dx = some (exd dx fs) ∧ ∀ b, b ≠ a → b ≠ dx → iniEnd H a C dx fs b = H b
  | [], h => absurd rfl h
  | [p], _ => ⟨upd_same, by show upd (upd H dx _) a _ dx = _; rw [upd_ne ne, upd_same], fun b h1 h2 => by show upd (upd H dx _) a _ b = _; rw [upd_ne h1, upd_ne h2]⟩
  | p :: q :: fs, _ => by
    obtain ⟨h1, h2, h3⟩ := iniEnd_at ne (H := H) (C := C) (fs := q :: fs) (by simp)
    refine ⟨?_, upd_same, fun b hb hd => ?_⟩
    · show upd (iniEnd H a C dx (q :: fs)) dx _ a = _
      rw [upd_ne (Ne.symm ne)]; exact h1
    · show upd (iniEnd H a C dx (q :: fs)) dx _ b = _
      rw [upd_ne hd]; exact h3 b hb hd
theorem iniEnd_fin {H : Hp} {a C dx : Addr} {o : HO} {fs : List (Str × V)} (ne : dx ≠ a) (ha : H a = none) (hf : fs ≠ []) : upd (del (iniEnd (upd H a o) a C dx fs) a) dx (.xd fs) = upd H dx (.xd fs) := by
  obtain ⟨h1, h2, h3⟩ := iniEnd_at ne (H := upd H a o) (C := C) hf
  funext b
  by_cases hd : b = dx
  · subst hd; rw [upd_same, upd_same]
  · rw [upd_ne hd, upd_ne hd]
    by_cases hb : b = a
    · subst hb; rw [del_same, ha]
    · rw [del_ne hb, h3 b hb hd, upd_ne hb]
theorem fst_rev {α β : Type} : ∀ {a : List α} {b : List β}, b.length = a.length → (a.zip b).map Prod.fst = a
  | [], [], _ => rfl
  | [], _ :: _, h => by cases h
  | _ :: _, [], h => by cases h
  | x :: a, y :: b, h => by simp at h; simp [fst_rev h]
theorem snd_rev {α β : Type} : ∀ {a : List α} {b : List β}, b.length = a.length → (a.zip b).map Prod.snd = b
  | [], [], _ => rfl
  | [], _ :: _, h => by cases h
  | _ :: _, [], h => by cases h
  | x :: a, y :: b, h => by simp at h; simp [snd_rev h]
section
variable {X : Cx} {W : XK} {e : Expr} {es : List Expr} {t : TA} {da : DA} {x : Str} {p pos pos2 : Pos} {fl : List Str}
theorem ss_raiseF (K : PySem.W.Frag) (mg : Str → Option Value) {P : Program} {w : World} (IC : IniC K mg x) (IF : IniFn P w K mg x fl) (hf : fl ≠ []) (hfl : fl.length ≤ 10) (hfa : ∀ f ∈ fl, f ∈ fieldsA) (hr : Room 2 X.A) (tk : Takes X (fun cls d _ H => W cls d H)) (ha : EA X W (e :: es) t da)
    (hc : X.calm = true := by rfl) (hg : Gl X x := by rfl) (hdb : (x == ("__debug__" : Str)) = false := by decide) (he : starEach (e :: es) X.env = (false, eval e X.env) :: starEach es X.env := by rfl) (hpl : (backTo pos (starEach es X.env)).any (·.1) = false := by rfl)
    (hK : X.K = K := by rfl) (hM : X.mg = mg := by rfl) (hP : X.prog = P := by rfl) (hw : X.w = w := by rfl) :
    SS X W (.Raise (some (.Call (.Name x p) (e :: es) [] pos)) none pos2) (fun _ σ H => tMkO (He.ga K x) (spI K fl) [] t σ H fun cls d H' => W cls d H') (dRaiseF x fl da) := by
  subst hK hM hP hw
  obtain ⟨fd, Fo, kp, bd⟩ := IF.ex
  refine ⟨ps_raise (W := fun cls d _ H => W cls d H) hc tk (pmk_oex IC.oex IC.ini IC.ty (Fo X.base) hr bd .nil passW0 hg IC.gl ha.pe hdb he hpl), fun N r c F k σ H D S p => ?_⟩
  refine ha.rd N r c F k σ H _ S (PostS.seq S.ge p fun ts c1 vs F1 k1 H1 ok1 g1 r1 p1 => ?_)
  by_cases hl : ts.length = fl.length
  · rw [if_pos hl] at p1
    have hv : vs.length = fl.length := by rw [← r1.length, hl]
    refine ⟨by omega, fun a na => ?_⟩
    rw [List.append_nil]
    have hne : (fl.zip vs).reverse ≠ [] := fun z => by
      have z2 : (fl.zip vs).length = 0 := by rw [← List.length_reverse, z]; rfl
      rw [List.length_zip, hv] at z2
      have : fl.length ≠ 0 := fun y => hf (List.length_eq_zero_iff.mp y)
      omega
    refine ⟨a, He.ga X.K x, vs, rfl, hv, IC.oex, fun f hf => IC.no f (hfa f hf), upd_same, fun dx n ne => ?_⟩
    rw [upd_ne ne] at n
    refine ⟨rfl, dx, (fl.zip vs).reverse, (iniEnd_at ne hne).1, (iniEnd_at ne hne).2.1, n, ?_⟩
    rw [iniEnd_fin ne na hne]
    refine p1 _ _ (upd F1 dx (.xd (fl.zip vs).reverse)) k1 _ (ok1.push n) ((S.ge.trans g1).trans (Ge.push ok1 n)) ⟨⟨He.ga X.K x, IC.gl, rfl⟩, ?_⟩
    have nF : F1 dx = none := by
      cases e : F1 dx with
      | none => rfl
      | some u => have := ok1.sub dx u e; rw [n] at this; cases this
    have sF : Sub F1 (upd F1 dx (.xd (fl.zip vs).reverse)) := fun b u q => by rw [upd_ne (ne_of_none q nF)]; exact q
    have goal : ∃ (dd : Addr) (fvs : List (Str × V)), some dx = some dd ∧ upd F1 dx (.xd (fl.zip vs).reverse) dd = some (.xd fvs) ∧ fvs.map Prod.fst = ((fl.zip ts).reverse).map Prod.fst ∧ Reps X.K (upd F1 dx (.xd (fl.zip vs).reverse)) k1 (((fl.zip ts).reverse).map Prod.snd) (fvs.map Prod.snd) := by
      refine ⟨dx, _, rfl, upd_same, ?_, ?_⟩
      · rw [List.map_reverse, List.map_reverse, fst_rev hv, fst_rev hl]
      · rw [List.map_reverse, List.map_reverse, snd_rev hv, snd_rev hl]
        exact (r1.mono sF List.prefix_rfl).reverse
    show match (fl.zip ts).reverse with
      | [] => (some dx : Option Addr) = none
      | fs => ∃ (dd : Addr) (fvs : List (Str × V)), some dx = some dd ∧ upd F1 dx (.xd (fl.zip vs).reverse) dd = some (.xd fvs) ∧ fvs.map Prod.fst = fs.map Prod.fst ∧ Reps X.K (upd F1 dx (.xd (fl.zip vs).reverse)) k1 (fs.map Prod.snd) (fvs.map Prod.snd)
    cases hz : (fl.zip ts).reverse with
    | nil =>
      have z2 : (fl.zip ts).length = 0 := by rw [← List.length_reverse, hz]; rfl
      rw [List.length_zip, hl] at z2
      have : fl.length ≠ 0 := fun y => hf (List.length_eq_zero_iff.mp y)
      omega
    | cons q qs => rw [hz] at goal; exact goal
  · rw [if_neg hl] at p1; exact p1.elim
end
def asY (g : Addr → Option Obj) (n : Nat) : List Addr := He.asD g n ++ [cStatics]
def obsY (n : Nat) (fa : List He.Fa) (fn : List He.DefD) (ts : List He.Tab) (tf : List He.Defn) (ex : PySem.W.Frag → Bool) (g : Addr → Option Obj) : He.AlX := (He.obsT fa fn ts (He.frT g (asY g n)), ex (He.frT g (asY g n)) && He.tabsB g tf (He.frT g (asY g n)))
theorem saysY_of {n : Nat} {fa : List He.Fa} {fn : List He.DefD} {ts : List He.Tab} {tf : List He.Defn} {ex : PySem.W.Frag → Bool} {w : World} {h : Heap} (e : obsY n fa fn ts tf ex h.get? = He.valX fn ts w) : He.SaysX fa fn ts tf ex w h (He.frT h.get? (asY h.get? n)) := by
  have e1 : He.obsT fa fn ts (He.frT h.get? (asY h.get? n)) = He.valT fn ts w := congrArg (fun z : He.AlX => z.1) e
  have e2 : (ex (He.frT h.get? (asY h.get? n)) && He.tabsB h.get? tf (He.frT h.get? (asY h.get? n))) = true := congrArg (fun z : He.AlX => z.2) e
  obtain ⟨h1, h2⟩ := He.ba e2
  have key : ∀ p ∈ tf, PySem.W.codeHdIn (He.frT h.get? (asY h.get? n)) (He.cT (He.frT h.get? (asY h.get? n)) p).1 (He.cT (He.frT h.get? (asY h.get? n)) p).2 = true ∧ ∃ o, h.get? (He.cT (He.frT h.get? (asY h.get? n)) p).2 = some o ∧ He.emptyTab o = true := fun p hp => by
    obtain ⟨h3, h4⟩ := He.ba (List.all_eq_true.mp h2 p hp)
    refine ⟨h3, ?_⟩
    cases q : h.get? (He.cT (He.frT h.get? (asY h.get? n)) p).2 with
    | none =>
      rw [q] at h4
      cases h4
    | some o =>
      rw [q] at h4
      exact ⟨o, rfl, h4⟩
  exact ⟨e1, h1, fun p hp => (key p hp).1, fun p hp => by
    obtain ⟨_, o, q, z⟩ := key p hp
    exact He.frT_none q z, fun p hp => by
    obtain ⟨_, o, q, z⟩ := key p hp
    rw [q, He.emptyTab_eq z]⟩
def hookY (n : Nat) (fa : List He.Fa) (fn : List He.DefD) (ts : List He.Tab) (tf : List He.Defn) (ex : PySem.W.Frag → Bool) : PySem.W.Hook where
  α := He.AlX
  obs := fun s => obsY n fa fn ts tf ex s.heap.get?
  val := fun w => He.valX fn ts w
  says := fun w h => ∃ K : PySem.W.Frag, K.In h ∧ He.SaysX fa fn ts tf ex w h K
  of := fun _ _ e => ⟨_, He.frT_in, saysY_of e⟩
  keeps := fun _ _ _ ⟨K, hK, c⟩ k => ⟨K, PySem.W.Frag.In.keeps hK k, ⟨c.t, c.more, c.hd, c.out, fun p hp => k _ _ (c.empty p hp)⟩⟩
theorem obsY_eq {n : Nat} {fa : List He.Fa} {fn : List He.DefD} {ts : List He.Tab} {tf : List He.Defn} {ex : PySem.W.Frag → Bool} {g : Addr → Option Obj} {s : Shared} (h : ∀ a, g a = s.heap.get? a) : obsY n fa fn ts tf ex g = (hookY n fa fn ts tf ex).obs s := by
  have e : g = s.heap.get? := funext h
  rw [e] <;> rfl
def exX (extra : PySem.W.Frag → Bool) (kd : Bool) (names : List Str) (K : PySem.W.Frag) : Bool := exB kd names K && extra K
theorem walk_lawX {extra : PySem.W.Frag → Bool} {l : PySem.W.OpenLaw} {n k : Nat} {q : Program} {loose : List Str} {XP : (Str → Option Value) → Heap → Prop} {YP : World → Heap → Prop} {d : DefRec} {x : Str} {kd : Bool} {names : List Str} {fa : List He.Fa} {fn : List He.DefD} {df : DF}
    (hn : l.most = some n) (hn2 : n ≤ sizeLine) (hdf : d.params.defaults = []) (hr : Room k callerA) (hname : d.name = "law")
    (hY : ∀ w h, YP w h → ∃ K : PySem.W.Frag, K.In h ∧ He.SaysX fa fn [] (names.map fun x => (x, none)) (exX extra kd names) w h K)
    (ht : ∀ ns : List Int, ns.length ≤ n → ∃ c, df [T.scr (ns.map T.int)] [] = .ok (.bl true) c)
    (F : ∀ (w : World) (mg : Str → Option Value) (K : PySem.W.Frag) (h : Heap), K.In h → h.Ns mainGlobals mg → He.SaysD fa fn K → Grd kd names K mg → extra K = true → HasG l.prog w K mg k "law" [x] df) :
    PySem.W.WalkO q loose XP YP l.row.toRowW d [] (fun f vs => PySem.call f vs) := by
  refine walk_ofEG (x := x) hn hn2 hdf hr fun w mg f h Y G hm => ?_
  obtain ⟨K, KX, c⟩ := hY w h Y
  have hex := c.more
  unfold exX at hex
  rw [Bool.and_eq_true] at hex
  have g := grd_of KX G hex.1
  obtain ⟨f', fd, hF, gm, kp, bd⟩ := F w mg K h KX G c.t.d g hex.2
  rw [hname, gm] at hm
  cases hm
  have inT : ∀ y ∈ lamsOf K, (y, none) ∈ names.map fun x => ((x, none) : He.Defn) := fun y hy => List.mem_map.mpr ⟨y, by rw [← g.lm]; exact hy, rfl⟩
  refine ⟨K, fd, (lamsOf K).map fun x => He.cT K (x, none), spQ K mg 1 df, KX, fun p hp => ?_, fun p hp => ?_, fun p hp => ?_, fun s u => bd s [u] rfl, fun H a ns hl hT hS => ?_, fun base hb => hF base fun y hy => ?_⟩
  · obtain ⟨y, hy, rfl⟩ := List.mem_map.mp hp
    exact c.empty _ (inT y hy)
  · obtain ⟨y, hy, rfl⟩ := List.mem_map.mp hp
    exact c.out _ (inT y hy)
  · obtain ⟨y, hy, rfl⟩ := List.mem_map.mp hp
    exact c.hd _ (inT y hy)
  · exact law_post (fun y hy => hT _ (List.mem_map.mpr ⟨y, hy, rfl⟩)) hS (ht ns hl) fun _ => rfl
  · exact hb _ (List.mem_map.mpr ⟨y, hy, rfl⟩)
end Q
namespace Q
open PySem PySem.Spec PyProof.Rows L2
section
variable {X : Cx} {W : XK} {o o2 e : Expr} {te : TE} {d : D} {i j : Nat} {apos apos2 cpos cpos2 pos : Pos}
/-- the i-th slot's own list gets what the j-th one's lets go -/
def dAppPop (i j : Nat) (d : D) : DS := fun r c => if i = j then .stk else match r[i]? with
  | some (.own ts) => (match r[j]? with
    | some (.own us) => (d r c).bind fun t c => (match t with
      | .int n => if (decide (ts.length < 1000000) && decide (us.length ≤ 1000000)) = true then (match (ixN us.length n).bind fun m => (us[m]?).map fun u => (m, u) with
        | some (m, u) => .ok (.nxt ((r.set j (.own (us.eraseIdx m))).set i (.own (ts ++ [u])))) c
        | none => .stk) else .stk
      | _ => .stk)
    | _ => .stk)
  | _ => .stk
@[simp] theorem dAppPop_e {r : Env} {c : Cs} : dAppPop i j d r c = if i = j then .stk else match r[i]? with
  | some (.own ts) => (match r[j]? with
    | some (.own us) => (d r c).bind fun t c => (match t with
      | .int n => if (decide (ts.length < 1000000) && decide (us.length ≤ 1000000)) = true then (match (ixN us.length n).bind fun m => (us[m]?).map fun u => (m, u) with
        | some (m, u) => .ok (.nxt ((r.set j (.own (us.eraseIdx m))).set i (.own (ts ++ [u])))) c
        | none => .stk) else .stk
      | _ => .stk)
    | _ => .stk)
  | _ => .stk := (rfl)
theorem ss_appPop (i j : Nat) (ho : PE X o (tVar i)) (ho2 : PE X o2 (tVar j)) (he : EE X W e te d)
    (hbase : attributeBase o "append" X.env (eval o X.env) = eval o X.env := by rfl) (hfew : ((backTo cpos (starEach [.Call (.Attribute o2 "pop" apos2) [e] [] cpos2] X.env)).all (fun x => !x.1) && (backToKw cpos (keywordEach [] X.env)).all (fun x => x.1.isSome)
      && decide (([Expr.Call (.Attribute o2 "pop" apos2) [e] [] cpos2]).length + ([] : List Keyword).length + (if ([] : List Keyword).isEmpty then 0 else 1) < 30)) = true := by rfl)
    (hline : (apos.endLine == cpos.line) = true := by rfl) (hs : starEach [.Call (.Attribute o2 "pop" apos2) [e] [] cpos2] X.env = (false, eval (.Call (.Attribute o2 "pop" apos2) [e] [] cpos2) X.env) :: starEach [] X.env := by rfl) (hplain : (backTo cpos (starEach [] X.env)).any (·.1) = false := by rfl)
    (hbase2 : attributeBase o2 "pop" X.env (eval o2 X.env) = eval o2 X.env := by rfl) (hfew2 : ((backTo cpos2 (starEach [e] X.env)).all (fun x => !x.1) && (backToKw cpos2 (keywordEach [] X.env)).all (fun x => x.1.isSome)
      && decide (([e]).length + ([] : List Keyword).length + (if ([] : List Keyword).isEmpty then 0 else 1) < 30)) = true := by rfl)
    (hline2 : (apos2.endLine == cpos2.line) = true := by rfl) (hs2 : starEach [e] X.env = (false, eval e X.env) :: starEach [] X.env := by rfl) (hplain2 : (backTo cpos2 (starEach [] X.env)).any (·.1) = false := by rfl)
    (hsw : swapsWith (.Call (.Attribute o "append" apos) [.Call (.Attribute o2 "pop" apos2) [e] [] cpos2] [] cpos) none pos.line X.env = pure false := by rfl) :
    SS X W (.Expr (.Call (.Attribute o "append" apos) [.Call (.Attribute o2 "pop" apos2) [e] [] cpos2] [] cpos) pos) (tDrop (tBM X.K "list" rAppend (tVar i) (tCons (tBM X.K "list" rPopAt (tVar j) (tCons te tNil)) tNil))) (dAppPop i j d) := by
  refine ⟨ps_expr (pe_bm PySem.F.plainAttrs_list PySem.F.slot_list_append PySem.F.type_list_append mt_append ho (pa_cons (pe_bm PySem.F.plainAttrs_list PySem.F.slot_list_pop PySem.F.type_list_pop mt_popAt ho2 (pa_cons he.pe pa_nil hs2) hbase2 hfew2 hline2 hs2 hplain2) pa_nil hs) hbase hfew hline hs hplain) hsw, fun N r c F k σ H D S p => ?_⟩
  unfold dAppPop at p
  split at p
  · exact p.elim
  · rename_i hij
    split at p
    · rename_i ts ei
      split at p
      · rename_i us ej
        obtain ⟨a, xs, h1, h2, h3, h4, h5, h6⟩ := S.own i ts ei
        obtain ⟨b, ys, g1, g2, g3, g4, g5, g6⟩ := S.own j us ej
        refine ⟨.ref a, h1, Or.inl ⟨rfl, _, SqL.of h2⟩, .ref b, g1, Or.inl ⟨rfl, _, SqL.of g2⟩, he.rd N r c F k σ H _ S (PostS.seq S.ge p fun t c1 v F1 k1 H1 ok1 ge1 r1 p1 => ?_)⟩
        have S1 := S.step ok1 ge1
        cases t <;> try (exact p1.elim)
        rename_i n
        cases r1
        by_cases hl : (decide (ts.length < 1000000) && decide (us.length ≤ 1000000)) = true
        · replace p1 : PostS X.K X.mg N F1 k1 (if (decide (ts.length < 1000000) && decide (us.length ≤ 1000000)) = true then (match (ixN us.length n).bind fun m => (us[m]?).map fun u => (m, u) with
            | some (m, u) => .ok (.nxt ((r.set j (.own (us.eraseIdx m))).set i (.own (ts ++ [u])))) c1
            | none => .stk) else .stk) D W := p1
          rw [if_pos hl] at p1
          rw [Bool.and_eq_true, decide_eq_true_eq, decide_eq_true_eq] at hl
          cases hm : ixN us.length n with
          | none => rw [hm] at p1; exact p1.elim
          | some m =>
            obtain ⟨q1, q2, q3, q4⟩ := ixN_seq hm
            have hu : us[m]? = some us[m] := List.getElem?_eq_getElem q2
            rw [hm] at p1
            simp only [Option.bind_some, hu, Option.map_some] at p1
            obtain ⟨b', ys', g1', g2', g3', _, _, _⟩ := S1.own j us ej
            rw [g1] at g1'; cases g1'
            obtain ⟨y, e1, e2⟩ := g3'.get hu
            have S2 := S1.wr ej g1 (g3'.eraseIdx m)
            have ei' : (r.set j (.own (us.eraseIdx m)))[i]? = some (.own ts) := by rw [List.getElem?_set_ne (fun z => hij z.symm)]; exact ei
            obtain ⟨a', xs', k1', k2', k3', _, _, _⟩ := S2.own i ts ei'
            rw [h1] at k1'; cases k1'
            refine ⟨b, ys', n, m, y, rfl, rfl, g2', by omega, by omega, by rw [← g3'.length]; exact q1, e1, ?_⟩
            refine ⟨a, xs', y, rfl, rfl, k2', by rw [← k3'.length]; exact Nat.lt_of_lt_of_le hl.1 line1m, ?_⟩
            exact p1 σ _ F1 k1 (S2.wr ei' h1 (k3'.append (.cons e2 .nil))) (fun _ _ z => z) List.prefix_rfl
        · replace p1 : PostS X.K X.mg N F1 k1 (if (decide (ts.length < 1000000) && decide (us.length ≤ 1000000)) = true then (match (ixN us.length n).bind fun m => (us[m]?).map fun u => (m, u) with
            | some (m, u) => .ok (.nxt ((r.set j (.own (us.eraseIdx m))).set i (.own (ts ++ [u])))) c1
            | none => .stk) else .stk) D W := p1
          rw [if_neg hl] at p1; exact p1.elim
      · exact p.elim
    · exact p.elim
/-- xs.remove(k), k an int of it -/
def dRem (j : Nat) (d : D) : DS := fun r c => match r[j]? with
  | some (.own us) => (d r c).bind fun t c => (match t with
    | .int n => (match intsOf us with
      | some ns => if n ∈ ns then .ok (.nxt (r.set j (.own ((ns.erase n).map T.int)))) c else .stk
      | none => .stk)
    | _ => .stk)
  | _ => .stk
@[simp] theorem dRem_e {r : Env} {c : Cs} : dRem j d r c = match r[j]? with
  | some (.own us) => (d r c).bind fun t c => (match t with
    | .int n => (match intsOf us with
      | some ns => if n ∈ ns then .ok (.nxt (r.set j (.own ((ns.erase n).map T.int)))) c else .stk
      | none => .stk)
    | _ => .stk)
  | _ => .stk := (rfl)
theorem ss_rem (j : Nat) (ho : PE X o (tVar j)) (he : EE X W e te d) (tk : Takes X (fun cls d _ H => W cls d H)) (hc : X.calm = true := by rfl)
    (hbase : attributeBase o "remove" X.env (eval o X.env) = eval o X.env := by rfl) (hfew : ((backTo cpos (starEach [e] X.env)).all (fun x => !x.1) && (backToKw cpos (keywordEach [] X.env)).all (fun x => x.1.isSome)
      && decide (([e] : List Expr).length + ([] : List Keyword).length + (if ([] : List Keyword).isEmpty then 0 else 1) < 30)) = true := by rfl)
    (hline : (apos.endLine == cpos.line) = true := by rfl) (hs : starEach [e] X.env = (false, eval e X.env) :: starEach [] X.env := by rfl) (hplain : (backTo cpos (starEach [] X.env)).any (·.1) = false := by rfl)
    (hsw : swapsWith (.Call (.Attribute o "remove" apos) [e] [] cpos) none pos.line X.env = pure false := by rfl) :
    SS X W (.Expr (.Call (.Attribute o "remove" apos) [e] [] cpos) pos) (tDrop (tRemX X.K (fun cls d _ H => W cls d H) (tVar j) te)) (dRem j d) := by
  refine ⟨ps_expr (pe_remX hc tk ho he.pe hbase hfew hline hs hplain) hsw, fun N r c F k σ H D S p => ?_⟩
  unfold dRem at p
  split at p
  · rename_i us ej
    obtain ⟨b, ys, g1, g2, g3, g4, g5, g6⟩ := S.own j us ej
    refine ⟨.ref b, g1, Or.inl ⟨rfl, _, SqL.of g2⟩, he.rd N r c F k σ H _ S (PostS.seq S.ge p fun t c1 v F1 k1 H1 ok1 ge1 r1 p1 => ?_)⟩
    have S1 := S.step ok1 ge1
    cases t <;> try (exact p1.elim)
    rename_i n
    cases r1
    cases hn : intsOf us with
    | none => simp only [hn] at p1; exact p1.elim
    | some ns =>
      simp only [hn] at p1
      split at p1
      · rename_i hm
        obtain ⟨b', ys', g1', g2', g3', _, _, _⟩ := S1.own j us ej
        rw [g1] at g1'; cases g1'
        have hus := intsOf_eq hn
        subst hus
        have hy := Reps.ints g3'
        subst hy
        refine ⟨b, ns, n, rfl, rfl, g2', fun _ => ?_, fun z => absurd hm z⟩
        exact p1 σ _ F1 k1 (S1.wr ej g1 (reps_ints _)) (fun _ _ z => z) List.prefix_rfl
      · exact p1.elim
  · exact p.elim
end
section
variable {P : Program} {w : World} {K : PySem.W.Frag} {mg : Str → Option Value}
theorem has_stk {x : Str} {st : Stmt} {ps : List Str} {k : Nat} (D : Def K mg x st)
    (hb : ∀ (kV doc pm : Value) (an : Option Addr) (cdv ct : Value) (us : List Value), us.length = ps.length → bindArgs (PySem.W.fnOf x x (defArgs st) (defBody st) (defScope st) .none kV doc pm an cdv ct) ⟨us, []⟩ = pure (ps.zip us)) :
    Has P w K mg k x ps (fun _ _ => .stk) := by
  obtain ⟨fd, F, gm⟩ := D
  exact ⟨He.ga K x, fd, fun base bo => ⟨fun vs H Q E ⟨F, k, c, ts, h1, _, h3, _⟩ => by rw [← h3.length, h1], fun A outer s H args us vs Q E _ _ _ _ ⟨_, _, _, _, _, _, _, h⟩ => h.elim⟩, gm, F.kp, F.bindsA hb⟩
end
end Q
namespace Q
open PySem PySem.Spec PyProof.Rows L2
theorem opr_ltV {X : Cx} {k : Nat} (h : Room k X.A) : OpR X (compareOp .Lt) (rLtT X.K) := op_ltT (by have := u65 h; omega)
def ltV : T → T → Option T
  | .tup ts, .tup us => match intsOf ts, intsOf us with
    | some ns, some ms => some (.bl (HT.lexLt ns ms))
    | _, _ => none
  | _, _ => none
theorem op2_ltV {K : PySem.W.Frag} : Op2 K (rLtT K) ltV := fun x y t v u c F k H Q e ok rx ry g => by
  cases x with
  | tup ts =>
    cases y with
    | tup us =>
      simp only [ltV] at e
      cases h1 : intsOf ts with
      | none => rw [h1] at e; cases e
      | some ns =>
        cases h2 : intsOf us with
        | none => rw [h1, h2] at e; cases e
        | some ms =>
          rw [h1, h2] at e
          cases e
          have e1 := intsOf_eq h1
          have e2 := intsOf_eq h2
          subst e1 e2
          obtain ⟨a, xs, rfl, -, ha, ra⟩ := rx.tup_of ok
          obtain ⟨b, ys, rfl, -, hb, rb⟩ := ry.tup_of ok
          rw [ra.ints] at ha
          rw [rb.ints] at hb
          exact ⟨a, b, ns, ms, rfl, rfl, ha, hb, g.same ok (.bl _)⟩
    | _ => cases e
  | _ => cases e
theorem ltV_tI {xs ys : List Int} : ltV (.tup (xs.map T.int)) (.tup (ys.map T.int)) = some (.bl (HT.lexLt xs ys)) := by
  simp [ltV, intsOf_map]
end Q
namespace Q
open PySem PySem.Spec PyProof.Rows L2
def valX (es : DE) (k : List Int) : Option V := (es.find? fun e => decide (e.1 = k)).map (·.2.2)
/-- every key's tuple is there -/
def KeysAt (K : PySem.W.Frag) (H : Hp) (es : DE) : Prop := ∀ e ∈ es, SqT K H e.2.1 (e.1.map V.int)
theorem ik_inj : ∀ {a b : List Int}, ik a = ik b → a = b
  | [], [], _ => rfl
  | [], _ :: _, h => by cases h
  | _ :: _, [], h => by cases h
  | x :: a, y :: b, h => by
    have h1 := List.cons.inj h
    have h2 : x = y := Sum.inl.inj h1.1
    rw [h2, ik_inj h1.2]
theorem ik_kV (k : List Int) : (ik k).map kV = k.map V.int := by
  unfold ik
  rw [List.map_map]
  rfl
theorem KX.val {es : DE} {xs : List (List Key × Addr × Value)} (r : KX es xs) (k : List Int) : RelO (valX es k) ((atKey xs (ik k)).map (·.2)) := by
  induction r with
  | nil => exact True.intro
  | @cons p q ps qs h t ih =>
    obtain ⟨h1, _, h2⟩ := h
    by_cases e : p.1 = k
    · have e' : q.1 = ik k := by rw [← h1, e]
      have b : atKey (q :: qs) (ik k) = some q.2 := by simp [atKey, List.find?_cons, e']
      have c : valX (p :: ps) k = some p.2.2 := by simp [valX, List.find?_cons, e]
      rw [c, b]; exact h2
    · have e' : ¬ q.1 = ik k := fun z => e (ik_inj (h1.trans z))
      have b : atKey (q :: qs) (ik k) = atKey qs (ik k) := by simp [atKey, List.find?_cons, e']
      have c : valX (p :: ps) k = valX ps k := by simp [valX, List.find?_cons, e]
      rw [c, b]; exact ih
section
variable {X : Cx} {pins : List (Addr × Obj)} {σ : L2.St} {H : Hp} {s : Shared} {a b : Addr} {es : DE} {k : List Int} {v : V} {A : Around} {E : Value → Shared → Prop}
theorem keyR (I : Inv X pins σ H s) (e : SqT X.K H b (k.map V.int)) : (tupleKind (mixKind X.prog X.w)).is s.heap (ik k) b := by
  obtain ⟨its, r, ⟨o, h1, h2, n, h3⟩, hz⟩ := I.tuple e
  rw [← ik_kV] at r
  exact ⟨o, its.toArray, n, h1, h2, h3, by simpa using items_are r⟩
theorem dx_of (I : Inv X pins σ H s) (e : L2.Rd H a (dzO a es)) (ks : KeysAt X.K H es) : es.length ≤ sizeLine ∧ (a == sysModules) = false ∧ ∃ xs, KX es xs ∧ s.heap.DictOfH (tupleKind (mixKind X.prog X.w)) a xs := by
  obtain ⟨⟨z, y, xs, r, h5, o, as, ep, h1, h2, h3, h4⟩, _⟩ := (show ObjOk X.prog X.w H s.heap a (dzO a es) from rd_of I.hok e)
  refine ⟨z, y, xs, r, o, as, ep, h1, h2, h3, h4 _ _, fun x hx => ?_, h5⟩
  have all : ∀ {l : DE} {m : List (List Key × Addr × Value)}, KX l m → KeysAt X.K H l → ∀ x ∈ m, (tupleKind (mixKind X.prog X.w)).is s.heap x.1 x.2.1 := by
    intro l m q
    induction q with
    | nil => intro _ x hx; exact nomatch hx
    | @cons p q ps qs hq t ih =>
      intro kl x hx
      rcases List.mem_cons.mp hx with e | hx
      · subst e
        rw [← hq.1, ← hq.2.1]
        exact keyR I (kl p List.mem_cons_self)
      · exact ih (fun e he => kl e (List.mem_cons_of_mem _ he)) x hx
  exact all r ks x hx
/-- d[t], there -/
theorem x_getItem {Q : Value → Shared → Prop} (hu : A.units + 1 < cLine) (I : Inv X pins σ H s) (e : L2.Rd H a (dzO a es)) (ks : KeysAt X.K H es) (hb : SqT X.K H b (k.map V.int)) (l : valX es k = some v) (h : ∀ w' s', Inv X pins σ H s' → RelV v w' → Q w' s') :
    wpAny (model X.prog X.w) A (getItem (.ref a) (.ref b)) Q E s := by
  obtain ⟨z, hd, xs, rel, dd⟩ := dx_of I e ks
  obtain ⟨w', hw, rw'⟩ := RelO.some_of (v := v) (o := (atKey xs (ik k)).map (·.2)) (by rw [← l]; exact rel.val k)
  obtain ⟨p, hp, hp2⟩ := Option.map_eq_some_iff.mp hw
  refine wpAny_getItem_heap (tupleKind_room_in1 hu) (keyR I hb) dd hp ?_
  rw [hp2]
  exact h w' _ (I.tok _) rw'
/-- t in d, t not in d -/
theorem x_in {Q : Value → Shared → Prop} (hu : A.units + 1 < cLine) (I : Inv X pins σ H s) (e : L2.Rd H a (dzO a es)) (ks : KeysAt X.K H es) (hb : SqT X.K H b (k.map V.int)) (h : ∀ s', Inv X pins σ H s' → Q (.bool (valX es k).isSome) s') :
    wpAny (model X.prog X.w) A (compareOp .In (.ref b) (.ref a)) Q E s := by
  obtain ⟨z, hd, xs, rel, dd⟩ := dx_of I e ks
  refine wpAny_in_heap (tupleKind_room_in1 hu) (keyR I hb) hd dd ?_
  have q := (rel.val k).isSome_eq
  rw [Option.isSome_map] at q
  rw [← q]
  exact h _ (I.tok _)
theorem x_notIn {Q : Value → Shared → Prop} (hu : A.units + 1 < cLine) (I : Inv X pins σ H s) (e : L2.Rd H a (dzO a es)) (ks : KeysAt X.K H es) (hb : SqT X.K H b (k.map V.int)) (h : ∀ s', Inv X pins σ H s' → Q (.bool (!(valX es k).isSome)) s') :
    wpAny (model X.prog X.w) A (compareOp .NotIn (.ref b) (.ref a)) Q E s := by
  obtain ⟨z, hd, xs, rel, dd⟩ := dx_of I e ks
  refine wpAny_notIn_heap (tupleKind_room_in1 hu) (keyR I hb) hd dd ?_
  have q := (rel.val k).isSome_eq
  rw [Option.isSome_map] at q
  rw [← q]
  exact h _ (I.tok _)
/-- d[t] = v, t not there before -/
theorem x_setNew {Q : Unit → Shared → Prop} {r : Value} (hu : A.units + 1 < cLine) (I : Inv X pins σ H s) (e : H a = some (dzO a es)) (ks : KeysAt X.K H es) (hb : SqT X.K H b (k.map V.int)) (rv : RelV v r) (l : valX es k = none) (hl : es.length < sizeLine)
    (h : ∀ s', Inv X pins σ (upd H a (dzO a (es ++ [(k, b, v)]))) s' → Q () s') : wpAny (model X.prog X.w) A (setItem (.ref a) (.ref b) r) Q E s := by
  obtain ⟨z, hd, xs, rel, dd⟩ := dx_of I (.inl e) ks
  have hz : xs.length ≤ sizeLine := by rw [← Paired.length rel]; exact z
  refine wpAny_setItem_heap (hsz := hz) (tupleKind_room_in1 hu) (keyR I hb) dd fun h' dd' hs => h _ ?_
  obtain ⟨q, as, ep, hq, h2, h3, h4, _, h5⟩ := dd'
  have no : (atKey xs (ik k)).isSome = false := by
    have q := (rel.val k).isSome_eq
    rw [l, Option.isSome_map] at q
    exact q.symm
  have st : storedH xs (ik k) b r = xs ++ [(ik k, b, r)] := by
    unfold storedH
    rw [no]
    rfl
  rw [st] at h4 h5
  have rel' : KX (es ++ [(k, b, v)]) (xs ++ [(ik k, b, r)]) := Paired.snoc rel ⟨rfl, rfl, rv⟩
  refine d_write I (by rw [e]; exact True.intro) hs ⟨q, hq⟩ (DzRaw.ok ⟨by simp; omega, hd, _, rel', h5, q, as, ep, hq, h2, h3, fun P w => h4.trans (entry_any rel')⟩)
/-- d.get(t, x) -/
theorem x_get2 {Q : Value → Shared → Prop} {d : V} {r : Value} (hu : A.units + 1 < cLine) (I : Inv X pins σ H s) (e : L2.Rd H a (dzO a es)) (ks : KeysAt X.K H es) (hb : SqT X.K H b (k.map V.int)) (rd : RelV d r) (h : ∀ w' s', Inv X pins σ H s' → RelV ((valX es k).getD d) w' → Q w' s') :
    wpAny (model X.prog X.w) A (call (.builtin "dict.get") [.ref a, .ref b, r]) Q E s := by
  obtain ⟨z, hd, xs, rel, dd⟩ := dx_of I e ks
  refine call_meetsIn PySem.F.slot_dict_get dd.typeIs PySem.F.entry_dict_get (PySem.F.args_dict_get_3 _ _ _) (meetsH_dict_get_default (tupleKind (mixKind X.prog X.w)) a b hd r) ⟨tupleKind_room_in1 hu, ik k, xs, keyR I hb, dd, h _ _ (I.tok _) ?_⟩
  exact (rel.val k).getD rd
/-- len(d) -/
theorem x_len {Q : Value → Shared → Prop} (I : Inv X pins σ H s) (e : L2.Rd H a (dzO a es)) (ks : KeysAt X.K H es) (h : ∀ t s', Inv X pins σ H s' → Q (.int es.length t) s') : wpAny (model X.prog X.w) A (call (.builtin "len") [.ref a]) Q E s := by
  obtain ⟨z, hd, xs, rel, dd⟩ := dx_of I e ks
  have hz : xs.length = es.length := (Paired.length rel).symm
  refine call_len_dictH hd dd (by rw [hz]; rw [sizeLine_eq] at z; omega) ?_
  rw [hz]
  exact h _ _ (I.tok _)
/-- {} -/
theorem x_empty {P : Program} {w : World} {H : Hp} (h : Heap) (hb : sysModules < h.objs.size) : ObjOk P w H (h.push { cls := .type "dict", data := .dict #[] }) h.objs.size (dzO h.objs.size []) :=
  DzRaw.ok ⟨Nat.zero_le _, beq_eq_false_iff_ne.mpr (Ne.symm (Nat.ne_of_lt hb)), [], .nil, List.nodup_nil, _, #[], 0, Heap.get?_push_size _ rfl, ⟨rfl, rfl, rfl⟩, rfl, fun _ _ => rfl⟩
end
end Q
namespace Q
open PySem PySem.Spec PyProof.Rows L2
/-- what the dict at a holds at the tuple y -/
def XGet (K : PySem.W.Frag) (H : Hp) (a : Addr) (y : V) (r : Option V) : Prop :=
  ∃ es k b, L2.Rd H a (dzO a es) ∧ KeysAt K H es ∧ y = .ref b ∧ SqT K H b (k.map V.int) ∧ r = valX es k
/-- a is such a dict -/
def IsX (K : PySem.W.Frag) (H : Hp) (a : Addr) : Prop := ∃ es, L2.Rd H a (dzO a es) ∧ KeysAt K H es
theorem XGet.isX {K : PySem.W.Frag} {H : Hp} {a : Addr} {y : V} {r : Option V} (g : XGet K H a y r) : IsX K H a :=
  let ⟨es, _, _, e, ks, _⟩ := g; ⟨es, e, ks⟩
theorem isX_at {X : Cx} {pins : List (Addr × Obj)} {σ : L2.St} {H : Hp} {s : Shared} {a : Addr} (I : Inv X pins σ H s) (d : IsX X.K H a) :
    s.TypeIs (.ref a) "dict" ∧ (∀ b, Value.ref a = .ref b → ∃ ob, s.heap.get? b = some ob ∧ ob.dict = none) ∧ (a == sysModules) = false := by
  obtain ⟨es, e, ks⟩ := d
  obtain ⟨_, hd, xs, _, dd⟩ := dx_of I e ks
  refine ⟨dd.typeIs, fun b q => ?_, hd⟩
  cases q
  obtain ⟨ob, _, _, h1, h2, _⟩ := dd
  exact ⟨ob, h1, h2.2.1⟩
def tXGet (K : PySem.W.Frag) (td ty : TE) : TE := fun σ H Q => td σ H fun x H1 => ty σ H1 fun y H2 => ∃ a v, x = .ref a ∧ XGet K H2 a y (some v) ∧ Q v H2
def tXIn (K : PySem.W.Frag) (ty td : TE) : TE := fun σ H Q => ty σ H fun y H1 => td σ H1 fun x H2 => ∃ a o, x = .ref a ∧ XGet K H2 a y o ∧ Q (.bl o.isSome) H2
def tXNotIn (K : PySem.W.Frag) (ty td : TE) : TE := fun σ H Q => ty σ H fun y H1 => td σ H1 fun x H2 => ∃ a o, x = .ref a ∧ XGet K H2 a y o ∧ Q (.bl (!o.isSome)) H2
/-- d[y] = v, y new -/
def sXPut (K : PySem.W.Frag) (td ty tv : TE) : TS := fun D σ H => tv σ H fun v H1 => td σ H1 fun x H2 => ty σ H2 fun y H3 => ∃ a es k b, x = .ref a ∧ H3 a = some (dzO a es) ∧ KeysAt K H3 es ∧ y = .ref b ∧ SqT K H3 b (k.map V.int) ∧
  valX es k = none ∧ es.length < sizeLine ∧ D.nx σ (upd H3 a (dzO a (es ++ [(k, b, v)])))
def tXGet2 (K : PySem.W.Frag) (td ty tx : TE) : TE := fun σ H Q => td σ H fun x H1 => ∃ a, x = .ref a ∧ IsX K H1 a ∧ ty σ H1 fun y H2 => tx σ H2 fun z H3 => ∃ o, XGet K H3 a y o ∧ Q (o.getD z) H3
/-- {} -/
def tXNew (K : PySem.W.Frag) : TE := fun _ H Q => ∀ p, H p = none → Q (.ref p) (upd H p (dzO p []))
/-- len(d) -/
def rXLen (K : PySem.W.Frag) : List V → Hp → VK → Prop := fun xs H Q => ∃ (p : Addr) (es : DE), xs = [.ref p] ∧ L2.Rd H p (dzO p es) ∧ KeysAt K H es ∧ Q (.int ((es.length : Nat) : Int)) H
section
variable {X : Cx} {o i e f value : Expr} {pos pos' tpos apos cpos : Pos} {td ty tv tx : TE}
theorem pe_xget (hu : X.A.units + 1 < cLine) (ho : PE X o td) (hi : PE X i ty) (hs : NoSl i) : PE X (.Subscript o i pos) (tXGet X.K td ty) := by
  refine ⟨fun pins s σ H Q I h => ?_⟩
  refine subD_of PySem.F.slot_dict_getitem.lookup hs (thn (ho.run pins s σ H _ I h) fun u s1 ⟨x, H1, I1, rx, q1⟩ => thn (hi.run pins s1 σ H1 _ I1 q1) fun iv s2 ⟨y, H2, I2, ry, a, v, ex, g, q2⟩ => ?_)
  subst ex
  obtain rfl : u = Value.ref a := rx
  have t := (isX_at I2 g.isX).1
  obtain ⟨es, k, b, hd, ks, ey, hb, l⟩ := g
  subst ey
  obtain rfl : iv = Value.ref b := ry
  exact ⟨t, x_getItem hu I2 hd ks hb l.symm fun w' s3 I3 rw' => ⟨v, H2, I3, rw', q2⟩⟩
theorem pc_xin (hu : X.A.units + 1 < cLine) (hi : PE X i ty) (ho : PE X o td) : PC X .In i o (tXIn X.K ty td) := by
  refine ⟨fun pins s σ H Q I h => ?_⟩
  refine thn (hi.run pins s σ H _ I h) fun iv s1 ⟨y, H1, I1, ry, q1⟩ => thn (ho.run pins s1 σ H1 _ I1 q1) fun u s2 ⟨x, H2, I2, rx, a, ov, ex, g, q2⟩ => ?_
  subst ex
  obtain rfl : u = Value.ref a := rx
  obtain ⟨es, k, b, hd, ks, ey, hb, l⟩ := g
  subst ey l
  obtain rfl : iv = Value.ref b := ry
  exact x_in hu I2 hd ks hb fun s3 I3 => ⟨.bl (valX es k).isSome, H2, I3, rfl, q2⟩
theorem pc_xnotin (hu : X.A.units + 1 < cLine) (hi : PE X i ty) (ho : PE X o td) : PC X .NotIn i o (tXNotIn X.K ty td) := by
  refine ⟨fun pins s σ H Q I h => ?_⟩
  refine thn (hi.run pins s σ H _ I h) fun iv s1 ⟨y, H1, I1, ry, q1⟩ => thn (ho.run pins s1 σ H1 _ I1 q1) fun u s2 ⟨x, H2, I2, rx, a, ov, ex, g, q2⟩ => ?_
  subst ex
  obtain rfl : u = Value.ref a := rx
  obtain ⟨es, k, b, hd, ks, ey, hb, l⟩ := g
  subst ey l
  obtain rfl : iv = Value.ref b := ry
  exact x_notIn hu I2 hd ks hb fun s3 I3 => ⟨.bl (!(valX es k).isSome), H2, I3, rfl, q2⟩
theorem ps_xput (hu : X.A.units + 1 < cLine) (ho : PE X o td) (hi : PE X i ty) (hv : PE X value tv) (hs : swapsWith value (some (.Subscript o i pos')) pos.line X.env = pure false) :
    PS X (.Assign [.Subscript o i pos'] value pos) (sXPut X.K td ty tv) := by
  refine ⟨fun pins s σ H D I h => ?_⟩
  refine wpAny_Assign_Subscript (thn (hv.run pins s σ H _ I h) fun r s1 ⟨v, H1, I1, rv, q1⟩ => thn (ho.run pins s1 σ H1 _ I1 q1) fun u s2 ⟨x, H2, I2, rx, q2⟩ => thn (hi.run pins s2 σ H2 _ I2 q2) fun iv s3 ⟨y, H3, I3, ry, a, es, k, b, ex, hd, ks, ey, hb, l, hl, q3⟩ => ?_) hs
  subst ex ey
  obtain rfl : u = Value.ref a := rx
  obtain rfl : iv = Value.ref b := ry
  exact x_setNew hu I3 hd ks hb rv l hl fun s4 I4 => ⟨σ, _, I4, q3⟩
theorem pe_xget2 (hu : X.A.units + 1 < cLine) (ho : PE X o td) (he : PE X e ty) (hf : PE X f tx) (m : M2 X o "get" apos e f cpos) : PE X (.Call (.Attribute o "get" apos) [e, f] [] cpos) (tXGet2 X.K td ty tx) := by
  refine ⟨fun pins s σ H Q I h => ?_⟩
  refine wpAny_Call_method m.base m.few m.line PySem.F.plainAttrs_dict PySem.F.slot_dict_get PySem.F.type_dict_get (thn (ho.run pins s σ H _ I h) fun u s1 ⟨x, H1, I1, rx, a, ex, d, q1⟩ => ?_)
  subst ex
  obtain rfl : u = Value.ref a := rx
  obtain ⟨t1, t2, _⟩ := isX_at I1 d
  refine ⟨t1, t2, ?_⟩
  rw [m.trees]
  refine Calls.callWith_builtin rfl (Calls.evalArgs_plain (Calls.spliced_cons (thn (he.run pins s1 σ H1 _ I1 q1) fun iv s2 ⟨y, H2, I2, ry, q2⟩ =>
    Calls.spliced_cons (thn (hf.run pins s2 σ H2 _ I2 q2) fun fv s3 ⟨z, H3, I3, rz, ov, g, q3⟩ => Calls.spliced_nil ?_))))
  obtain ⟨es, k, b, hd, ks, ey, hb, l⟩ := g
  subst ey l
  obtain rfl : iv = Value.ref b := ry
  exact x_get2 hu I3 hd ks hb rz fun w' s4 I4 rw' => ⟨_, H3, I4, rw', q3⟩
theorem pe_xnew : PE X (.Dict [] [] pos) (tXNew X.K) := ⟨fun pins s σ H Q I h =>
  wpAny_Dict_empty ⟨.ref s.heap.objs.size, _, I.laid (a := s.heap.objs.size) (o := dzO s.heap.objs.size []) (t' := s.toks) (fun _ _ q => Heap.get?_push_of_some _ q) (Nat.le_refl _) (x_empty s.heap I.big), rfl, h _ (I.hok.fresh (Nat.le_refl _))⟩⟩
theorem call_xlen : CallR X (.builtin "len") (rXLen X.K) := by
  intro pins s σ H xs us Q I r h
  obtain ⟨p, es, rfl, hp, ks, q⟩ := h
  obtain ⟨u, rfl, rx⟩ := vals1 r
  obtain rfl : u = .ref p := rx
  exact x_len I hp ks fun t s' I' => ⟨.int ((es.length : Nat) : Int), H, I', ⟨_, rfl⟩, q⟩
end
end Q
namespace Q
open PySem PySem.Spec PyProof.Rows L2
section
variable {X : Cx} {W : XK} {a b : Expr} {ta tb : TE} {da db : D} {pos : Pos}
/-- an operation that looks at the shared objects -/
abbrev Op2c (K : PySem.W.Frag) (r : R2) (f : Cs → T → T → Option T) : Prop :=
  ∀ x y t v u c F k H Q, f c x y = some t → Ok K F k c H → SeqR K F k H x v → SeqR K F k H y u → Gives K F k c H t Q → r v u H Q
def d2c (f : Cs → T → T → Option T) (da db : D) : D := fun r c => (da r c).bind fun x c => (db r c).bind fun y c => lift (f c x y) c
theorem rd_op2c {K : PySem.W.Frag} {mg : Str → Option Value} {r : R2} {f : Cs → T → T → Option T} (h : Op2c K r f) (ha : RdS K mg W ta da) (hb : RdS K mg W tb db) : Rd K mg W (tOp r ta tb) (d2c f da db) := fun N ρ c F k σ H Q S p => by
  refine ha N ρ c F k σ H _ S (p.seq fun x c1 v F1 k1 H1 _ ok1 g1 r1 p1 => ?_)
  have S1 := S.step ok1 g1
  refine hb N ρ c1 F1 k1 σ H1 _ S1 (p1.seq fun y c2 u F2 k2 H2 _ ok2 g2 r2 p2 => ?_)
  cases e : f c2 x y with
  | none => rw [e] at p2; exact p2.elim
  | some t => rw [e] at p2; exact h x y t v u c2 F2 k2 H2 Q e ok2 (r1.step g2) r2 p2
theorem ee_cmpkc {K : PySem.W.Frag} {op : CmpOp} {r : R2} {f : Cs → T → T → Option T} (h : Op2c K r f) (ho : OpR X (compareOp op) r) (ha : ES X W a ta da) (hb : ES X W b tb db) (hm : behindInMarks op b = false := by first | exact nomark _ | rfl) (hK : X.K = K := by rfl) : EE X W (.Compare a [op] [b] pos) (tOp r ta tb) (d2c f da db) := by
  subst hK; exact ⟨pe_cmpR ho ha.pe hb.pe hm, rd_op2c h ha.rd hb.rd⟩
theorem et_cmpkc {K : PySem.W.Frag} {op : CmpOp} {r : R2} {f : Cs → T → T → Option T} (h : Op2c K r f) (ho : OpR X (compareOp op) r) (ha : ES X W a ta da) (hb : ES X W b tb db) (hm : behindInMarks op b = false := by first | exact nomark _ | rfl) (hK : X.K = K := by rfl) : ET X W (.Compare a [op] [b] pos) (tTest (tOp r ta tb)) (dTest (d2c f da db)) := by
  subst hK; exact ⟨pt_cmpR ho ha.pe hb.pe hm, rdB_of (rd_op2c h ha.rd hb.rd)⟩
def rXIn (K : PySem.W.Frag) : R2 := fun x y H Q => ∃ a es k b, y = .ref a ∧ L2.Rd H a (dzO a es) ∧ KeysAt K H es ∧ x = .ref b ∧ SqT K H b (k.map V.int) ∧ Q (.bl (valX es k).isSome) H
def rXNin (K : PySem.W.Frag) : R2 := fun x y H Q => ∃ a es k b, y = .ref a ∧ L2.Rd H a (dzO a es) ∧ KeysAt K H es ∧ x = .ref b ∧ SqT K H b (k.map V.int) ∧ Q (.bl (!(valX es k).isSome)) H
theorem op_xin {n : Nat} (h : Room n X.A) : OpR X (compareOp .In) (rXIn X.K) := by
  intro pins s σ H x y v u Q I rx ry q
  obtain ⟨a, es, k, b, rfl, hd, ks, rfl, hb, q⟩ := q
  cases rx
  cases ry
  exact x_in (by have := u65 h; omega) I hd ks hb fun s' I' => ⟨.bl (valX es k).isSome, H, I', rfl, q⟩
theorem op_xnin {n : Nat} (h : Room n X.A) : OpR X (compareOp .NotIn) (rXNin X.K) := by
  intro pins s σ H x y v u Q I rx ry q
  obtain ⟨a, es, k, b, rfl, hd, ks, rfl, hb, q⟩ := q
  cases rx
  cases ry
  exact x_notIn (by have := u65 h; omega) I hd ks hb fun s' I' => ⟨.bl (!(valX es k).isSome), H, I', rfl, q⟩
/-- the dict that a shared object holds -/
def dtAt (c : Cs) : T → Option (List (List Int) × List T)
  | .cel n => match c[n]? with
    | some [.dtu ks vs] => some (ks, vs)
    | _ => none
  | _ => none
theorem dtAt_of {K : PySem.W.Frag} {F H : Hp} {k : List Addr} {c : Cs} {t : T} {v : V} {ks : List (List Int)} {vs : List T} (ok : Ok K F k c H) (e : dtAt c t = some (ks, vs)) (r : SeqR K F k H t v) :
    ∃ n a es, t = .cel n ∧ c[n]? = some [.dtu ks vs] ∧ k[n]? = some a ∧ v = .ref a ∧ H a = some (dzO a es) ∧ (∀ x ∈ es, SqD K F x.2.1 (x.1.map V.int)) ∧ KeysAt K H es ∧ es.map (·.1) = ks ∧ Reps K F k vs (es.map (·.2.2)) := by
  cases t with
  | cel n =>
    cases r with
    | cel hn =>
      rename_i a
      simp only [dtAt] at e
      obtain ⟨ts, h1, hc, h4⟩ := ok.cel n a hn
      rw [h1] at e
      split at e
      · rename_i ks' vs' e2
        cases e2
        cases e
        rcases hc with ⟨xs, hl, rr, nd⟩ | ⟨es, ks2, vs2, e3, h2, h3, h5, h6⟩
        · cases nd
        · cases e3
          exact ⟨n, a, es, rfl, h1, hn, rfl, h2, h3, fun x hx => SqT.sub (SqD.t (h3 x hx)) ok.sub, h5, h6⟩
      · cases e
  | _ => cases e
theorem valX_some (k : List Int) : ∀ es : DE, (valX es k).isSome = (es.map (·.1)).contains k
  | [] => rfl
  | e :: es => by
    by_cases h : e.1 = k
    · simp [valX, List.find?_cons, h]
    · have := valX_some k es
      simp only [valX, List.find?_cons, h, decide_false, List.map_cons, List.contains_cons] at this ⊢
      rw [this]
      have : (k == e.1) = false := by simpa using fun z => h z.symm
      rw [this, Bool.false_or]
def inXT (c : Cs) (x y : T) : Option T := match x, dtAt c y with
  | .tup ts, some (ks, _) => (intsOf ts).map fun k => .bl (ks.contains k)
  | _, _ => none
def ninXT (c : Cs) (x y : T) : Option T := match x, dtAt c y with
  | .tup ts, some (ks, _) => (intsOf ts).map fun k => .bl (!(ks.contains k))
  | _, _ => none
theorem op2c_xnin {K : PySem.W.Frag} : Op2c K (rXNin K) ninXT := fun x y t v u c F k H Q e ok rx ry g => by
  unfold ninXT at e
  split at e
  · rename_i ts ks vs ed
    obtain ⟨n, a, es, rfl, hc, hn, rfl, h2, h3, h4, h5, h6⟩ := dtAt_of ok ed ry
    cases hi : intsOf ts with
    | none => rw [hi] at e; cases e
    | some ns =>
      rw [hi] at e
      cases e
      have e1 := intsOf_eq hi
      subst e1
      obtain ⟨b, xs, rfl, -, hb, ra⟩ := rx.tup_of ok
      rw [ra.ints] at hb
      exact ⟨a, es, ns, b, rfl, .inl h2, h4, rfl, hb, by rw [valX_some, h5]; exact g.same ok (.bl _)⟩
  · cases e
theorem op2c_xin {K : PySem.W.Frag} : Op2c K (rXIn K) inXT := fun x y t v u c F k H Q e ok rx ry g => by
  unfold inXT at e
  split at e
  · rename_i ts ks vs ed
    obtain ⟨n, a, es, rfl, hc, hn, rfl, h2, h3, h4, h5, h6⟩ := dtAt_of ok ed ry
    cases hi : intsOf ts with
    | none => rw [hi] at e; cases e
    | some ns =>
      rw [hi] at e
      cases e
      have e1 := intsOf_eq hi
      subst e1
      obtain ⟨b, xs, rfl, -, hb, ra⟩ := rx.tup_of ok
      rw [ra.ints] at hb
      exact ⟨a, es, ns, b, rfl, .inl h2, h4, rfl, hb, by rw [valX_some, h5]; exact g.same ok (.bl _)⟩
  · cases e
end
end Q
namespace Q
open PySem PySem.Spec PyProof.Rows L2
section
variable {X : Cx} {W : XK} {o e oi : Expr} {te td ty : TE} {d dd dk : D} {pos pos' tpos : Pos}
/-- {} -/
def dNewX : D := fun _ c => .ok (.cel c.length) (c ++ [[.dtu [] []]])
theorem rd_newX {K : PySem.W.Frag} {mg : Str → Option Value} : Rd K mg W (tXNew K) dNewX := fun N r c F k σ H Q S p => fun q hq =>
  p (.ref q) F (k ++ [q]) _ (S.ok.newO hq (.inr ⟨[], [], [], rfl, upd_same, (fun x hx => nomatch hx), rfl, .nil⟩)) (Ge.newC S.ok hq) (.cel (by rw [← S.ok.len]; simp))
theorem ee_xnew : EE X W (.Dict [] [] pos) (tXNew X.K) dNewX := ⟨pe_xnew, rd_newX⟩
/-- d[t] = v, t not there before -/
def dPutX (dd dk dv : D) : DS := fun r c => (dv r c).bind fun v c => (dd r c).bind fun x c => (dk r c).bind fun y c => match x, y with
  | .cel n, .tup ts => match dtAt c (.cel n), intsOf ts with
    | some (ks, vs), some k => if ks.contains k = false ∧ ks.length < 1000000 then .ok (.nxt r) (c.set n [.dtu (ks ++ [k]) (vs ++ [v])]) else .stk
    | _, _ => .stk
  | _, _ => .stk
theorem ss_xput {n : Nat} (hr : Room n X.A) (hv : EE X W e te d) (ho : EE X W o td dd) (hi : EE X W oi ty dk) (hs : swapsWith e (some (.Subscript o oi pos')) pos.line X.env = pure false) :
    SS X W (.Assign [.Subscript o oi pos'] e pos) (sXPut X.K td ty te) (dPutX dd dk d) := by
  refine ⟨ps_xput (by have := u65 hr; omega) ho.pe hi.pe hv.pe hs, fun N r c F k σ H D S p => hv.rd N r c F k σ H _ S (PostS.seq S.ge p fun v c1 w F1 k1 H1 ok1 g1 rv p1 => ?_)⟩
  have S1 := S.step ok1 g1
  refine ho.rd N r c1 F1 k1 σ H1 _ S1 (PostS.seq S1.ge p1 fun x c2 u F2 k2 H2 ok2 g2 rx p2 => ?_)
  have S2 := S1.step ok2 g2
  refine hi.rd N r c2 F2 k2 σ H2 _ S2 (PostS.seq S2.ge p2 fun y c3 z F3 k3 H3 ok3 g3 ry p3 => ?_)
  have S3 := S2.step ok3 g3
  replace rx := rx.mono g3.f g3.pk
  replace rv := (rv.mono g2.f g2.pk).mono g3.f g3.pk
  cases x <;> try exact p3.elim
  case cel n =>
    cases y <;> try exact p3.elim
    case tup ts =>
      simp only at p3
      cases e1 : dtAt c3 (.cel n) with
      | none => rw [e1] at p3; exact p3.elim
      | some kv =>
        obtain ⟨ks, vs⟩ := kv
        cases e2 : intsOf ts with
        | none => rw [e1, e2] at p3; exact p3.elim
        | some ns =>
          rw [e1, e2] at p3
          simp only at p3
          split at p3
          · rename_i hc
            obtain ⟨m, a, es, em, hcn, hn, rfl, h2, h3, h4, h5, h6⟩ := dtAt_of ok3 e1 (Rep.seq ok3 rx)
            cases em
            have e3 := intsOf_eq e2
            subst e3
            obtain ⟨b, xs, rfl, hb0, hb, ra⟩ := (Rep.seq ok3 ry).tup_of ok3
            rw [ra.ints] at hb hb0
            have hno : valX es ns = none := by
              have := valX_some ns es
              rw [h5, hc.1] at this
              cases q : valX es ns with
              | none => rfl
              | some _ => rw [q] at this; cases this
            have hl : es.length < sizeLine := by
              have : es.length = ks.length := by rw [← h5, List.length_map]
              rw [sizeLine_eq]
              omega
            refine ⟨a, es, ns, b, rfl, h2, h4, rfl, hb, hno, hl, ?_⟩
            refine p3 σ _ F3 k3 (S3.step (ok3.writeO hn (.inr ⟨es ++ [(ns, b, w)], ks ++ [ns], vs ++ [v], rfl, upd_same, fun x hx => ?_, ?_, ?_⟩)) (Ge.writeO ok3 hn fun ps z => by cases z)) (fun _ _ z => z) List.prefix_rfl
            · rcases List.mem_append.mp hx with q | q
              · exact h3 x q
              · have : x = (ns, b, w) := by simpa using q
                rw [this]; exact hb0
            · rw [List.map_append, h5]; rfl
            · rw [List.map_append]
              exact h6.append (.cons rv .nil)
          · exact p3.elim
end
end Q
namespace Q
open PySem PySem.Spec PyProof.Rows L2
section
variable {X : Cx} {W : XK} {o e oi : Expr} {te td ty ta tb : TE} {d dd dk da : D} {pos p : Pos}
/-- what stands under a key -/
def dget : List (List Int) → List T → List Int → Option T
  | q :: ks, t :: vs, k => if q = k then some t else dget ks vs k
  | _, _, _ => none
theorem dget_val {K : PySem.W.Frag} {F : Hp} {k : List Addr} {q : List Int} {t : T} : ∀ {es : DE} {vs : List T}, Reps K F k vs (es.map (·.2.2)) → dget (es.map (·.1)) vs q = some t → ∃ v, valX es q = some v ∧ Rep K F k t v
  | [], _, r, h => by cases r; cases h
  | e :: es, _, r, h => by
    cases r with
    | cons r1 r2 =>
      rw [List.map_cons, dget] at h
      by_cases hq : e.1 = q
      · rw [if_pos hq] at h
        cases h
        exact ⟨e.2.2, by simp [valX, List.find?_cons, hq], r1⟩
      · rw [if_neg hq] at h
        obtain ⟨v, h1, h2⟩ := dget_val r2 h
        exact ⟨v, by simpa [valX, List.find?_cons, hq] using h1, h2⟩
def ixXT (c : Cs) (x y : T) : Option T := match dtAt c x, y with
  | some (ks, vs), .tup ts => (intsOf ts).bind fun k => dget ks vs k
  | _, _ => none
def rXGet (K : PySem.W.Frag) : R2 := fun x y H Q => ∃ a v, x = .ref a ∧ XGet K H a y (some v) ∧ Q v H
theorem op2c_xget {K : PySem.W.Frag} : Op2c K (rXGet K) ixXT := fun x y t v u c F k H Q e ok rx ry g => by
  unfold ixXT at e
  split at e
  · rename_i ks vs ts ed
    obtain ⟨n, a, es, rfl, hc, hn, rfl, h2, h3, h4, h5, h6⟩ := dtAt_of ok ed rx
    cases hi : intsOf ts with
    | none => rw [hi] at e; cases e
    | some ns =>
      rw [hi] at e
      have e1 := intsOf_eq hi
      subst e1
      obtain ⟨b, xs, rfl, -, hb, ra⟩ := ry.tup_of ok
      rw [ra.ints] at hb
      have e' : dget ks vs ns = some t := e
      rw [← h5] at e'
      obtain ⟨w, w1, w2⟩ := dget_val h6 e'
      exact ⟨a, w, rfl, ⟨es, ns, b, .inl h2, h4, rfl, hb, w1.symm⟩, g.same ok w2⟩
  · cases e
theorem ee_xget {n : Nat} (hr : Room n X.A) (ho : ES X W o ta dd) (hi : ES X W oi tb dk) (hs : NoSl oi) : EE X W (.Subscript o oi pos) (tXGet X.K ta tb) (d2c ixXT dd dk) :=
  ⟨pe_xget (by have := u65 hr; omega) ho.pe hi.pe hs, show Rd X.K X.mg W (tOp (rXGet X.K) ta tb) (d2c ixXT dd dk) from rd_op2c op2c_xget ho.rd hi.rd⟩
end
end Q
namespace Q
open PySem PySem.Spec PyProof.Rows L2
section
variable {X : Cx} {W : XK} {o e f : Expr} {te td ty tx ta : TE} {d dd dk dx da : D} {pos p apos cpos : Pos} {x : Str}
def d1c (f : Cs → T → Option T) (da : D) : D := fun r c => (da r c).bind fun x c => lift (f c x) c
abbrev Op1c (K : PySem.W.Frag) (r : V → Hp → VK → Prop) (f : Cs → T → Option T) : Prop :=
  ∀ x t v c F k H Q, f c x = some t → Ok K F k c H → SeqR K F k H x v → Gives K F k c H t Q → r v H Q
theorem rd_op1c {K : PySem.W.Frag} {mg : Str → Option Value} {r : V → Hp → VK → Prop} {f : Cs → T → Option T} (h : Op1c K r f) (ha : RdS K mg W ta da) : Rd K mg W (fun σ H Q => ta σ H fun x H1 => r x H1 Q) (d1c f da) := fun N ρ c F k σ H Q S p => by
  refine ha N ρ c F k σ H _ S (p.seq fun x c1 v F1 k1 H1 _ ok1 g1 r1 p1 => ?_)
  cases e : f c1 x with
  | none => rw [e] at p1; exact p1.elim
  | some t => rw [e] at p1; exact h x t v c1 F1 k1 H1 Q e ok1 r1 p1
def lenXT (c : Cs) (x : T) : Option T := (dtAt c x).map fun kv => .int kv.1.length
theorem op1c_xlen {K : PySem.W.Frag} : Op1c K (fun x H Q => rXLen K [x] H Q) lenXT := fun x t v c F k H Q e ok rx g => by
  unfold lenXT at e
  cases ed : dtAt c x with
  | none => rw [ed] at e; cases e
  | some kv =>
    obtain ⟨ks, vs⟩ := kv
    rw [ed] at e
    cases e
    obtain ⟨n, a, es, rfl, hc, hn, rfl, h2, h3, h4, h5, h6⟩ := dtAt_of ok ed rx
    have hl : ks.length = es.length := by rw [← h5, List.length_map]
    refine ⟨a, es, rfl, .inl h2, h4, ?_⟩
    rw [← hl]
    exact g.same ok (.int _)
theorem ee_xlen (hm : X.mg "len" = none) (ha : ES X W e te d) (hg : Gl X "len" := by rfl)
    (he : starEach [e] X.env = (false, eval e X.env) :: starEach [] X.env := by rfl) (hpl : (backTo pos (starEach [] X.env)).any (·.1) = false := by rfl) (hv : bootBuiltins "len" = some (.builtin "len")) :
    EE X W (.Call (.Name "len" p) [e] [] pos) (tCB (rXLen X.K) (tCons te tNil)) (d1c lenXT d) :=
  ⟨pe_callB call_xlen hg hm hv (pa_cons ha.pe pa_nil he) (by decide) (by decide) he hpl, show Rd X.K X.mg W (tCB (rXLen X.K) (tCons te tNil)) (d1c lenXT d) from rd_op1c (r := fun x H Q => rXLen X.K [x] H Q) op1c_xlen ha.rd⟩
/-- d.get(t, x) -/
def dGet2X (dd dk dx : D) : D := fun r c => (dd r c).bind fun x c => match dtAt c x with
  | none => .stk
  | some _ => (dk r c).bind fun y c => (dx r c).bind fun z c => match dtAt c x, y with
    | some (ks, vs), .tup ts => match intsOf ts with
      | some k => .ok ((dget ks vs k).getD z) c
      | none => .stk
    | _, _ => .stk
theorem dget_none {q : List Int} : ∀ {es : DE} {vs : List T}, vs.length = es.length → dget (es.map (·.1)) vs q = none → valX es q = none
  | [], _, _, _ => rfl
  | e :: es, [], h, _ => by cases h
  | e :: es, v :: vs, h, g => by
    rw [List.map_cons, dget] at g
    by_cases hq : e.1 = q
    · rw [if_pos hq] at g; cases g
    · rw [if_neg hq] at g
      have := dget_none (by simpa using h) g
      simpa [valX, List.find?_cons, hq] using this
theorem rd_get2X {K : PySem.W.Frag} {mg : Str → Option Value} (hd : RdS K mg W td dd) (hk : RdS K mg W ty dk) (hx : Rd K mg W tx dx) : Rd K mg W (tXGet2 K td ty tx) (dGet2X dd dk dx) := fun N ρ c F k σ H Q S p => by
  refine hd N ρ c F k σ H _ S (p.seq fun x c1 v F1 k1 H1 _ ok1 g1 r1 p1 => ?_)
  have S1 := S.step ok1 g1
  cases e1 : dtAt c1 x with
  | none => rw [e1] at p1; exact p1.elim
  | some kv0 =>
    rw [e1] at p1
    obtain ⟨ks0, vs0⟩ := kv0
    obtain ⟨n, a, es0, rfl, -, hn, rfl, h2, -, h4, -, -⟩ := dtAt_of ok1 e1 r1
    refine ⟨a, rfl, ⟨es0, .inl h2, h4⟩, ?_⟩
    refine hk N ρ c1 F1 k1 σ H1 _ S1 (p1.seq fun y c2 u F2 k2 H2 qq ok2 g2 r2 p2 => ?_)
    clear qq
    have S2 := S1.step ok2 g2
    refine hx N ρ c2 F2 k2 σ H2 _ S2 (p2.seq0 fun z c3 w F3 k3 H3 _ ok3 g3 r3 p3 => ?_)
    have r1' := (r1.step g2).step g3
    have r2' := r2.step g3
    cases e3 : dtAt c3 (.cel n) with
    | none => rw [e3] at p3; exact p3.elim
    | some kv =>
      obtain ⟨ks, vs⟩ := kv
      rw [e3] at p3
      obtain ⟨m, a', es, em, -, -, ea, q2, -, q4, q5, q6⟩ := dtAt_of ok3 e3 r1'
      cases em
      cases ea
      cases y <;> try exact p3.elim
      case tup ts =>
        cases e4 : intsOf ts with
        | none => simp only [e4] at p3; exact p3.elim
        | some ns =>
          simp only [e4] at p3
          have e5 := intsOf_eq e4
          subst e5
          obtain ⟨b, xs, rfl, -, hb, ra⟩ := r2'.tup_of ok3
          rw [ra.ints] at hb
          refine ⟨valX es ns, ⟨es, ns, b, .inl q2, q4, rfl, hb, rfl⟩, ?_⟩
          have hl : vs.length = es.length := by have := q6.length; rw [List.length_map] at this; exact this
          cases e6 : dget ks vs ns with
          | none =>
            rw [e6] at p3
            rw [← q5] at e6
            rw [dget_none hl e6]
            exact p3 w F3 k3 H3 ok3 g3 r3
          | some t =>
            rw [e6] at p3
            rw [← q5] at e6
            obtain ⟨v', w1, w2⟩ := dget_val q6 e6
            rw [w1]
            exact p3 v' F3 k3 H3 ok3 g3 w2
theorem ee_get2X {n : Nat} (hr : Room n X.A) (ho : ES X W o td dd) (he : ES X W e ty dk) (hf : EE X W f tx dx) (m : M2 X o "get" apos e f cpos) : EE X W (.Call (.Attribute o "get" apos) [e, f] [] cpos) (tXGet2 X.K td ty tx) (dGet2X dd dk dx) :=
  ⟨pe_xget2 (by have := u65 hr; omega) ho.pe he.pe hf.pe m, rd_get2X ho.rd he.rd hf.rd⟩
end
end Q
namespace Q
open PySem PySem.Spec PyProof.Rows L2
/-- tuples of ints, upwards -/
def sortK (ks : List (List Int)) : List (List Int) := ks.mergeSort fun a b => decide (a ≤ b)
theorem sortK_perm (ks : List (List Int)) : (sortK ks).Perm ks := List.mergeSort_perm _ _
theorem le_total_d (a b : List Int) : (decide (a ≤ b) || decide (b ≤ a)) = true := by
  rw [Bool.or_eq_true, decide_eq_true_eq, decide_eq_true_eq]
  exact List.le_total a b
theorem le_trans_d (a b c : List Int) (h1 : decide (a ≤ b) = true) (h2 : decide (b ≤ c) = true) : decide (a ≤ c) = true := by
  rw [decide_eq_true_eq] at *
  exact List.le_trans h1 h2
theorem sortK_sorted (ks : List (List Int)) : (sortK ks).Pairwise (· ≤ ·) :=
  (List.pairwise_mergeSort le_trans_d le_total_d ks).imp fun h => by simpa using h
theorem dataLe_tups {β : Type} (x : β → List Int) : PySem.W.dataLe false (fun b => .tuple ((x b).map .int)) = fun p q => decide (x p ≤ x q) := by
  funext p q
  show (!PySem.W.dataLt (.tuple ((x q).map .int)) (.tuple ((x p).map .int))) = _
  rw [PySem.W.dataLt_tuple]
  show (!PySem.W.rowLt ((x q).map .int) ((x p).map .int)) = _
  rw [PySem.W.dataLt_ints]
  by_cases h : x q < x p
  · have h' : ¬ x p ≤ x q := fun r => List.not_lt.mpr r h
    simp [h, h']
  · have h' : x p ≤ x q := List.not_lt.mp h
    simp [h, h']
theorem reads_ints {h : Heap} : ∀ {ns : List Int} {us : List Value}, Vals (ns.map V.int) us → ReadsAll h us (ns.map .int) []
  | [], _, .nil => .nil
  | n :: ns, u :: us, .cons r t => by
    obtain ⟨tk, rfl⟩ := r
    exact ReadsAll.cons (as := []) (.int n tk) (reads_ints t)
theorem reads_tup {h : Heap} {b : Addr} {ns : List Int} {us : List Value} (ht : IsTup h b us.toArray) (r : Vals (ns.map V.int) us) : Reads h (.ref b) (.tuple (ns.map .int)) [] := by
  obtain ⟨o, ho, hc, n, hd⟩ := ht
  exact .tuple ho hc hd (by simpa using reads_ints r)
theorem vals_addrs : ∀ as : List Addr, Vals (as.map V.ref) (as.map Value.ref)
  | [] => .nil
  | _ :: as => .cons rfl (vals_addrs as)
theorem vals_adr {α : Type} (f : α → Addr) : ∀ as : List α, Vals (as.map fun x => V.ref (f x)) (as.map fun x => Value.ref (f x))
  | [] => .nil
  | _ :: as => .cons rfl (vals_adr f as)
section
variable {X : Cx} {pins : List (Addr × Obj)} {σ : L2.St} {H : Hp} {s : Shared} {a b : Addr} {es : DE} {E : Value → Shared → Prop} {A : Around}
theorem KX.addr {es : DE} {xs : List (List Key × Addr × Value)} (r : KX es xs) : es.map (·.2.1) = xs.map (·.2.1) := by
  induction r with
  | nil => rfl
  | cons h t ih => rw [List.map_cons, List.map_cons, ih, h.2.1]
theorem each_self {α β γ : Type} {R : α → β → Prop} {f : γ → α} {g : γ → β} : ∀ {l : List γ}, (∀ x ∈ l, R (f x) (g x)) → PySem.W.EachIs R (l.map f) (l.map g)
  | [], _ => .nil
  | x :: l, h => .cons (h x List.mem_cons_self) (each_self fun y hy => h y (List.mem_cons_of_mem _ hy))
theorem each_map_eq {α β : Type} {f : β → α} : ∀ {as : List α} {bs : List β}, PySem.W.EachIs (fun a b => a = f b) as bs → as = bs.map f
  | _, _, .nil => rfl
  | _, _, .cons h t => by rw [h, each_map_eq t]; rfl
theorem x_sorted {Q : Value → Shared → Prop} (hh : A.handled = none) (hu : A.units + 60 < cLine) (I : Inv X pins σ H s) (e : L2.Rd H a (dzO a es)) (ks : KeysAt X.K H es) (hpos : ∀ x ∈ es, x.1 ≠ [])
    (h : ∀ (xs : List (List Int × Addr)) p s', xs.Perm (es.map fun x => (x.1, x.2.1)) → (xs.map (·.1)).Pairwise (· ≤ ·) → H p = none → Inv X pins σ (upd H p (.lst (xs.map fun x => V.ref x.2))) s' → Q (.ref p) s') :
    wpAny (model X.prog X.w) A (call (.builtin "sorted") [.ref a]) Q E s := by
  obtain ⟨z, hd, xs, rel, dd⟩ := dx_of I e ks
  obtain ⟨ent, ep, raw, hsz, hat⟩ := dd.raw
  have hz : xs.length = es.length := (Paired.length rel).symm
  refine Calls.call_function_entry PyProof.Rows.kind_sorted PyProof.Rows.plain_sorted PyProof.Rows.entry_sorted (PyProof.Rows.args_sorted1 _) ?_
  unfold Builtin.«sorted»
  refine wpAny_bind (m := checkCount "sorted" 1 1 _) (wpAny_pure ?_)
  refine wpAny_bind (PySem.W.kdu_collect (A := A.in1) (KdlSrc.rawDict (es := ent) (ep := ep) hd) (by exact hh) raw (by rw [hsz, hz]; exact z) fun h' tk acc hk hacc => ?_)
  have hal : acc.toList = es.map fun x => Value.ref x.2.1 := by
    have e1 : es.map (fun x => Value.ref x.2.1) = (xs.map (·.2.1)).map Value.ref := by
      rw [← rel.addr, List.map_map]; rfl
    rw [e1]
    refine List.ext_getElem? fun i => ?_
    by_cases hi : i < ent.size
    · obtain ⟨y, y1, y2, _⟩ := hat i hi
      have hi' : i < acc.size := by rw [hacc.1]; exact hi
      obtain ⟨_, q⟩ := hacc.2 i acc[i] (Array.getElem?_eq_getElem hi')
      rw [Array.getElem?_toList, Array.getElem?_eq_getElem hi', q, y2, List.getElem?_map, List.getElem?_map, y1]
      rfl
    · rw [List.getElem?_eq_none (by rw [Array.length_toList, hacc.1]; omega), List.getElem?_eq_none (by rw [List.length_map, List.length_map, ← hsz]; omega)]
  have I1 : Inv X pins σ H { s with heap := h', toks := tk } := I.kept hk
  refine wpAny_bind (wpAny_newList ?_ (by rw [hal, List.length_map]; exact z))
  have hoL : (h'.push (seqObj "list" acc.toList.toArray 0)).get? h'.objs.size = some (seqObj "list" acc.toList.toArray 0) := Heap.get?_push_size _ rfl
  show wpAny _ _ _ _ _ { s with heap := h'.push (seqObj "list" acc.toList.toArray 0), toks := tk }
  have hrd : PySem.W.EachIs (fun v (b : List Int × Addr) => ∃ as, Reads (h'.push (seqObj "list" acc.toList.toArray 0)) v (.tuple (b.1.map .int)) as ∧ h'.objs.size ∉ as) acc.toList (es.map fun x => (x.1, x.2.1)) := by
    rw [hal]
    refine each_self fun x hx => ?_
    obtain ⟨its, r, ⟨o, h1, h2⟩, _⟩ := I1.tuple (ks x hx)
    exact ⟨[], reads_tup ⟨o, Heap.get?_push_of_some _ h1, h2⟩ r, by simp⟩
  have hself : PySem.W.EachIs (fun v (b : List Int × Addr) => v = Value.ref b.2) acc.toList (es.map fun x => (x.1, x.2.1)) := by
    rw [hal]
    exact each_self fun x hx => rfl
  refine wpAny_bind (wpAny_holding (PySem.W.list_sort_data (s := { s with heap := h'.push (seqObj "list" acc.toList.toArray 0), toks := tk }) hoL hself hrd ?_ ?_ ?_ ?_ fun out ho eo => ?_))
  · refine PySem.W.AllAlike.of fun b b' => ?_
    simp only [PySem.W.alike]
    exact PySem.W.alike_ints _ _
  · refine .inl fun d hd => ?_
    obtain ⟨b, hb, rfl⟩ := List.mem_map.mp hd
    obtain ⟨x, hx, rfl⟩ := List.mem_map.mp hb
    cases hk : x.1 with
    | nil => exact absurd hk (hpos x hx)
    | cons y ys => exact ⟨_, _, rfl⟩
  · rw [List.length_map]; exact z
  · intro b hb
    have : PyData.depth (.tuple (b.1.map .int)) ≤ 1 := by
      rw [PyData.depth]
      have := PySem.W.depth_ints b.1
      omega
    show A.in1.units + 1 + _ < cLine
    simp only [Around.in1] at *
    omega
  · have eo' := each_map_eq eo
    obtain ⟨e', he'⟩ := PyProof.Rows.sortedHeap_at (vs := acc.toList) (out := out.toArray) hoL
    have hp := List.mergeSort_perm (es.map fun x => (x.1, x.2.1)) (PySem.W.dataLe false fun b : List Int × Addr => .tuple (b.1.map .int))
    refine wpAny_pure ⟨_, rfl, h _ h'.objs.size _ hp ?_ (I1.hok.fresh (Nat.le_refl _)) ?_⟩
    · rw [dataLe_tups (fun b : List Int × Addr => b.1)]
      rw [List.pairwise_map]
      exact (List.pairwise_mergeSort (fun a b c => le_trans_d a.1 b.1 c.1) (fun a b => le_total_d a.1 b.1) _).imp fun h => by simpa using h
    · have hn : (((es.map fun x => (x.1, x.2.1)).mergeSort (PySem.W.dataLe false fun b : List Int × Addr => .tuple (b.1.map .int))).map fun x => V.ref x.2).length ≤ sizeLine := by
        rw [List.length_map, hp.length_eq, List.length_map]; exact z
      have hb : ∀ b u, h'.get? b = some u → b ≠ h'.objs.size ∧ b < (h'.push (seqObj "list" acc.toList.toArray 0)).objs.size := fun b u q => by
        have h1 := Heap.lt_size q
        rw [size_push']
        exact ⟨Nat.ne_of_lt h1, Nat.lt_succ_of_lt h1⟩
      refine I1.laid (t' := tk) (fun b u q => ?_) (Nat.le_refl _) (show ObjOk X.prog X.w _ _ _ (.lst _) from ⟨hn, out, e', ?_, he'⟩)
      · show (sortedHeap _ _ _ _).get? b = some u
        rw [PyProof.Rows.sortedHeap_old (hb b u q).1 (hb b u q).2]
        exact Heap.get?_push_of_some _ q
      · rw [eo']
        exact vals_adr _ _
def rXSorted (K : PySem.W.Frag) : List V → Hp → VK → Prop := fun vs H Q => ∃ a es, vs = [.ref a] ∧ L2.Rd H a (dzO a es) ∧ KeysAt K H es ∧ (∀ x ∈ es, x.1 ≠ []) ∧
  ∀ (xs : List (List Int × Addr)) p, xs.Perm (es.map fun x => (x.1, x.2.1)) → (xs.map (·.1)).Pairwise (· ≤ ·) → H p = none → Q (.ref p) (upd H p (.lst (xs.map fun x => V.ref x.2)))
theorem cr_xsorted (hcalm : X.calm = true) (hu : X.A.units + 65 < cLine) : CallR X (.builtin "sorted") (rXSorted X.K) := by
  intro pins s σ H xs us Q I r q
  obtain ⟨a, es, rfl, e, ks, hp, q⟩ := q
  obtain ⟨u, rfl, rx⟩ := vals1 r
  obtain rfl : u = .ref a := rx
  exact x_sorted (I.ok.hd hcalm) (by omega) I e ks hp fun xs p s' h1 h2 h3 I' => ⟨.ref p, _, I', rfl, q xs p h1 h2 h3⟩
end
section
variable {X : Cx} {W : XK} {e : Expr} {te ta : TE} {d da : D} {pos p : Pos}
def dF1c (f : Cs → T → Option (List T)) (da : D) : DA := fun r c => (da r c).bind fun x c => lift (f c x) c
abbrev OpF1c (K : PySem.W.Frag) (r : V → Hp → VK → Prop) (f : Cs → T → Option (List T)) : Prop :=
  ∀ x ts v c F k H Q, f c x = some ts → Ok K F k c H → SeqR K F k H x v → GivesF K F k c H ts Q → r v H Q
theorem rd_opF1c {K : PySem.W.Frag} {mg : Str → Option Value} {r : V → Hp → VK → Prop} {f : Cs → T → Option (List T)} (h : OpF1c K r f) (ha : RdS K mg W ta da) : RdF K mg W (fun σ H Q => ta σ H fun x H1 => r x H1 Q) (dF1c f da) := fun N ρ c F k σ H Q S p => by
  refine ha N ρ c F k σ H _ S (p.seq0 fun x c1 v F1 k1 H1 _ ok1 g1 r1 p1 => ?_)
  cases e : f c1 x with
  | none => rw [e] at p1; exact p1.elim
  | some t =>
    rw [e] at p1
    exact h x t v c1 F1 k1 H1 Q e ok1 r1 fun b F3 k3 H3 ok3 g3 ⟨a, xs, e1, h1, h2, h3, h4, h5⟩ => p1 b F3 k3 H3 ok3 (g1.trans g3) ⟨a, xs, e1, h1, h2, h3, h4, g1.none_of h5⟩
theorem sorted_uniq {as bs : List (List Int)} (h : as.Perm bs) (h1 : as.Pairwise (· ≤ ·)) : as = sortK bs :=
  List.Perm.eq_of_pairwise (fun a b _ _ h1 h2 => List.le_antisymm h1 h2) h1 (sortK_sorted bs) (h.trans (sortK_perm bs).symm)
theorem reps_keys {K : PySem.W.Frag} {F : Hp} {k : List Addr} : ∀ {xs : List (List Int × Addr)}, (∀ x ∈ xs, SqD K F x.2 (x.1.map V.int)) → Reps K F k ((xs.map (·.1)).map fun y => T.tup (y.map T.int)) (xs.map fun x => V.ref x.2)
  | [], _ => .nil
  | x :: xs, h => .cons (.tup (h x List.mem_cons_self) (reps_ints _)) (reps_keys fun y hy => h y (List.mem_cons_of_mem _ hy))
/-- sorted(d) -/
def sortXT (c : Cs) (x : T) : Option (List T) := (dtAt c x).bind fun kv => if (kv.1.all fun y => !y.isEmpty) = true then some ((sortK kv.1).map fun y => .tup (y.map T.int)) else none
theorem opF1c_xsort {K : PySem.W.Frag} : OpF1c K (fun x H Q => rXSorted K [x] H Q) sortXT := fun x ts v c F k H Q e ok rx g => by
  unfold sortXT at e
  cases ed : dtAt c x with
  | none => rw [ed] at e; cases e
  | some kv =>
    obtain ⟨ks, vs⟩ := kv
    rw [ed] at e
    simp only [Option.bind_some] at e
    split at e
    · rename_i hne
      cases e
      obtain ⟨n, a, es, rfl, hc, hn, rfl, h2, h3, h4, h5, h6⟩ := dtAt_of ok ed rx
      refine ⟨a, es, rfl, .inl h2, h4, fun x hx z => ?_, fun xs p q1 q2 q3 => ?_⟩
      · have : x.1 ∈ ks := by rw [← h5]; exact List.mem_map.mpr ⟨x, hx, rfl⟩
        have := List.all_eq_true.mp hne _ this
        rw [z] at this
        cases this
      · have hpm : (xs.map (·.1)).Perm ks := by
          have := q1.map (·.1)
          rwa [List.map_map, show ((fun x : List Int × Addr => x.1) ∘ fun x : List Int × Addr × V => (x.1, x.2.1)) = (·.1) from rfl, h5] at this
        have he : xs.map (·.1) = sortK ks := sorted_uniq hpm q2
        rw [← he] at g
        refine g.lst ok (reps_keys fun x hx => ?_) p q3
        have hx' := q1.mem_iff.mp hx
        obtain ⟨y, hy, rfl⟩ := List.mem_map.mp hx'
        exact h3 y hy
    · cases e
theorem ef_xsort {n : Nat} (hr : Room n X.A) (hm : X.mg "sorted" = none) (ha : ES X W e te d) (hg : Gl X "sorted" := by rfl)
    (he : starEach [e] X.env = (false, eval e X.env) :: starEach [] X.env := by rfl) (hpl : (backTo pos (starEach [] X.env)).any (·.1) = false := by rfl) (hc : X.calm = true := by rfl) :
    EF X W (.Call (.Name "sorted" p) [e] [] pos) (tCB (rXSorted X.K) (tCons te tNil)) (dF1c sortXT d) :=
  ⟨pe_callB (cr_xsorted hc (u65 hr)) hg hm boot_sorted (pa_cons ha.pe pa_nil he) (by decide) (by decide) he hpl, show RdF X.K X.mg W (tCB (rXSorted X.K) (tCons te tNil)) (dF1c sortXT d) from rd_opF1c (r := fun x H Q => rXSorted X.K [x] H Q) opF1c_xsort ha.rd⟩
end
end Q
namespace Q
open PySem PySem.Spec PyProof.Rows L2
section
variable {r : Env} {c : Cs} {d d' d3 : D} {n : Nat} {ks : List (List Int)} {vs ts : List T} {k : List Int} {t z : T}
@[simp] theorem d2c_e {f : Cs → T → T → Option T} : d2c f d d' r c = (d r c).bind fun x c => (d' r c).bind fun y c => lift (f c x y) c := (rfl)
@[simp] theorem d1c_e {f : Cs → T → Option T} : d1c f d r c = (d r c).bind fun x c => lift (f c x) c := (rfl)
@[simp] theorem dF1c_e {f : Cs → T → Option (List T)} : dF1c f d r c = (d r c).bind fun x c => lift (f c x) c := (rfl)
@[simp] theorem dNewX_e : dNewX r c = .ok (.cel c.length) (c ++ [[.dtu [] []]]) := (rfl)
theorem dtAt_e (h : c[n]? = some [.dtu ks vs]) : dtAt c (.cel n) = some (ks, vs) := by
  simp only [dtAt]
  rw [h]
theorem dPutX_e (hx : d r c = .ok (.cel n) c) (hy : d' r c = .ok (.tup (k.map T.int)) c) (hv : d3 r c = .ok t c) (hc : c[n]? = some [.dtu ks vs]) (h1 : ks.contains k = false) (h2 : ks.length < 1000000) :
    dPutX d d' d3 r c = .ok (.nxt r) (c.set n [.dtu (ks ++ [k]) (vs ++ [t])]) := by
  simp only [dPutX, hx, hy, hv, bind_ok]
  rw [dtAt_e hc, intsOf_map]
  simp only
  rw [if_pos ⟨h1, h2⟩]
theorem ixXT_e (hc : c[n]? = some [.dtu ks vs]) : ixXT c (.cel n) (.tup (k.map T.int)) = dget ks vs k := by
  unfold ixXT
  rw [dtAt_e hc]
  simp only
  rw [intsOf_map]
  rfl
theorem ninXT_e (hc : c[n]? = some [.dtu ks vs]) : ninXT c (.tup (k.map T.int)) (.cel n) = some (.bl (!(ks.contains k))) := by
  unfold ninXT
  rw [dtAt_e hc]
  simp only
  rw [intsOf_map]
  rfl
theorem inXT_e (hc : c[n]? = some [.dtu ks vs]) : inXT c (.tup (k.map T.int)) (.cel n) = some (.bl (ks.contains k)) := by
  unfold inXT
  rw [dtAt_e hc]
  simp only
  rw [intsOf_map]
  rfl
theorem lenXT_e (hc : c[n]? = some [.dtu ks vs]) : lenXT c (.cel n) = some (.int ks.length) := by
  unfold lenXT
  rw [dtAt_e hc]
  rfl
theorem dGet2X_e {c' : Cs} (hx : d r c = .ok (.cel n) c') (hy : d' r c' = .ok (.tup (k.map T.int)) c') (hz : d3 r c' = .ok z c') (hc : c'[n]? = some [.dtu ks vs]) : dGet2X d d' d3 r c = .ok ((dget ks vs k).getD z) c' := by
  simp only [dGet2X, hx, bind_ok]
  rw [dtAt_e hc]
  simp only [hy, hz, bind_ok]
  rw [dtAt_e hc]
  simp only
  rw [intsOf_map]
theorem sortXT_e (hc : c[n]? = some [.dtu ks vs]) (h : ∀ k ∈ ks, k ≠ []) : sortXT c (.cel n) = some ((sortK ks).map fun y => .tup (y.map T.int)) := by
  unfold sortXT
  rw [dtAt_e hc]
  simp only [Option.bind_some]
  rw [if_pos]
  refine List.all_eq_true.mpr fun y hy => ?_
  have := h y hy
  cases y with
  | nil => exact absurd rfl this
  | cons _ _ => rfl
end
end Q
namespace Q
open PySem PySem.Spec PyProof.Rows L2
/-- a pair: its tuple, the key, the key's tuple, the value -/
abbrev PE := Addr × List Int × Addr × V
section
variable {X : Cx} {pins : List (Addr × Obj)} {σ : L2.St} {H : Hp} {s : Shared}
theorem at_none {xs : List (List Key × Addr × Value)} {k : List Key} (h : k ∉ xs.map (·.1)) : atKey xs k = none := by
  cases e : atKey xs k with
  | none => rfl
  | some p =>
    refine absurd ?_ h
    unfold atKey at e
    obtain ⟨x, hx, _⟩ := Option.map_eq_some_iff.mp e
    have h1 := List.find?_some hx
    exact List.mem_map.mpr ⟨x, List.mem_of_find?_eq_some hx, by simpa using h1⟩
theorem storedAll_new : ∀ {ps acc : List (List Key × Addr × Value)}, ((acc ++ ps).map (·.1)).Nodup → storedAllH acc ps = acc ++ ps
  | [], acc, _ => by simp [storedAllH]
  | p :: ps, acc, h => by
    have hno : p.1 ∉ acc.map (·.1) := fun hm => by
      rw [List.map_append, List.nodup_append] at h
      exact h.2.2 _ hm _ (List.mem_map.mpr ⟨p, List.mem_cons_self, rfl⟩) rfl
    have e : storedH acc p.1 p.2.1 p.2.2 = acc ++ [p] := storedH_new (at_none hno) _ _
    show storedAllH (storedH acc p.1 p.2.1 p.2.2) ps = _
    rw [e, storedAll_new (by rw [List.append_assoc]; exact h), List.append_assoc]
    rfl
theorem prs_of (I : Inv X pins σ H s) : ∀ {ps : List PE}, (∀ p ∈ ps, SqT X.K H p.1 [.ref p.2.2.1, p.2.2.2]) →
    ∃ xs : List (List Key × Addr × Value), Paired (fun (p : PE) (x : List Key × Addr × Value) => (ik p.2.1 = x.1 ∧ p.2.2.1 = x.2.1 ∧ RelV p.2.2.2 x.2.2) ∧ PairAt s.heap p.1 (.ref x.2.1) x.2.2) ps xs
  | [], _ => ⟨[], .nil⟩
  | p :: ps, h => by
    obtain ⟨xs, hxs⟩ := prs_of I (ps := ps) fun q hq => h q (List.mem_cons_of_mem _ hq)
    obtain ⟨its, r, ⟨o, h1, h2, n, h3⟩, _⟩ := I.tuple (h p List.mem_cons_self)
    obtain ⟨u, w', rfl, r1, r2⟩ := vals2 r
    obtain rfl : u = Value.ref p.2.2.1 := r1
    exact ⟨(ik p.2.1, p.2.2.1, w') :: xs, .cons ⟨⟨rfl, rfl, r2⟩, .inl ⟨o, h1, h2, n, h3⟩⟩ hxs⟩
theorem kx_of {ps : List PE} {xs : List (List Key × Addr × Value)} {h : Heap} (r : Paired (fun (p : PE) (x : List Key × Addr × Value) => (ik p.2.1 = x.1 ∧ p.2.2.1 = x.2.1 ∧ RelV p.2.2.2 x.2.2) ∧ PairAt h p.1 (.ref x.2.1) x.2.2) ps xs) : KX (ps.map (·.2)) xs := by
  induction r with
  | nil => exact .nil
  | cons h t ih => exact .cons h.1 ih
theorem pair_at {ps : List PE} {xs : List (List Key × Addr × Value)} {h : Heap} (r : Paired (fun (p : PE) (x : List Key × Addr × Value) => (ik p.2.1 = x.1 ∧ p.2.2.1 = x.2.1 ∧ RelV p.2.2.2 x.2.2) ∧ PairAt h p.1 (.ref x.2.1) x.2.2) ps xs) : ∀ (j : Nat) (x : List Key × Addr × Value), xs[j]? = some x → ∃ p, ps[j]? = some p ∧ PairAt h p.1 (.ref x.2.1) x.2.2 := by
  induction r with
  | nil => intro j x e; simp at e
  | @cons p x ps xs h t ih =>
    intro j y e
    cases j with
    | zero =>
      have : x = y := by simpa using e
      subst this
      exact ⟨p, rfl, h.2⟩
    | succ j => simpa using ih j y (by simpa using e)
theorem ik_nodup {ks : List (List Int)} (h : ks.Nodup) : (ks.map ik).Nodup := by
  induction ks with
  | nil => simp
  | cons k ks ih =>
    rw [List.nodup_cons] at h
    rw [List.map_cons, List.nodup_cons]
    refine ⟨fun hm => ?_, ih h.2⟩
    obtain ⟨q, hq, e⟩ := List.mem_map.mp hm
    exact h.1 (by rw [← ik_inj e]; exact hq)
theorem kx_keys {es : DE} {xs : List (List Key × Addr × Value)} (r : KX es xs) : xs.map (·.1) = (es.map (·.1)).map ik := by
  induction r with
  | nil => rfl
  | cons h t ih => rw [List.map_cons, List.map_cons, List.map_cons, ih, h.1]
def rDictX (K : PySem.W.Frag) : List V → Hp → VK → Prop := fun vs H Q => ∃ (a : Addr) (ps : List PE), vs = [.ref a] ∧ SqL K H a (ps.map fun p => V.ref p.1) ∧ (∀ p ∈ ps, SqT K H p.1 [.ref p.2.2.1, p.2.2.2]) ∧ (∀ p ∈ ps, SqT K H p.2.2.1 (p.2.1.map V.int)) ∧ (ps.map (·.2.1)).Nodup ∧
  ∀ q, H q = none → Q (.ref q) (upd H q (dzO q (ps.map (·.2))))
theorem cr_dictX (hcalm : X.calm = true) (hu : X.A.units + 65 < cLine) : CallR X (.type "dict") (rDictX X.K) := by
  intro pins s σ H vs us Q I r q
  obtain ⟨a, ps, rfl, hq, hp, hkey, hnd, q⟩ := q
  obtain ⟨u, rfl, rx⟩ := vals1 r
  obtain rfl : u = .ref a := rx
  obtain ⟨its, rv, pl, hz⟩ := I.list hq
  have ei : its = ps.map fun p => Value.ref p.1 := by
    have : ps.map (fun p : PE => V.ref p.1) = (ps.map (·.1)).map V.ref := by rw [List.map_map]; rfl
    rw [this] at rv
    rw [refs_at rv, List.map_map]
    rfl
  subst ei
  rw [List.length_map] at hz
  obtain ⟨xs, hxs⟩ := prs_of I hp
  have kx := kx_of hxs
  have hlen : xs.length = ps.length := (Paired.length hxs).symm
  obtain ⟨o, n, ho, hc, hd, hdat⟩ := pl
  have nd : (xs.map (·.1)).Nodup := by
    have e : (ps.map (·.2)).map (·.1) = ps.map (·.2.1) := by rw [List.map_map]; rfl
    rw [kx_keys kx, e]
    exact ik_nodup hnd
  refine call_dict_pairsH (knd := tupleKind (mixKind X.prog X.w)) (ps := xs) (n := (xs.map fun x => (Value.ref x.2.1, x.2.2)).length) (Rel := PairRel (xs.map fun x => (Value.ref x.2.1, x.2.2)))
    (PairArg.list a (ps.map fun p => Value.ref p.1).toArray (fun j => (ps.map (·.1)).getD j 0) (xs.map fun x => (Value.ref x.2.1, x.2.2))) (I.ok.hd hcalm) (tupleKind_room_in1 (A := X.A.in1) (by simp only [Around.in1]; omega))
    ⟨⟨o, n, ho, hc, hd, hdat⟩, by simp [hlen], fun j k v e => ?a⟩ ⟨by simp, fun i key v e => ?b⟩ (fun h' hk x hx => ?c) (by simp [hlen]; exact hz) fun h' tk hd' hk => ?d
  case a =>
    rw [List.getElem?_map] at e
    obtain ⟨x, hx, e2⟩ := Option.map_eq_some_iff.mp e
    cases e2
    obtain ⟨p, hp1, hp2⟩ := pair_at hxs j x hx
    have : (ps.map (·.1)).getD j 0 = p.1 := by
      rw [List.getD_eq_getElem?_getD, List.getElem?_map, hp1]
      rfl
    show _ = some (Value.ref ((ps.map (·.1)).getD j 0)) ∧ PairAt s.heap ((ps.map (·.1)).getD j 0) _ _
    rw [this]
    exact ⟨by simp [hp1], hp2⟩
  case b =>
    have e' : (xs.map fun x => (Value.ref x.2.1, x.2.2))[i]? = some (key, v) := e
    rw [List.getElem?_map] at e'
    obtain ⟨x, hx, e2⟩ := Option.map_eq_some_iff.mp e'
    cases e2
    exact ⟨x.1, x.2.1, hx, rfl⟩
  case c =>
    have hm : ∀ {ps : List PE} {xs : List (List Key × Addr × Value)}, Paired (fun (p : PE) (x : List Key × Addr × Value) => (ik p.2.1 = x.1 ∧ p.2.2.1 = x.2.1 ∧ RelV p.2.2.2 x.2.2) ∧ PairAt s.heap p.1 (.ref x.2.1) x.2.2) ps xs → x ∈ xs → ∃ p ∈ ps, ik p.2.1 = x.1 ∧ p.2.2.1 = x.2.1 := by
      intro ps xs r
      induction r with
      | nil => intro hx; exact nomatch hx
      | @cons p y ps xs h t ih =>
        intro hx
        rcases List.mem_cons.mp hx with rfl | hx
        · exact ⟨p, List.mem_cons_self, h.1.1, h.1.2.1⟩
        · obtain ⟨q, hq, e⟩ := ih hx
          exact ⟨q, List.mem_cons_of_mem _ hq, e⟩
    obtain ⟨p, hp1, hp3⟩ := hm hxs hx
    rw [← hp3.1, ← hp3.2]
    obtain ⟨o', its', n', h1, h2⟩ := keyR I (hkey p hp1)
    exact ⟨o', its', n', hk _ _ (Nat.ne_of_lt (Heap.lt_size h1)) (by simp) h1, h2⟩
  case d =>
    have hm : (s.heap.objs.size == sysModules) = false := beq_eq_false_iff_ne.mpr (Nat.ne_of_gt I.big)
    rw [storedAll_new (acc := []) (by simpa using nd), List.nil_append] at hd'
    obtain ⟨o', as, ep, e1, e2, e3, e4, _, e5⟩ := hd'
    refine ⟨.ref s.heap.objs.size, upd H s.heap.objs.size (dzO s.heap.objs.size (ps.map (·.2))), I.laid (t' := tk) (fun b u e => hk b u (by simp) e) (Nat.le_refl _) (DzRaw.ok ⟨by rw [List.length_map]; exact hz, hm, xs, kx, nd, o', as, ep, e1, e2, e3, fun P w => e4.trans (entry_any kx)⟩), rfl, q _ (I.hok.fresh (Nat.le_refl _))⟩
end
section
variable {X : Cx} {W : XK} {e : Expr} {te ta : TE} {d da : D} {pos p : Pos}
/-- the pairs of a list -/
def pairsT : List T → Option (List (List Int) × List T)
  | [] => some ([], [])
  | .tup [.tup k, v] :: ts => match intsOf k, pairsT ts with
    | some ks, some (kk, vv) => some (ks :: kk, v :: vv)
    | _, _ => none
  | _ => none
theorem pairsT_of {K : PySem.W.Frag} {F : Hp} {k : List Addr} : ∀ {ts : List T} {xs : List V} {kk : List (List Int)} {vv : List T}, Reps K F k ts xs → pairsT ts = some (kk, vv) →
    ∃ ps : List PE, xs = ps.map (fun p => V.ref p.1) ∧ (∀ p ∈ ps, SqD K F p.1 [.ref p.2.2.1, p.2.2.2]) ∧ (∀ p ∈ ps, SqD K F p.2.2.1 (p.2.1.map V.int)) ∧ ps.map (·.2.1) = kk ∧ Reps K F k vv (ps.map (·.2.2.2))
  | [], _, _, _, .nil, h => by
    cases h
    exact ⟨[], rfl, (fun p hp => nomatch hp), (fun p hp => nomatch hp), rfl, .nil⟩
  | t :: ts, _, kk, vv, .cons r rs, h => by
    unfold pairsT at h
    split at h
    · cases ‹_ = ([] : List T)›
    · rename_i kt v us e
      cases e
      split at h
      · rename_i ns kk' vv' h1 h2
        cases h
        obtain ⟨ps, rfl, g1, g2, g3, g4⟩ := pairsT_of rs h2
        cases r with
        | @tup a xs2 _ ha ra =>
          cases ra with
          | @cons _ v1 _ vs2 r1 r2 =>
            cases r2 with
            | @cons _ v2 _ vs3 r2 r3 =>
              cases r3
              cases r1 with
              | @tup b xs3 _ hb rb =>
                have e1 := intsOf_eq h1
                subst e1
                rw [rb.ints] at hb
                exact ⟨(a, ns, b, v2) :: ps, rfl, fun p hp => (by
                  rcases List.mem_cons.mp hp with rfl | hp
                  · exact ha
                  · exact g1 p hp), fun p hp => (by
                  rcases List.mem_cons.mp hp with rfl | hp
                  · exact hb
                  · exact g2 p hp), by rw [List.map_cons, g3], .cons r2 g4⟩
      · cases h
    · cases h
/-- dict(pairs) -/
def dDictX (d : D) : D := fun r c => (d r c).bind fun x c => match x with
  | .lst ts => match pairsT ts with
    | some (ks, vs) => if ks.Nodup then .ok (.cel c.length) (c ++ [[.dtu ks vs]]) else .stk
    | none => .stk
  | _ => .stk
theorem rd_dictX {K : PySem.W.Frag} {mg : Str → Option Value} (ha : RdS K mg W ta da) : Rd K mg W (tCB (rDictX K) (tCons ta tNil)) (dDictX da) := fun N ρ c F k σ H Q S p => by
  refine ha N ρ c F k σ H _ S (p.seq fun x c1 v F1 k1 H1 qq ok1 g1 r1 p1 => ?_)
  clear qq
  cases x <;> try exact p1.elim
  case lst us =>
    simp only at p1
    cases e : pairsT us with
    | none => rw [e] at p1; exact p1.elim
    | some kv =>
      obtain ⟨ks, vs⟩ := kv
      rw [e] at p1
      simp only at p1
      split at p1
      · rename_i hn
        obtain ⟨a, xs, rfl, a1, a2, a3⟩ := r1
        obtain ⟨ps, rfl, b1, b2, b3, b4⟩ := pairsT_of a3 e
        refine ⟨a, ps, rfl, SqL.of a1, fun p hp => SqT.sub (SqD.t (b1 p hp)) ok1.sub, fun p hp => SqT.sub (SqD.t (b2 p hp)) ok1.sub, by rw [b3]; exact hn, fun q hq => ?_⟩
        refine p1 (.ref q) F1 (k1 ++ [q]) _ (ok1.newO hq (.inr ⟨ps.map (·.2), ks, vs, rfl, upd_same, fun x hx => ?_, by rw [List.map_map]; exact b3, ?_⟩)) (Ge.newC ok1 hq) (.cel (by rw [← ok1.len]; simp))
        · obtain ⟨p, hp, rfl⟩ := List.mem_map.mp hx
          exact b2 p hp
        · rw [List.map_map]
          exact b4.mono (fun _ _ z => z) (List.prefix_append _ _)
      · exact p1.elim
theorem ee_dictX {n : Nat} (hr : Room n X.A) (hm : X.mg "dict" = none) (ha : ES X W e te d) (hg : Gl X "dict" := by rfl)
    (he : starEach [e] X.env = (false, eval e X.env) :: starEach [] X.env := by rfl) (hpl : (backTo pos (starEach [] X.env)).any (·.1) = false := by rfl) (hc : X.calm = true := by rfl) :
    EE X W (.Call (.Name "dict" p) [e] [] pos) (tCB (rDictX X.K) (tCons te tNil)) (dDictX d) :=
  ⟨pe_callTy (cr_dictX hc (u65 hr)) hg hm PyProof.Rows.boot_dict (pa_cons ha.pe pa_nil he) (by decide) (by decide) he hpl, rd_dictX ha.rd⟩
end
end Q
namespace Q
open PySem PySem.Spec PyProof.Rows L2 TL
abbrev sO (l : List Nat) : Str := ⟨l.toArray⟩
theorem tl_sO (l : List Nat) : tl (sO l) = l := tl_mk l
theorem sO_tl (x : Str) : sO (tl x) = x := mk_tl x
theorem len_sO (l : List Nat) : (sO l).length = l.length := by rw [len_tl, tl_sO]
theorem sO_inj {l m : List Nat} (h : sO l = sO m) : l = m := by rw [← tl_sO l, h, tl_sO]
/-- a text by its signs -/
abbrev tS (l : List Nat) : T := .str (sO l)
/-- texts only -/
def strsOf : List T → Option (List Str)
  | [] => some []
  | .str x :: ts => (strsOf ts).map (x :: ·)
  | _ :: _ => none
theorem strsOf_map (ns : List Str) : strsOf (ns.map T.str) = some ns := by
  induction ns with
  | nil => rfl
  | cons n ns ih => rw [List.map_cons, strsOf, ih]; rfl
theorem strsOf_eq : ∀ {ts : List T} {ns : List Str}, strsOf ts = some ns → ts = ns.map T.str
  | [], ns, h => by cases h; rfl
  | t :: ts, ns, h => by
    cases t with
    | str x =>
      unfold strsOf at h
      obtain ⟨ms, e, rfl⟩ := Option.map_eq_some_iff.mp h
      rw [strsOf_eq e]; rfl
    | _ => exact nomatch h
section
variable {K : PySem.W.Frag} {mg : Str → Option Value} {X : Cx} {W : XK}
theorem Reps.strs {F : Hp} {k : List Addr} : ∀ {ns : List Str} {xs : List V}, Reps K F k (ns.map T.str) xs → xs = ns.map V.str
  | [], _, h => by cases h; rfl
  | n :: ns, _, h => by
    cases h with
    | cons a b => cases a; rw [Reps.strs b]; rfl
theorem reps_strs {F : Hp} {k : List Addr} : ∀ (ns : List Str), Reps K F k (ns.map T.str) (ns.map V.str)
  | [] => .nil
  | n :: ns => .cons (.str n) (reps_strs ns)
def strT : T → Option T
  | .int i => if (decide (0 ≤ i) && decide (i < 2 ^ 64)) = true then some (tS (numL i.toNat)) else none
  | _ => none
theorem op1_str : Op1 K (fun x H Q => ∃ i, [x] = [V.int i] ∧ i.natAbs.log2 < 1920 ∧ Q (.str (toString i)) H) strT := fun x t v c F k H Q e ok rx g => by
  cases x <;> try (cases e; done)
  case int i =>
    simp only [strT] at e
    split at e
    · rename_i hh
      simp only [Bool.and_eq_true, decide_eq_true_eq] at hh
      cases e
      obtain ⟨n, rfl⟩ : ∃ n : Nat, i = (n : Int) := ⟨i.toNat, by omega⟩
      refine ⟨n, by rw [rx.int_of], ?_, ?_⟩
      · rw [Int.natAbs_natCast]
        have hn : n < 2 ^ 64 := by omega
        by_cases h0 : n = 0
        · subst h0; decide
        · have := (Nat.log2_lt h0).mpr hn
          omega
      · have e1 : (Str.ofString (toString ((n : Nat) : Int))) = sO (numL n) := ext_tl (by rw [tl_num, tl_sO])
        have q := g.same ok (.str (sO (numL n)))
        rw [← e1] at q
        exact q
    · cases e
def intST : T → Option T
  | .str a => if a.length ≤ 640 then (PySem.intText? a).map T.int else none
  | _ => none
theorem op1_intS : Op1 K (fun x H Q => ∃ a n, [x] = [V.str a] ∧ PySem.intText? a = some n ∧ a.length ≤ 640 ∧ Q (.int n) H) intST := fun x t v c F k H Q e ok rx g => by
  cases x <;> try (cases e; done)
  case str a =>
    simp only [intST] at e
    split at e
    · rename_i hh
      obtain ⟨n, h1, rfl⟩ := Option.map_eq_some_iff.mp e
      exact ⟨a, n, by rw [rx.str_of], h1, hh, g.same ok (.int n)⟩
    · cases e
def joinT (x : Str) (y : T) : Option T := match y with
  | .lst ts => (strsOf ts).bind fun ys => if (ys.map (·.length)).sum + ys.length * x.length ≤ 16777216 then some (tS (joinL (tl x) (ys.map tl))) else none
  | _ => none
def dJoin (d d' : D) : D := fun r c => (d r c).bind fun x c => match x with
  | .str x => (d' r c).bind fun y c => lift (joinT x y) c
  | _ => .stk
variable {o e a b : Expr} {to te ta tb : TE} {d d' da db : D} {apos pos p2 : Pos}
theorem ee_join (ho : EE X W o to d) (he : ES X W e te d') (hs : starEach [e] X.env = [(false, eval e X.env)] := by rfl) (hbase : attributeBase o "join" X.env (eval o X.env) = eval o X.env := by rfl) (hline : (apos.endLine == pos.line) = true := by rfl) :
    EE X W (.Call (.Attribute o "join" apos) [e] [] pos) (tM1 (fun x xs H Q => ∃ a p, ∃ ys : List Str, x = .str a ∧ xs = [.ref p] ∧ (SqL X.K H p (ys.map V.str) ∨ SqT X.K H p (ys.map V.str)) ∧
      (ys.map (·.length)).sum + ys.length * a.length ≤ 16777216 ∧ Q (.str (Txt.join a ys)) H) to te) (dJoin d d') := by
  refine ⟨pe_join ho.pe he.pe hs hbase hline, fun N r c F k σ H Q S p => ho.rd N r c F k σ H _ S (p.seq fun x c1 v F1 k1 H1 q1 ok1 g1 r1 p1 => ?_)⟩
  clear q1
  cases x <;> try (exact p1.elim)
  case str x =>
    cases r1
    refine ⟨⟨x, rfl⟩, he.rd N r c1 F1 k1 σ H1 _ (S.step ok1 g1) (Post.seq (f := fun y c => lift (joinT x y) c) p1 fun y c2 u F2 k2 H2 q2 ok2 g2 r2 p2 => ?_)⟩
    clear q2
    cases y <;> try (exact p2.elim)
    case lst ts =>
      obtain ⟨q, xs, rfl, h1, h2, h3⟩ := r2
      simp only [joinT] at p2
      cases es : strsOf ts with
      | none => rw [es] at p2; exact p2.elim
      | some ys =>
        rw [es] at p2
        simp only [Option.bind_some] at p2
        split at p2
        · rename_i hz
          rw [strsOf_eq es] at h3
          rw [h3.strs] at h1
          refine ⟨x, q, ys, rfl, rfl, .inl (SqL.of h1), hz, ?_⟩
          have e1 : Txt.join x ys = sO (joinL (tl x) (ys.map tl)) := ext_tl (by rw [join_eq, tl_join, tl_sO])
          rw [e1]
          exact p2 _ F2 k2 H2 ok2 Ge.refl (.str _)
        · exact p2.elim
def splitT (x : Str) (y : T) : Option (List T) := match y with
  | .str b => if (!(tl b).isEmpty && decide (x.length ≤ 100000) && b.cps.all (· < 256)) = true then some ((spl (tl b) 0 [] (tl x)).map tS) else none
  | _ => none
def dSplit (d d' : D) : DA := fun r c => (d r c).bind fun x c => match x with
  | .str x => (d' r c).bind fun y c => lift (splitT x y) c
  | _ => .stk
theorem ef_split (ho : EE X W o to d) (he : EE X W e te d') (hs : starEach [e] X.env = [(false, eval e X.env)] := by rfl) (hbase : attributeBase o "split" X.env (eval o X.env) = eval o X.env := by rfl) (hline : (apos.endLine == pos.line) = true := by rfl) :
    EF X W (.Call (.Attribute o "split" apos) [e] [] pos) (tM1 (fun x xs H Q => ∃ a b, x = .str a ∧ xs = [.str b] ∧ (b.length == 0) = false ∧ a.length + 2 ≤ sizeLine ∧ rNewStrs (Txt.split a b) H Q) to te) (dSplit d d') := by
  refine ⟨pe_split ho.pe he.pe hs hbase hline, fun N r c F k σ H Q S p => ho.rd N r c F k σ H _ S (p.seq0 fun x c1 v F1 k1 H1 q1 ok1 g1 r1 p1 => ?_)⟩
  clear q1
  cases x <;> try (exact p1.elim)
  case str x =>
    cases r1
    refine ⟨⟨x, rfl⟩, he.rd N r c1 F1 k1 σ H1 _ (S.step ok1 g1) (Post.seq0 (f := fun y c => lift (splitT x y) c) (Post.ge p1 g1) fun y c2 u F2 k2 H2 q2 ok2 g2 r2 p2 => ?_)⟩
    clear q2
    cases y <;> try (exact p2.elim)
    case str b =>
      cases r2
      simp only [splitT] at p2
      split at p2
      · rename_i hh
        simp only [Bool.and_eq_true, decide_eq_true_eq, Bool.not_eq_true', List.isEmpty_eq_false_iff] at hh
        obtain ⟨⟨hb, hx⟩, hk⟩ := hh
        refine ⟨x, b, rfl, rfl, ?_, ?_, ?_⟩
        · rw [len_tl]
          cases hb2 : tl b with
          | nil => exact absurd hb2 hb
          | cons _ _ => rfl
        · have := line1m
          omega
        · have e1 : (Txt.split x b).map V.str = (spl (tl b) 0 [] (tl x)).map fun l => V.str (sO l) := by
            rw [← split_spl x b hb (TL.kind_ok hk), List.map_map]
            refine List.map_congr_left fun y _ => ?_
            show V.str y = V.str (sO (tl y))
            rw [sO_tl]
          intro q hq
          rw [e1]
          refine GivesF.lst (ts := (spl (tl b) 0 [] (tl x)).map tS) (fun b F4 k4 H4 ok4 g4 ⟨a, xs, e1, h1, h2, h3, h4, h5⟩ => p2 b F4 k4 H4 ok4 (g2.trans g4) ⟨a, xs, e1, h1, h2, h3, h4, (g1.trans g2).none_of h5⟩) ok2 ?_ q hq
          have := reps_strs (K := X.K) (F := F2) (k := k2) ((spl (tl b) 0 [] (tl x)).map sO)
          rw [List.map_map, List.map_map] at this
          exact this
      · exact p2.elim
def cutN (l : List Nat) (lo hi : Option Int) : List Nat := (l.drop (HT.sIx l.length 0 lo)).take (HT.sIx l.length l.length hi - HT.sIx l.length 0 lo)
def dSlS (a : D) (l h : DO) : D := fun r c => (a r c).bind fun x c => (l r c).bind fun lo c => (h r c).bind fun hi c => match x with
  | .str z => if z.length ≤ 1000000 then .ok (tS (cutN (tl z) lo hi)) c else .stk
  | _ => .stk
theorem ee_slS {lo hi : Option Expr} {tl th : TO} {dl dh : DO} (he : EE X W e te d) (hl : EO X W lo tl dl) (hh : EO X W hi th dh) :
    EE X W (.Subscript e (.Slice lo hi none p2) pos) (tSl rSlS te tl th) (dSlS d dl dh) := by
  refine ⟨pe_slice sl_str he.pe hl.pe hh.pe, fun N r c F k σ H Q S p => ?_⟩
  refine he.rd N r c F k σ H _ S (p.seq fun x c1 v F1 k1 H1 q1 ok1 g1 r1 p1 => ?_)
  have S1 := S.step ok1 g1
  refine hl.rd N r c1 F1 k1 σ H1 _ S1 (p1.seq fun lo c2 lo' F2 k2 H2 q2 ok2 g2 r2 p2 => ?_)
  cases (show lo' = lo from r2)
  have S2 := S1.step ok2 g2
  refine hh.rd N r c2 F2 k2 σ H2 _ S2 (p2.seq fun hi c3 hi' F3 k3 H3 q3 ok3 g3 r3 p3 => ?_)
  cases (show hi' = hi from r3)
  clear q1 q2 q3
  cases x <;> try (exact p3.elim)
  case str z =>
    cases r1
    simp only at p3
    split at p3
    · rename_i hz
      refine ⟨z, rfl, Nat.le_trans hz line1m, ?_⟩
      have e1 : cutS z lo hi = sO (cutN (TL.tl z) lo hi) := by
        unfold cutS cutN
        rw [len_tl]
      rw [e1]
      exact p3 _ F3 k3 H3 ok3 Ge.refl (.str _)
    · exact p3.elim
def ixST (x y : T) : Option T := match x, y with
  | .str z, .int i => if z.length ≤ 1000000 then (atI (tl z) i).map fun c => tS [c] else none
  | _, _ => none
theorem op2_ixS : Op2 K rIxS ixST := fun x y t v u c F k H Q e ok rx ry g => by
  cases x <;> cases y <;> try (first | cases e)
  case str.int z i =>
    simp only [ixST] at e
    split at e
    · rename_i hz
      obtain ⟨n, h1, rfl⟩ := Option.map_eq_some_iff.mp e
      exact ⟨z, i, n, rx.str_of, ry.int_of, Nat.le_trans hz line1m, h1, g.same ok (.str (sO [n]))⟩
    · cases e
theorem ee_ixS (ha : ES X W a ta da) (hb : ES X W b tb db) (hs : PlainIx b := by exact fun _ _ => rfl) : EE X W (.Subscript a b pos) (tOp rIxS ta tb) (d2 ixST da db) :=
  ⟨pe_ix ix_str ha.pe hb.pe hs, rd_op2 op2_ixS ha.rd hb.rd⟩
/-- one sign in a text -/
def inST (x y : T) : Option T := match x, y with
  | .str x, .str z => (match tl x with
    | [c] => some (.bl (decide (c ∈ tl z)))
    | _ => none)
  | _, _ => none
theorem op2_inS : Op2 K (fun x y H Q => ∃ (c : Nat) (z : Str), x = .str ⟨#[c]⟩ ∧ y = .str z ∧ Q (.bl (decide (c ∈ z.cps.toList))) H) inST := fun x y t v u c F k H Q e ok rx ry g => by
  cases x <;> cases y <;> try (first | cases e)
  case str.str x z =>
    simp only [inST] at e
    split at e
    · rename_i n hn
      cases e
      refine ⟨n, z, ?_, ry.str_of, g.same ok (.bl _)⟩
      have : x = sO [n] := by rw [← hn, sO_tl]
      rw [rx.str_of, this]
    · cases e
def dItS (d : D) : DI := fun r c => (d r c).bind fun x c => match x with
  | .str x => .ok ((tl x).map fun n => tS [n]) c
  | _ => .stk
theorem wk_str {F : Hp} {k : List Addr} {x : Str} : Wk K (Its x) ((tl x).map fun n => tS [n]) F k := fun F1 k1 c1 H1 ok s p => by
  refine ⟨by show x.cps.size ≤ _; simp [tl], fun i t e => ?_⟩
  rw [List.getElem?_map] at e
  obtain ⟨n, h1, rfl⟩ := Option.map_eq_some_iff.mp e
  have h2 : x.cps[i]? = some n := by simpa [tl] using h1
  refine ⟨(Array.getElem?_eq_some_iff.mp h2).1, ?_⟩
  rintro y H' ⟨rfl, n', h3, rfl⟩
  rw [h2] at h3
  cases h3
  exact ⟨F1, ok, Ge.refl, .str _⟩
theorem ei_str {tg : Expr} (h : EE X W e te d) : EI X W tg e (iStr te) (dItS d) := by
  refine ⟨pi_str h.pe, fun N r c F k σ H R S pp => h.rd N r c F k σ H _ S (pp.seq fun x c1 v F1 k1 H1 q1 ok1 g1 r1 p1 => ?_)⟩
  clear q1
  cases x <;> try (exact p1.elim)
  case str x =>
    cases r1
    exact ⟨x, rfl, p1 _ F1 k1 H1 ok1 Ge.refl wk_str⟩
def truthT : T → Option Bool
  | .non => some false
  | .bl b => some b
  | .int i => some (i != 0)
  | .str x => if x.length ≤ 1000000 then some ((x.length : Int) != 0) else none
  | .tup ts => some (!ts.isEmpty)
  | .lst ts => some (!ts.isEmpty)
  | _ => none
def dOrT (d d' : D) : D := fun r c => (d r c).bind fun x c => match truthT x with
  | some true => .ok x c
  | some false => d' r c
  | none => .stk
theorem tru_rep {F H : Hp} {k : List Addr} {c : Cs} {t : T} {v : V} {q : Bool} (ok : Ok K F k c H) (r : Rep K F k t v) (e : truthT t = some q) : TruV K v H q := by
  cases r <;> simp only [truthT] at e <;> try (cases e; done)
  case non => cases e; rfl
  case bl => cases e; rfl
  case int => cases e; rfl
  case str x =>
    split at e
    · rename_i hz
      cases e
      exact ⟨Nat.le_trans hz line1m, rfl⟩
    · cases e
  case tup h r =>
    cases e
    refine .inr (.inl ⟨_, SqT.sub h.t ok.sub, ?_⟩)
    cases r <;> rfl
  case lst h r =>
    cases e
    refine .inl ⟨_, SqL.of (ok.sub _ _ h), ?_⟩
    cases r <;> rfl
theorem ee_orT {rest : List Expr} (ha : EE X W a ta da) (hb : EE X W (.BoolOp .Or (b :: rest) pos) tb db) : EE X W (.BoolOp .Or (a :: b :: rest) pos) (tOrT X.K ta tb) (dOrT da db) := by
  refine ⟨pe_orT ha.pe hb.pe, fun N ρ c F k σ H Q S p => ?_⟩
  refine ha.rd N ρ c F k σ H _ S (p.seq fun x c1 v F1 k1 H1 q1 ok1 g1 r1 p1 => ?_)
  clear q1
  cases e : truthT x with
  | none => rw [e] at p1; exact p1.elim
  | some q =>
    rw [e] at p1
    refine ⟨q, tru_rep ok1 r1 e, ?_⟩
    cases q with
    | true => rw [if_pos rfl]; exact p1 v F1 k1 H1 ok1 Ge.refl r1
    | false => rw [if_neg Bool.false_ne_true]; exact hb.rd N ρ c1 F1 k1 σ H1 _ (S.step ok1 g1) p1
variable {r : Env} {c : Cs} {l m : List Nat}
@[simp] theorem strT_int {i : Int} : strT (.int i) = if (decide (0 ≤ i) && decide (i < 2 ^ 64)) = true then some (tS (numL i.toNat)) else none := (rfl)
theorem strT_nat {n : Nat} (h : n < 2 ^ 64) : strT (.int n) = some (tS (numL n)) := by
  rw [strT_int, if_pos (by simp; omega)]
  rfl
theorem dJoin_e : dJoin d d' r c = (d r c).bind fun x c => match x with | .str x => (d' r c).bind fun y c => lift (joinT x y) c | _ => .stk := (rfl)
theorem dSplit_e : dSplit d d' r c = (d r c).bind fun x c => match x with | .str x => (d' r c).bind fun y c => lift (splitT x y) c | _ => .stk := (rfl)
theorem dSlS_e {dl dh : DO} : dSlS d dl dh r c = (d r c).bind fun x c => (dl r c).bind fun lo c => (dh r c).bind fun hi c => match x with | .str z => if z.length ≤ 1000000 then .ok (tS (cutN (tl z) lo hi)) c else .stk | _ => .stk := (rfl)
theorem dItS_e : dItS d r c = (d r c).bind fun x c => match x with | .str x => .ok ((tl x).map fun n => tS [n]) c | _ => .stk := (rfl)
theorem dOrT_e : dOrT d d' r c = (d r c).bind fun x c => match truthT x with | some true => .ok x c | some false => d' r c | none => .stk := (rfl)
end
end Q
namespace Q
open PySem PySem.Spec PyProof.Rows L2
def b_is_whole : DS := (dRet (dAndV (d1 (isiT "int") (dVar 0)) (dNotV (d1 (isiT "bool") (dVar 0)))))
def d_is_whole : DF := runF 1 b_is_whole
def b_is_within : DS := (dRet (dAndV (dCall 1 d_is_whole (dCons (dVar 0) dNil)) (dChain leT leT (dVar 1) (dVar 0) (dVar 2))))
def d_is_within : DF := runF 3 b_is_within
def b_need_bound : DS := (dWipe [0] (dCond (dNotB (dTest (dCall 3 d_is_within (dCons (dVar 0) (dCons (dC (.int 2)) (dCons (dC (.int 16)) dNil)))))) (dRaise "NoBound") dNext))
def d_need_bound : DF := runF 1 b_need_bound
def b_number_in : DS := (dSeq (dCond (dOrB (dNotB (dTest (dChain leT leT (dC (.int 1)) (d1 lenT (dVar 0)) (dC (.int 2))))) (dOrB (dNotB (dTest (d1 allT (dFrz (dLc (dItS (dVar 0)) (gSet 1) dYes (d2 inST (dVar 1) (dC (.str "0123456789"))) [1]))))) (dAndB (dTest (d2 eqT (d1 lenT (dVar 0)) (dC (.int 2)))) (dTest (d2 eqT (d2 ixST (dVar 0) (dC (.int 0))) (dC (.str "0"))))))) (dRet (dC .non)) dNext) (dRet (d1 intST (dVar 0))))
def d_number_in : DF := runF 2 b_number_in
def w_numbers_in_1 : DS := (dSeq (dWipe [4] (dSet 5 (dCall 1 d_number_in (dCons (dVar 4) dNil)))) (dSeq (dWipe [3] (dCond (dOrB (dTest (d2 isT (dVar 5) (dC .non))) (dTest (d2 geT (dVar 5) (dVar 0)))) (dRaiseF "NoText" ["at"] (dCons (dVar 3) dNil)) dNext)) (dWipe [5] (dMut 2 appM (dCons (dVar 5) dNil)))))
def b_numbers_in : DS := (dSeq (dCond (dNotB (dTest (d1 (isiT "str") (dVar 1)))) (dRaiseF "NoText" ["at"] (dCons (d1 negT (dC (.int 1))) dNil)) dNext) (dSeq (dOwn 2 (dLst dNil)) (dSeq (dWipe [0, 1, 3, 4, 5] (dFor (dEnum (dFrz (dSplit (dVar 1) (dC (.str " "))))) (gTupl [(gSet 3), (gSet 4)]) w_numbers_in_1)) (dRet (d1 tupT (dPeek 2))))))
def d_numbers_in : DF := runF 6 b_numbers_in
def b_function_read : DS := (dSeq (dDrop (dCall 1 d_need_bound (dCons (dVar 0) dNil))) (dSeq (dWipe [1] (dSet 2 (dCall 2 d_numbers_in (dCons (dVar 0) (dCons (dVar 1) dNil))))) (dSeq (dWipe [0] (dCond (dTest (d2 neT (d1 lenT (dVar 2)) (dVar 0))) (dRaiseF "NoText" ["at"] (dCons (d1 lenT (dVar 2)) dNil)) dNext)) (dRet (dVar 2)))))
def d_function_read : DF := runF 3 b_function_read
def b_poly_read : DS := (dSeq (dDrop (dCall 1 d_need_bound (dCons (dVar 0) dNil))) (dSeq (dWipe [0, 1] (dSet 2 (dIf (dAndB (dTest (d1 (isiT "str") (dVar 1))) (dTest (d2 eqT (dVar 1) (dC (.str "none"))))) (dTup dNil) (dCall 2 d_numbers_in (dCons (dVar 0) (dCons (dVar 1) dNil)))))) (dSeq (dCond (dAndB (dTest (d2 neT (dVar 2) (dTup dNil))) (dTest (d2 eqT (dIx (dVar 2) (d1 negT (dC (.int 1)))) (dC (.int 0))))) (dRaiseF "NoText" ["at"] (dCons (d1 lenT (dVar 2)) dNil)) dNext) (dRet (dVar 2)))))
def d_poly_read : DF := runF 3 b_poly_read
def b__law_cell : DS := (dSeq (dWipe [0, 1] (dCond (dTest (d2 ltT (dVar 1) (d1 lenT (dVar 0)))) (dRet (dIx (dVar 0) (dVar 1))) dNext)) (dRet (dC (.int 0))))
def d__law_cell : DF := runF 2 b__law_cell
def b__law_pen : DS := (dSeq (dWipe [0] (dSet 1 (d2 maxT (dVar 0) (d2 subT (dC (.int 0)) (dVar 0))))) (dRetC (dLst (dCons (dVar 1) (dCons (d1 intT (d2 geT (dVar 1) (d2 powT (dC (.int 10)) (dC (.int 18))))) dNil)))))
def d__law_pen : DF := runF 2 b__law_pen
def b__law_draw : DS := (dSeq (dWipe [2, 3] (dCond (dTest (d2 eqT (dIx (dVar 0) (dC (.int 1))) (dC (.int 1)))) (dSeq (dWipe [1] (dAsg (d2 divmodT (dIx (dVar 0) (dC (.int 0))) (dVar 1)) (gTupl [(gSet 2), (gSet 3)]))) (dSeq (dWipe [0, 2] (dPut 0 (dC (.int 0)) (dVar 2))) (dRet (dVar 3)))) dNext)) (dSeq (dSet 4 (d2 modT (d2 mulT (d2 addT (d2 modT (dIx (dVar 0) (dC (.int 0))) (dC (.int 2147483647))) (dC (.int 40503))) (dC (.int 69621))) (dC (.int 2147483629)))) (dSeq (dSet 4 (d2 modT (d2 addT (d2 mulT (dVar 4) (dVar 4)) (dC (.int 7817))) (dC (.int 2147483587)))) (dSeq (dWipe [4] (dPut 0 (dC (.int 0)) (d2 modT (d2 addT (d2 mulT (dVar 4) (dC (.int 48271))) (dC (.int 11))) (dC (.int 2147483629))))) (dRet (d2 modT (d2 divT (dIx (dVar 0) (dC (.int 0))) (dC (.int 32))) (dVar 1)))))))
def d__law_draw : DF := runF 5 b__law_draw
def b__law_whole : DS := (dRet (dAndV (d1 (isiT "int") (dVar 0)) (dNotV (d1 (isiT "bool") (dVar 0)))))
def d__law_whole : DF := runF 1 b__law_whole
def b__law_odd : DS := (dSeq (dSet 1 (dFrz (dLst (dCons (dC .non) (dCons (dC (.bl true)) (dCons (dC (.bl false)) (dCons (d1 negT (dC (.int 1))) (dCons (dC (.str "1")) (dCons (dC (.str "")) (dCons (dTup dNil) (dCons (dFrz (dLst dNil)) (dCons (dTup (dCons (dC (.int 0)) dNil)) (dCons (dFrz (dLst (dCons (dC (.int 0)) dNil))) (dCons (dC (.dct ["a"] [.int 1])) (dCons (dTup (dCons (dC (.int 0)) (dCons (dC (.int 1)) dNil))) (dCons (d2 powT (dC (.int 10)) (dC (.int 30))) (dCons (dTup (dCons (dC (.int 0)) (dCons (dTup dNil) dNil))) (dCons (dTup (dCons (dTup dNil) dNil)) dNil)))))))))))))))))) (dRet (dIx (dFrz (dF2 catT (dVar 1) (dFrz (dLst (dCons (dTup (dCons (dTup (dCons (dC (.int 0)) dNil)) dNil)) dNil))))) (dCall 2 d__law_draw (dCons (dVar 0) (dCons (dC (.int 16)) dNil))))))
def d__law_odd : DF := runF 2 b__law_odd
def b__law_same : DS := (dRet (d2 eqW (d1 reprW (dVar 0)) (d1 reprW (dVar 1))))
def d__law_same : DF := runF 2 b__law_same
def b__law_bound : DS := (dRet (dIx (dFrz (dLst (dCons (dC (.int 2)) (dCons (dC (.int 3)) (dCons (dC (.int 4)) (dCons (dC (.int 5)) (dCons (dC (.int 6)) (dCons (dC (.int 7)) (dCons (dC (.int 8)) (dCons (dC (.int 9)) (dCons (dC (.int 10)) (dCons (dC (.int 12)) (dCons (dC (.int 16)) (dCons (dC (.int 14)) (dCons (dC (.int 15)) (dCons (dC (.int 4)) (dCons (dC (.int 13)) (dCons (dC (.int 11)) dNil)))))))))))))))))) (dCall 2 d__law_draw (dCons (dVar 0) (dCons (dC (.int 16)) dNil)))))
def d__law_bound : DF := runF 1 b__law_bound
def b__law_no_bound : DS := (dSeq (dSet 1 (dFrz (dLst (dCons (dC (.int 1)) (dCons (dC (.int 0)) (dCons (dC (.int 17)) (dCons (d1 negT (dC (.int 1))) (dCons (dC .non) (dCons (dC (.bl true)) (dCons (dC (.str "5")) (dCons (dTup (dCons (dC (.int 5)) dNil)) (dCons (dFrz (dLst (dCons (dC (.int 5)) dNil))) (dCons (d2 powT (dC (.int 10)) (dC (.int 30))) (dCons (dC (.bl false)) (dCons (dC (.dct ["a"] [.int 1])) dNil))))))))))))))) (dRet (dIx (dVar 1) (dCall 2 d__law_draw (dCons (dVar 0) (dCons (dC (.int 12)) dNil))))))
def d__law_no_bound : DF := runF 2 b__law_no_bound
def w__law_order_1 : DS := (dWipe [3] (dMut 2 insM (dCons (dCall 2 d__law_draw (dCons (dVar 0) (dCons (d2 addT (dVar 3) (dC (.int 1))) dNil))) (dCons (dVar 3) dNil))))
def b__law_order : DS := (dSeq (dOwn 2 (dLst dNil)) (dSeq (dWipe [0, 1, 3] (dFor (dItR (dRg1 (dVar 1))) (gSet 3) w__law_order_1)) (dRet (d1 tupT (dPeek 2)))))
def d__law_order : DF := runF 4 b__law_order
def w__law_poly_1 : DS := (dMut 3 popM dNil)
def b__law_poly : DS := (dSeq (dWipe [0, 1, 2] (dOwn 3 (dLc (dItR (dRg1 (dCall 2 d__law_draw (dCons (dVar 0) (dCons (d2 addT (dVar 2) (dC (.int 1))) dNil))))) (gSet 4) dYes (dCall 2 d__law_draw (dCons (dVar 0) (dCons (dVar 1) dNil))) [4]))) (dSeq (dWhile (dAndB (dTest (d2 neT (dPeek 3) (dFrz (dLst dNil)))) (dTest (d2 eqT (dIx (dPeek 3) (d1 negT (dC (.int 1)))) (dC (.int 0))))) w__law_poly_1) (dRet (d1 tupT (dPeek 3)))))
def d__law_poly : DF := runF 5 b__law_poly
def w__law_worths_1 : DS := (dWipe [5] (dSet 4 (d2 modT (d2 addT (d2 mulT (dVar 4) (dVar 3)) (dVar 5)) (dVar 0))))
def w__law_worths_2 : DS := (dSeq (dSet 4 (dC (.int 0))) (dSeq (dWipe [3, 5] (dFor (dIt (d1 revTT (dVar 1))) (gSet 5) w__law_worths_1)) (dWipe [4] (dMut 2 appM (dCons (dVar 4) dNil)))))
def b__law_worths : DS := (dSeq (dOwn 2 (dLst dNil)) (dSeq (dWipe [0, 1, 3, 4, 5] (dFor (dItR (dRg1 (dVar 0))) (gSet 3) w__law_worths_2)) (dRet (d1 tupT (dPeek 2)))))
def d__law_worths : DF := runF 6 b__law_worths
def b__law_function : DS := (dSeq (dSet 2 (dCall 2 d__law_draw (dCons (dVar 0) (dCons (dC (.int 6)) dNil)))) (dSeq (dCond (dTest (d2 ltT (dVar 2) (dC (.int 2)))) (dRet (dCall 2 d__law_order (dCons (dVar 0) (dCons (dVar 1) dNil)))) dNext) (dSeq (dCond (dTest (d2 eqT (dVar 2) (dC (.int 2)))) (dRet (dCall 2 d__law_worths (dCons (dVar 1) (dCons (dCall 3 d__law_poly (dCons (dVar 0) (dCons (dVar 1) (dCons (dC (.int 6)) dNil)))) dNil)))) dNext) (dSeq (dWipe [3, 4] (dCond (dTest (d2 eqT (dVar 2) (dC (.int 3)))) (dSeq (dSet 3 (dCall 2 d__law_order (dCons (dVar 0) (dCons (dVar 1) dNil)))) (dSeq (dSet 4 (dCall 2 d__law_draw (dCons (dVar 0) (dCons (dVar 1) dNil)))) (dRet (d2 addT (d2 addT (dSlT (dVar 3) dNo (dPart (dVar 4))) (dTup (dCons (dCall 2 d__law_draw (dCons (dVar 0) (dCons (dVar 1) dNil))) dNil))) (dSlT (dVar 3) (dPart (d2 addT (dVar 4) (dC (.int 1)))) dNo))))) dNext)) (dSeq (dWipe [2] (dSet 5 (dIx (dFrz (dLst (dCons (dVar 1) (dCons (dC (.int 2)) dNil)))) (d2 subT (dVar 2) (dC (.int 4)))))) (dRet (d1 tupT (dFrz (dLc (dItR (dRg1 (dVar 1))) (gSet 6) dYes (dCall 2 d__law_draw (dCons (dVar 0) (dCons (dVar 5) dNil))) [6])))))))))
def d__law_function : DF := runF 7 b__law_function
def b__law_text : DS := (dRet (dOrT (dJoin (dC (.str " ")) (dFrz (dLc (dIt (dVar 0)) (gSet 1) dYes (d1 strT (dVar 1)) [1]))) (dC (.str "none"))))
def d__law_text : DF := runF 2 b__law_text
def w__law_read_1 : DS := (dSeq (dWipe [4] (dCond (dTest (d2 ninT (dVar 5) (dFrz (dLc (dItR (dRg1 (dVar 0))) (gSet 6) dYes (d1 strT (dVar 6)) [6])))) (dRet (dVar 4)) dNext)) (dWipe [5] (dMut 3 appM (dCons (d1 intST (dVar 5)) dNil))))
def b__law_read : DS := (dSeq (dCond (dNotB (dTest (d1 (isiT "str") (dVar 1)))) (dRet (d1 negT (dC (.int 1)))) dNext) (dSeq (dCond (dAndB (dTest (d2 eqT (dVar 2) (dC (.str "poly")))) (dTest (d2 eqT (dVar 1) (dC (.str "none"))))) (dRet (dTup dNil)) dNext) (dSeq (dOwn 3 (dLst dNil)) (dSeq (dWipe [1, 4, 5] (dFor (dEnum (dFrz (dSplit (dVar 1) (dC (.str " "))))) (gTupl [(gSet 4), (gSet 5)]) w__law_read_1)) (dSeq (dWipe [0, 2] (dCond (dOrB (dAndB (dTest (d2 eqT (dVar 2) (dC (.str "poly")))) (dTest (d2 eqT (dIx (dPeek 3) (d1 negT (dC (.int 1)))) (dC (.int 0))))) (dAndB (dTest (d2 eqT (dVar 2) (dC (.str "function")))) (dTest (d2 neT (d1 lenT (dPeek 3)) (dVar 0))))) (dRet (d1 lenT (dPeek 3))) dNext)) (dRet (d1 tupT (dPeek 3))))))))
def d__law_read : DF := runF 7 b__law_read
def b__law_spoilt : DS := (dSeq (dSet 2 (dCall 2 d__law_draw (dCons (dVar 0) (dCons (d2 addT (d1 lenT (dVar 1)) (dC (.int 1))) dNil)))) (dSeq (dSet 3 (d2 ixST (dC (.str "0123456789 -+xn,")) (dCall 2 d__law_draw (dCons (dVar 0) (dCons (dC (.int 16)) dNil))))) (dSeq (dSet 4 (d2 minT (d1 lenT (dVar 1)) (d2 addT (d2 addT (dVar 2) (dC (.int 1))) (dCall 2 d__law_draw (dCons (dVar 0) (dCons (dC (.int 4)) dNil)))))) (dSeq (dSet 5 (dFrz (dSplit (dVar 1) (dC (.str " "))))) (dSeq (dSet 6 (dCall 2 d__law_draw (dCons (dVar 0) (dCons (d1 lenT (dVar 5)) dNil)))) (dSeq (dWipe [3] (dSet 7 (dFrz (dLst (dCons (d2 addT (d2 addT (dSlS (dVar 1) dNo (dPart (dVar 2))) (dVar 3)) (dSlS (dVar 1) (dPart (dVar 2)) dNo)) (dCons (d2 addT (dSlS (dVar 1) dNo (dPart (dVar 2))) (dSlS (dVar 1) (dPart (d2 addT (dVar 2) (dC (.int 1)))) dNo)) (dCons (d2 addT (d2 addT (dSlS (dVar 1) dNo (dPart (dVar 2))) (dVar 3)) (dSlS (dVar 1) (dPart (d2 addT (dVar 2) (dC (.int 1)))) dNo)) dNil))))))) (dSeq (dWipe [1, 2, 4] (dSet 7 (dFrz (dF2 catT (dVar 7) (dFrz (dLst (dCons (d2 addT (dSlS (dVar 1) dNo (dPart (dVar 4))) (dSlS (dVar 1) (dPart (dVar 2)) dNo)) (dCons (dJoin (dC (.str " ")) (dFrz (dF2 catT (dFrz (dSlL (dVar 5) dNo (dPart (dVar 6)))) (dFrz (dSlL (dVar 5) (dPart (d2 addT (dVar 6) (dC (.int 1)))) dNo))))) (dCons (d2 addT (dVar 1) (dC (.str " "))) (dCons (d2 addT (dC (.str " ")) (dVar 1)) dNil)))))))))) (dRet (dIx (dFrz (dF2 catT (dVar 7) (dFrz (dLst (dCons (dJoin (dC (.str " ")) (dFrz (dF2 catT (dVar 5) (dFrz (dSlL (dVar 5) (dPart (dVar 6)) (dPart (d2 addT (dVar 6) (dC (.int 1))))))))) (dCons (dJoin (dC (.str " ")) (dFrz (dF1 revT (dVar 5)))) dNil)))))) (dCall 2 d__law_draw (dCons (dVar 0) (dCons (dC (.int 9)) dNil))))))))))))
def d__law_spoilt : DF := runF 8 b__law_spoilt
def b__law_one_right : DS := (dSeq (dWipe [0, 1, 2] (dSet 4 (dCall 3 d__law_read (dCons (dVar 0) (dCons (dVar 1) (dCons (dVar 2) dNil)))))) (dSeq (dWipe [4] (dSet 5 (dIf (dTest (d1 (isiT "tuple") (dVar 4))) (dTup (dCons (dC (.str "told")) (dCons (dVar 4) dNil))) (dTup (dCons (dC (.str "text")) (dCons (dVar 4) dNil)))))) (dRet (dCall 2 d__law_same (dCons (dVar 3) (dCons (dVar 5) dNil))))))
def d__law_one_right : DF := runF 6 b__law_one_right
def w__law_right_1 : DS := (dWipe [2] (dSeq (dCond (dNotB (dTest (dCall 4 d__law_one_right (dCons (dVar 0) (dCons (dVar 1) (dCons (dC (.str "function")) (dCons (dSaid (dCall 2 d_function_read (dCons (dVar 0) (dCons (dVar 1) dNil)))) dNil))))))) (dRet (dC (.bl false))) dNext) (dCond (dNotB (dTest (dCall 4 d__law_one_right (dCons (dVar 0) (dCons (dVar 1) (dCons (dC (.str "poly")) (dCons (dSaid (dCall 2 d_poly_read (dCons (dVar 0) (dCons (dVar 1) dNil)))) dNil))))))) (dRet (dC (.bl false))) dNext)))
def b__law_right : DS := (dSeq (dWipe [0, 1, 2] (dFor (dItR (dRg1 (dC (.int 2)))) (gSet 2) w__law_right_1)) (dRet (dC (.bl true))))
def d__law_right : DF := runF 3 b__law_right
def w_law_1 : DS := (dWipe [2] (dCond (dOrB (dNotB (dTest (dCall 2 d__law_right (dCons (dC (.int 2)) (dCons (dVar 2) dNil))))) (dOrB (dNotB (dTest (dCall 2 d__law_right (dCons (dC (.int 3)) (dCons (dVar 2) dNil))))) (dNotB (dTest (dCall 2 d__law_right (dCons (dC (.int 11)) (dCons (dVar 2) dNil))))))) (dRet (dC (.bl false))) dNext))
def w_law_2 : DS := (dWipe [8] (dSet 7 (dFrz (dF2 catT (dVar 7) (dFrz (dLc (dIt (dVar 6)) (gSet 2) dYes (dCall 2 d__law_spoilt (dCons (dVar 4) (dCons (dVar 2) dNil))) [2]))))))
def w_law_3 : DS := (dSeq (dWipe [3] (dSet 4 (dCall 1 d__law_pen (dCons (dVar 3) dNil)))) (dSeq (dSet 5 (dCall 1 d__law_bound (dCons (dVar 4) dNil))) (dSeq (dSet 6 (dFrz (dLst (dCons (dCall 1 d__law_text (dCons (dCall 2 d__law_function (dCons (dVar 4) (dCons (dVar 5) dNil))) dNil)) (dCons (dCall 1 d__law_text (dCons (dCall 3 d__law_poly (dCons (dVar 4) (dCons (dVar 5) (dCons (dC (.int 9)) dNil)))) dNil)) dNil))))) (dSeq (dSet 7 (dFrz (dF2 catT (dVar 6) (dFrz (dLst (dCons (dCall 1 d__law_odd (dCons (dVar 4) dNil)) dNil)))))) (dSeq (dWipe [6, 8] (dFor (dItR (dRg1 (dC (.int 3)))) (gSet 8) w_law_2)) (dSeq (dWipe [5, 7] (dCond (dNotB (dTest (d1 allT (dFrz (dLc (dIt (dVar 7)) (gSet 10) dYes (dCall 2 d__law_right (dCons (dVar 5) (dCons (dVar 10) dNil))) [10]))))) (dRet (dC (.bl false))) dNext)) (dSeq (dWipe [4] (dSet 9 (dCall 1 d__law_no_bound (dCons (dVar 4) dNil)))) (dSeq (dCond (dTest (d2 neT (dSaid (dCall 2 d_function_read (dCons (dVar 9) (dCons (dC .non) dNil)))) (dTup (dCons (dC (.str "bound")) dNil)))) (dRet (dC (.bl false))) dNext) (dWipe [9] (dCond (dTest (d2 neT (dSaid (dCall 2 d_poly_read (dCons (dVar 9) (dCons (dC .non) dNil)))) (dTup (dCons (dC (.str "bound")) dNil)))) (dRet (dC (.bl false))) dNext))))))))))
def b_law : DS := (dSeq (dSet 1 (dFrz (dLst (dCons (dC (.str "")) (dCons (dC (.str " ")) (dCons (dC (.str "0")) (dCons (dC (.str "none")) (dCons (dC (.str "0 1")) (dCons (dC (.str "1 0")) (dCons (dC (.str "0 1 ")) (dCons (dC (.str "00 1")) (dCons (dC (.str "01 0")) (dCons (dC (.str "2 0")) (dCons (dC (.str "0 2")) (dCons (dC (.str "0  1")) (dCons (dC (.str "1 1 1")) (dCons (dC (.str "0 0 0")) dNil))))))))))))))))) (dSeq (dSet 1 (dFrz (dF2 catT (dVar 1) (dFrz (dLst (dCons (dC (.str "None")) (dCons (dC (.str "NONE")) (dCons (dC (.str "nOne")) dNil)))))))) (dSeq (dWipe [1, 2] (dFor (dIt (dFrz (dF2 catT (dVar 1) (dFrz (dLst (dCons (dC .non) (dCons (dC (.int 7)) (dCons (dFrz (dLst (dCons (dC (.str "0 1")) dNil))) dNil)))))))) (gSet 2) w_law_1)) (dSeq (dWipe [0, 3, 4, 5, 6, 7, 8, 9] (dFor (dIt (dFrz (dF2 catT (dFrz (dLst (dCons (dCall 2 d__law_cell (dCons (dVar 0) (dCons (dC (.int 0)) dNil))) dNil))) (dFrz (dSlL (dVar 0) (dPart (dC (.int 1))) (dPart (dC (.int 6)))))))) (gSet 3) w_law_3)) (dRet (dC (.bl true)))))))
def d_law : DF := runF 11 b_law
end Q
namespace Q
open PySem PySem.Spec PyProof.Rows L2
def swd : List Nat → List Nat → List (List Nat)
  | acc, [] => [acc]
  | acc, c :: r => if c = 32 then acc :: swd [] r else swd (acc ++ [c]) r
theorem spl_swd : ∀ (l acc : List Nat), TL.spl [32] 0 acc l = swd acc l
  | [], acc => TL.spl_nil _ _ _
  | c :: r, acc => by
    by_cases h : c = 32
    · subst h
      rw [TL.spl_hit (by rfl), swd, if_pos rfl]
      show acc :: TL.spl [32] 0 [] r = _
      rw [spl_swd r []]
    · rw [TL.spl_miss (by
        unfold TL.pre
        have : ([c] == [32]) = false := by simpa using h
        exact this), swd, if_neg h, spl_swd r]
theorem swd_ne : ∀ (l acc : List Nat), swd acc l ≠ []
  | [], acc => by simp [swd]
  | c :: r, acc => by
    unfold swd
    split
    · simp
    · exact swd_ne r _
theorem swd_mem : ∀ (l acc : List Nat) {w : List Nat}, w ∈ swd acc l → ∀ n ∈ w, n ∈ acc ∨ n ∈ l
  | [], acc, w, h, n, hn => by
    have : w = acc := by simpa [swd] using h
    subst this
    exact .inl hn
  | c :: r, acc, w, h, n, hn => by
    unfold swd at h
    split at h
    · rcases List.mem_cons.mp h with rfl | h
      · exact .inl hn
      · rcases swd_mem r [] h n hn with q | q
        · cases q
        · exact .inr (List.mem_cons_of_mem _ q)
    · rcases swd_mem r _ h n hn with q | q
      · rcases List.mem_append.mp q with q | q
        · exact .inl q
        · exact .inr (by rw [List.mem_singleton.mp q]; exact List.mem_cons_self)
      · exact .inr (List.mem_cons_of_mem _ q)
theorem swd_many : ∀ (l acc : List Nat), (swd acc l).length ≤ l.length + 1
  | [], acc => by simp [swd]
  | c :: r, acc => by
    unfold swd
    split
    · have := swd_many r []
      simp
      omega
    · have := swd_many r (acc ++ [c])
      simp
      omega
theorem swd_long : ∀ (l acc : List Nat) {w : List Nat}, w ∈ swd acc l → w.length ≤ acc.length + l.length
  | [], acc, w, h => by
    have : w = acc := by simpa [swd] using h
    subst this
    simp
  | c :: r, acc, w, h => by
    unfold swd at h
    split at h
    · rcases List.mem_cons.mp h with rfl | h
      · simp
      · have := swd_long r [] h
        simp at *
        omega
    · have := swd_long r _ h
      simp at *
      omega
/-- a text of plain signs -/
structure Tx (N : Nat) (l : List Nat) : Prop where
  c : ∀ n ∈ l, n < 128
  l : l.length ≤ N
theorem Tx.mono {N M : Nat} {l : List Nat} (h : Tx N l) (hm : N ≤ M) : Tx M l := ⟨h.c, Nat.le_trans h.l hm⟩
theorem Tx.app {N M : Nat} {l k : List Nat} (h : Tx N l) (h' : Tx M k) : Tx (N + M) (l ++ k) := ⟨fun n hn => by
  rcases List.mem_append.mp hn with q | q
  · exact h.c n q
  · exact h'.c n q, by rw [List.length_append]; exact Nat.add_le_add h.l h'.l⟩
theorem Tx.sub {N : Nat} {l k : List Nat} (h : Tx N l) (hs : k.Sublist l) : Tx N k := ⟨fun n hn => h.c n (hs.subset hn), Nat.le_trans hs.length_le h.l⟩
theorem Tx.word {N : Nat} {l w : List Nat} (h : Tx N l) (hw : w ∈ swd [] l) : Tx N w := ⟨fun n hn => by
  rcases swd_mem l [] hw n hn with q | q
  · cases q
  · exact h.c n q, by have := swd_long l [] hw; have := h.l; simp at *; omega⟩
theorem Tx.ok {N : Nat} {l : List Nat} (h : Tx N l) : PyData.strOk (sO l) = true := by
  unfold PyData.strOk
  simp only [List.all_toArray, List.all_eq_true]
  intro n hn
  have := h.c n hn
  simp
  omega
theorem tl_blank : TL.tl (Str.ofString " ") = [32] := by kernel_rfl
theorem split_e {l : List Nat} {N : Nat} (h : Tx N l) (hN : N ≤ 100000) : splitT (sO l) (.str " ") = some ((swd [] l).map tS) := by
  have e : (Str.ofString " ").cps.all (· < 256) = true := by kernel_rfl
  unfold splitT
  simp only
  rw [tl_blank, len_sO, e, tl_sO, spl_swd, if_pos]
  have := h.l
  simp
  omega
theorem strsOf_tS (ws : List (List Nat)) : strsOf (ws.map tS) = some (ws.map sO) := by
  have := strsOf_map (ws.map sO)
  rwa [List.map_map] at this
theorem join_e {ws : List (List Nat)} (h : (ws.map List.length).sum + ws.length ≤ 16000000) : joinT (Str.ofString " ") (.lst (ws.map tS)) = some (tS (TL.joinL [32] ws)) := by
  unfold joinT
  simp only
  rw [strsOf_tS]
  simp only [Option.bind_some, List.map_map, List.length_map]
  have e1 : (List.map ((fun x => x.length) ∘ sO) ws) = ws.map List.length := List.map_congr_left fun w _ => len_sO w
  have e2 : (List.map (TL.tl ∘ sO) ws) = ws := by
    have : (TL.tl ∘ sO) = id := by funext w; exact tl_sO w
    rw [this, List.map_id]
  have e3 : (Str.ofString " ").length = 1 := by kernel_rfl
  rw [e1, e2, tl_blank, e3, if_pos (by omega)]
theorem swd_join {ws : List (List Nat)} (hn : ws ≠ []) (h : ∀ w ∈ ws, 32 ∉ w) : swd [] (TL.joinL [32] ws) = ws := by
  rw [← spl_swd]
  exact TL.spl_join hn h
theorem joinL_len : ∀ ws : List (List Nat), (TL.joinL [32] ws).length ≤ (ws.map List.length).sum + ws.length
  | [] => by simp [TL.joinL]
  | [w] => by simp [TL.joinL]
  | w :: v :: ws => by
    have := joinL_len (v :: ws)
    simp only [TL.joinL, List.length_append, List.map_cons, List.sum_cons, List.length_cons, List.length_nil] at *
    omega
theorem joinL_mem : ∀ (ws : List (List Nat)), ∀ n ∈ TL.joinL [32] ws, n = 32 ∨ ∃ w ∈ ws, n ∈ w
  | [], n, h => by cases h
  | [w], n, h => .inr ⟨w, List.mem_cons_self, h⟩
  | w :: v :: ws, n, h => by
    simp only [TL.joinL] at h
    rcases List.mem_append.mp h with h | h
    · exact .inr ⟨w, List.mem_cons_self, h⟩
    · rcases List.mem_append.mp h with h | h
      · exact .inl (List.mem_singleton.mp h)
      · rcases joinL_mem (v :: ws) n h with q | ⟨u, hu, q⟩
        · exact .inl q
        · exact .inr ⟨u, List.mem_cons_of_mem _ hu, q⟩
theorem sum_le {B : Nat} : ∀ {ns : List Nat}, (∀ n ∈ ns, n ≤ B) → ns.sum ≤ B * ns.length
  | [], _ => by simp
  | n :: ns, h => by
    have h1 := h n List.mem_cons_self
    have h2 := sum_le fun m hm => h m (List.mem_cons_of_mem _ hm)
    rw [List.sum_cons, List.length_cons, Nat.mul_add]
    omega
theorem joinL_tx {N : Nat} {ws : List (List Nat)} (h : ∀ w ∈ ws, Tx N w) : Tx ((N + 1) * ws.length) (TL.joinL [32] ws) := ⟨fun n hn => by
  rcases joinL_mem ws n hn with rfl | ⟨w, hw, q⟩
  · omega
  · exact (h w hw).c n q, by
  have h1 := joinL_len ws
  have h2 := sum_le (B := N) (ns := ws.map List.length) fun n hn => by
    obtain ⟨w, hw, rfl⟩ := List.mem_map.mp hn
    exact (h w hw).l
  rw [List.length_map] at h2
  rw [Nat.add_mul, Nat.one_mul]
  omega⟩
theorem numL_tx {n k : Nat} (hk : 0 < k) (h : n < 10 ^ k) : Tx k (TL.numL n) := ⟨fun m hm => by have := TL.numL_digits n m hm; omega, TL.numL_len hk h⟩
/-- a row of numbers, written -/
def rowL (xs : List Int) : List Nat := TL.joinL [32] (xs.map fun x => TL.numL x.toNat)
def noneL : List Nat := [110, 111, 110, 101]
def rowW (xs : List Int) : List Nat := if xs = [] then noneL else rowL xs
theorem none_e : T.str (Str.ofString "none") = tS noneL := by kernel_rfl
theorem words_num {xs : List Int} (h : ∀ x ∈ xs, 0 ≤ x ∧ x < 100) : ∀ w ∈ xs.map (fun x => TL.numL x.toNat), Tx 2 w := fun w hw => by
  obtain ⟨x, hx, rfl⟩ := List.mem_map.mp hw
  have := h x hx
  exact numL_tx (by omega) (by omega)
theorem rowW_tx {xs : List Int} (h : ∀ x ∈ xs, 0 ≤ x ∧ x < 100) : Tx (3 * xs.length + 4) (rowW xs) := by
  unfold rowW
  split
  · exact ⟨by decide, by simp [noneL]⟩
  · have := joinL_tx (words_num h)
    rw [List.length_map] at this
    exact this.mono (by omega)
theorem rowL_ne {xs : List Int} (h : xs ≠ []) : rowL xs ≠ [] := by
  unfold rowL
  cases xs with
  | nil => exact absurd rfl h
  | cons x xs =>
    cases xs with
    | nil => exact TL.numL_ne _
    | cons y ys =>
      rw [List.map_cons, List.map_cons, TL.joinL]
      intro z
      exact TL.numL_ne _ (List.append_eq_nil_iff.mp z).1
theorem swd_row {xs : List Int} (h : xs ≠ []) : swd [] (rowL xs) = xs.map fun x => TL.numL x.toNat := by
  unfold rowL
  refine swd_join (by simpa using h) fun w hw => ?_
  obtain ⟨x, hx, rfl⟩ := List.mem_map.mp hw
  exact TL.numL_free (by omega)
/-- " ".join([str(x) for x in xs]) or "none" -/
theorem row_e {xs : List Int} {c : Cs} (h : ∀ x ∈ xs, 0 ≤ x ∧ x < 100) (hl : xs.length ≤ 100000) : dOrT (dJoin (dC (.str " ")) (dFrz (dLc (dIt (dVar 0)) (gSet 1) dYes (d1 strT (dVar 1)) [1]))) (dC (.str "none")) [.val (tI xs), .un] c = .ok (tS (rowW xs)) c := by
  have lc : ∀ y0 : B, lcL (gSet 1) dYes (d1 strT (dVar 1)) [y0, .un] (xs.map T.int) c = .ok ((xs.map fun x => TL.numL x.toNat).map tS) c := fun y0 => by
    rw [List.map_map]
    refine lcL_mapOf fun x hx => ?_
    have hx' := h x hx
    have e : strT (.int x) = some (tS (TL.numL x.toNat)) := by rw [strT_int, if_pos (by simp; omega)]
    simp [lcTurn_e, -strT_int, e]
  have it : itT (tI xs) = some (xs.map T.int) := rfl
  have ll : (xs.map T.int).length ≤ 1000000 := by simp; omega
  have jn := join_e (ws := xs.map fun x => TL.numL x.toNat) (by
    have := sum_le (B := 2) (ns := (xs.map fun x => TL.numL x.toNat).map List.length) fun n hn => by
      obtain ⟨w, hw, rfl⟩ := List.mem_map.mp hn
      exact (words_num h w hw).l
    simp only [List.length_map] at *
    omega)
  have jn' : joinT (Str.ofString " ") (.lst ((xs.map fun x => TL.numL x.toNat).map tS)) = some (tS (rowL xs)) := jn
  have tr : truthT (tS (rowL xs)) = some (!(decide (xs = []))) := by
    have l1 : (sO (rowL xs)).length ≤ 1000000 := by
      have := (joinL_tx (words_num h)).l
      rw [List.length_map] at this
      rw [len_sO]
      unfold rowL
      omega
    simp only [truthT]
    rw [if_pos l1, len_sO]
    by_cases hx : xs = []
    · subst hx; rfl
    · have := rowL_ne hx
      have h2 : 0 < (rowL xs).length := List.length_pos_iff.mpr this
      have h3 : (((rowL xs).length : Int) != 0) = true := by simp; omega
      rw [h3]
      simp [hx]
  rw [dOrT_e, dJoin_e]
  generalize ((xs.map fun x => TL.numL x.toNat).map tS) = L at *
  generalize hR : rowL xs = R at *
  have eW : rowW xs = if xs = [] then noneL else R := by unfold rowW; rw [hR]
  rw [eW]
  have ll' : xs.length ≤ 1000000 := by omega
  have no := none_e
  generalize T.str (Str.ofString "none") = NN at *
  generalize hX : tI xs = X at *
  clear hR eW hX
  by_cases hx : xs = []
  · subst hx
    simp only [decide_true, Bool.not_true, List.map_nil] at tr lc it
    simp [it, lc, jn', tr, no]
  · simp only [hx, decide_false, Bool.not_false] at tr
    simp [it, ll', lc, jn', tr, hx]
def nuS : List Nat → Option Nat
  | [a] => if 48 ≤ a ∧ a ≤ 57 then some (a - 48) else none
  | [a, b] => if 49 ≤ a ∧ a ≤ 57 ∧ 48 ≤ b ∧ b ≤ 57 then some ((a - 48) * 10 + (b - 48)) else none
  | _ => none
theorem nuS_num {n : Nat} (h : n < 100) : nuS (TL.numL n) = some n := by
  by_cases h1 : n < 10
  · rw [TL.numL_lt h1]
    simp only [nuS]
    rw [if_pos (by omega)]
    congr 1
    omega
  · rw [TL.numL_step (by omega), TL.numL_lt (by omega)]
    simp only [List.cons_append, List.nil_append, nuS]
    rw [if_pos (by omega)]
    congr 1
    omega
theorem nuS_inv {w : List Nat} {n : Nat} (h : nuS w = some n) : w = TL.numL n ∧ n < 100 := by
  unfold nuS at h
  split at h
  · split at h
    · cases h
      refine ⟨?_, by omega⟩
      rw [TL.numL_lt (by omega)]
      congr 1
      omega
    · cases h
  · split at h
    · cases h
      refine ⟨?_, by omega⟩
      rw [TL.numL_step (by omega), TL.numL_lt (by omega)]
      simp only [List.cons_append, List.nil_append]
      congr 1
      · omega
      · congr 1; omega
    · cases h
  · cases h
theorem intS_e {l : List Nat} (h : ∀ c ∈ l, 48 ≤ c ∧ c ≤ 57) (hn : l ≠ []) (hl : l.length ≤ 640) : intST (tS l) = some (.int (PySem.NumText.digitsVal l : Nat)) := by
  have e := PySem.intText_digits (x := sO l) (by rw [show (sO l).cps.toList = l from rfl]; exact h) (by rw [show (sO l).cps.toList = l from rfl]; exact hn) (by rw [len_sO]; omega)
  simp only [intST]
  rw [if_pos (by rw [len_sO]; exact hl), e]
  rfl
theorem intS_num {n : Nat} (h : n < 100) : intST (tS (TL.numL n)) = some (.int n) := by
  rw [intS_e (TL.numL_digits n) (TL.numL_ne n) (by have := TL.numL_len (n := n) (k := 2) (by omega) (by omega); omega), TL.numL_val]
def nuT (l : List Nat) : T := match nuS l with
  | some n => .int n
  | none => .non
theorem figs : TL.tl (Str.ofString "0123456789") = [48, 49, 50, 51, 52, 53, 54, 55, 56, 57] := by kernel_rfl
theorem in_figs {n : Nat} : inST (tS [n]) (.str "0123456789") = some (.bl (decide (48 ≤ n ∧ n ≤ 57))) := by
  simp only [inST, tl_sO, figs]
  congr 2
  rw [decide_eq_decide]
  simp
  omega
theorem lenS {l : List Nat} (h : l.length ≤ 1000) : lenT (tS l) = some (.int l.length) := by
  have e : lenT (tS l) = if (sO l).length ≤ 1000000 then some (.int (sO l).length) else none := rfl
  rw [e, len_sO, if_pos (by omega)]
theorem eqS {l k : List Nat} {N M : Nat} (h : Tx N l) (h' : Tx M k) : eqT (tS l) (tS k) = some (.bl (decide (l = k))) := by
  have p1 : plain (tS l) = true := h.ok
  have p2 : plain (tS k) = true := h'.ok
  unfold eqT
  rw [p1, p2, Bool.and_self, if_pos rfl]
  congr 2
  have e : eqD (tS l) (tS k) = (sO l == sO k) := rfl
  rw [e, Bool.eq_iff_iff, beq_iff_eq, decide_eq_true_eq]
  exact ⟨sO_inj, fun e => by rw [e]⟩
theorem neS {l k : List Nat} {N M : Nat} (h : Tx N l) (h' : Tx M k) : neT (tS l) (tS k) = some (.bl (!decide (l = k))) := by
  have p1 : plain (tS l) = true := h.ok
  have p2 : plain (tS k) = true := h'.ok
  unfold neT
  rw [p1, p2, Bool.and_self, if_pos rfl]
  have := eqS h h'
  unfold eqT at this
  rw [p1, p2, Bool.and_self, if_pos rfl] at this
  have e : eqD (tS l) (tS k) = decide (l = k) := by injection this with this; injection this
  rw [e]
theorem zero_e : T.str (Str.ofString "0") = tS [48] := by kernel_rfl
theorem first_e {a : Nat} {r : List Nat} {y : B} {c : Cs} (ha : a < 128) (hl : r.length ≤ 1000) : d2 eqT (d2 ixST (dVar 0) (dC (.int 0))) (dC (.str "0")) [.val (tS (a :: r)), y] c = .ok (.bl (decide (a = 48))) c := by
  have ix : ixST (tS (a :: r)) (.int 0) = some (tS [a]) := by
    have e : atI (a :: r) 0 = some a := by
      unfold atI ixN
      simp
    simp only [ixST]
    rw [if_pos (by rw [len_sO]; simp; omega), tl_sO, e]
    rfl
  have eq := eqS (l := [a]) (k := [48]) (N := 1) (M := 1) ⟨fun n hn => by rw [List.mem_singleton.mp hn]; exact ha, by simp⟩ ⟨fun n hn => by rw [List.mem_singleton.mp hn]; omega, by simp⟩
  rw [← zero_e] at eq
  have e2 : decide ([a] = [48]) = decide (a = 48) := by simp
  rw [e2] at eq
  generalize T.str (Str.ofString "0") = Z at *
  generalize tS (a :: r) = X at *
  generalize tS [a] = Y at *
  simp [ix, eq]
theorem nu_e {l : List Nat} {c : Cs} (hl : l.length ≤ 1000) : d_number_in [tS l] c = .ok (nuT l) c := by
  have nl := lenS hl
  have lc : ∀ y0 : B, lcL (gSet 1) dYes (d2 inST (dVar 1) (dC (.str "0123456789"))) [y0, .un] (l.map fun n => tS [n]) c = .ok ((l.map fun n => decide (48 ≤ n ∧ n ≤ 57)).map T.bl) c := fun y0 => by
    rw [List.map_map]
    refine lcL_mapOf fun n hn => ?_
    have e := in_figs (n := n)
    simp [lcTurn_e, e]
  have al : allT (.lst ((l.map fun n => decide (48 ≤ n ∧ n ≤ 57)).map T.bl)) = some (.bl (l.all fun n => decide (48 ≤ n ∧ n ≤ 57))) := by rw [allT_bls]; simp [List.all_map]
  have it : ∀ y1, dItS (dVar 0) [.val (tS l), y1] c = .ok (l.map fun n => tS [n]) c := fun y1 => by
    rw [dItS_e]
    simp [tl_sO]
  have lm : (l.map fun n => tS [n]).length ≤ 1000000 := by simp; omega
  unfold d_number_in b_number_in
  by_cases h12 : 1 ≤ l.length ∧ l.length ≤ 2
  · have i1 : (1 : Int) ≤ (l.length : Nat) := by omega
    have i2 : ((l.length : Nat) : Int) ≤ 2 := by omega
    have fin : ∀ b : Bool, (l.all fun n => decide (48 ≤ n ∧ n ≤ 57)) = b → ∀ q : Bool, (b = true → d2 eqT (d2 ixST (dVar 0) (dC (.int 0))) (dC (.str "0")) [.val (tS l), .un] c = .ok (.bl q) c) → ∀ v : T, (b = true → intST (tS l) = some v) → nuT l = (if b = true ∧ ¬ (l.length = 2 ∧ q = true) then v else .non) →
        runF 2 (dSeq (dCond (dOrB (dNotB (dTest (dChain leT leT (dC (.int 1)) (d1 lenT (dVar 0)) (dC (.int 2))))) (dOrB (dNotB (dTest (d1 allT (dFrz (dLc (dItS (dVar 0)) (gSet 1) dYes (d2 inST (dVar 1) (dC (.str "0123456789"))) [1]))))) (dAndB (dTest (d2 eqT (d1 lenT (dVar 0)) (dC (.int 2)))) (dTest (d2 eqT (d2 ixST (dVar 0) (dC (.int 0))) (dC (.str "0"))))))) (dRet (dC .non)) dNext) (dRet (d1 intST (dVar 0)))) [tS l] c = .ok (nuT l) c := by
      intro b hb q hq v hv hr
      rw [hr]
      rw [hb] at al
      generalize (l.map fun n => decide (48 ≤ n ∧ n ≤ 57)).map T.bl = AL at *
      generalize (l.map fun n => tS [n]) = LM at *
      generalize d2 eqT (d2 ixST (dVar 0) (dC (.int 0))) (dC (.str "0")) = DQ at *
      generalize hX : tS l = X at *
      cases b with
      | false => simp [runF_e, entE, nl, i1, i2, it, lm, lc, al]
      | true =>
        have hq' := hq rfl
        have hv' := hv rfl
        by_cases h2 : l.length = 2
        · have z2 : ((l.length : Nat) : Int) = 2 := by omega
          cases q <;> simp [runF_e, entE, nl, i1, i2, it, lm, lc, al, z2, h2, hq', hv']
        · have z2 : ¬ ((l.length : Nat) : Int) = 2 := by omega
          simp [runF_e, entE, nl, i1, i2, it, lm, lc, al, z2, h2, hv']
    match l, h12 with
    | [a], _ =>
      refine fin _ rfl (decide (a = 48)) (fun hb => first_e (by simp at hb; omega) (by simp)) (.int (a - 48 : Nat)) (fun hb => ?_) ?_
      · rw [intS_e (fun c hc => by rw [List.mem_singleton.mp hc]; simpa using hb) (by simp) (by simp)]
        simp [PySem.NumText.digitsVal]
      · unfold nuT nuS
        by_cases ha : 48 ≤ a ∧ a ≤ 57
        · simp [ha]
        · have : ([a].all fun n => decide (48 ≤ n ∧ n ≤ 57)) = false := by simpa using ha
          rw [this]
          simp [ha]
    | [a, b], _ =>
      refine fin _ rfl (decide (a = 48)) (fun hb => first_e (by simp at hb; omega) (by simp)) (.int (((a - 48) * 10 + (b - 48) : Nat))) (fun hb => ?_) ?_
      · rw [intS_e (fun c hc => by
          have hb' := List.all_eq_true.mp hb c hc
          simpa using hb') (by simp) (by simp)]
        simp [PySem.NumText.digitsVal]
      · unfold nuT nuS
        by_cases ha : 48 ≤ a ∧ a ≤ 57
        · by_cases hb : 48 ≤ b ∧ b ≤ 57
          · have : ([a, b].all fun n => decide (48 ≤ n ∧ n ≤ 57)) = true := by simp [ha, hb]
            rw [this]
            by_cases h48 : a = 48
            · subst h48; simp
            · have : 49 ≤ a := by omega
              simp [this, ha, hb, h48]
          · have : ([a, b].all fun n => decide (48 ≤ n ∧ n ≤ 57)) = false := by
              cases hc : ([a, b].all fun n => decide (48 ≤ n ∧ n ≤ 57)) with
              | false => rfl
              | true => exact absurd (by simpa using List.all_eq_true.mp hc b (by simp)) hb
            rw [this]
            have : ¬ (49 ≤ a ∧ a ≤ 57 ∧ 48 ≤ b ∧ b ≤ 57) := by omega
            simp [this]
        · have : ([a, b].all fun n => decide (48 ≤ n ∧ n ≤ 57)) = false := by
            cases hc : ([a, b].all fun n => decide (48 ≤ n ∧ n ≤ 57)) with
            | false => rfl
            | true => exact absurd (by simpa using List.all_eq_true.mp hc a List.mem_cons_self) ha
          rw [this]
          have : ¬ (49 ≤ a ∧ a ≤ 57 ∧ 48 ≤ b ∧ b ≤ 57) := by omega
          simp [this]
  · have : ¬ ((1 : Int) ≤ (l.length : Nat) ∧ ((l.length : Nat) : Int) ≤ 2) := by omega
    have e : nuT l = .non := by
      have : nuS l = none := by
        unfold nuS
        split <;> first | rfl | (simp at h12; done)
      unfold nuT
      rw [this]
    rw [e]
    by_cases i1 : (1 : Int) ≤ (l.length : Nat)
    · have i2 : ¬ ((l.length : Nat) : Int) ≤ 2 := by omega
      generalize hX : tS l = X at *
      simp [runF_e, entE, nl, i1, i2]
    · generalize hX : tS l = X at *
      simp [runF_e, entE, nl, i1]
theorem nb {b : Int} {c : Cs} (h1 : 2 ≤ b) (h2 : b ≤ 16) : d_need_bound [.int b] c = .ok .non c := by
  unfold d_need_bound b_need_bound
  simp [runF_e, entE, d_is_within, b_is_within, d_is_whole, b_is_whole, h1, h2]
/-- the worth of a row of numbers -/
def ev (x : Int) : List Int → Int
  | [] => 0
  | a :: xs => a + x * ev x xs
def horL (b x : Int) (xs : List Int) : Int := xs.foldl (fun w n => (w * x + n) % b) 0
theorem horL_snoc {b x y : Int} {xs : List Int} : horL b x (xs ++ [y]) = (horL b x xs * x + y) % b := by simp [horL]
theorem horL_lt {b x : Int} {xs : List Int} (h : 0 < b) : 0 ≤ horL b x xs ∧ horL b x xs < b := by
  rcases List.eq_nil_or_concat xs with rfl | ⟨zs, z, rfl⟩
  · exact ⟨Int.le_refl _, h⟩
  · rw [List.concat_eq_append, horL_snoc]
    exact ⟨Int.emod_nonneg _ (by omega), Int.emod_lt_of_pos _ h⟩
theorem horL_ev {b x : Int} (h : 0 < b) : ∀ xs : List Int, horL b x xs.reverse = ev x xs % b
  | [] => by simp [horL, ev]
  | y :: xs => by
    rw [List.reverse_cons, horL_snoc, horL_ev h xs, ev, Int.add_emod, Int.mul_emod, Int.emod_emod, ← Int.mul_emod, ← Int.add_emod]
    congr 1
    rw [Int.mul_comm, Int.add_comm]
theorem ev_append (x : Int) : ∀ xs ys : List Int, ev x (xs ++ ys) = ev x xs + x ^ xs.length * ev x ys
  | [], ys => by simp [ev]
  | a :: xs, ys => by
    rw [List.cons_append, ev, ev_append x xs ys, ev, List.length_cons, Int.pow_succ, Int.mul_add, Int.add_assoc, ← Int.mul_assoc, Int.mul_comm (x ^ xs.length) x]
theorem ev_noughts (x : Int) : ∀ k : Nat, ev x (List.replicate k 0) = 0
  | 0 => rfl
  | k + 1 => by rw [List.replicate_succ, ev, ev_noughts x k]; simp
/-- the function of all worths -/
def wor (b : Int) (xs : List Int) : List Int := (rgI 0 b).map fun x => ev x xs % b
/-- a function of the numbers below b, as written -/
def Fn (b : Int) (xs : List Int) : Prop := xs.length = b.toNat ∧ ∀ x ∈ xs, 0 ≤ x ∧ x < b
theorem fn_wor {b : Int} {xs : List Int} (h : 0 < b) : Fn b (wor b xs) := by
  refine ⟨by unfold wor; rw [List.length_map, rgI_length]; simp, fun x hx => ?_⟩
  obtain ⟨y, _, rfl⟩ := List.mem_map.mp hx
  exact ⟨Int.emod_nonneg _ (by omega), Int.emod_lt_of_pos _ h⟩
theorem gI_wor {b x : Int} {xs : List Int} (h0 : 0 ≤ x) (h : x < b) : gI (wor b xs) x = ev x xs % b := by
  unfold wor
  rw [gI_map h0 (by rw [rgI_len]; omega), gI_rg h0 h]
def rdW (b : Int) : Nat → List (List Nat) → Sum Nat (List Int)
  | _, [] => .inr []
  | k, w :: ws => match nuS w with
    | some n => if (n : Int) < b then (match rdW b (k + 1) ws with
      | .inl j => .inl j
      | .inr xs => .inr ((n : Int) :: xs)) else .inl k
    | none => .inl k
theorem rdW_row {b : Int} (h1 : b ≤ 100) : ∀ {xs : List Int} {k : Nat}, (∀ x ∈ xs, 0 ≤ x ∧ x < b) → rdW b k (xs.map fun x => TL.numL x.toNat) = .inr xs
  | [], _, _ => rfl
  | x :: xs, k, h => by
    have hx := h x List.mem_cons_self
    have ih := rdW_row (xs := xs) (k := k + 1) h1 fun y hy => h y (List.mem_cons_of_mem _ hy)
    rw [List.map_cons, rdW, nuS_num (n := x.toNat) (by omega), ih]
    simp only
    rw [if_pos (by omega)]
    congr 2
    omega
theorem rdW_in {b : Int} : ∀ {ws : List (List Nat)} {k : Nat} {xs : List Int}, rdW b k ws = .inr xs → xs.length = ws.length ∧ ∀ x ∈ xs, 0 ≤ x ∧ x < b ∧ x < 100
  | [], _, xs, h => by cases h; exact ⟨rfl, fun x hx => nomatch hx⟩
  | w :: ws, k, xs, h => by
    rw [rdW] at h
    split at h
    · rename_i n hn
      split at h
      · rename_i hb
        split at h
        · cases h
        · rename_i ys hy
          cases h
          obtain ⟨h1, h2⟩ := rdW_in hy
          refine ⟨by rw [List.length_cons, List.length_cons, h1], fun x hx => ?_⟩
          rcases List.mem_cons.mp hx with rfl | hx
          · have := (nuS_inv hn).2
            omega
          · exact h2 x hx
      · cases h
    · cases h
theorem rdW_at {b : Int} : ∀ {ws : List (List Nat)} {k j : Nat}, rdW b k ws = .inl j → j < k + ws.length
  | [], _, _, h => by cases h
  | w :: ws, k, j, h => by
    rw [rdW] at h
    rw [List.length_cons]
    split at h
    · split at h
      · split at h
        · rename_i j' hj
          cases h
          have := rdW_at hj
          omega
        · cases h
      · cases h; omega
    · cases h; omega
section
variable {b : Int} {l : List Nat} {c : Cs} {t : T}
theorem numbers_loop {y1 : B} : ∀ (ws : List (List Nat)) (k : Nat) (acc : List Int), (∀ w ∈ ws, w.length ≤ 1000) → acc.length + ws.length ≤ 1000 →
    forL (gTupl [(gSet 3), (gSet 4)]) w_numbers_in_1 ((ws.zipIdx k).map fun p => T.tup [.int (p.2 : Nat), tS p.1]) [.val (.int b), y1, .own (acc.map T.int), .un, .un, .un] c =
      (match rdW b k ws with
      | .inl j => .err ⟨"NoText", [("at", .int (j : Nat))]⟩ c
      | .inr xs => .ok (.nxt [.val (.int b), y1, .own ((acc ++ xs).map T.int), .un, .un, .un]) c)
  | [], k, acc, _, _ => by simp [rdW]
  | w :: ws, k, acc, h, ha => by
    have e := nu_e (c := c) (h w List.mem_cons_self)
    rw [List.length_cons] at ha
    have ih := fun a => numbers_loop (y1 := y1) ws (k + 1) (acc ++ [a]) (fun v hv => h v (List.mem_cons_of_mem _ hv)) (by rw [List.length_append, List.length_singleton]; omega)
    have stp : ∀ (r' : Env), w_numbers_in_1 [.val (.int b), y1, .own (acc.map T.int), .val (.int (k : Nat)), .val (tS w), .un] c = (match nuS w with
        | some n => if (n : Int) < b then .ok (.nxt [.val (.int b), y1, .own ((acc ++ [(n : Int)]).map T.int), .un, .un, .un]) c else .err ⟨"NoText", [("at", .int (k : Nat))]⟩ c
        | none => .err ⟨"NoText", [("at", .int (k : Nat))]⟩ c) := fun r' => by
      have al : (acc.map T.int).length < 1000000 := by simp; omega
      unfold w_numbers_in_1
      unfold nuT at e
      have ap : ∀ n : Int, (acc ++ [n]).map T.int = acc.map T.int ++ [T.int n] := fun n => List.map_append
      simp only [ap]
      generalize acc.map T.int = A at *
      generalize tS w = X at *
      cases hn : nuS w with
      | none =>
        rw [hn] at e
        simp [e]
      | some n =>
        rw [hn] at e
        by_cases hb : (n : Int) < b
        · have hb' : ¬ (n : Int) ≥ b := by omega
          simp [e, hb, hb', appM, al, show isNon (T.int (n : Int)) = false from rfl]
        · have hb' : (n : Int) ≥ b := by omega
          simp [e, hb, hb', show isNon (T.int (n : Int)) = false from rfl]
    rw [List.zipIdx_cons, List.map_cons, forL_cons]
    have g : gTupl [gSet 3, gSet 4] (T.tup [.int (k : Nat), tS w]) [.val (.int b), y1, .own (acc.map T.int), .un, .un, .un] = some [.val (.int b), y1, .own (acc.map T.int), .val (.int (k : Nat)), .val (tS w), .un] := rfl
    simp only [g]
    rw [stp [], rdW]
    cases hn : nuS w with
    | none => simp
    | some n =>
      simp only
      split
      · rename_i hb
        rw [bind_ok, fseq_nxt, ih n]
        cases rdW b (k + 1) ws with
        | inl j => rfl
        | inr xs => simp
      · simp
theorem numbers_e {N : Nat} (h : Tx N l) (hN : N ≤ 900) : d_numbers_in [.int b, tS l] c = (match rdW b 0 (swd [] l) with
      | .inl j => .err ⟨"NoText", [("at", .int (j : Nat))]⟩ c
      | .inr xs => .ok (tI xs) c) := by
  have hl := h.l
  have sp := split_e h (by omega)
  have is1 : isiT "str" (tS l) = some (.bl true) := isi_str_str
  have hm := swd_many l []
  have lp := numbers_loop (b := b) (y1 := .val (tS l)) (c := c) (swd [] l) 0 [] (fun w hw => by have := (h.word hw).l; omega) (by simp; omega)
  have en : enumT ((swd [] l).map tS) = ((swd [] l).zipIdx 0).map fun p => T.tup [.int (p.2 : Nat), tS p.1] := by
    unfold enumT
    rw [List.zipIdx_map, List.map_map]
    rfl
  have d1 : dEnum (dFrz (dSplit (dVar 1) (dC (.str " ")))) [.val (.int b), .val (tS l), .own [], .un, .un, .un] c = .ok (((swd [] l).zipIdx 0).map fun p => T.tup [.int (p.2 : Nat), tS p.1]) c := by
    rw [← en]
    have e0 : dFrz (dSplit (dVar 1) (dC (.str " "))) [.val (.int b), .val (tS l), .own [], .un, .un, .un] c = .ok (.lst ((swd [] l).map tS)) c := by
      rw [dFrz_e, dSplit_e]
      simp [sp]
    generalize dFrz (dSplit (dVar 1) (dC (.str " "))) = DS at *
    simp [e0]
  unfold d_numbers_in b_numbers_in
  rw [List.map_nil] at lp
  generalize (((swd [] l).zipIdx 0).map fun p => T.tup [.int (p.2 : Nat), tS p.1]) = E at *
  generalize dEnum (dFrz (dSplit (dVar 1) (dC (.str " ")))) = DE at *
  generalize tS l = X at *
  simp [runF_e, entE, is1, d1, lp]
  cases rdW b 0 (swd [] l) with
  | inl j => simp
  | inr xs => simp [tI]
theorem numbers_no (h : isiT "str" t = some (.bl false)) : d_numbers_in [.int b, t] c = .err ⟨"NoText", [("at", .int (-1))]⟩ c := by
  unfold d_numbers_in b_numbers_in
  simp [runF_e, entE, h]
/-- a function read -/
theorem fread_e {N : Nat} (h0 : 2 ≤ b) (h1 : b ≤ 16) (h : Tx N l) (hN : N ≤ 900) : d_function_read [.int b, tS l] c = (match rdW b 0 (swd [] l) with
      | .inl j => .err ⟨"NoText", [("at", .int (j : Nat))]⟩ c
      | .inr xs => if (xs.length : Int) = b then .ok (tI xs) c else .err ⟨"NoText", [("at", .int (xs.length : Nat))]⟩ c) := by
  have e1 := nb (c := c) h0 h1
  have e2 := numbers_e (b := b) (c := c) h hN
  unfold d_function_read b_function_read
  generalize tS l = X at *
  cases hr : rdW b 0 (swd [] l) with
  | inl j =>
    rw [hr] at e2
    simp [runF_e, entE, e1, e2]
  | inr xs =>
    rw [hr] at e2
    have nl : lenT (tI xs) = some (.int (xs.length : Nat)) := by simp
    generalize tI xs = Y at *
    by_cases hl : (xs.length : Int) = b
    · simp [runF_e, entE, e1, e2, nl, hl]
    · simp [runF_e, entE, e1, e2, nl, hl]
theorem fread_no (h0 : 2 ≤ b) (h1 : b ≤ 16) (h : isiT "str" t = some (.bl false)) : d_function_read [.int b, t] c = .err ⟨"NoText", [("at", .int (-1))]⟩ c := by
  have e1 := nb (c := c) h0 h1
  have e2 := numbers_no (b := b) (c := c) h
  unfold d_function_read b_function_read
  simp [runF_e, entE, e1, e2]
/-- what a polynomial's text writes -/
def rdP (b : Int) (l : List Nat) : Sum Nat (List Int) := if l = noneL then .inr [] else match rdW b 0 (swd [] l) with
  | .inl j => .inl j
  | .inr xs => if gI xs ((xs.length : Int) - 1) = 0 then .inl xs.length else .inr xs
theorem last_at {xs : List Int} (h : xs ≠ []) {c : Cs} : ixT c (tI xs) (.int (-1)) = some (.int (gI xs ((xs.length : Int) - 1))) := by
  rcases List.eq_nil_or_concat xs with rfl | ⟨ys, y, e⟩
  · exact absurd rfl h
  · rw [List.concat_eq_append] at e
    subst e
    have e2 : gI (ys ++ [y]) (((ys ++ [y]).length : Int) - 1) = y := by
      unfold gI
      rw [List.length_append, List.length_singleton, show (((ys.length + 1 : Nat) : Int) - 1).toNat = ys.length by omega]
      simp
    rw [e2]
    show atI ((ys ++ [y]).map T.int) (-1) = _
    rw [List.map_append]
    exact atI_snoc (ts := ys.map T.int) (t := T.int y)
theorem pread_e {N : Nat} (h0 : 2 ≤ b) (h1 : b ≤ 16) (h : Tx N l) (hN : N ≤ 900) : d_poly_read [.int b, tS l] c = (match rdP b l with
      | .inl j => .err ⟨"NoText", [("at", .int (j : Nat))]⟩ c
      | .inr xs => .ok (tI xs) c) := by
  have e1 := nb (c := c) h0 h1
  have e2 := numbers_e (b := b) (c := c) h hN
  have is1 : isiT "str" (tS l) = some (.bl true) := isi_str_str
  have en := eqS (l := l) (k := noneL) (N := N) (M := 4) h ⟨by decide, by decide⟩
  rw [← none_e] at en
  unfold d_poly_read b_poly_read rdP
  generalize T.str (Str.ofString "none") = NN at *
  by_cases hn : l = noneL
  · simp only [hn, decide_true] at en
    have e5 : tS noneL = tS l := by rw [hn]
    rw [e5] at en
    generalize tS l = X at *
    simp [runF_e, entE, e1, is1, en, hn]
  · simp only [hn, decide_false] at en
    rw [if_neg hn]
    generalize tS l = X at *
    cases hr : rdW b 0 (swd [] l) with
    | inl j =>
      rw [hr] at e2
      simp [runF_e, entE, e1, is1, en, e2]
    | inr xs =>
      rw [hr] at e2
      dsimp only at e2 ⊢
      have hx : xs ≠ [] := fun z => by
        have := (rdW_in hr).1
        rw [z] at this
        exact swd_ne l [] (List.length_eq_zero_iff.mp this.symm)
      have nl : lenT (tI xs) = some (.int (xs.length : Nat)) := by simp
      have ne : neT (tI xs) (.tup []) = some (.bl true) := by
        unfold tI
        rw [neT_nilT]
        simp [hx]
      have la := fun c => last_at (c := c) hx
      generalize gI xs ((xs.length : Int) - 1) = G at *
      generalize hY : tI xs = Y at *
      by_cases hg : G = 0
      · simp [runF_e, entE, e1, is1, en, e2, ne, la, hg, nl, hY]
      · simp [runF_e, entE, e1, is1, en, e2, ne, la, hg, nl, hY]
theorem pread_no (h0 : 2 ≤ b) (h1 : b ≤ 16) (h : isiT "str" t = some (.bl false)) : d_poly_read [.int b, t] c = .err ⟨"NoText", [("at", .int (-1))]⟩ c := by
  have e1 := nb (c := c) h0 h1
  have e2 := numbers_no (b := b) (c := c) h
  unfold d_poly_read b_poly_read
  simp [runF_e, entE, e1, e2, h]
/-- what is written is read -/
theorem fread_row {f : List Int} (h0 : 2 ≤ b) (h1 : b ≤ 16) (hf : Fn b f) : d_function_read [.int b, tS (rowW f)] c = .ok (tI f) c := by
  have hne : f ≠ [] := fun z => by have := hf.1; rw [z] at this; simp at this; omega
  have hl := hf.1
  have hx : ∀ x ∈ f, 0 ≤ x ∧ x < 100 := fun x hx => by have := hf.2 x hx; omega
  rw [fread_e h0 h1 (rowW_tx hx) (by omega)]
  have e : rowW f = rowL f := by unfold rowW; rw [if_neg hne]
  rw [e, swd_row hne, rdW_row (by omega) hf.2]
  simp only
  rw [if_pos (by omega)]
theorem noneL_no {xs : List Int} (h : xs ≠ []) : rowL xs ≠ noneL := fun e => by
  have h1 := swd_row h
  rw [e] at h1
  have e2 : swd [] noneL = [noneL] := by decide
  rw [e2] at h1
  have hl := congrArg List.length h1
  rw [List.length_map] at hl
  obtain ⟨x, rfl⟩ := List.length_eq_one_iff.mp (show xs.length = 1 by simpa using hl.symm)
  have : noneL = TL.numL x.toNat := by simpa using h1
  have hd := TL.numL_digits x.toNat 110 (by rw [← this]; decide)
  omega
end
theorem isw {k a b : Int} {c : Cs} : d_is_within [.int k, .int a, .int b] c = .ok (.bl (decide (a ≤ k) && decide (k ≤ b))) c := by
  unfold d_is_within b_is_within
  by_cases h : a ≤ k
  · simp [runF_e, entE, d_is_whole, b_is_whole, h]
  · simp [runF_e, entE, d_is_whole, b_is_whole, h]
/-- no whole number -/
def NW (t : T) : Prop := ∀ c, d_is_whole [t] c = .ok (.bl false) c
theorem nw_non : NW .non := fun c => by unfold d_is_whole b_is_whole; simp [runF_e, entE]
theorem nw_bl {b : Bool} : NW (.bl b) := fun c => by unfold d_is_whole b_is_whole; simp [runF_e, entE]
theorem nw_str {x : Str} : NW (.str x) := fun c => by unfold d_is_whole b_is_whole; simp [runF_e, entE]
theorem nw_tup {ts : List T} : NW (.tup ts) := fun c => by unfold d_is_whole b_is_whole; simp [runF_e, entE]
theorem nw_lst {ts : List T} : NW (.lst ts) := fun c => by unfold d_is_whole b_is_whole; simp [runF_e, entE]
theorem nw_dct {ks : List Str} {vs : List T} : NW (.dct ks vs) := fun c => by unfold d_is_whole b_is_whole; simp [runF_e, entE]
theorem wi_nw {t a b : T} {c : Cs} (h : NW t) : d_is_within [t, a, b] c = .ok (.bl false) c := by
  have e := h c
  unfold d_is_within b_is_within
  simp [runF_e, entE, e]
theorem isW_int {i : Int} {c : Cs} : d_is_whole [.int i] c = .ok (.bl true) c := by unfold d_is_whole b_is_whole; simp [runF_e, entE]
/-- a thing whose kind is known -/
def okT (t : T) : Bool := (tyT t).isSome
def inR (a b : Int) : T → Bool
  | .int i => decide (a ≤ i) && decide (i ≤ b)
  | _ => false
def isInt : T → Bool
  | .int _ => true
  | _ => false
theorem wh_any {t : T} {c : Cs} (h : okT t = true) : d_is_whole [t] c = .ok (.bl (isInt t)) c := by
  cases t <;> first | exact nw_non c | exact nw_bl c | exact isW_int | exact nw_str c | exact nw_tup c | exact nw_lst c | exact nw_dct c | (cases h; done)
theorem wi_any {t : T} {a b : Int} {c : Cs} (h : okT t = true) : d_is_within [t, .int a, .int b] c = .ok (.bl (inR a b t)) c := by
  cases t <;> first | exact isw | exact wi_nw nw_non | exact wi_nw nw_bl | exact wi_nw nw_str | exact wi_nw nw_tup | exact wi_nw nw_lst | exact wi_nw nw_dct | (cases h; done)
/-- what repr can show, its leaves of up to forty signs -/
structure SH (n w : Nat) (t : T) : Prop where
  pl : plT n t = true
  sh : (pyT t).showable = true
  ls : (pyT t).leavesShort 40 = true
  wt : (pyT t).weight ≤ w
theorem SH.mono {n m w v : Nat} {t : T} (h : SH n w t) (h1 : n ≤ m) (h2 : w ≤ v) : SH m v t := ⟨plT_mono h1 h.pl, h.sh, h.ls, Nat.le_trans h.wt h2⟩
theorem sh_int {i : Int} (h : i.natAbs < 10 ^ 12) : SH 0 100 (.int i) := by
  have r := rp_int h
  exact ⟨rfl, r.sh, by rw [pyT, PyData.leavesShort, decide_eq_true]; exact Nat.le_trans (PyData.shown_int_le h) (by decide), Nat.le_trans r.wt (by decide)⟩
theorem sh_bl {b : Bool} : SH 0 100 (.bl b) := by cases b <;> exact ⟨rfl, rfl, rfl, Nat.zero_le _⟩
theorem sh_non : SH 0 100 .non := ⟨rfl, rfl, rfl, Nat.zero_le _⟩
theorem sh_big : SH 0 100 (.int (10 ^ 30)) := ⟨by decide +kernel, by decide +kernel, by decide +kernel, by decide +kernel⟩
theorem sh_s0 : SH 0 100 (.str "0") := ⟨by decide +kernel, by decide +kernel, by decide +kernel, by decide +kernel⟩
theorem sh_s1 : SH 0 100 (.str "1") := ⟨by decide +kernel, by decide +kernel, by decide +kernel, by decide +kernel⟩
theorem sh_s : SH 0 100 (.str "") := ⟨by decide +kernel, by decide +kernel, by decide +kernel, by decide +kernel⟩
theorem sh_all {n w : Nat} : ∀ {ts : List T}, (∀ t ∈ ts, SH n w t) → ts.all (plT n) = true ∧ PyData.showableAll (pyTs ts) = true ∧ PyData.leavesShortAll 40 (pyTs ts) = true ∧ PyData.weightAll (pyTs ts) ≤ (w + 1) * ts.length
  | [], _ => ⟨rfl, rfl, rfl, Nat.zero_le _⟩
  | t :: ts, h => by
    obtain ⟨a, b, c, d⟩ := sh_all fun u hu => h u (List.mem_cons_of_mem _ hu)
    have q := h t List.mem_cons_self
    refine ⟨by rw [List.all_cons, q.pl, a]; rfl, by rw [pyTs, PyData.showableAll, q.sh, b]; rfl, by rw [pyTs, PyData.leavesShortAll, q.ls, c]; rfl, ?_⟩
    rw [pyTs, PyData.weightAll, List.length_cons, Nat.mul_add]
    have := q.wt
    omega
theorem sh_tup {n w : Nat} {ts : List T} (h : ∀ t ∈ ts, SH n w t) : SH (n + 1) ((w + 1) * ts.length) (.tup ts) := by
  obtain ⟨a, b, c, d⟩ := sh_all h
  exact ⟨a, by rw [pyT, PyData.showable]; exact b, by rw [pyT, PyData.leavesShort]; exact c, by rw [pyT, PyData.weight]; exact d⟩
theorem sh_lst {n w : Nat} {ts : List T} (h : ∀ t ∈ ts, SH n w t) : SH (n + 1) ((w + 1) * ts.length) (.lst ts) := by
  obtain ⟨a, b, c, d⟩ := sh_all h
  exact ⟨a, by rw [pyT, PyData.showable]; exact b, by rw [pyT, PyData.leavesShort]; exact c, by rw [pyT, PyData.weight]; exact d⟩
theorem reprW_sh {n w : Nat} {t : T} (h : SH n w t) (hn : n ≤ 20) (hw : w ≤ 100000) : ∃ s, reprW t = some (.str s) := by
  have f : (pyT t).shown.length ≤ sizeLine := by
    have h1 := PyData.shown_le 40 (by decide) (pyT t) h.ls
    have h2 : (40 + 2) * (pyT t).weight ≤ 42 * 100000 := Nat.mul_le_mul (by omega) (Nat.le_trans h.wt hw)
    rw [sizeLine_eq]
    omega
  have go : ∀ {t : T}, SH n w t → (pyT t).shown.length ≤ sizeLine → seqT t = true → atomT t = none → ∃ s, reprW t = some (.str s) := fun {t} h f hs ha => by
    have pl : plain t = true := plT_mono hn h.pl
    refine ⟨(pyT t).shown, ?_⟩
    have e : reprT t = some (.str (pyT t).shown) := by
      unfold reprT
      rw [hs, pl, h.sh, decide_eq_true f]
      rfl
    unfold reprW
    rw [ha, e]
    rfl
  cases t with
  | non => exact ⟨_, rfl⟩
  | bl b => exact ⟨_, rfl⟩
  | int i =>
    have := h.sh
    simp only [pyT, PyData.showable, decide_eq_true_eq] at this
    have ha : ∃ s, atomT (.int i) = some s := ⟨_, if_pos this⟩
    obtain ⟨s, ha⟩ := ha
    exact ⟨s, by unfold reprW; rw [ha]⟩
  | str x =>
    have e : (pyT (.str x)).shown = reprText x := by rw [pyT, PyData.shown]
    rw [e] at f
    have ha : atomT (.str x) = some (reprText x) := if_pos f
    exact ⟨reprText x, by unfold reprW; rw [ha]⟩
  | tup ts => exact go h f rfl rfl
  | lst ts => exact go h f rfl rfl
  | scr ts => exact go h f rfl rfl
  | dct ks vs => have := h.pl; cases n <;> cases this
  | cel k => have := h.pl; cases n <;> cases this
  | adr a => have := h.pl; cases n <;> cases this
  | glo x => have := h.pl; cases n <;> cases this
  | exo _ _ _ _ => have := h.pl; cases n <;> cases this
  | dtu _ _ => have := h.pl; cases n <;> cases this
/-- a thing that can be looked at and shown -/
structure Th (t : T) : Prop where
  ok : okT t = true
  tu : ∀ ts, t = .tup ts → ∀ u ∈ ts, okT u = true
  li : ∀ ts, t = .lst ts → ∀ u ∈ ts, okT u = true
  le : ∀ ts, (t = .tup ts ∨ t = .lst ts) → ts.length ≤ 100000
  sh : ∃ s, reprW t = some (.str s)
theorem th_of {n w : Nat} {t : T} (ok : okT t = true) (tu : ∀ ts, t = .tup ts → ∀ u ∈ ts, okT u = true) (li : ∀ ts, t = .lst ts → ∀ u ∈ ts, okT u = true) (le : ∀ ts, (t = .tup ts ∨ t = .lst ts) → ts.length ≤ 100000) (h : SH n w t) (hn : n ≤ 20) (hw : w ≤ 100000) : Th t := ⟨ok, tu, li, le, reprW_sh h hn hw⟩
theorem th_atom {t : T} (h : SH 0 100 t) (ok : okT t = true) (t1 : ∀ ts, t ≠ .tup ts) (t2 : ∀ ts, t ≠ .lst ts) : Th t := th_of ok (fun ts e => absurd e (t1 ts)) (fun ts e => absurd e (t2 ts)) (fun ts e => e.elim (fun e => absurd e (t1 ts)) fun e => absurd e (t2 ts)) h (by omega) (by omega)
theorem th_non : Th .non := th_atom sh_non rfl (by simp) (by simp)
theorem th_bl {b : Bool} : Th (.bl b) := th_atom sh_bl rfl (by simp) (by simp)
theorem th_int {i : Int} (h : i.natAbs < 10 ^ 12) : Th (.int i) := th_atom (sh_int h) rfl (by simp) (by simp)
theorem th_tup {n w : Nat} {ts : List T} (h : ∀ t ∈ ts, SH n w t ∧ okT t = true) (hn : n ≤ 19) (hw : (w + 1) * ts.length ≤ 100000) : Th (.tup ts) := th_of rfl (fun us e u hu => by cases e; exact (h u hu).2) (fun us e => by cases e) (fun us e => by
  rcases e with e | e <;> cases e
  exact Nat.le_trans (Nat.le_mul_of_pos_left _ (Nat.succ_pos w)) hw) (sh_tup fun t ht => (h t ht).1) (by omega) hw
theorem th_lst {n w : Nat} {ts : List T} (h : ∀ t ∈ ts, SH n w t ∧ okT t = true) (hn : n ≤ 19) (hw : (w + 1) * ts.length ≤ 100000) : Th (.lst ts) := th_of rfl (fun us e => by cases e) (fun us e u hu => by cases e; exact (h u hu).2) (fun us e => by
  rcases e with e | e <;> cases e
  exact Nat.le_trans (Nat.le_mul_of_pos_left _ (Nat.succ_pos w)) hw) (sh_lst fun t ht => (h t ht).1) (by omega) hw
theorem th_dct : Th (.dct ["a"] [.int 1]) := ⟨rfl, (by simp), (by simp), (by simp), _, reprW_dct1⟩
theorem th_tI {xs : List Int} (h : ∀ x ∈ xs, x.natAbs < 10 ^ 12) (hl : xs.length ≤ 900) : Th (tI xs) := th_tup (n := 0) (w := 100) (fun t ht => by
  obtain ⟨x, hx, rfl⟩ := List.mem_map.mp ht
  exact ⟨sh_int (h x hx), rfl⟩) (by omega) (by simp; omega)
theorem th_lI {xs : List Int} (h : ∀ x ∈ xs, x.natAbs < 10 ^ 12) (hl : xs.length ≤ 900) : Th (lI xs) := th_lst (n := 0) (w := 100) (fun t ht => by
  obtain ⟨x, hx, rfl⟩ := List.mem_map.mp ht
  exact ⟨sh_int (h x hx), rfl⟩) (by omega) (by simp; omega)
theorem sh_wide {i : Int} (h : i.natAbs < 10 ^ 32) : SH 0 110 (.int i) := by
  refine ⟨rfl, ?_, ?_, ?_⟩
  · rw [pyT, PyData.showable, decide_eq_true_eq]
    by_cases z : i.natAbs = 0
    · rw [z]; decide
    · exact (Nat.log2_lt z).mpr (Nat.lt_of_lt_of_le (Nat.lt_of_lt_of_le h (by decide : 10 ^ 32 ≤ 2 ^ 109)) (Nat.pow_le_pow_right (by decide) (by decide)))
  · rw [pyT, PyData.leavesShort, decide_eq_true_eq]
    have e := int_text_length_le10 (k := 32) (by decide) h
    show (Str.ofString (toString i)).length ≤ 40
    rw [PySem.ofString_length]
    omega
  · rw [pyT, PyData.weight]
    split
    · omega
    · rename_i hz
      have z : i.natAbs ≠ 0 := fun z => hz (by rw [Int.natAbs_eq_zero.mp z]; rfl)
      have : i.natAbs.log2 < 109 := (Nat.log2_lt z).mpr (Nat.lt_of_lt_of_le h (by decide : 10 ^ 32 ≤ 2 ^ 109))
      omega
section
variable {t : T} {c : Cs} {xs : List Int}
theorem rp_tS {l : List Nat} {N : Nat} (h : Tx N l) : RP 0 N (tS l) := ⟨h.ok, rfl, by
  show (PyData.str (sO l)).leavesShort 13 = true
  rw [PyData.leavesShort]
  refine List.all_eq_true.mpr fun n hn => ?_
  have := h.c n hn
  simp
  omega, by
  show (sO l).cps.size ≤ N
  simpa using h.l⟩
-- left out: words_e (d_in_words)
theorem shown_lc (ts : List T) (hk : ∀ t ∈ ts, okT t = true) (y : B) : lcL (gSet 1) dYes (dCall 3 d_is_within (dCons (dVar 1) (dCons (dC (.int 0)) (dCons (dC (.int 15)) dNil)))) [y, .un] ts c = .ok ((ts.map (inR 0 15)).map T.bl) c := by
  rw [List.map_map]
  refine lcL_map fun t ht => ?_
  have e := wi_any (a := 0) (b := 15) (c := c) (hk t ht)
  simp [lcTurn_e, e]
-- left out: shown_e (d_shown)
-- left out: shown_nt (d_shown)
-- left out: shown_no (d_shown)
end
theorem lwh_any {t : T} {c : Cs} (h : okT t = true) : d__law_whole [t] c = .ok (.bl (isInt t)) c := by
  have e : d__law_whole = d_is_whole := rfl
  rw [e]; exact wh_any h
theorem lwin_e {b : Int} {ts : List T} {y : B} {c : Cs} (h : ∀ t ∈ ts, okT t = true) : lcL (gSet 2) dYes (dAndV (dCall 1 d__law_whole (dCons (dVar 2) dNil)) (dChain leT ltT (dC (.int 0)) (dVar 2) (dVar 0))) [.val (.int b), y, .un] ts c = .ok (ts.map fun t => T.bl (inR 0 (b - 1) t)) c := lcL_map fun t ht => by
  have e := lwh_any (c := c) (h t ht)
  cases t with
  | int i =>
    rw [show isInt (.int i) = true from rfl] at e
    have q : (decide (0 ≤ i) && decide (i < b)) = inR 0 (b - 1) (.int i) := by
      unfold inR
      rw [Bool.eq_iff_iff]; simp; omega
    rw [← q]
    by_cases h2 : 0 ≤ i
    · simp [lcTurn_e, e, h2]
    · simp [lcTurn_e, e, h2]
  | _ => simp [lcTurn_e, e, isInt, inR]
theorem pwin_e {b : Int} {ts : List T} {y : B} {c : Cs} (h : ∀ t ∈ ts, okT t = true) : lcL (gSet 2) dYes (dCall 3 d_is_within (dCons (dVar 2) (dCons (dC (.int 0)) (dCons (d2 subT (dVar 0) (dC (.int 1))) dNil)))) [.val (.int b), y, .un] ts c = .ok (ts.map fun t => T.bl (inR 0 (b - 1) t)) c := lcL_map fun t ht => by
  have e := wi_any (a := 0) (b := b - 1) (c := c) (h t ht)
  simp [lcTurn_e, e]
theorem all_inR {b : Int} {ts : List T} : allT (.lst (ts.map fun t => T.bl (inR 0 (b - 1) t))) = some (.bl (ts.all (inR 0 (b - 1)))) := by
  have := allT_bls (bs := ts.map (inR 0 (b - 1)))
  rw [List.map_map] at this
  rw [show (ts.map fun t => T.bl (inR 0 (b - 1) t)) = ts.map (T.bl ∘ inR 0 (b - 1)) from rfl, this]
  simp
theorem inR_ints {a b : Int} : ∀ {ts : List T}, ts.all (inR a b) = true → ∃ xs : List Int, ts = xs.map T.int ∧ ∀ x ∈ xs, a ≤ x ∧ x ≤ b
  | [], _ => ⟨[], rfl, by simp⟩
  | t :: ts, h => by
    rw [List.all_cons, Bool.and_eq_true] at h
    obtain ⟨xs, rfl, hx⟩ := inR_ints h.2
    cases t with
    | int i =>
      have h1 := h.1
      unfold inR at h1
      simp at h1
      exact ⟨i :: xs, rfl, fun x hm => by
        rcases List.mem_cons.mp hm with rfl | hm
        · exact h1
        · exact hx x hm⟩
    | _ => exact absurd h.1 (by simp [inR])
def Pen (c : Cs) (n : Nat) : Prop := ∃ l s : Int, c[n]? = some [.int l, .int s] ∧ 0 ≤ l ∧ (s = 0 ∨ s = 1)
theorem Pen.lt {c : Cs} {n : Nat} (h : Pen c n) : n < c.length := by
  obtain ⟨l, s, e, _⟩ := h
  exact (List.getElem?_eq_some_iff.mp e).1
theorem pen_e {l : Int} {c : Cs} : WP (d__law_pen [.int l] c) fun t c' => ∃ n, t = .cel n ∧ Pen c' n := by
  refine WP_of_eq (a := .cel c.length) (c := c ++ [[.int (if 0 - l > l then 0 - l else l), .int (if (if 0 - l > l then 0 - l else l) ≥ 10 ^ 18 then 1 else 0)]]) ?_ ?_
  · unfold d__law_pen b__law_pen
    simp [runF_e, entE]
  · exact ⟨_, rfl, _, _, by rw [List.getElem?_append_right (Nat.le_refl _), Nat.sub_self]; rfl, by split <;> omega, b01⟩
theorem draw_e {c : Cs} {n : Nat} {k : Int} (h : Pen c n) (h0 : 0 < k) (h1 : k < 2 ^ 200) : WP (d__law_draw [.cel n, .int k] c) fun t c' => (∃ r, t = .int r ∧ 0 ≤ r ∧ r < k) ∧ Pen c' n := by
  have hn : ∀ x, (c.set n x)[n]? = some x := fun x => List.getElem?_set_self h.lt
  obtain ⟨l, s, hc, hl, hs⟩ := h
  have e : divOk k = true := divOk_i ⟨h0, h1⟩
  unfold d__law_draw b__law_draw
  rcases hs with rfl | rfl
  · have hm : ∀ x : Int, mulOk (x % 2147483629) (x % 2147483629) = true := fun x => mulOk_l (by omega)
    have hr : ∀ x : Int, mulOk x 69621 = true := fun x => mulOk_r (by omega)
    have hr2 : ∀ x : Int, mulOk x 48271 = true := fun x => mulOk_r (by omega)
    have hd : divOk 32 = true := divOk_i (by omega)
    simp [runF_e, entE, hc, atI, ixN, hm, hr, hr2, putAt, h0, hn, hd]
    refine ⟨⟨Int.emod_nonneg _ (by omega), Int.emod_lt_of_pos _ h0⟩, ?_⟩
    exact ⟨_, _, hn _, by omega, .inl rfl⟩
  · simp [runF_e, entE, hc, atI, ixN, e, putAt, hn]
    refine ⟨⟨Int.emod_nonneg _ (by omega), Int.emod_lt_of_pos _ h0⟩, ?_⟩
    exact ⟨_, _, hn _, Int.ediv_nonneg hl (by omega), .inr rfl⟩
/-- numbers drawn in a comprehension -/
theorem draws_e {n : Nat} {b : Int} {g : DG} {d : D} {r : Env} (hd : ∀ t c, Pen c n → WP (lcTurn g dYes d r t c) fun o c' => (∃ x : Int, o = some (.int x) ∧ 0 ≤ x ∧ x < b) ∧ Pen c' n) : ∀ (ts : List T) (c : Cs), Pen c n →
    WP (lcL g dYes d r ts c) fun ys c' => (∃ xs : List Int, ys = xs.map .int ∧ xs.length = ts.length ∧ ∀ x ∈ xs, 0 ≤ x ∧ x < b) ∧ Pen c' n
  | [], c, h => WP_of_eq rfl ⟨⟨[], rfl, rfl, by simp⟩, h⟩
  | t :: ts, c, h => by
    rw [lcL_cons]
    refine WP_bind.mpr (WP.mono (WP_noErr (hd t c h)) fun o c1 ⟨⟨x, e, hx⟩, h1⟩ => ?_)
    subst e
    refine WP_bind.mpr (WP.mono (draws_e hd ts c1 h1) fun ys c2 ⟨⟨xs, e, hl, hxs⟩, h2⟩ => ?_)
    subst e
    refine WP_of_eq rfl ⟨⟨x :: xs, rfl, by simp [hl], fun y hy => ?_⟩, h2⟩
    rcases List.mem_cons.mp hy with rfl | hy
    · exact hx
    · exact hxs y hy
theorem cell_e {ns : List Int} {i : Nat} : ∃ l : Int, ∀ c, d__law_cell [.scr (ns.map .int), .int i] c = .ok (.int l) c := by
  unfold d__law_cell b__law_cell
  by_cases h : i < ns.length
  · refine ⟨ns[i], fun c => ?_⟩
    simp [runF_e, entE, h, atI, ixN]
  · refine ⟨0, fun c => ?_⟩
    simp [runF_e, entE, h]
/-- the cells that a law takes of its script -/
abbrev dCells (m : Int) : DI := dIt (dFrz (dF2 catT (dFrz (dLst (dCons (dCall 2 d__law_cell (dCons (dVar 0) (dCons (dC (.int 0)) dNil))) dNil))) (dFrz (dSlL (dVar 0) (dPart (dC (.int 1))) (dPart (dC (.int m)))))))
structure Sc (S : List T) (ns : List Int) : Prop where
  eq : S = ns.map T.int
  le : ns.length ≤ 63
theorem cells_e {S : List T} {ns : List Int} {m : Int} {r : Env} {c : Cs} (h : Sc S ns) (h0 : r[0]? = some (.val (.scr S))) : ∃ is : List Int, dCells m r c = .ok (is.map T.int) c := by
  obtain ⟨l0, hc⟩ := cell_e (ns := ns) (i := 0)
  obtain ⟨ys, hy, hl⟩ := cut_map (f := T.int) (xs := ns) (a := some 1) (b := some m)
  have hle := h.le
  rw [← h.eq] at hc hy
  have e1 : 1 + ys.length ≤ 1000000 := by omega
  refine ⟨l0 :: ys, ?_⟩
  have hc' : d__law_cell [.scr S, .int 0] c = .ok (.int l0) c := hc c
  simp [dCells, h0, hc', hy, e1]
/-- the law's last loop -/
theorem last_e {S : List T} {ns : List Int} {m : Int} {k : Nat} {vs : List Nat} {body : DS} {r : Env} {c : Cs} (h : Sc S ns) (h0 : r[0]? = some (.val (.scr S))) (hk : k < r.length) (ht : ∀ (i : Int) (c : Cs), WP (body (r.set k (.val (.int i))) c) fun fl _ => fl = .nxt r) :
    WP (dSeq (dWipe vs (dFor (dCells m) (gSet k) body)) (dRet (dC (.bl true))) r c) fun fl _ => fl = .ret (.bl true) := by
  obtain ⟨is, e⟩ := cells_e (m := m) (c := c) h h0
  rw [dSeq_e, dWipe_e, dFor_e, e, bind_ok, bind_bind, WP_bind]
  refine WP_forI (fun r' _ => r' = r) rfl ?_ ?_
  · rintro t ht' r' c' rfl
    obtain ⟨i, _, rfl⟩ := List.mem_map.mp ht'
    exact ⟨_, if_pos hk, (ht i c').mono fun fl c h => ⟨_, h, rfl⟩⟩
  · rintro r' c' rfl
    simp
theorem law_from (ns : List Int) (h : ns.length ≤ 63) (hw : ∀ (S : List T), Sc S ns → WP (d_law [T.scr S] []) fun t _ => t = .bl true) : ∃ c, d_law [T.scr (ns.map T.int)] [] = .ok (.bl true) c :=
  (hw _ ⟨rfl, h⟩).law
/-- .. with something ahead of it -/
theorem first_last {S : List T} {ns : List Int} {m : Int} {k : Nat} {vs : List Nat} {body a : DS} {r r0 : Env} {c c0 : Cs} (h : Sc S ns) (ha : a r0 c0 = .ok (.nxt r) c) (h0 : r[0]? = some (.val (.scr S))) (hk : k < r.length) (ht : ∀ (i : Int) (c : Cs), WP (body (r.set k (.val (.int i))) c) fun fl _ => fl = .nxt r) :
    WP (dSeq a (dSeq (dWipe vs (dFor (dCells m) (gSet k) body)) (dRet (dC (.bl true)))) r0 c0) fun fl _ => fl = .ret (.bl true) := by
  rw [dSeq_e, ha, bind_ok, fseq_nxt]
  exact last_e h h0 hk ht
theorem first2_last {S : List T} {ns : List Int} {m : Int} {k : Nat} {vs : List Nat} {body a b : DS} {r r0 r1 : Env} {c c0 c1 : Cs} (h : Sc S ns) (ha : a r0 c0 = .ok (.nxt r1) c1) (hb : b r1 c1 = .ok (.nxt r) c) (h0 : r[0]? = some (.val (.scr S))) (hk : k < r.length) (ht : ∀ (i : Int) (c : Cs), WP (body (r.set k (.val (.int i))) c) fun fl _ => fl = .nxt r) :
    WP (dSeq a (dSeq b (dSeq (dWipe vs (dFor (dCells m) (gSet k) body)) (dRet (dC (.bl true))))) r0 c0) fun fl _ => fl = .ret (.bl true) := by
  rw [dSeq_e, ha, bind_ok, fseq_nxt]
  exact first_last h hb h0 hk ht
theorem law_run {n : Nat} {ds : DS} {ts : List T} {c : Cs} (h : WP (ds (entE n ts) c) fun fl _ => fl = .ret (.bl true)) : WP (runF n ds ts c) fun t _ => t = .bl true := by
  rw [runF_e, WP_bind]
  exact h.mono fun fl c e => by rw [e]; simp
theorem bound_e {c : Cs} {n : Nat} (h : Pen c n) : WP (d__law_bound [.cel n] c) fun t c' => (∃ b, t = .int b ∧ 2 ≤ b ∧ b ≤ 16) ∧ Pen c' n := by
  unfold d__law_bound b__law_bound
  simp [runF_e, entE]
  refine WP.mono (draw_e h (k := 16) (by omega) (by omega)) ?_
  rintro t c' ⟨⟨r, rfl, h1, h2⟩, h3⟩
  have : r = 0 ∨ r = 1 ∨ r = 2 ∨ r = 3 ∨ r = 4 ∨ r = 5 ∨ r = 6 ∨ r = 7 ∨ r = 8 ∨ r = 9 ∨ r = 10 ∨ r = 11 ∨ r = 12 ∨ r = 13 ∨ r = 14 ∨ r = 15 := by omega
  rcases this with rfl | rfl | rfl | rfl | rfl | rfl | rfl | rfl | rfl | rfl | rfl | rfl | rfl | rfl | rfl | rfl <;> simp [atI, ixN, h3]
/-- drawn in any order: each number below b once -/
theorem order_e {c : Cs} {n : Nat} {b : Int} (h : Pen c n) (h0 : 0 ≤ b) (h1 : b ≤ 1000) : WP (d__law_order [.cel n, .int b] c) fun t c' => (∃ xs, t = tI xs ∧ xs.Perm (rgI 0 b)) ∧ Pen c' n := by
  unfold d__law_order b__law_order
  rw [runF_e, WP_bind]
  simp [entE, rgOk_p (a := 0) (b := b) (by omega) (by omega) (by omega) (by omega)]
  refine WP_forL (fun pre r c => Pen c n ∧ ∃ xs js : List Int, pre = js.map T.int ∧ xs.Perm js ∧ r = [.val (.cel n), .val (.int b), .own (xs.map .int), .un]) ⟨h, [], [], rfl, .refl _, rfl⟩ ?_ ?_
  · rintro pre t post r c1 e ⟨hp, xs, js, rfl, hpm, rfl⟩
    obtain ⟨js', x, bb, e2, e3, rfl, _⟩ := ints_split e
    have := map_int_inj e3
    subst this
    obtain ⟨ex, ejs, hx0, hx1⟩ := rgI_split e2
    have hlen := hpm.length_eq
    refine ⟨_, rfl, ?_⟩
    simp [w__law_order_1]
    refine (draw_e hp (by omega) (by omega)).mono ?_
    rintro _ c2 ⟨⟨k, rfl, k1, k2⟩, p2⟩
    simp (disch := first | omega | (simp; done) | (simp; omega))
    refine ⟨p2, xs.take k.toNat ++ x :: xs.drop k.toNat, js ++ [x], by simp, ?_, by simp⟩
    refine List.perm_middle.trans ?_
    rw [List.take_append_drop]
    exact (List.Perm.cons x hpm).trans (List.perm_append_comm (l₁ := [x]))
  · rintro r c1 ⟨hp, xs, js, e, hpm, rfl⟩
    have := map_int_inj e
    subst this
    simp
    exact ⟨⟨xs, rfl, hpm⟩, hp⟩
theorem fn_perm {b : Int} {xs : List Int} (h : xs.Perm (rgI 0 b)) : Fn b xs := ⟨by rw [h.length_eq, rgI_len]; simp, fun x hx => mem_rgI.mp (h.mem_iff.mp hx)⟩
/-- a row of numbers below b, the last one not 0 -/
def Po (b : Int) (xs : List Int) : Prop := (∀ x ∈ xs, 0 ≤ x ∧ x < b) ∧ xs.getLast? ≠ some 0
/-- noughts behind taken away -/
def trim (xs : List Int) : List Int := (xs.reverse.dropWhile (· == 0)).reverse
theorem trim_snoc {xs : List Int} {x : Int} : trim (xs ++ [x]) = if x = 0 then trim xs else xs ++ [x] := by
  unfold trim
  rw [List.reverse_append, List.reverse_singleton, List.singleton_append, List.dropWhile_cons]
  by_cases h : x = 0
  · simp [h]
  · simp [h]
theorem trim_nil : trim [] = [] := rfl
theorem trim_last (xs : List Int) : (trim xs).getLast? ≠ some 0 := by
  rcases List.eq_nil_or_concat xs with rfl | ⟨zs, z, rfl⟩
  · simp [trim]
  · rw [List.concat_eq_append, trim_snoc]
    split
    · exact trim_last zs
    · simpa using ‹¬ z = 0›
termination_by xs.length
decreasing_by simp_all
theorem trim_pre (xs : List Int) : ∃ k, xs = trim xs ++ List.replicate k 0 := by
  rcases List.eq_nil_or_concat xs with rfl | ⟨zs, z, rfl⟩
  · exact ⟨0, rfl⟩
  · rw [List.concat_eq_append, trim_snoc]
    split
    · rename_i hz
      subst hz
      obtain ⟨k, hk⟩ := trim_pre zs
      refine ⟨k + 1, ?_⟩
      rw [List.replicate_succ', ← List.append_assoc, ← hk]
    · exact ⟨0, by simp⟩
termination_by xs.length
decreasing_by simp_all
theorem trim_mem {xs : List Int} {x : Int} (h : x ∈ trim xs) : x ∈ xs := by
  obtain ⟨k, hk⟩ := trim_pre xs
  rw [hk]; exact List.mem_append_left _ h
theorem trim_len (xs : List Int) : (trim xs).length ≤ xs.length := by
  obtain ⟨k, hk⟩ := trim_pre xs
  have := congrArg List.length hk
  simp at this
  omega
theorem trim_id {xs : List Int} (h : xs.getLast? ≠ some 0) : trim xs = xs := by
  rcases List.eq_nil_or_concat xs with rfl | ⟨zs, z, rfl⟩
  · rfl
  · rw [List.concat_eq_append] at h ⊢
    rw [trim_snoc, if_neg (by simpa using h)]
theorem trim_take (xs : List Int) : xs.take (trim xs).length = trim xs := by
  obtain ⟨k, hk⟩ := trim_pre xs
  have h : (trim xs ++ List.replicate k 0).take (trim xs).length = trim xs := by simp
  rwa [← hk] at h
theorem trim_noughts {xs : List Int} (k : Nat) : trim (xs ++ List.replicate k 0) = trim xs := by
  induction k with
  | zero => simp
  | succ k ih => rw [List.replicate_succ', ← List.append_assoc, trim_snoc, if_pos rfl, ih]
/-- the row of rests -/
def rst (b : Int) (xs : List Int) : List Int := trim (xs.map (· % b))
theorem po_rst {b : Int} {xs : List Int} (h : 0 < b) : Po b (rst b xs) := by
  refine ⟨fun x hx => ?_, trim_last _⟩
  obtain ⟨y, _, rfl⟩ := List.mem_map.mp (trim_mem hx)
  exact ⟨Int.emod_nonneg _ (by omega), Int.emod_lt_of_pos _ h⟩
theorem rst_len {b : Int} (xs : List Int) : (rst b xs).length ≤ xs.length := by
  have := trim_len (xs.map (· % b))
  rw [List.length_map] at this
  exact this
theorem rst_id {b : Int} {xs : List Int} (h : Po b xs) : rst b xs = xs := by
  unfold rst
  have e : xs.map (· % b) = xs := by
    conv => rhs; rw [← List.map_id xs]
    exact List.map_congr_left fun x hx => Int.emod_eq_of_lt (h.1 x hx).1 (h.1 x hx).2
  rw [e, trim_id h.2]
theorem poly_e {c : Cs} {n : Nat} {b m : Int} (h : Pen c n) (h0 : 0 < b) (h1 : b ≤ 1000) (h2 : 0 ≤ m) (h3 : m ≤ 1000) :
    WP (d__law_poly [.cel n, .int b, .int m] c) fun t c' => (∃ xs, t = tI xs ∧ Po b xs ∧ (xs.length : Int) ≤ m) ∧ Pen c' n := by
  unfold d__law_poly b__law_poly
  rw [runF_e, WP_bind]
  simp [entE]
  refine (draw_e h (by omega) (by omega)).mono ?_
  rintro _ c1 ⟨⟨k, rfl, k1, k2⟩, p1⟩
  have hk : k ≤ 1000000 := by omega
  simp [rgOk_p (a := 0) (b := k) (by omega) (by omega) (by omega) hk, hk]
  refine ((draws_e (n := n) (b := b) (fun t c' hp => ?_) _ c1 p1).mono ?_)
  · simp [lcTurn_e, wipeE]
    refine (draw_e hp h0 (by omega)).mono ?_
    rintro _ c2 ⟨⟨x, rfl, x1, x2⟩, p2⟩
    simp [x1, x2, p2]
  rintro _ c2 ⟨⟨xs, rfl, hlx, hx⟩, p2⟩
  have hlm : (xs.length : Int) ≤ m := by rw [hlx, List.length_map, rgI_length]; omega
  refine WP_while (fun r c' => c' = c2 ∧ ∃ ys k, r = [.un, .un, .un, .own (ys.map .int), .un] ∧ xs = ys ++ List.replicate k 0)
    (fun r _ => match r with | [_, _, _, .own ys, _] => ys.length | _ => 0) ⟨rfl, xs, 0, rfl, by simp⟩ (by simp [turns]; omega) ?_
  rintro r c3 ⟨rfl, ys, k, rfl, hxs⟩
  rcases List.eq_nil_or_concat ys with rfl | ⟨zs, z, rfl⟩
  · simp
    exact ⟨⟨by simp [Po], h2⟩, p2⟩
  · rw [List.concat_eq_append] at *
    by_cases h5 : z = 0
    · subst h5
      simp [w__law_poly_1]
      exact ⟨zs, rfl, k + 1, by rw [hxs, List.replicate_succ, List.append_assoc]; rfl⟩
    · simp [h5]
      refine ⟨⟨zs ++ [z], by simp, ⟨fun x hm => hx x (by rw [hxs]; exact List.mem_append_left _ hm), by simpa using h5⟩, ?_⟩, p2⟩
      rw [hxs] at hlm
      simp at hlm ⊢
      omega
theorem lworths_e {b : Int} {xs : List Int} {c : Cs} (h0 : 0 < b) (h1 : b ≤ 1000) : d__law_worths [.int b, tI xs] c = .ok (tI (wor b xs)) c := by
  have e : forL (gSet 3) w__law_worths_2 ((rgI 0 b).map T.int) [.val (.int b), .val (tI xs), .own [], .un, .un, .un] c = .ok (.nxt [.val (.int b), .val (tI xs), .own ((wor b xs).map T.int), .un, .un, .un]) c := by
    refine forL_pre (fun pre => [.val (.int b), .val (tI xs), .own ((pre.map fun x => ev x xs % b).map T.int), .un, .un, .un]) rfl fun pre x post e => ⟨_, rfl, ?_⟩
    obtain ⟨ex, _, hx0, hx1⟩ := rgI_split e
    have e2 : ∀ M, forL (gSet 5) w__law_worths_1 (xs.reverse.map T.int) [.val (.int b), .val (tI xs), .own M, .val (.int x), .val (.int 0), .un] c = .ok (.nxt [.val (.int b), .val (tI xs), .own M, .val (.int x), .val (.int (horL b x xs.reverse)), .un]) c := by
      intro M
      refine forL_pre (fun pre => [.val (.int b), .val (tI xs), .own M, .val (.int x), .val (.int (horL b x pre)), .un]) rfl fun pre y post e => ⟨_, rfl, ?_⟩
      have := horL_lt (x := x) (xs := pre) h0
      simp (disch := first | omega | (simp; done) | (simp; omega)) [w__law_worths_1, horL_snoc]
    have hl : pre.length < 1000000 := by omega
    rw [horL_ev h0, List.map_reverse] at e2
    simp (disch := first | omega | (simp; done) | (simp; omega)) [w__law_worths_2, e2]
  unfold d__law_worths b__law_worths
  simp [runF_e, entE, rgOk_p (a := 0) (b := b) (by omega) (by omega) (by omega) (by omega), e]
theorem fn_patch {b x a : Int} {xs : List Int} (h : Fn b xs) (ha : 0 ≤ a ∧ a < b) (hx : 0 ≤ x ∧ x < b) : Fn b (xs.take a.toNat ++ x :: xs.drop (a + 1).toNat) := by
  obtain ⟨h1, h2⟩ := h
  refine ⟨by simp; omega, fun y hy => ?_⟩
  rcases List.mem_append.mp hy with hy | hy
  · exact h2 y (List.mem_of_mem_take hy)
  · rcases List.mem_cons.mp hy with rfl | hy
    · exact hx
    · exact h2 y (List.mem_of_mem_drop hy)
theorem lawfn_e {c : Cs} {n : Nat} {b : Int} (h : Pen c n) (h0 : 2 ≤ b) (h1 : b ≤ 1000) : WP (d__law_function [.cel n, .int b] c) fun t c' => (∃ xs, t = tI xs ∧ Fn b xs) ∧ Pen c' n := by
  have many : ∀ (few : Int) (c : Cs) (r : Env), Pen c n → 0 < few → few ≤ b → r[0]? = some (.val (.cel n)) → r[5]? = some (.val (.int few)) → r.length = 7 →
      WP (lcL (gSet 6) dYes (dCall 2 d__law_draw (dCons (dVar 0) (dCons (dVar 5) dNil))) (r.set 6 .un) ((rgI 0 b).map T.int) c) fun ys c' => (∃ xs, ys = xs.map T.int ∧ Fn b xs) ∧ Pen c' n := by
    intro few c r hp f0 f1 r0 r5 rl
    refine (draws_e (n := n) (b := few) (fun t c' hp => ?_) _ c hp).mono ?_
    · have w0 : ∀ t, ((r.set 6 .un).set 6 t)[0]? = some (.val (.cel n)) := fun t => by
        simp [List.getElem?_set, r0]
      have w5 : ∀ t, ((r.set 6 .un).set 6 t)[5]? = some (.val (.int few)) := fun t => by
        simp [List.getElem?_set, r5]
      have w6 : 6 < (r.set 6 B.un).length := by rw [List.length_set]; omega
      simp only [lcTurn_e, gSet_e, if_pos w6, dYes_e, bind_ok, if_true, dCall_e, dCons_e, dNil_e, dVar_e, w0, w5]
      simp
      refine (draw_e hp f0 (by omega)).mono ?_
      rintro _ c2 ⟨⟨x, rfl, x1, x2⟩, p2⟩
      simp [x1, x2, p2]
    · rintro _ c2 ⟨⟨xs, rfl, hlx, hx⟩, p2⟩
      refine ⟨⟨xs, rfl, by rw [hlx, List.length_map, rgI_length]; simp, fun x hm => ?_⟩, p2⟩
      have := hx x hm
      omega
  have hr : rgOk 0 b = true := rgOk_p (by omega) (by omega) (by omega) (by omega)
  have hb : b ≤ 1000000 := by omega
  unfold d__law_function b__law_function
  rw [runF_e, WP_bind]
  simp [entE]
  refine (draw_e h (by omega) (by omega)).mono ?_
  rintro _ c1 ⟨⟨w, rfl, w1, w2⟩, p1⟩
  have hw : w = 0 ∨ w = 1 ∨ w = 2 ∨ w = 3 ∨ w = 4 ∨ w = 5 := by omega
  rcases hw with rfl | rfl | rfl | rfl | rfl | rfl
  · try simp
    refine (order_e p1 (by omega) h1).mono ?_
    rintro _ c2 ⟨⟨xs, rfl, hx⟩, p2⟩
    exact ⟨⟨xs, rfl, fn_perm hx⟩, p2⟩
  · try simp
    refine (order_e p1 (by omega) h1).mono ?_
    rintro _ c2 ⟨⟨xs, rfl, hx⟩, p2⟩
    exact ⟨⟨xs, rfl, fn_perm hx⟩, p2⟩
  · try simp
    refine (poly_e p1 (by omega) h1 (by omega) (by omega)).mono ?_
    rintro _ c2 ⟨⟨xs, rfl, -, -⟩, p2⟩
    simp [lworths_e (b := b) (xs := xs) (c := c2) (by omega) h1]
    exact ⟨⟨_, rfl, fn_wor (by omega)⟩, p2⟩
  · try simp
    refine (order_e p1 (by omega) h1).mono ?_
    rintro _ c2 ⟨⟨xs, rfl, hx⟩, p2⟩
    try simp
    refine (draw_e p2 (by omega) (by omega)).mono ?_
    rintro _ c3 ⟨⟨a, rfl, a1, a2⟩, p3⟩
    try simp
    refine (draw_e p3 (by omega) (by omega)).mono ?_
    rintro _ c4 ⟨⟨x, rfl, x1, x2⟩, p4⟩
    have hx := fn_perm hx
    have hlx := hx.1
    have q := fn_patch hx ⟨a1, a2⟩ ⟨x1, x2⟩
    rw [cut_lo a1, cut_hi (a := a + 1) (by omega)]
    have z1 : (xs.take a.toNat).length ≤ 1000 := by rw [List.length_take]; omega
    have z2 : (xs.drop (a + 1).toNat).length ≤ 1000 := by rw [List.length_drop]; omega
    generalize xs.take a.toNat = L at *
    generalize xs.drop (a + 1).toNat = R at *
    have z3 : L.length ≤ 999999 := by omega
    have z4 : L.length + 1 + R.length ≤ 1000000 := by omega
    simp [z3, z4]
    exact ⟨⟨_, by simp, q⟩, p4⟩
  · simp [hr, hb, atI, ixN]
    refine (many b c1 [.val (.cel n), .val (.int b), .un, .un, .un, .val (.int b), .un] p1 (by omega) (Int.le_refl _) rfl rfl rfl).mono ?_
    rintro _ c2 ⟨⟨xs, rfl, hx⟩, p2⟩
    exact ⟨⟨xs, rfl, hx⟩, p2⟩
  · simp [hr, hb, atI, ixN]
    refine (many 2 c1 [.val (.cel n), .val (.int b), .un, .un, .un, .val (.int 2), .un] p1 (by omega) h0 rfl rfl rfl).mono ?_
    rintro _ c2 ⟨⟨xs, rfl, hx⟩, p2⟩
    exact ⟨⟨xs, rfl, hx⟩, p2⟩
/-- odd things -/
theorem odd_e {c : Cs} {n : Nat} (h : Pen c n) : WP (d__law_odd [.cel n] c) fun t c' => Th t ∧ Pen c' n := by
  unfold d__law_odd b__law_odd
  simp [runF_e, entE]
  refine WP.mono (draw_e h (k := 16) (by omega) (by omega)) ?_
  rintro t c' ⟨⟨r, rfl, h1, h2⟩, h3⟩
  have i0 : SH 0 100 (.int 0) := sh_int (by omega)
  have i1 : SH 0 100 (.int 1) := sh_int (by omega)
  have e0 : SH 1 0 (.tup []) := sh_tup (n := 0) (w := 100) (ts := []) (by simp)
  have t0 : SH 1 101 (.tup [.int 0]) := sh_tup (n := 0) (w := 100) (ts := [.int 0]) (by simpa using i0)
  have : r = 0 ∨ r = 1 ∨ r = 2 ∨ r = 3 ∨ r = 4 ∨ r = 5 ∨ r = 6 ∨ r = 7 ∨ r = 8 ∨ r = 9 ∨ r = 10 ∨ r = 11 ∨ r = 12 ∨ r = 13 ∨ r = 14 ∨ r = 15 := by omega
  rcases this with rfl | rfl | rfl | rfl | rfl | rfl | rfl | rfl | rfl | rfl | rfl | rfl | rfl | rfl | rfl | rfl <;> simp [atI, ixN, h3]
  · exact th_non
  · exact th_bl
  · exact th_bl
  · exact th_int (by omega)
  · exact th_atom sh_s1 rfl (by simp) (by simp)
  · exact th_atom sh_s rfl (by simp) (by simp)
  · exact th_tI (xs := []) (by simp) (by simp)
  · exact th_lI (xs := []) (by simp) (by simp)
  · exact th_tI (xs := [0]) (by simp) (by simp)
  · exact th_lI (xs := [0]) (by simp) (by simp)
  · exact th_dct
  · exact th_tI (xs := [0, 1]) (by simp) (by simp)
  · exact th_atom sh_big rfl (by simp) (by simp)
  · exact th_tup (n := 1) (w := 100) (ts := [.int 0, .tup []]) (fun t ht => by
      simp at ht
      rcases ht with rfl | rfl
      · exact ⟨i0.mono (by omega) (by omega), rfl⟩
      · exact ⟨e0.mono (by omega) (by omega), rfl⟩) (by omega) (by simp)
  · exact th_tup (n := 1) (w := 100) (ts := [.tup []]) (fun t ht => by
      simp at ht
      subst ht
      exact ⟨e0.mono (by omega) (by omega), rfl⟩) (by omega) (by simp)
  · exact th_tup (n := 1) (w := 101) (ts := [.tup [.int 0]]) (fun t ht => by
      simp at ht
      subst ht
      exact ⟨t0, rfl⟩) (by omega) (by simp)
theorem same_rp {n w : Nat} {t : T} {c : Cs} (h : RP n w t) (hn : n ≤ 20) (hw : w ≤ 2 ^ 20) : d__law_same [t, t] c = .ok (.bl true) c := by
  obtain ⟨s, e⟩ := reprW_rp h hn hw
  unfold d__law_same b__law_same
  simp [runF_e, entE, e]
theorem same_tI {xs : List Int} {c : Cs} (h : ∀ x ∈ xs, x.natAbs < 10 ^ 12) (hl : xs.length ≤ 1000) : d__law_same [tI xs, tI xs] c = .ok (.bl true) c := same_rp (rp_tI h) (by omega) (by omega)
theorem same_lI {xs : List Int} {c : Cs} (h : ∀ x ∈ xs, x.natAbs < 10 ^ 12) (hl : xs.length ≤ 1000) : d__law_same [lI xs, lI xs] c = .ok (.bl true) c := same_rp (rp_lI h) (by omega) (by omega)
/-- no bound -/
def NB (t : T) : Prop := ∀ c, d_need_bound [t] c = .err ⟨"NoBound", []⟩ c
theorem nb_nw {t : T} (h : NW t) : NB t := fun c => by
  have e := wi_nw (a := .int 2) (b := .int 16) (c := c) h
  unfold d_need_bound b_need_bound
  simp [runF_e, entE, e]
theorem nb_int {i : Int} (h : i < 2 ∨ 16 < i) : NB (.int i) := fun c => by
  have e := isw (k := i) (a := 2) (b := 16) (c := c)
  have e2 : (decide (2 ≤ i) && decide (i ≤ 16)) = false := by rcases h with h | h <;> simp <;> omega
  rw [e2] at e
  unfold d_need_bound b_need_bound
  simp [runF_e, entE, e]
theorem nob_e {c : Cs} {n : Nat} (h : Pen c n) : WP (d__law_no_bound [.cel n] c) fun t c' => NB t ∧ Pen c' n := by
  unfold d__law_no_bound b__law_no_bound
  simp [runF_e, entE]
  refine WP.mono (draw_e h (k := 12) (by omega) (by omega)) ?_
  rintro t c' ⟨⟨r, rfl, h1, h2⟩, h3⟩
  have : r = 0 ∨ r = 1 ∨ r = 2 ∨ r = 3 ∨ r = 4 ∨ r = 5 ∨ r = 6 ∨ r = 7 ∨ r = 8 ∨ r = 9 ∨ r = 10 ∨ r = 11 := by omega
  rcases this with rfl | rfl | rfl | rfl | rfl | rfl | rfl | rfl | rfl | rfl | rfl | rfl <;> simp [atI, ixN, h3]
  · exact nb_int (by omega)
  · exact nb_int (by omega)
  · exact nb_int (by omega)
  · exact nb_int (by omega)
  · exact nb_nw nw_non
  · exact nb_nw nw_bl
  · exact nb_nw nw_str
  · exact nb_nw nw_tup
  · exact nb_nw nw_lst
  · exact nb_int (by omega)
  · exact nb_nw nw_bl
  · exact nb_nw nw_dct
@[simp] theorem said_great {i j : Int} {c : Cs} : saidT (.err ⟨"TooGreat", [("most", .int j), ("many", .int i)]⟩ c) = .ok (.tup [.str "great", .int i, .int j]) c := (rfl)
@[simp] theorem said_list {i : Int} {c : Cs} : saidT (.err ⟨"NoList", [("at", .int i)]⟩ c) = .ok (.tup [.str "list", .int i]) c := (rfl)
@[simp] theorem said_text {i : Int} {c : Cs} : saidT (.err ⟨"NoText", [("at", .int i)]⟩ c) = .ok (.tup [.str "text", .int i]) c := (rfl)
theorem ne_great {i j : Int} : neT (.tup [.str "great", .int i, .int j]) (.tup [.str "great", .int i, .int j]) = some (.bl false) := by
  have h : PyData.strOk "great" = true := by decide +kernel
  simp [neT, plain, plT, eqD, pyT, pyTs, PyData.eqv, PyData.eqvAll, h]
theorem eq_great {i j : Int} : eqT (.tup [.str "great", .int i, .int j]) (.tup [.str "great", .int i, .int j]) = some (.bl true) := by
  have h : PyData.strOk "great" = true := by decide +kernel
  simp [eqT, plain, plT, eqD, pyT, pyTs, PyData.eqv, PyData.eqvAll, h]
theorem ne_list {i : Int} : neT (.tup [.str "list", .int i]) (.tup [.str "list", .int i]) = some (.bl false) := by
  have h : PyData.strOk "list" = true := by decide +kernel
  simp [neT, plain, plT, eqD, pyT, pyTs, PyData.eqv, PyData.eqvAll, h]
theorem at0 {t : T} {r : List T} {c : Cs} : ixT c (.tup (t :: r)) (.int 0) = some t := by
  have := atI_map (u := id) (xs := t :: r) (i := 0) (x := t) (by omega) rfl
  rw [List.map_id] at this
  exact this
section
variable {t : T} {c : Cs} {b : Int} {l : List Nat}
theorem ltext_e {xs : List Int} (h : ∀ x ∈ xs, 0 ≤ x ∧ x < 100) (hl : xs.length ≤ 100000) : d__law_text [tI xs] c = .ok (tS (rowW xs)) c := by
  have e := row_e (c := c) h hl
  unfold d__law_text b__law_text
  rw [runF_e, show entE 2 [tI xs] = [.val (tI xs), .un] from rfl, dRet_e, e]
  rfl
theorem nuS_ex {w : List Nat} (h1 : b ≤ 100) : (∃ x ∈ rgI 0 b, TL.numL x.toNat = w) ↔ ∃ n : Nat, nuS w = some n ∧ (n : Int) < b := by
  constructor
  · rintro ⟨x, hx, rfl⟩
    have hx' := mem_rgI.mp hx
    exact ⟨x.toNat, nuS_num (by omega), by omega⟩
  · rintro ⟨n, hn, hb⟩
    obtain ⟨rfl, _⟩ := nuS_inv hn
    exact ⟨n, mem_rgI.mpr ⟨by omega, hb⟩, by simp⟩
theorem plain_tS {N : Nat} (h : Tx N l) : plain (tS l) = true := h.ok
theorem nin_ws {w : List Nat} {N : Nat} (h1 : b ≤ 100) (hw : Tx N w) : ninT (tS w) (.lst ((rgI 0 b).map fun x => tS (TL.numL x.toNat))) = some (.bl (!decide (∃ n : Nat, nuS w = some n ∧ (n : Int) < b))) := by
  have p1 : plain (tS w) = true := hw.ok
  have p2 : plain (.lst ((rgI 0 b).map fun x => tS (TL.numL x.toNat))) = true := by
    unfold plain
    rw [plT]
    refine List.all_eq_true.mpr fun u hu => ?_
    obtain ⟨x, hx, rfl⟩ := List.mem_map.mp hu
    have hx' := mem_rgI.mp hx
    exact (numL_tx (n := x.toNat) (k := 2) (by omega) (by omega)).ok
  have e : inD (tS w) ((rgI 0 b).map fun x => tS (TL.numL x.toNat)) = decide (∃ n : Nat, nuS w = some n ∧ (n : Int) < b) := by
    rw [Bool.eq_iff_iff, decide_eq_true_eq, ← nuS_ex h1]
    unfold inD
    rw [List.any_map, List.any_eq_true]
    constructor
    · rintro ⟨x, hx, e⟩
      have e1 : (sO (TL.numL x.toNat) == sO w) = true := e
      exact ⟨x, hx, sO_inj (by simpa using e1)⟩
    · rintro ⟨x, hx, e⟩
      refine ⟨x, hx, ?_⟩
      show (sO (TL.numL x.toNat) == sO w) = true
      rw [e]
      exact beq_self_eq_true _
  simp only [ninT, inB]
  rw [p1, p2, e]
  rfl
theorem lread_loop {y1 y2 : B} (h0 : 2 ≤ b) (h1 : b ≤ 16) : ∀ (ws : List (List Nat)) (k : Nat) (acc : List Int), (∀ w ∈ ws, Tx 900 w) → acc.length + ws.length ≤ 1000 →
    forL (gTupl [(gSet 4), (gSet 5)]) w__law_read_1 ((ws.zipIdx k).map fun p => T.tup [.int (p.2 : Nat), tS p.1]) [.val (.int b), y1, y2, .own (acc.map T.int), .un, .un, .un] c =
      (match rdW b k ws with
      | .inl j => .ok (.ret (.int (j : Nat))) c
      | .inr xs => .ok (.nxt [.val (.int b), y1, y2, .own ((acc ++ xs).map T.int), .un, .un, .un]) c)
  | [], k, acc, _, _ => by simp [rdW]
  | w :: ws, k, acc, h, ha => by
    have hw := h w List.mem_cons_self
    have e := nin_ws (b := b) (by omega) hw
    rw [List.length_cons] at ha
    have ih := fun a => lread_loop (y1 := y1) (y2 := y2) h0 h1 ws (k + 1) (acc ++ [a]) (fun v hv => h v (List.mem_cons_of_mem _ hv)) (by rw [List.length_append, List.length_singleton]; omega)
    have lc : ∀ y4 y5 : B, lcL (gSet 6) dYes (d1 strT (dVar 6)) [.val (.int b), y1, y2, .own (acc.map T.int), y4, y5, .un] ((rgI 0 b).map T.int) c = .ok ((rgI 0 b).map fun x => tS (TL.numL x.toNat)) c := fun y4 y5 => by
      refine lcL_mapOf fun x hx => ?_
      have hx' := mem_rgI.mp hx
      have e : strT (.int x) = some (tS (TL.numL x.toNat)) := by rw [strT_int, if_pos (by simp; omega)]
      simp [lcTurn_e, -strT_int, e]
    have hr : rgOk 0 b = true := rgOk_p (by omega) (by omega) (by omega) (by omega)
    have stp : ∀ (r' : Env), w__law_read_1 [.val (.int b), y1, y2, .own (acc.map T.int), .val (.int (k : Nat)), .val (tS w), .un] c = (match nuS w with
        | some n => if (n : Int) < b then .ok (.nxt [.val (.int b), y1, y2, .own ((acc ++ [(n : Int)]).map T.int), .un, .un, .un]) c else .ok (.ret (.int (k : Nat))) c
        | none => .ok (.ret (.int (k : Nat))) c) := fun r' => by
      have al : (acc.map T.int).length < 1000000 := by simp; omega
      have ap : ∀ n : Int, (acc ++ [n]).map T.int = acc.map T.int ++ [T.int n] := fun n => List.map_append
      have iw : ∀ n, nuS w = some n → intST (tS w) = some (.int n) := fun n hn => by
        obtain ⟨rfl, h2⟩ := nuS_inv hn
        exact intS_num h2
      unfold w__law_read_1
      simp only [ap]
      generalize ((rgI 0 b).map fun x => tS (TL.numL x.toNat)) = NS at *
      generalize acc.map T.int = A at *
      generalize tS w = X at *
      have bb : b ≤ 1000000 := by omega
      cases hn : nuS w with
      | none =>
        rw [hn] at e
        simp [hr, bb, lc, e]
      | some n =>
        have iw' := iw n hn
        rw [hn] at e
        by_cases hb : (n : Int) < b
        · have : (∃ n' : Nat, some n = some n' ∧ (n' : Int) < b) := ⟨n, rfl, hb⟩
          rw [decide_eq_true this] at e
          simp [hr, bb, lc, e, hb, appM, al, iw']
        · have : ¬ (∃ n' : Nat, some n = some n' ∧ (n' : Int) < b) := by
            rintro ⟨n', h1, h2⟩
            cases h1
            exact hb h2
          rw [decide_eq_false this] at e
          simp [hr, bb, lc, e, hb]
    rw [List.zipIdx_cons, List.map_cons, forL_cons]
    have g : gTupl [gSet 4, gSet 5] (T.tup [.int (k : Nat), tS w]) [.val (.int b), y1, y2, .own (acc.map T.int), .un, .un, .un] = some [.val (.int b), y1, y2, .own (acc.map T.int), .val (.int (k : Nat)), .val (tS w), .un] := rfl
    simp only [g]
    rw [stp [], rdW]
    cases hn : nuS w with
    | none => simp
    | some n =>
      simp only
      split
      · rename_i hb
        rw [bind_ok, fseq_nxt, ih n]
        cases rdW b (k + 1) ws with
        | inl j => rfl
        | inr xs => simp
      · simp
def kdW (k : Bool) : T := .str (if k then "poly" else "function")
/-- what the law says of a text: a refusal's place, or the numbers -/
def rdK (k : Bool) (b : Int) (l : List Nat) : Sum Nat (List Int) := if k then rdP b l else match rdW b 0 (swd [] l) with
  | .inl j => .inl j
  | .inr xs => if (xs.length : Int) = b then .inr xs else .inl xs.length
theorem lread_e {k : Bool} {N : Nat} (h0 : 2 ≤ b) (h1 : b ≤ 16) (h : Tx N l) (hN : N ≤ 900) : d__law_read [.int b, tS l, kdW k] c = .ok (match rdK k b l with
      | .inl j => .int (j : Nat)
      | .inr xs => tI xs) c := by
  have hl := h.l
  have sp := split_e h (by omega)
  have is1 : isiT "str" (tS l) = some (.bl true) := isi_str_str
  have hm := swd_many l []
  have lp := fun y2 => lread_loop (b := b) (y1 := .val (tS l)) (y2 := y2) (c := c) h0 h1 (swd [] l) 0 [] (fun w hw => (h.word hw).mono hN) (by simp; omega)
  have en : enumT ((swd [] l).map tS) = ((swd [] l).zipIdx 0).map fun p => T.tup [.int (p.2 : Nat), tS p.1] := by
    unfold enumT
    rw [List.zipIdx_map, List.map_map]
    rfl
  have d1 : ∀ y2, dEnum (dFrz (dSplit (dVar 1) (dC (.str " ")))) [.val (.int b), .val (tS l), y2, .own [], .un, .un, .un] c = .ok (((swd [] l).zipIdx 0).map fun p => T.tup [.int (p.2 : Nat), tS p.1]) c := fun y2 => by
    rw [← en]
    have e0 : dFrz (dSplit (dVar 1) (dC (.str " "))) [.val (.int b), .val (tS l), y2, .own [], .un, .un, .un] c = .ok (.lst ((swd [] l).map tS)) c := by
      rw [dFrz_e, dSplit_e]
      simp [sp]
    generalize dFrz (dSplit (dVar 1) (dC (.str " "))) = DS at *
    simp [e0]
  have eno := eqS (l := l) (k := noneL) (N := N) (M := 4) h ⟨by decide, by decide⟩
  rw [← none_e] at eno
  have kp1 : eqT (T.str "poly") (.str "poly") = some (.bl true) := by kernel_rfl
  have kp2 : eqT (T.str "function") (.str "poly") = some (.bl false) := by kernel_rfl
  have kf1 : eqT (T.str "poly") (.str "function") = some (.bl false) := by kernel_rfl
  have kf2 : eqT (T.str "function") (.str "function") = some (.bl true) := by kernel_rfl
  unfold d__law_read b__law_read
  simp only [List.map_nil] at lp
  generalize (((swd [] l).zipIdx 0).map fun p => T.tup [.int (p.2 : Nat), tS p.1]) = E at *
  generalize dEnum (dFrz (dSplit (dVar 1) (dC (.str " ")))) = DE at *
  have fin : rdK k b l = (if k = true ∧ l = noneL then .inr [] else match rdW b 0 (swd [] l) with
      | .inl j => .inl j
      | .inr xs => if (k = true ∧ gI xs ((xs.length : Int) - 1) = 0) ∨ (k = false ∧ (xs.length : Int) ≠ b) then .inl xs.length else .inr xs) := by
    unfold rdK rdP
    cases k with
    | true =>
      simp only [if_true, true_and, Bool.true_eq_false, false_and, or_false]
    | false =>
      simp only [Bool.false_eq_true, if_false, false_and, true_and, false_or]
      cases rdW b 0 (swd [] l) with
      | inl j => rfl
      | inr xs =>
        by_cases hx : (xs.length : Int) = b <;> simp [hx]
  rw [fin]
  have xne : ∀ xs, rdW b 0 (swd [] l) = .inr xs → xs ≠ [] := fun xs hr z => by
    have := (rdW_in hr).1
    rw [z] at this
    exact swd_ne l [] (List.length_eq_zero_iff.mp this.symm)
  have last : ∀ xs : List Int, xs ≠ [] → atI (xs.map T.int) (-1) = some (.int (gI xs ((xs.length : Int) - 1))) := fun xs hx => last_at (c := []) hx
  generalize T.str (Str.ofString "none") = NN at *
  generalize hX : tS l = X at *
  cases k with
  | true =>
    unfold kdW
    by_cases hn : l = noneL
    · simp only [hn, decide_true] at eno
      simp [runF_e, entE, is1, kp1, eno, hn, tI]
    · simp only [hn, decide_false] at eno
      cases hr : rdW b 0 (swd [] l) with
      | inl j =>
        rw [hr] at lp
        simp [runF_e, entE, is1, kp1, eno, hn, d1, lp]
      | inr xs =>
        rw [hr] at lp
        have la := last xs (xne xs hr)
        have nl : (xs.map T.int).length = xs.length := List.length_map ..
        simp only [List.nil_append] at lp
        generalize hG : gI xs ((xs.length : Int) - 1) = G at *
        generalize hXS : xs.map T.int = XS at *
        have tx : tI xs = .tup XS := by rw [← hXS]
        by_cases hg : G = 0
        · simp [runF_e, entE, is1, kp1, eno, hn, d1, lp, la, hg, nl, hG]
        · simp [runF_e, entE, is1, kp1, kf1, eno, hn, d1, lp, la, hg, nl, hG, tx]
  | false =>
    unfold kdW
    cases hr : rdW b 0 (swd [] l) with
    | inl j =>
      rw [hr] at lp
      simp [runF_e, entE, is1, kp2, d1, lp]
    | inr xs =>
      rw [hr] at lp
      have nl : (xs.map T.int).length = xs.length := List.length_map ..
      simp only [List.nil_append] at lp
      generalize hXS : xs.map T.int = XS at *
      have tx : tI xs = .tup XS := by rw [← hXS]
      by_cases hg : (xs.length : Int) = b
      · simp [runF_e, entE, is1, kp2, kf2, d1, lp, hg, nl, tx]
      · simp [runF_e, entE, is1, kp2, kf2, d1, lp, hg, nl]
theorem lread_no {k : T} (h : isiT "str" t = some (.bl false)) : d__law_read [.int b, t, k] c = .ok (.int (-1)) c := by
  unfold d__law_read b__law_read
  simp [runF_e, entE, h]
def dueT : Sum Nat (List Int) → T
  | .inl j => .tup [.str "text", .int (j : Nat)]
  | .inr xs => .tup [.str "told", tI xs]
theorem said_fn {N : Nat} (h0 : 2 ≤ b) (h1 : b ≤ 16) (h : Tx N l) (hN : N ≤ 900) : saidT (d_function_read [.int b, tS l] c) = .ok (dueT (rdK false b l)) c := by
  rw [fread_e h0 h1 h hN]
  unfold rdK
  simp only [Bool.false_eq_true, if_false]
  cases rdW b 0 (swd [] l) with
  | inl j => rfl
  | inr xs =>
    by_cases hx : (xs.length : Int) = b
    · simp only [hx, if_true]; rfl
    · simp only [hx, if_false]; rfl
theorem said_po {N : Nat} (h0 : 2 ≤ b) (h1 : b ≤ 16) (h : Tx N l) (hN : N ≤ 900) : saidT (d_poly_read [.int b, tS l] c) = .ok (dueT (rdK true b l)) c := by
  rw [pread_e h0 h1 h hN]
  unfold rdK
  simp only [if_true]
  cases rdP b l with
  | inl j => rfl
  | inr xs => rfl
theorem rdK_in {k : Bool} {N : Nat} (h : Tx N l) (hN : N ≤ 900) : (∀ j, rdK k b l = .inl j → j ≤ 1000) ∧ ∀ xs, rdK k b l = .inr xs → xs.length ≤ 1000 ∧ ∀ x ∈ xs, 0 ≤ x ∧ x < 100 := by
  have hm := swd_many l []
  have hl := h.l
  have w1 : ∀ j, rdW b 0 (swd [] l) = .inl j → j ≤ 1000 := fun j hj => by have := rdW_at hj; omega
  have w2 : ∀ xs, rdW b 0 (swd [] l) = .inr xs → xs.length ≤ 1000 ∧ ∀ x ∈ xs, 0 ≤ x ∧ x < 100 := fun xs hx => by
    obtain ⟨h1, h2⟩ := rdW_in hx
    exact ⟨by omega, fun x hx => by have := h2 x hx; omega⟩
  unfold rdK rdP
  constructor
  · intro j hj
    split at hj
    · split at hj
      · cases hj
      · split at hj
        · cases hj; exact w1 _ ‹_›
        · split at hj
          · cases hj; exact (w2 _ ‹_›).1
          · cases hj
    · split at hj
      · cases hj; exact w1 _ ‹_›
      · split at hj
        · cases hj
        · cases hj; exact (w2 _ ‹_›).1
  · intro xs hj
    split at hj
    · split at hj
      · cases hj; exact ⟨by simp, fun x hx => nomatch hx⟩
      · split at hj
        · cases hj
        · split at hj
          · cases hj
          · cases hj; exact w2 _ ‹_›
    · split at hj
      · cases hj
      · split at hj
        · cases hj; exact w2 _ ‹_›
        · cases hj
theorem rp_word {w : Str} {N : Nat} (h : PyData.strOk w = true) (h2 : (PyData.str w).leavesShort 13 = true) (h3 : (PyData.str w).weight ≤ N) : RP 0 N (.str w) := ⟨h, rfl, h2, h3⟩
theorem rp_text {j : Int} (h : j.natAbs < 10 ^ 12) : RP 1 (42 * 2) (.tup [.str "text", .int j]) := rp_tup (n := 0) (w := 41) (ts := [.str "text", .int j]) fun t ht => by
  rcases List.mem_cons.mp ht with rfl | ht
  · exact rp_word (by decide +kernel) (by decide +kernel) (by decide +kernel)
  · rw [List.mem_singleton.mp ht]
    exact rp_int h
theorem rp_due {s : Sum Nat (List Int)} (h1 : ∀ j, s = .inl j → j ≤ 1000) (h2 : ∀ xs, s = .inr xs → xs.length ≤ 1000 ∧ ∀ x ∈ xs, 0 ≤ x ∧ x < 100) : RP 2 ((42 * 1000 + 1) * 2) (dueT s) := by
  cases s with
  | inl j => exact (rp_text (j := (j : Nat)) (by have := h1 j rfl; omega)).mono (by omega) (by omega)
  | inr xs =>
    obtain ⟨hl, hx⟩ := h2 xs rfl
    exact rp_tup (n := 1) (w := 42 * 1000) (ts := [.str "told", tI xs]) fun t ht => by
      rcases List.mem_cons.mp ht with rfl | ht
      · exact (rp_word (N := 41) (by decide +kernel) (by decide +kernel) (by decide +kernel)).mono (by omega) (by omega)
      · rw [List.mem_singleton.mp ht]
        exact (rp_tI fun x h => by have := hx x h; omega).mono (by omega) (by omega)
theorem one_right {k : Bool} {N : Nat} (h0 : 2 ≤ b) (h1 : b ≤ 16) (h : Tx N l) (hN : N ≤ 900) : d__law_one_right [.int b, tS l, kdW k, dueT (rdK k b l)] c = .ok (.bl true) c := by
  have e1 := lread_e (k := k) (c := c) h0 h1 h hN
  obtain ⟨q1, q2⟩ := rdK_in (b := b) (k := k) h hN
  have e2 := same_rp (c := c) (rp_due q1 q2) (by omega) (by omega)
  unfold d__law_one_right b__law_one_right
  generalize rdK k b l = R at *
  generalize kdW k = KD at *
  generalize tS l = X at *
  cases R with
  | inl j => simp [runF_e, entE, e1, dueT] at e2 ⊢; simp [e2]
  | inr xs =>
    have is1 : isiT "tuple" (tI xs) = some (.bl true) := isi_tup_tuple
    simp only [dueT] at e1 e2 ⊢
    generalize tI xs = Y at *
    simp [runF_e, entE, e1, is1, e2]
theorem one_no {k : T} (h : isiT "str" t = some (.bl false)) : d__law_one_right [.int b, t, k, .tup [.str "text", .int (-1)]] c = .ok (.bl true) c := by
  have e1 := lread_no (b := b) (c := c) (k := k) h
  have e2 := same_rp (c := c) (rp_text (j := -1) (by decide)) (by omega) (by omega)
  unfold d__law_one_right b__law_one_right
  simp [runF_e, entE, e1, e2]
theorem right_e {f p : T} (hf : ∀ c, saidT (d_function_read [.int b, t] c) = .ok f c) (hp : ∀ c, saidT (d_poly_read [.int b, t] c) = .ok p c) (o1 : ∀ c, d__law_one_right [.int b, t, .str "function", f] c = .ok (.bl true) c) (o2 : ∀ c, d__law_one_right [.int b, t, .str "poly", p] c = .ok (.bl true) c) : d__law_right [.int b, t] c = .ok (.bl true) c := by
  have lp : forL (gSet 2) w__law_right_1 ((rgI 0 2).map T.int) [.val (.int b), .val t, .un] c = .ok (.nxt [.val (.int b), .val t, .un]) c := by
    refine forL_same fun x hx => ⟨_, rfl, ?_⟩
    have e1 := hf c
    have e2 := hp c
    have e3 := o1 c
    have e4 := o2 c
    simp [w__law_right_1, e1, e2, e3, e4]
  have r2 : rgOk 0 2 = true := rfl
  unfold d__law_right b__law_right
  simp [runF_e, entE, lp, r2]
/-- what may be read -/
def Rt (t : T) : Prop := (∃ l, t = tS l ∧ Tx 800 l) ∨ isiT "str" t = some (.bl false)
theorem right_any (h0 : 2 ≤ b) (h1 : b ≤ 16) (h : Rt t) : d__law_right [.int b, t] c = .ok (.bl true) c := by
  rcases h with ⟨l, rfl, hl⟩ | h
  · exact right_e (fun c => said_fn h0 h1 hl (by omega)) (fun c => said_po h0 h1 hl (by omega)) (fun c => one_right (k := false) h0 h1 hl (by omega)) (fun c => one_right (k := true) h0 h1 hl (by omega))
  · exact right_e (fun c => by rw [fread_no h0 h1 h]; rfl) (fun c => by rw [pread_no h0 h1 h]; rfl) (fun c => one_no h) (fun c => one_no h)
theorem rt_str {x : Str} (h : ((TL.tl x).all (fun n => decide (n < 128)) && decide ((TL.tl x).length ≤ 800)) = true) : Rt (.str x) := by
  rw [Bool.and_eq_true, List.all_eq_true, decide_eq_true_eq] at h
  exact .inl ⟨TL.tl x, by rw [show tS (TL.tl x) = .str (sO (TL.tl x)) from rfl, sO_tl], fun n hn => by simpa using h.1 n hn, h.2⟩
end
theorem swd_sum : ∀ (l acc : List Nat), ((swd acc l).map List.length).sum + (swd acc l).length = acc.length + l.length + 1
  | [], acc => by simp [swd]
  | c :: r, acc => by
    unfold swd
    split
    · have := swd_sum r []
      simp at *
      omega
    · have := swd_sum r (acc ++ [c])
      simp at *
      omega
theorem join_tx {vs : List (List Nat)} {M : Nat} (h : ∀ v ∈ vs, ∀ n ∈ v, n < 128) (hM : (vs.map List.length).sum + vs.length ≤ M) : Tx M (TL.joinL [32] vs) := ⟨fun n hn => by
  rcases joinL_mem vs n hn with rfl | ⟨w, hw, q⟩
  · omega
  · exact h w hw n q, Nat.le_trans (joinL_len vs) hM⟩
theorem cutN_tx {l : List Nat} {N : Nat} {lo hi : Option Int} (h : Tx N l) : Tx N (cutN l lo hi) := h.sub ((List.take_sublist _ _).trans (List.drop_sublist _ _))
theorem addS {a b : List Nat} (h : a.length + b.length ≤ 1000000) : addT (tS a) (tS b) = some (tS (a ++ b)) := by
  have e : addT (tS a) (tS b) = if (sO a).length + (sO b).length ≤ 1000000 then some (.str (sO a ++ sO b)) else none := rfl
  have e2 : sO a ++ sO b = sO (a ++ b) := TL.ext_tl (by rw [TL.tl_append, tl_sO, tl_sO, tl_sO])
  rw [e, len_sO, len_sO, if_pos h, e2]
theorem blank_e : T.str (Str.ofString " ") = tS [32] := by kernel_rfl
theorem sign_e {i : Int} (h0 : 0 ≤ i) (h1 : i < 16) : ∃ s, s < 128 ∧ ixST (.str "0123456789 -+xn,") (.int i) = some (tS [s]) := by
  have e : TL.tl (Str.ofString "0123456789 -+xn,") = [48, 49, 50, 51, 52, 53, 54, 55, 56, 57, 32, 45, 43, 120, 110, 44] := by kernel_rfl
  have e2 : (Str.ofString "0123456789 -+xn,").length ≤ 1000000 := by rw [TL.len_tl, e]; decide
  have hm : ∀ n ∈ [48, 49, 50, 51, 52, 53, 54, 55, 56, 57, 32, 45, 43, 120, 110, 44], n < 128 := by decide
  obtain ⟨s, hs, ha⟩ : ∃ s, s ∈ [48, 49, 50, 51, 52, 53, 54, 55, 56, 57, 32, 45, 43, 120, 110, 44] ∧ atI [48, 49, 50, 51, 52, 53, 54, 55, 56, 57, 32, 45, 43, 120, 110, 44] i = some s := by
    have hl : i.toNat < [48, 49, 50, 51, 52, 53, 54, 55, 56, 57, 32, 45, 43, 120, 110, 44].length := by simp; omega
    refine ⟨_, List.getElem_mem hl, ?_⟩
    unfold atI ixN
    rw [if_pos h0, if_pos (by simp; omega)]
    simp
  refine ⟨s, hm s hs, ?_⟩
  simp only [ixST]
  rw [if_pos e2, e, ha]
  rfl
theorem sub_sum {vs us : List Nat} (h : vs.Sublist us) : vs.sum ≤ us.sum := by
  induction h with
  | slnil => simp
  | cons a _ ih => rw [List.sum_cons]; omega
  | cons_cons a _ ih => rw [List.sum_cons, List.sum_cons]; omega
theorem rev_sum (vs : List Nat) : vs.reverse.sum = vs.sum := by
  induction vs with
  | nil => rfl
  | cons a vs ih => rw [List.reverse_cons, List.sum_append, ih, List.sum_cons, List.sum_cons, List.sum_nil]; omega
theorem spoilt_e {c : Cs} {n : Nat} {l : List Nat} (h : Pen c n) (hl : Tx 100 l) : WP (d__law_spoilt [.cel n, tS l] c) fun t c' => (∃ m, t = tS m ∧ Tx 800 m) ∧ Pen c' n := by
  have h1 := hl.l
  have hne := swd_ne l []
  have hsum := swd_sum l []
  simp only [List.length_nil, Nat.zero_add] at hsum
  have hmany := swd_many l []
  have hpos : 1 ≤ (swd [] l).length := List.length_pos_iff.mpr hne
  have hc : ∀ v ∈ swd [] l, ∀ n ∈ v, n < 128 := fun v hv => (hl.word hv).c
  have nl : lenT (tS l) = some (.int (l.length : Nat)) := lenS (by omega)
  have sp := split_e hl (by omega)
  have ws_len : ((swd [] l).map tS).length = (swd [] l).length := List.length_map ..
  have tb : Tx 1 [32] := ⟨by decide, by decide⟩
  /- the pieces -/
  have pc : ∀ lo hi : Option Int, Tx 100 (cutN l lo hi) := fun lo hi => cutN_tx hl
  have sl : ∀ (lo hi : Option Int), (sO (cutN l lo hi)).length ≤ 100 := fun lo hi => by rw [len_sO]; exact (pc lo hi).l
  have a2 : ∀ {x y : List Nat} {N M : Nat}, Tx N x → Tx M y → N + M ≤ 1000 → addT (tS x) (tS y) = some (tS (x ++ y)) := fun hx hy hM => addS (by have := hx.l; have := hy.l; omega)
  have jn : ∀ vs : List (List Nat), (∀ v ∈ vs, v ∈ swd [] l) → (vs.map List.length).sum + vs.length ≤ 400 → joinT (Str.ofString " ") (.lst (vs.map tS)) = some (tS (TL.joinL [32] vs)) ∧ Tx 400 (TL.joinL [32] vs) := fun vs hv hs => ⟨join_e (by omega), join_tx (fun v hv' => hc v (hv v hv')) hs⟩
  have msum : ∀ {vs : List (List Nat)}, vs.Sublist (swd [] l) → (vs.map List.length).sum + vs.length ≤ 101 := fun {vs} hs => by
    have e1 := sub_sum (hs.map List.length)
    have e2 := hs.length_le
    omega
  unfold d__law_spoilt b__law_spoilt
  rw [runF_e, WP_bind]
  simp [entE, nl]
  refine (draw_e h (k := (l.length : Int) + 1) (by omega) (by omega)).mono ?_
  rintro _ c1 ⟨⟨at_, rfl, a0, a1⟩, p1⟩
  refine (draw_e p1 (k := 16) (by omega) (by omega)).mono ?_
  rintro _ c2 ⟨⟨sg, rfl, s0, s1⟩, p2⟩
  obtain ⟨s, hs, es⟩ := sign_e s0 s1
  have ts : Tx 1 [s] := ⟨fun n hn => by rw [List.mem_singleton.mp hn]; exact hs, by simp⟩
  simp [es]
  refine (draw_e p2 (k := 4) (by omega) (by omega)).mono ?_
  rintro _ c3 ⟨⟨q, rfl, q0, q1⟩, p3⟩
  have l6 : (sO l).length ≤ 1000000 := by rw [len_sO]; omega
  generalize hTO : (if at_ + 1 + q < (l.length : Int) then at_ + 1 + q else (l.length : Int)) = to_
  simp [hTO, dSplit_e, sp]
  refine (draw_e p3 (k := ((swd [] l).length : Nat)) (by omega) (by omega)).mono ?_
  rintro _ c4 ⟨⟨w, rfl, w0, w1⟩, p4⟩
  obtain ⟨j, rfl⟩ : ∃ j : Nat, w = (j : Int) := ⟨w.toNat, by omega⟩
  obtain ⟨k, rfl⟩ : ∃ k : Nat, at_ = (k : Int) := ⟨at_.toNat, by omega⟩
  have tP := pc none (some (k : Int))
  have tR := pc (some (k : Int)) none
  have tR1 := pc (some ((k : Int) + 1)) none
  have tT := pc none (some to_)
  have g1 := a2 tP ts (by omega)
  have tPs := tP.app ts
  have g2 := a2 tPs tR (by omega)
  have g3 := a2 tP tR1 (by omega)
  have g4 := a2 tPs tR1 (by omega)
  have g5 := a2 tT tR (by omega)
  have g6 := a2 hl tb (by omega)
  have g7 := a2 tb hl (by omega)
  have k2 := tPs.app tR
  have k3 := tP.app tR1
  have k4 := tPs.app tR1
  have k5 := tT.app tR
  have k6 := hl.app tb
  have k7 := tb.app hl
  have cu1 : cutT ((swd [] l).map tS) none (some (j : Int)) = ((swd [] l).take j).map tS := by rw [cutT_lo (by omega), ← List.map_take]; rfl
  have cu2 : cutT ((swd [] l).map tS) (some ((j : Int) + 1)) none = ((swd [] l).drop (j + 1)).map tS := by rw [cutT_hi (by omega), ← List.map_drop]; rfl
  have cu3 : cutT ((swd [] l).map tS) (some (j : Int)) (some ((j : Int) + 1)) = (((swd [] l).drop j).take 1).map tS := by
    unfold cutT HT.sIx
    simp only
    rw [List.length_map, if_neg (by omega), if_neg (by omega), ← List.map_drop, ← List.map_take]
    congr 2
    · omega
    · congr 1; omega
  have V1s : ((swd [] l).take j ++ (swd [] l).drop (j + 1)).Sublist (swd [] l) := by
    have := (List.Sublist.refl ((swd [] l).take j)).append (List.drop_sublist_drop_left (swd [] l) (show j ≤ j + 1 by omega))
    rwa [List.take_append_drop] at this
  have V3s : (((swd [] l).drop j).take 1).Sublist (swd [] l) := (List.take_sublist _ _).trans (List.drop_sublist _ _)
  have j1 := jn ((swd [] l).take j ++ (swd [] l).drop (j + 1)) (fun v hv => V1s.subset hv) (by have := msum V1s; omega)
  have j2 := jn (swd [] l ++ ((swd [] l).drop j).take 1) (fun v hv => by
    rcases List.mem_append.mp hv with hv | hv
    · exact hv
    · exact V3s.subset hv) (by
      have q1 := msum (List.Sublist.refl (swd [] l))
      have q2 := msum V3s
      rw [List.map_append, List.sum_append, List.length_append]
      omega)
  have j3 := jn (swd [] l).reverse (fun v hv => List.mem_reverse.mp hv) (by
      have q1 := msum (List.Sublist.refl (swd [] l))
      rw [List.map_reverse, rev_sum, List.length_reverse]
      omega)
  rw [List.map_append] at j1 j2
  rw [List.map_reverse] at j3
  have rv : revT (.lst ((swd [] l).map tS)) = some ((swd [] l).map tS).reverse := rfl
  have z1 : (((swd [] l).take j).map tS).length + (((swd [] l).drop (j + 1)).map tS).length ≤ 1000000 := by simp; omega
  have z2 : ((swd [] l).map tS).length + ((((swd [] l).drop j).take 1).map tS).length ≤ 1000000 := by simp; omega
  rw [← cu1, ← cu2] at j1 z1
  rw [← cu3] at j2 z2
  generalize (swd [] l).map tS = WS at *
  generalize TL.joinL [32] ((swd [] l).take j ++ (swd [] l).drop (j + 1)) = J1 at *
  generalize TL.joinL [32] (swd [] l ++ ((swd [] l).drop j).take 1) = J2 at *
  generalize TL.joinL [32] (swd [] l).reverse = J3 at *
  have bl := blank_e
  simp [dSlS_e, dJoin_e, len_sO, tl_sO, l6, show l.length ≤ 1000000 by omega]
  generalize cutN l none (some (k : Int)) = P at *
  generalize cutN l (some (k : Int)) none = R at *
  generalize cutN l (some ((k : Int) + 1)) none = R1 at *
  generalize cutN l none (some to_) = T0 at *
  rw [bl]
  simp only [g1, g2, g3, g4, g5, g6, g7, lift_some, WP_ok]
  simp [z1, z2, j1.1, j2.1, j3.1]
  refine (draw_e p4 (k := 9) (by omega) (by omega)).mono ?_
  rintro _ c5 ⟨⟨r, rfl, r0, r1⟩, p5⟩
  have : r = 0 ∨ r = 1 ∨ r = 2 ∨ r = 3 ∨ r = 4 ∨ r = 5 ∨ r = 6 ∨ r = 7 ∨ r = 8 := by omega
  have fin : ∀ (m : List Nat) {M : Nat}, Tx M m → M ≤ 800 → ∃ m', sO m = sO m' ∧ Tx 800 m' := fun m M hm hM => ⟨m, rfl, hm.mono hM⟩
  rcases this with rfl | rfl | rfl | rfl | rfl | rfl | rfl | rfl | rfl <;> simp [atI, ixN, p5]
  · exact (by simpa using k2.mono (M := 800) (by omega))
  · exact (by simpa using k3.mono (M := 800) (by omega))
  · exact (by simpa using k4.mono (M := 800) (by omega))
  · exact k5.mono (by omega)
  · exact j1.2.mono (by omega)
  · exact k6.mono (by omega)
  · exact (by simpa using k7.mono (M := 800) (by omega))
  · exact j2.2.mono (by omega)
  · exact j3.2.mono (by omega)
theorem rt_th {t : T} (h : isiT "str" t = some (.bl false)) : Rt t := .inr h
theorem oddr_e {c : Cs} {n : Nat} (h : Pen c n) : WP (d__law_odd [.cel n] c) fun t c' => Rt t ∧ Pen c' n := by
  unfold d__law_odd b__law_odd
  simp [runF_e, entE]
  refine WP.mono (draw_e h (k := 16) (by omega) (by omega)) ?_
  rintro t c' ⟨⟨r, rfl, h1, h2⟩, h3⟩
  have : r = 0 ∨ r = 1 ∨ r = 2 ∨ r = 3 ∨ r = 4 ∨ r = 5 ∨ r = 6 ∨ r = 7 ∨ r = 8 ∨ r = 9 ∨ r = 10 ∨ r = 11 ∨ r = 12 ∨ r = 13 ∨ r = 14 ∨ r = 15 := by omega
  rcases this with rfl | rfl | rfl | rfl | rfl | rfl | rfl | rfl | rfl | rfl | rfl | rfl | rfl | rfl | rfl | rfl <;> simp [atI, ixN, h3] <;> first | exact rt_str (by decide +kernel) | exact rt_th isi_non_str | exact rt_th isi_bl_str | exact rt_th isi_int_str | exact rt_th isi_tup_str | exact rt_th isi_lst_str | exact rt_th isi_dct_str
abbrev tE (S : List T) (n : Nat) (b : Int) (t1 t2 : T) (L : List T) (y3 : B) : Env := [.val (.scr S), .un, .un, y3, .val (.cel n), .val (.int b), .val (.lst [t1, t2]), .val (.lst L), .un, .un, .un]
theorem turn_e {S : List T} {i : Int} {c : Cs} : WP (w_law_3 [.val (.scr S), .un, .un, .val (.int i), .un, .un, .un, .un, .un, .un, .un] c) fun fl c' => fl = .nxt [.val (.scr S), .un, .un, .un, .un, .un, .un, .un, .un, .un, .un] := by
  unfold w_law_3
  simp
  refine pen_e.mono ?_
  rintro _ c1 ⟨n, rfl, p1⟩
  refine (bound_e p1).mono ?_
  rintro _ c2 ⟨⟨b, rfl, b0, b1⟩, p2⟩
  refine (lawfn_e p2 b0 (by omega)).mono ?_
  rintro _ c3 ⟨⟨f, rfl, hf⟩, p3⟩
  have hfl := hf.1
  have fx : ∀ x ∈ f, 0 ≤ x ∧ x < 100 := fun x hx => by have := hf.2 x hx; omega
  have e1 := ltext_e (c := c3) fx (by omega)
  have x1 := rowW_tx fx
  generalize tI f = F at *
  simp [e1]
  refine (poly_e p3 (m := 9) (by omega) (by omega) (by omega) (by omega)).mono ?_
  rintro _ c4 ⟨⟨p, rfl, hp, hpl⟩, p4⟩
  have px : ∀ x ∈ p, 0 ≤ x ∧ x < 100 := fun x hx => by have := hp.1 x hx; omega
  have e2 := ltext_e (c := c4) px (by omega)
  have x2 := rowW_tx px
  generalize tI p = P at *
  simp [e2]
  refine (oddr_e p4).mono ?_
  rintro t3 c5 ⟨h3, p5⟩
  replace x1 := x1.mono (M := 100) (by omega)
  replace x2 := x2.mono (M := 100) (by omega)
  generalize rowW f = R1 at *
  generalize rowW p = R2 at *
  have r1 : Rt (tS R1) := .inl ⟨_, rfl, x1.mono (by omega)⟩
  have r2 : Rt (tS R2) := .inl ⟨_, rfl, x2.mono (by omega)⟩
  have lp : WP (forL (gSet 8) w_law_2 ((rgI 0 3).map T.int) (tE S n b (tS R1) (tS R2) [tS R1, tS R2, t3] .un) c5) fun fl c6 => ∃ L, fl = .nxt (tE S n b (tS R1) (tS R2) L .un) ∧ (∀ t ∈ L, Rt t) ∧ L.length ≤ 100 ∧ Pen c6 n := by
    refine WP_forL (fun pre r c => ∃ L : List T, r = tE S n b (tS R1) (tS R2) L .un ∧ (∀ t ∈ L, Rt t) ∧ L.length = 3 + 2 * pre.length ∧ Pen c n) ⟨_, rfl, ?_, rfl, p5⟩ ?_ ?_
    · intro t ht
      simp only [List.mem_cons, List.not_mem_nil, or_false] at ht
      rcases ht with rfl | rfl | rfl <;> assumption
    · rintro pre t post r c6 e ⟨L, rfl, hL, hl, p6⟩
      have hpl3 : pre.length < 3 := by
        have := congrArg List.length e
        simp at this
        omega
      refine ⟨_, rfl, ?_⟩
      have lc : WP (lcL (gSet 2) dYes (dCall 2 d__law_spoilt (dCons (dVar 4) (dCons (dVar 2) dNil))) [.val (.scr S), .un, .un, .un, .val (.cel n), .val (.int b), .val (.lst [tS R1, tS R2]), .val (.lst L), .val t, .un, .un] [tS R1, tS R2] c6) fun ys c' => Pen c' n ∧ ys.length = 2 ∧ ∀ y ∈ ys, Rt y := by
        rw [lcL_cons, WP_bind]
        have one : ∀ (l : List Nat) (c : Cs), Tx 100 l → Pen c n → WP (noErr (lcTurn (gSet 2) dYes (dCall 2 d__law_spoilt (dCons (dVar 4) (dCons (dVar 2) dNil))) [.val (.scr S), .un, .un, .un, .val (.cel n), .val (.int b), .val (.lst [tS R1, tS R2]), .val (.lst L), .val t, .un, .un] (tS l) c)) fun o c' => (∃ y, o = some y ∧ Rt y) ∧ Pen c' n := fun l c hl hp => by
          refine WP_noErr ?_
          have sp := spoilt_e hp hl
          simp only [lcTurn_e, gSet_e]
          generalize tS l = X at *
          simp
          refine sp.mono ?_
          rintro _ c' ⟨⟨m, rfl, hm⟩, hp'⟩
          exact ⟨.inl ⟨m, rfl, hm⟩, hp'⟩
        refine (one R1 c6 x1 p6).mono ?_
        rintro _ c7 ⟨⟨y, rfl, hy⟩, p7⟩
        rw [lcL_cons, WP_bind, WP_bind]
        refine (one R2 c7 x2 p7).mono ?_
        rintro _ c8 ⟨⟨z, rfl, hz⟩, p8⟩
        simp [lcL]
        exact ⟨p8, hy, hz⟩
      unfold w_law_2
      have hl9 : L.length + 2 ≤ 1000000 := by omega
      generalize tS R1 = X1 at *
      generalize tS R2 = X2 at *
      simp
      refine lc.mono ?_
      rintro ys c7 ⟨p7, hy, hys⟩
      simp [hy, hl9]
      exact ⟨fun u hu => hu.elim (hL u) (hys u), by omega, p7⟩
    · rintro r c6 ⟨L, rfl, hL, hl, p6⟩
      exact ⟨L, rfl, hL, by rw [hl]; simp, p6⟩
  have r3 : rgOk 0 3 = true := rfl
  unfold tE at lp
  generalize tS R1 = X1 at *
  generalize tS R2 = X2 at *
  refine lp.mono ?_
  rintro _ c6 ⟨L, rfl, hL, hl, p6⟩
  have l1 : ∀ y2 y6 y8 y9, lcL (gSet 10) dYes (dCall 2 d__law_right (dCons (dVar 5) (dCons (dVar 10) dNil))) [.val (.scr S), .un, y2, .un, .val (.cel n), .val (.int b), y6, .val (.lst L), y8, y9, .un] L c6 = .ok ((L.map fun _ => true).map T.bl) c6 := fun y2 y6 y8 y9 => by
    rw [List.map_map]
    refine lcL_map fun t ht => ?_
    have e := right_any (c := c6) b0 b1 (hL t ht)
    simp [lcTurn_e, e]
  have a1 : allT (.lst ((L.map fun _ => true).map T.bl)) = some (.bl true) := by rw [allT_bls]; simp
  have ll : L.length ≤ 1000000 := by omega
  generalize (L.map fun _ => true).map T.bl = LB at *
  simp [ll, l1, a1]
  refine (nob_e p6).mono ?_
  rintro nb c7 ⟨hnb, p7⟩
  have f1 : d_function_read [nb, .non] c7 = .err ⟨"NoBound", []⟩ c7 := by
    unfold d_function_read b_function_read
    simp [runF_e, entE, hnb c7]
  have f2 : d_poly_read [nb, .non] c7 = .err ⟨"NoBound", []⟩ c7 := by
    unfold d_poly_read b_poly_read
    simp [runF_e, entE, hnb c7]
  have nbd : neT (.tup [.str "bound"]) (.tup [.str "bound"]) = some (.bl false) := by kernel_rfl
  simp [f1, f2, nbd]
theorem strs_e {c : Cs} {r : Env} {xs : List T} (h : ∀ x ∈ xs, Rt x) (hr : 2 < r.length) (hu : r[2]? = some .un) : forL (gSet 2) w_law_1 xs r c = .ok (.nxt r) c := by
  have := forL_same (g := gSet 2) (ds := w_law_1) (r := r) (c := c) (u := id) (xs := xs) fun x hx => ⟨r.set 2 (.val x), if_pos hr, by
    have e1 := right_any (b := 2) (c := c) (by omega) (by omega) (h x hx)
    have e2 := right_any (b := 3) (c := c) (by omega) (by omega) (h x hx)
    have e3 := right_any (b := 11) (c := c) (by omega) (by omega) (h x hx)
    have e4 : (r.set 2 (.val x))[2]? = some (.val x) := List.getElem?_set_self hr
    have e5 : (r.set 2 (.val x)).set 2 .un = r := by
      rw [List.set_set]
      refine List.ext_getElem? fun j => ?_
      by_cases hj : 2 = j
      · subst hj; rw [List.getElem?_set_self hr, hu]
      · rw [List.getElem?_set_ne hj]
    simp [w_law_1, e1, e2, e3, hr, e5]⟩
  rwa [List.map_id] at this
theorem law_true (ns : List Int) (h : ns.length ≤ 63) : ∃ c, d_law [T.scr (ns.map T.int)] [] = .ok (.bl true) c :=
  law_from ns h fun S hS => law_run (by
    have rt : ∀ x ∈ ([.str "", .str " ", .str "0", .str "none", .str "0 1", .str "1 0", .str "0 1 ", .str "00 1", .str "01 0", .str "2 0", .str "0 2", .str "0  1", .str "1 1 1", .str "0 0 0", .str "None", .str "NONE", .str "nOne", .non, .int 7, .lst [.str "0 1"]] : List T), Rt x := fun x hx => by
      simp only [List.mem_cons, List.not_mem_nil, or_false] at hx
      rcases hx with rfl | rfl | rfl | rfl | rfl | rfl | rfl | rfl | rfl | rfl | rfl | rfl | rfl | rfl | rfl | rfl | rfl | rfl | rfl | rfl <;> first | exact rt_str (by decide +kernel) | exact rt_th isi_non_str | exact rt_th isi_int_str | exact rt_th isi_lst_str
    unfold b_law
    rw [show entE 11 [T.scr S] = [.val (.scr S), .un, .un, .un, .un, .un, .un, .un, .un, .un, .un] from rfl, dSeq_e]
    have s1 : ∀ (a : DA), dSet 1 (dFrz a) [.val (.scr S), .un, .un, .un, .un, .un, .un, .un, .un, .un, .un] [] = (a [.val (.scr S), .un, .un, .un, .un, .un, .un, .un, .un, .un, .un] []).bind fun ts c => .ok (.nxt [.val (.scr S), .val (.lst ts), .un, .un, .un, .un, .un, .un, .un, .un, .un]) c := fun a => by
      rw [dSet_e, dFrz_e]
      simp
    rw [s1]
    simp only [dLst_e, dCons_e, dNil_e, dC_e, bind_ok, List.length_cons, List.length_nil]
    rw [if_pos (by omega), bind_ok, bind_ok, fseq_nxt]
    refine first2_last (r := [.val (.scr S), .un, .un, .un, .un, .un, .un, .un, .un, .un, .un]) (r1 := [.val (.scr S), .val (.lst [.str "", .str " ", .str "0", .str "none", .str "0 1", .str "1 0", .str "0 1 ", .str "00 1", .str "01 0", .str "2 0", .str "0 2", .str "0  1", .str "1 1 1", .str "0 0 0", .str "None", .str "NONE", .str "nOne"]), .un, .un, .un, .un, .un, .un, .un, .un, .un]) (c := []) (c1 := []) hS ?_ ?_ rfl (by simp) fun i c => turn_e
    · simp
    · have e := strs_e (c := []) (r := [.val (.scr S), .val (.lst [.str "", .str " ", .str "0", .str "none", .str "0 1", .str "1 0", .str "0 1 ", .str "00 1", .str "01 0", .str "2 0", .str "0 2", .str "0  1", .str "1 1 1", .str "0 0 0", .str "None", .str "NONE", .str "nOne"]), .un, .un, .un, .un, .un, .un, .un, .un, .un]) rt (by simp) rfl
      generalize w_law_1 = W1 at *
      simp [e])
end Q
namespace Q
open PySem PySem.Spec PyProof.Rows L2
def top (i : Nat) : Stmt := PySem.Challenge.pw_onceeach_k74_functions_and_polynomials_r.main.body.getD i (.Pass ⟨0, 0, 0, 0⟩)
structure GF (K : PySem.W.Frag) (mg : Str → Option Value) : Prop where
  b_ValueError : mg "ValueError" = none
  b_all : mg "all" = none
  b_bool : mg "bool" = none
  b_divmod : mg "divmod" = none
  b_enumerate : mg "enumerate" = none
  b_int : mg "int" = none
  b_isinstance : mg "isinstance" = none
  b_len : mg "len" = none
  b_max : mg "max" = none
  b_min : mg "min" = none
  b_range : mg "range" = none
  b_repr : mg "repr" = none
  b_str : mg "str" = none
  b_tuple : mg "tuple" = none
  x_NoBound : Exc K mg "NoBound"
  i_MOST_BOUND : ∃ t, mg "MOST_BOUND" = some (.int 16 t)
  s_FIGURES : ∃ t, mg "FIGURES" = some (.str "0123456789" t)
def kd0 : Bool := true
def names0 : List Str := ["law", "_law_right"]
section
variable {P : Program} {w : World} {K : PySem.W.Frag} {mg : Str → Option Value}
abbrev m_NoText : Stmt := metSt (top 11) 0
theorem ini_NoText (O : OnceOk K mg) (D : ∃ fd, FunD K "__init__" "NoText.__init__" (defArgs m_NoText) (defBody m_NoText) (defScope m_NoText) [] [] (iniF K "NoText") fd) : IniFn P w K mg "NoText" ["at"] :=
  ini1_mk D ⟨rfl, rfl, rfl, by decide +kernel, rfl, by decide +kernel, by decide +kernel⟩ (fun _ _ _ _ _ _ us hl => match us, hl with | [_, _], _ => rfl) fun base cdv A outer s H E => pss_cons (ps_expr (pe_oinit O (pa_cons (pv 0) (pa_cons (pv 1) pa_nil)))) (pss_one (ps_ost (pv 0) (pv 1) rfl))
abbrev s_is_whole : Stmt := top 15
abbrev N_is_whole : List Str := ["thing"]
theorem sc_is_whole : FnScope N_is_whole ["thing"] (defScope s_is_whole) := ⟨rfl, rfl, rfl, by decide +kernel, rfl, by decide +kernel, by decide +kernel⟩
theorem has_is_whole (G : GF K mg) (GR : Grd kd0 names0 K mg) (D : Def K mg "is_whole" s_is_whole) : Has P w K mg 1 "is_whole" ["thing"] d_is_whole := by
  refine has_mk (k := 0) (N := N_is_whole) (ds := b_is_whole) D sc_is_whole (fun _ _ _ _ _ _ us hl => match us, hl with | [_], _ => rfl) fun base bo f cdv hcd A outer s H E hr tk po hp => ?_
  have nd := sc_is_whole.nd
  exact ⟨_, (sss_one (ss_ret (ee_and (ee_isik K "int" G.b_isinstance G.b_int boot_int (ee_var (pv 0)).es) (ee_one (ee_not (ee_isik K "bool" G.b_isinstance G.b_bool boot_bool (ee_var (pv 0)).es))))))⟩
abbrev s_is_within : Stmt := top 16
abbrev N_is_within : List Str := ["thing", "least", "most"]
theorem sc_is_within : FnScope N_is_within ["thing", "least", "most"] (defScope s_is_within) := ⟨rfl, rfl, rfl, by decide +kernel, rfl, by decide +kernel, by decide +kernel⟩
theorem has_is_within (G : GF K mg) (GR : Grd kd0 names0 K mg) (D : Def K mg "is_within" s_is_within) (h_is_whole : Has P w K mg 1 "is_whole" ["thing"] d_is_whole) : Has P w K mg 2 "is_within" ["thing", "least", "most"] d_is_within := by
  refine has_mk (k := 1) (N := N_is_within) (ds := b_is_within) D sc_is_within (fun _ _ _ _ _ _ us hl => match us, hl with | [_, _, _], _ => rfl) fun base bo f cdv hcd A outer s H E hr tk po hp => ?_
  have nd := sc_is_within.nd
  exact ⟨_, (sss_one (ss_ret (ee_and (ee_has K mg bo h_is_whole hr hp (ea_cons (ee_var (pv 0)) ea_nil)) (ee_one (ee_chaink K opc_cmp op2_cmp op_le op_le (ee_var (pv 1)).es (ee_var (pv 0)).es (ee_var (pv 2)).es)))))⟩
abbrev s_need_bound : Stmt := top 17
abbrev N_need_bound : List Str := ["bound"]
theorem sc_need_bound : FnScope N_need_bound ["bound"] (defScope s_need_bound) := ⟨rfl, rfl, rfl, by decide +kernel, rfl, by decide +kernel, by decide +kernel⟩
theorem has_need_bound (G : GF K mg) (GR : Grd kd0 names0 K mg) (D : Def K mg "need_bound" s_need_bound) (h_is_within : Has P w K mg 2 "is_within" ["thing", "least", "most"] d_is_within) : Has P w K mg 3 "need_bound" ["bound"] d_need_bound := by
  refine has_mk (k := 2) (N := N_need_bound) (ds := b_need_bound) D sc_need_bound (fun _ _ _ _ _ _ us hl => match us, hl with | [_], _ => rfl) fun base bo f cdv hcd A outer s H E hr tk po hp => ?_
  have nd := sc_need_bound.nd
  exact ⟨_, (sss_one (ss_wipe [0] (ss_if (et_not (et_val (ee_has K mg bo h_is_within hr hp (ea_cons (ee_var (pv 0)) (ea_cons ee_int (ea_cons (ee_gint G.i_MOST_BOUND) ea_nil)))))) (sss_one (ss_raiseQ G.x_NoBound tk)) sss_nil)))⟩
abbrev s_number_in : Stmt := top 20
abbrev N_number_in : List Str := ["word", "sign"]
theorem sc_number_in : FnScope N_number_in ["word"] (defScope s_number_in) := ⟨rfl, rfl, rfl, by decide +kernel, rfl, by decide +kernel, by decide +kernel⟩
theorem has_number_in (G : GF K mg) (GR : Grd kd0 names0 K mg) (D : Def K mg "number_in" s_number_in) : Has P w K mg 1 "number_in" ["word"] d_number_in := by
  refine has_mk (k := 0) (N := N_number_in) (ds := b_number_in) D sc_number_in (fun _ _ _ _ _ _ us hl => match us, hl with | [_], _ => rfl) fun base bo f cdv hcd A outer s H E hr tk po hp => ?_
  have nd := sc_number_in.nd
  exact ⟨_, (sss_cons (ss_if (ew_or (et_not (et_chaink K opc_cmp op2_cmp op_le op_le ee_int.es (ee_call1k K op1_len cr_len G.b_len boot_len (ee_var (pv 0)).es).es ee_int.es)) (ew_or (et_not (et_val (ee_call1k K op1_all (cr_all rfl) G.b_all boot_all (ef_lc (own := [("sign", 1)]) nd (blkOk_by (N := N_number_in) (sc := defScope s_number_in) (by decide +kernel)) (ei_str (ee_var (pv 0))) (fun _ _ _ _ _ => (eg_name (i := 1) nd rfl (by first | exact .inl rfl | exact .inr rfl))) (fun _ _ _ _ _ => ets_nil) (fun _ _ _ _ _ => (ee_cmpk K op2_inS op_in_sign (ee_var (pv 1)).es (ee_gstr G.s_FIGURES).es))).ee.es))) (ew_or1 (ew_and (et_cmpk K op2_eq (opr_eq hr) (ee_call1k K op1_len cr_len G.b_len boot_len (ee_var (pv 0)).es).es ee_int.es) (ew_and1 (et_cmpk K op2_eq (opr_eq hr) (ee_ixS (ee_var (pv 0)).es ee_int.es).es ee_str.es))).et))).et (sss_one (ss_ret ee_non)) sss_nil) (sss_one (ss_ret (ee_ty1k K op1_intS call_int_str G.b_int boot_int (ee_var (pv 0)).es))))⟩
abbrev s_numbers_in : Stmt := top 21
abbrev N_numbers_in : List Str := ["bound", "text", "found", "at", "word", "number"]
theorem sc_numbers_in : FnScope N_numbers_in ["bound", "text"] (defScope s_numbers_in) := ⟨rfl, rfl, rfl, by decide +kernel, rfl, by decide +kernel, by decide +kernel⟩
theorem has_numbers_in (G : GF K mg) (GR : Grd kd0 names0 K mg) (IO : IniOk K mg) (i_NoText : IniFn P w K mg "NoText" ["at"]) (D : Def K mg "numbers_in" s_numbers_in) (h_number_in : Has P w K mg 1 "number_in" ["word"] d_number_in) : Has P w K mg 3 "numbers_in" ["bound", "text"] d_numbers_in := by
  refine has_mk (k := 2) (N := N_numbers_in) (ds := b_numbers_in) D sc_numbers_in (fun _ _ _ _ _ _ us hl => match us, hl with | [_, _], _ => rfl) fun base bo f cdv hcd A outer s H E hr tk po hp => ?_
  have nd := sc_numbers_in.nd
  exact ⟨_, (sss_cons (ss_if (et_not (et_val (ee_isik K "str" G.b_isinstance G.b_str boot_str (ee_var (pv 1)).es))) (sss_one (ss_raiseF K mg (IO.cls ("NoText", "text") (by decide)) i_NoText (by decide) (by decide) (by decide) (hr.mono (by decide)) tk (ea_cons (ee_unk K op1_neg un_neg ee_int.es) ea_nil))) sss_nil) (sss_cons (ss_ownF 2 (ef_lst ea_nil) nd) (sss_cons (ss_wipe [0, 1, 3, 4, 5] (ss_for po rfl (ei_enum K G.b_enumerate (ef_split (ee_var (pv 1)) ee_str).ee) (eg_tuplek K (n := 2) (egs_two (eg_name (i := 3) nd rfl (by first | exact .inl rfl | exact .inr rfl)) (egs_two (eg_name (i := 4) nd rfl (by first | exact .inl rfl | exact .inr rfl)) egs_nil))) (sss_cons (ss_wipe [4] (ss_setE 5 (ee_has K mg bo h_number_in hr hp (ea_cons (ee_var (pv 4)) ea_nil)) nd)) (sss_cons (ss_wipe [3] (ss_if (ew_or (et_cmpk K op2_is op_isN (ee_var (pv 5)).es ee_non.es) (ew_or1 (et_cmpk K op2_cmp op_ge (ee_var (pv 5)).es (ee_var (pv 0)).es))).et (sss_one (ss_raiseF K mg (IO.cls ("NoText", "text") (by decide)) i_NoText (by decide) (by decide) (by decide) (hr.mono (by decide)) tk (ea_cons (ee_var (pv 3)) ea_nil))) sss_nil)) (sss_one (ss_wipe [5] (ss_app (pv 2) (ee_var (pv 5))))))))) (sss_one (ss_ret (ee_ty1k K op1_tup call_tupleN G.b_tuple boot_tuple (es_var (pv 2))))))))⟩
abbrev s_function_read : Stmt := top 22
abbrev N_function_read : List Str := ["bound", "text", "found"]
theorem sc_function_read : FnScope N_function_read ["bound", "text"] (defScope s_function_read) := ⟨rfl, rfl, rfl, by decide +kernel, rfl, by decide +kernel, by decide +kernel⟩
theorem has_function_read (G : GF K mg) (GR : Grd kd0 names0 K mg) (IO : IniOk K mg) (i_NoText : IniFn P w K mg "NoText" ["at"]) (D : Def K mg "function_read" s_function_read) (h_need_bound : Has P w K mg 3 "need_bound" ["bound"] d_need_bound) (h_numbers_in : Has P w K mg 3 "numbers_in" ["bound", "text"] d_numbers_in) : Has P w K mg 4 "function_read" ["bound", "text"] d_function_read := by
  refine has_mk (k := 3) (N := N_function_read) (ds := b_function_read) D sc_function_read (fun _ _ _ _ _ _ us hl => match us, hl with | [_, _], _ => rfl) fun base bo f cdv hcd A outer s H E hr tk po hp => ?_
  have nd := sc_function_read.nd
  exact ⟨_, (sss_cons (ss_expr (ee_has K mg bo h_need_bound hr hp (ea_cons (ee_var (pv 0)) ea_nil))) (sss_cons (ss_wipe [1] (ss_setE 2 (ee_has K mg bo h_numbers_in hr hp (ea_cons (ee_var (pv 0)) (ea_cons (ee_var (pv 1)) ea_nil))) nd)) (sss_cons (ss_wipe [0] (ss_if (et_cmpk K op2_ne (opr_ne hr) (ee_call1k K op1_len cr_len G.b_len boot_len (ee_var (pv 2)).es).es (ee_var (pv 0)).es) (sss_one (ss_raiseF K mg (IO.cls ("NoText", "text") (by decide)) i_NoText (by decide) (by decide) (by decide) (hr.mono (by decide)) tk (ea_cons (ee_call1k K op1_len cr_len G.b_len boot_len (ee_var (pv 2)).es) ea_nil))) sss_nil)) (sss_one (ss_ret (ee_var (pv 2)))))))⟩
abbrev s_poly_read : Stmt := top 23
abbrev N_poly_read : List Str := ["bound", "text", "found"]
theorem sc_poly_read : FnScope N_poly_read ["bound", "text"] (defScope s_poly_read) := ⟨rfl, rfl, rfl, by decide +kernel, rfl, by decide +kernel, by decide +kernel⟩
theorem has_poly_read (G : GF K mg) (GR : Grd kd0 names0 K mg) (IO : IniOk K mg) (i_NoText : IniFn P w K mg "NoText" ["at"]) (D : Def K mg "poly_read" s_poly_read) (h_need_bound : Has P w K mg 3 "need_bound" ["bound"] d_need_bound) (h_numbers_in : Has P w K mg 3 "numbers_in" ["bound", "text"] d_numbers_in) : Has P w K mg 4 "poly_read" ["bound", "text"] d_poly_read := by
  refine has_mk (k := 3) (N := N_poly_read) (ds := b_poly_read) D sc_poly_read (fun _ _ _ _ _ _ us hl => match us, hl with | [_, _], _ => rfl) fun base bo f cdv hcd A outer s H E hr tk po hp => ?_
  have nd := sc_poly_read.nd
  exact ⟨_, (sss_cons (ss_expr (ee_has K mg bo h_need_bound hr hp (ea_cons (ee_var (pv 0)) ea_nil))) (sss_cons (ss_wipe [0, 1] (ss_setE 2 (ee_if (ew_and (et_val (ee_isik K "str" G.b_isinstance G.b_str boot_str (ee_var (pv 1)).es)) (ew_and1 (et_cmpk K op2_eq (opr_eq hr) (ee_var (pv 1)).es ee_str.es))).et (ee_tup ea_nil) (ee_has K mg bo h_numbers_in hr hp (ea_cons (ee_var (pv 0)) (ea_cons (ee_var (pv 1)) ea_nil)))) nd)) (sss_cons (ss_if (ew_and (et_cmpk K op2_ne (opr_ne hr) (ee_var (pv 2)).es (ee_tup ea_nil).es) (ew_and1 (et_cmpk K op2_eq (opr_eq hr) (ee_ixk K (ee_var (pv 2)).es (ee_unk K op1_neg un_neg ee_int.es).es).es ee_int.es))).et (sss_one (ss_raiseF K mg (IO.cls ("NoText", "text") (by decide)) i_NoText (by decide) (by decide) (by decide) (hr.mono (by decide)) tk (ea_cons (ee_call1k K op1_len cr_len G.b_len boot_len (ee_var (pv 2)).es) ea_nil))) sss_nil) (sss_one (ss_ret (ee_var (pv 2)))))))⟩
abbrev s__law_cell : Stmt := top 25
abbrev N__law_cell : List Str := ["_law_script", "_law_k"]
theorem sc__law_cell : FnScope N__law_cell ["_law_script", "_law_k"] (defScope s__law_cell) := ⟨rfl, rfl, rfl, by decide +kernel, rfl, by decide +kernel, by decide +kernel⟩
theorem has__law_cell (G : GF K mg) (GR : Grd kd0 names0 K mg) (D : Def K mg "_law_cell" s__law_cell) : Has P w K mg 1 "_law_cell" ["_law_script", "_law_k"] d__law_cell := by
  refine has_mk (k := 0) (N := N__law_cell) (ds := b__law_cell) D sc__law_cell (fun _ _ _ _ _ _ us hl => match us, hl with | [_, _], _ => rfl) fun base bo f cdv hcd A outer s H E hr tk po hp => ?_
  have nd := sc__law_cell.nd
  exact ⟨_, (sss_cons (ss_wipe [0, 1] (ss_if (et_cmpk K op2_cmp op_lt (ee_var (pv 1)).es (ee_call1k K op1_len cr_len G.b_len boot_len (ee_var (pv 0)).es).es) (sss_one (ss_ret (ee_ixk K (ee_var (pv 0)).es (ee_var (pv 1)).es))) sss_nil)) (sss_one (ss_ret ee_int)))⟩
abbrev s__law_pen : Stmt := top 26
abbrev N__law_pen : List Str := ["_law_cell_here", "_law_left"]
theorem sc__law_pen : FnScope N__law_pen ["_law_cell_here"] (defScope s__law_pen) := ⟨rfl, rfl, rfl, by decide +kernel, rfl, by decide +kernel, by decide +kernel⟩
theorem has__law_pen (G : GF K mg) (GR : Grd kd0 names0 K mg) (D : Def K mg "_law_pen" s__law_pen) : Has P w K mg 1 "_law_pen" ["_law_cell_here"] d__law_pen := by
  refine has_mk (k := 0) (N := N__law_pen) (ds := b__law_pen) D sc__law_pen (fun _ _ _ _ _ _ us hl => match us, hl with | [_], _ => rfl) fun base bo f cdv hcd A outer s H E hr tk po hp => ?_
  have nd := sc__law_pen.nd
  exact ⟨_, (sss_cons (ss_wipe [0] (ss_setE 1 (ee_call2k K op2_max (call_max2 rfl) G.b_max boot_max (ee_var (pv 0)).es (ee_opk K op2_sub op_sub ee_int.es (ee_var (pv 0)).es).es) nd)) (sss_one (ss_retC (ef_lst (ea_cons (ee_var (pv 1)) (ea_cons (ee_ty1k K op1_int call_int1 G.b_int boot_int (ee_cmpk K op2_cmp op_ge (ee_var (pv 1)).es (ee_opk K op2_pow op_pow ee_int.es ee_int.es).es).es) ea_nil))))))⟩
abbrev s__law_draw : Stmt := top 27
abbrev N__law_draw : List Str := ["_law_pen_here", "_law_many", "_law_left", "_law_found", "_law_stir"]
theorem sc__law_draw : FnScope N__law_draw ["_law_pen_here", "_law_many"] (defScope s__law_draw) := ⟨rfl, rfl, rfl, by decide +kernel, rfl, by decide +kernel, by decide +kernel⟩
theorem has__law_draw (G : GF K mg) (GR : Grd kd0 names0 K mg) (D : Def K mg "_law_draw" s__law_draw) : Has P w K mg 1 "_law_draw" ["_law_pen_here", "_law_many"] d__law_draw := by
  refine has_mk (k := 0) (N := N__law_draw) (ds := b__law_draw) D sc__law_draw (fun _ _ _ _ _ _ us hl => match us, hl with | [_, _], _ => rfl) fun base bo f cdv hcd A outer s H E hr tk po hp => ?_
  have nd := sc__law_draw.nd
  exact ⟨_, (sss_cons (ss_wipe [2, 3] (ss_if (et_cmpk K op2_eq (opr_eq hr) (ee_ixk K (ee_var (pv 0)).es ee_int.es).es ee_int.es) (sss_cons (ss_wipe [1] (ss_asgE (ee_call2k K op2_divmod call_divmodN G.b_divmod boot_divmod (ee_ixk K (ee_var (pv 0)).es ee_int.es).es (ee_var (pv 1)).es) (eg_tuplek K (n := 2) (egs_two (eg_name (i := 2) nd rfl (by first | exact .inl rfl | exact .inr rfl)) (egs_two (eg_name (i := 3) nd rfl (by first | exact .inl rfl | exact .inr rfl)) egs_nil))))) (sss_cons (ss_wipe [0, 2] (ss_putE 0 (ee_var (pv 2)) (pv 0) ee_int)) (sss_one (ss_ret (ee_var (pv 3)))))) sss_nil)) (sss_cons (ss_setE 4 (ee_opk K op2_mod op_mod (ee_opk K op2_mul op_mul (ee_opk K op2_add opr_add (ee_opk K op2_mod op_mod (ee_ixk K (ee_var (pv 0)).es ee_int.es).es ee_int.es).es ee_int.es).es ee_int.es).es ee_int.es) nd) (sss_cons (ss_setE 4 (ee_opk K op2_mod op_mod (ee_opk K op2_add opr_add (ee_opk K op2_mul op_mul (ee_var (pv 4)).es (ee_var (pv 4)).es).es ee_int.es).es ee_int.es) nd) (sss_cons (ss_wipe [4] (ss_putE 0 (ee_opk K op2_mod op_mod (ee_opk K op2_add opr_add (ee_opk K op2_mul op_mul (ee_var (pv 4)).es ee_int.es).es ee_int.es).es ee_int.es) (pv 0) ee_int)) (sss_one (ss_ret (ee_opk K op2_mod op_mod (ee_opk K op2_div op_fdivW (ee_ixk K (ee_var (pv 0)).es ee_int.es).es ee_int.es).es (ee_var (pv 1)).es)))))))⟩
abbrev s__law_whole : Stmt := top 28
abbrev N__law_whole : List Str := ["_law_thing"]
theorem sc__law_whole : FnScope N__law_whole ["_law_thing"] (defScope s__law_whole) := ⟨rfl, rfl, rfl, by decide +kernel, rfl, by decide +kernel, by decide +kernel⟩
theorem has__law_whole (G : GF K mg) (GR : Grd kd0 names0 K mg) (D : Def K mg "_law_whole" s__law_whole) : Has P w K mg 1 "_law_whole" ["_law_thing"] d__law_whole := by
  refine has_mk (k := 0) (N := N__law_whole) (ds := b__law_whole) D sc__law_whole (fun _ _ _ _ _ _ us hl => match us, hl with | [_], _ => rfl) fun base bo f cdv hcd A outer s H E hr tk po hp => ?_
  have nd := sc__law_whole.nd
  exact ⟨_, (sss_one (ss_ret (ee_and (ee_isik K "int" G.b_isinstance G.b_int boot_int (ee_var (pv 0)).es) (ee_one (ee_not (ee_isik K "bool" G.b_isinstance G.b_bool boot_bool (ee_var (pv 0)).es))))))⟩
theorem hot__law_whole (G : GF K mg) (D : Def K mg "_law_whole" s__law_whole) : HotH P w K mg "_law_whole" ["_law_thing"] (runF 1 whD) := by
  refine hot_mk (N := N__law_whole) D sc__law_whole (fun _ _ _ _ _ _ us hl => match us, hl with | [_], _ => rfl) fun base f cdv A outer s H p => ?_
  exact ⟨_, (sss_one (ss_ret (ee_and (ee_isik K "int" G.b_isinstance G.b_int boot_int (ee_var (pv 0)).es) (ee_one (ee_not (ee_isik K "bool" G.b_isinstance G.b_bool boot_bool (ee_var (pv 0)).es))))))⟩
abbrev s__law_kind : Stmt := top 29
abbrev N__law_kind : List Str := ["_law_e", "_law_seen", "_law_words"]
theorem sc__law_kind : FnScope N__law_kind ["_law_e"] (defScope s__law_kind) := ⟨rfl, rfl, rfl, by decide +kernel, rfl, by decide +kernel, by decide +kernel⟩
theorem has__law_kind (G : GF K mg) (GR : Grd kd0 names0 K mg) (D : Def K mg "_law_kind" s__law_kind) : Kind P w K mg := by
  have KO := GR.ko rfl
  refine kind_mk (N := N__law_kind) D sc__law_kind (fun _ _ _ _ _ _ us hl => match us, hl with | [_], _ => rfl) KO rfl fun base f cdv A outer s H a oe D d hu C hz hf => ?_
  have nd := sc__law_kind.nd
  have hp : (a, oe) ∈ (L2H.cxH CX0 P w K mg base N__law_kind "_law_kind" (defScope s__law_kind) f cdv A outer s H E0 (a, oe)).pn := List.mem_cons_self
  exact ⟨_, (sss_cons (ss_setE 1 (ef_lst (ea_cons (ee_isP K hp C hz hf G.b_isinstance (KO.gl "NoBound" (by decide)) (pv 0)) (ea_cons (ee_isP K hp C hz hf G.b_isinstance (KO.gl "NoPrime" (by decide)) (pv 0)) (ea_cons (ee_isP K hp C hz hf G.b_isinstance (KO.gl "NoPower" (by decide)) (pv 0)) (ea_cons (ee_isP K hp C hz hf G.b_isinstance (KO.gl "NoNumber" (by decide)) (pv 0)) ea_nil))))).ee nd) (sss_cons (ss_setE 1 (ef_opk K op2_cat op_cat (ee_var (pv 1)).es (ef_lst (ea_cons (ee_isP K hp C hz hf G.b_isinstance (KO.gl "NoFunction" (by decide)) (pv 0)) (ea_cons (ee_isP K hp C hz hf G.b_isinstance (KO.gl "NoPoly" (by decide)) (pv 0)) (ea_cons (ee_isP K hp C hz hf G.b_isinstance (KO.gl "Apart" (by decide)) (pv 0)) ea_nil)))).ee.es).ee nd) (sss_cons (ss_setE 1 (ef_opk K op2_cat op_cat (ee_var (pv 1)).es (ef_lst (ea_cons (ee_isP K hp C hz hf G.b_isinstance (KO.gl "NoRow" (by decide)) (pv 0)) (ea_cons (ee_isP K hp C hz hf G.b_isinstance (KO.gl "NoList" (by decide)) (pv 0)) (ea_cons (ee_isP K hp C hz hf G.b_isinstance (KO.gl "NoText" (by decide)) (pv 0)) (ea_cons (ee_isP K hp C hz hf G.b_isinstance (KO.gl "TooGreat" (by decide)) (pv 0)) ea_nil))))).ee.es).ee nd) (sss_cons (ss_if (ew_or (et_not (et_val (ee_isPV K "ValueError" hp C hz hf G.b_isinstance G.b_ValueError (by decide +kernel) (pv 0)))) (ew_or1 (et_cmpk K op2_ne (opr_neU hu) (ee_lcount K hu (ee_var (pv 1)).es ee_bl.es).es ee_int.es))).et (sss_one (ss_ret ee_str)) sss_nil) (sss_cons (ss_setE 2 (ef_lst (ea_cons ee_str (ea_cons ee_str (ea_cons ee_str (ea_cons ee_str (ea_cons ee_str (ea_cons ee_str (ea_cons ee_str (ea_cons ee_str (ea_cons ee_str (ea_cons ee_str ea_nil))))))))))).ee nd) (sss_one (ss_ret (ee_ixk K (ef_opk K op2_cat op_cat (ee_var (pv 2)).es (ef_lst (ea_cons ee_str ea_nil)).ee.es).ee.es (ee_lindexU K hu (ee_var (pv 1)).es ee_bl.es).es))))))))⟩
abbrev s__law_said : Stmt := top 30
abbrev N__law_said : List Str := ["_law_call", "_law_found", "_law_e", "_law_word"]
theorem sc__law_said : FnScope N__law_said ["_law_call"] (defScope s__law_said) := ⟨rfl, rfl, rfl, by decide +kernel, rfl, by decide +kernel, by decide +kernel⟩
theorem has__law_said (G : GF K mg) (GR : Grd kd0 names0 K mg) (D : Def K mg "_law_said" s__law_said) (h__law_kind : Kind P w K mg) (h__law_whole : HotH P w K mg "_law_whole" ["_law_thing"] (runF 1 whD)) : Said P w K mg 1 := by
  have nd := sc__law_said.nd
  refine said_mk (P := P) (w := w) D sc__law_said (fun _ _ _ _ _ _ us hl => match us, hl with | [_], _ => rfl) (GR.ko rfl) rfl rfl rfl (.inl rfl) (fun base g cdv A outer s H pn xe te h => ps_name h nd rfl (.inl rfl) rfl) (fun base g cdv A outer s H => pe_tupN (pa_cons pe_str (pa_cons (pv 1) pa_nil))) fun base g cdv A outer s H bo hr => ?_
  exact ⟨_, fun a oe cls d pn hz hf =>
    have hu : ((sCx P w K mg base N__law_said s__law_said g cdv A outer s H).suite a ((a, oe) :: pn)).A.units + 65 < cLine := u65H (k := 1) ⟨hr.dp, hr.un⟩
    have hr' : L2H.RoomH 1 ((sCx P w K mg base N__law_said s__law_said g cdv A outer s H).suite a ((a, oe) :: pn)).A := ⟨hr.dp, hr.un⟩
    (sss_cons (ss_setE 3 (ee_kind K mg (i := 2) bo h__law_kind hr' List.mem_cons_self hz hf (fun _ _ _ _ _ _ _ h => h.elim) (pv 2)) nd) (sss_cons (ss_if (et_cmpk K op2_in (opr_inU hu) (ee_var (pv 3)).es (ee_tup (ea_cons ee_str (ea_cons ee_str ea_nil))).es) (sss_one (ss_ret (ee_tup (ea_cons (ee_var (pv 3)) (ea_cons (ee_if (et_val (ee_hot K mg bo h__law_whole hr' List.mem_cons_self (fun _ _ _ _ _ _ _ h => h.elim) (ea_cons (ee_xf K hz hf (pv 2)) ea_nil))) (ee_xf K hz hf (pv 2)) ee_non) ea_nil))))) sss_nil) (sss_cons (ss_if (et_cmpk K op2_eq (opr_eqU hu) (ee_var (pv 3)).es ee_str.es) (sss_one (ss_ret (ee_tup (ea_cons (ee_var (pv 3)) (ea_cons (ee_if (et_val (ee_hot K mg bo h__law_whole hr' List.mem_cons_self (fun _ _ _ _ _ _ _ h => h.elim) (ea_cons (ee_xf K hz hf (pv 2)) ea_nil))) (ee_xf K hz hf (pv 2)) ee_non) (ea_cons (ee_if (et_val (ee_hot K mg bo h__law_whole hr' List.mem_cons_self (fun _ _ _ _ _ _ _ h => h.elim) (ea_cons (ee_xf K hz hf (pv 2)) ea_nil))) (ee_xf K hz hf (pv 2)) ee_non) ea_nil)))))) sss_nil) (sss_one (ss_ret (ee_tup (ea_cons (ee_var (pv 3)) ea_nil)))))))⟩
abbrev s__law_odd : Stmt := top 31
abbrev N__law_odd : List Str := ["_law_pen_here", "_law_some"]
theorem sc__law_odd : FnScope N__law_odd ["_law_pen_here"] (defScope s__law_odd) := ⟨rfl, rfl, rfl, by decide +kernel, rfl, by decide +kernel, by decide +kernel⟩
theorem has__law_odd (G : GF K mg) (GR : Grd kd0 names0 K mg) (D : Def K mg "_law_odd" s__law_odd) (h__law_draw : Has P w K mg 1 "_law_draw" ["_law_pen_here", "_law_many"] d__law_draw) : Has P w K mg 2 "_law_odd" ["_law_pen_here"] d__law_odd := by
  refine has_mk (k := 1) (N := N__law_odd) (ds := b__law_odd) D sc__law_odd (fun _ _ _ _ _ _ us hl => match us, hl with | [_], _ => rfl) fun base bo f cdv hcd A outer s H E hr tk po hp => ?_
  have nd := sc__law_odd.nd
  exact ⟨_, (sss_cons (ss_setE 1 (ef_lst (ea_cons ee_non (ea_cons ee_bl (ea_cons ee_bl (ea_cons (ee_unk K op1_neg un_neg ee_int.es) (ea_cons ee_str (ea_cons ee_str (ea_cons (ee_tup ea_nil) (ea_cons (ef_lst ea_nil).ee (ea_cons (ee_tup (ea_cons ee_int ea_nil)) (ea_cons (ef_lst (ea_cons ee_int ea_nil)).ee (ea_cons ee_dct1 (ea_cons (ee_tup (ea_cons ee_int (ea_cons ee_int ea_nil))) (ea_cons (ee_opk K op2_pow op_pow ee_int.es ee_int.es) (ea_cons (ee_tup (ea_cons ee_int (ea_cons (ee_tup ea_nil) ea_nil))) (ea_cons (ee_tup (ea_cons (ee_tup ea_nil) ea_nil)) ea_nil)))))))))))))))).ee nd) (sss_one (ss_ret (ee_ixk K (ef_opk K op2_cat op_cat (ee_var (pv 1)).es (ef_lst (ea_cons (ee_tup (ea_cons (ee_tup (ea_cons ee_int ea_nil)) ea_nil)) ea_nil)).ee.es).ee.es (ee_has K mg bo h__law_draw hr hp (ea_cons (ee_var (pv 0)) (ea_cons ee_int ea_nil))).es))))⟩
abbrev s__law_same : Stmt := top 32
abbrev N__law_same : List Str := ["_law_found", "_law_due"]
theorem sc__law_same : FnScope N__law_same ["_law_found", "_law_due"] (defScope s__law_same) := ⟨rfl, rfl, rfl, by decide +kernel, rfl, by decide +kernel, by decide +kernel⟩
theorem has__law_same (G : GF K mg) (GR : Grd kd0 names0 K mg) (D : Def K mg "_law_same" s__law_same) : HasG P w K mg 1 "_law_same" ["_law_found", "_law_due"] d__law_same := by
  refine has_mkG (k := 0) (N := N__law_same) (ds := b__law_same) D sc__law_same (fun _ _ _ _ _ _ us hl => match us, hl with | [_, _], _ => rfl) fun base bo f cdv hcd A outer s H E gd hr tk po hp => ?_
  have nd := sc__law_same.nd
  exact ⟨_, (sss_one (ss_ret (ee_cmpk K op2_eqW (op_eqW hr) (ee_call1k K op1_reprW (cr_reprW gd hr) G.b_repr (by decide +kernel) (ee_var (pv 0)).es).es (ee_call1k K op1_reprW (cr_reprW gd hr) G.b_repr (by decide +kernel) (ee_var (pv 1)).es).es)))⟩
abbrev s__law_bound : Stmt := top 33
abbrev N__law_bound : List Str := ["_law_pen_here"]
theorem sc__law_bound : FnScope N__law_bound ["_law_pen_here"] (defScope s__law_bound) := ⟨rfl, rfl, rfl, by decide +kernel, rfl, by decide +kernel, by decide +kernel⟩
theorem has__law_bound (G : GF K mg) (GR : Grd kd0 names0 K mg) (D : Def K mg "_law_bound" s__law_bound) (h__law_draw : Has P w K mg 1 "_law_draw" ["_law_pen_here", "_law_many"] d__law_draw) : Has P w K mg 2 "_law_bound" ["_law_pen_here"] d__law_bound := by
  refine has_mk (k := 1) (N := N__law_bound) (ds := b__law_bound) D sc__law_bound (fun _ _ _ _ _ _ us hl => match us, hl with | [_], _ => rfl) fun base bo f cdv hcd A outer s H E hr tk po hp => ?_
  have nd := sc__law_bound.nd
  exact ⟨_, (sss_one (ss_ret (ee_ixk K (ef_lst (ea_cons ee_int (ea_cons ee_int (ea_cons ee_int (ea_cons ee_int (ea_cons ee_int (ea_cons ee_int (ea_cons ee_int (ea_cons ee_int (ea_cons ee_int (ea_cons ee_int (ea_cons ee_int (ea_cons ee_int (ea_cons ee_int (ea_cons ee_int (ea_cons ee_int (ea_cons ee_int ea_nil))))))))))))))))).ee.es (ee_has K mg bo h__law_draw hr hp (ea_cons (ee_var (pv 0)) (ea_cons ee_int ea_nil))).es)))⟩
abbrev s__law_no_bound : Stmt := top 34
abbrev N__law_no_bound : List Str := ["_law_pen_here", "_law_some"]
theorem sc__law_no_bound : FnScope N__law_no_bound ["_law_pen_here"] (defScope s__law_no_bound) := ⟨rfl, rfl, rfl, by decide +kernel, rfl, by decide +kernel, by decide +kernel⟩
theorem has__law_no_bound (G : GF K mg) (GR : Grd kd0 names0 K mg) (D : Def K mg "_law_no_bound" s__law_no_bound) (h__law_draw : Has P w K mg 1 "_law_draw" ["_law_pen_here", "_law_many"] d__law_draw) : Has P w K mg 2 "_law_no_bound" ["_law_pen_here"] d__law_no_bound := by
  refine has_mk (k := 1) (N := N__law_no_bound) (ds := b__law_no_bound) D sc__law_no_bound (fun _ _ _ _ _ _ us hl => match us, hl with | [_], _ => rfl) fun base bo f cdv hcd A outer s H E hr tk po hp => ?_
  have nd := sc__law_no_bound.nd
  exact ⟨_, (sss_cons (ss_setE 1 (ef_lst (ea_cons ee_int (ea_cons ee_int (ea_cons ee_int (ea_cons (ee_unk K op1_neg un_neg ee_int.es) (ea_cons ee_non (ea_cons ee_bl (ea_cons ee_str (ea_cons (ee_tup (ea_cons ee_int ea_nil)) (ea_cons (ef_lst (ea_cons ee_int ea_nil)).ee (ea_cons (ee_opk K op2_pow op_pow ee_int.es ee_int.es) (ea_cons ee_bl (ea_cons ee_dct1 ea_nil))))))))))))).ee nd) (sss_one (ss_ret (ee_ixk K (ee_var (pv 1)).es (ee_has K mg bo h__law_draw hr hp (ea_cons (ee_var (pv 0)) (ea_cons ee_int ea_nil))).es))))⟩
abbrev s__law_order : Stmt := top 35
abbrev N__law_order : List Str := ["_law_pen_here", "_law_many", "_law_found", "_law_what"]
theorem sc__law_order : FnScope N__law_order ["_law_pen_here", "_law_many"] (defScope s__law_order) := ⟨rfl, rfl, rfl, by decide +kernel, rfl, by decide +kernel, by decide +kernel⟩
theorem has__law_order (G : GF K mg) (GR : Grd kd0 names0 K mg) (D : Def K mg "_law_order" s__law_order) (h__law_draw : Has P w K mg 1 "_law_draw" ["_law_pen_here", "_law_many"] d__law_draw) : Has P w K mg 2 "_law_order" ["_law_pen_here", "_law_many"] d__law_order := by
  refine has_mk (k := 1) (N := N__law_order) (ds := b__law_order) D sc__law_order (fun _ _ _ _ _ _ us hl => match us, hl with | [_, _], _ => rfl) fun base bo f cdv hcd A outer s H E hr tk po hp => ?_
  have nd := sc__law_order.nd
  exact ⟨_, (sss_cons (ss_ownF 2 (ef_lst ea_nil) nd) (sss_cons (ss_wipe [0, 1, 3] (ss_for po rfl (ei_range1 G.b_range (ee_var (pv 1))) (eg_name (i := 3) nd rfl (by first | exact .inl rfl | exact .inr rfl)) (sss_one (ss_wipe [3] (ss_ins (pv 2) (ee_has K mg bo h__law_draw hr hp (ea_cons (ee_var (pv 0)) (ea_cons (ee_opk K op2_add opr_add (ee_var (pv 3)).es ee_int.es) ea_nil))) (ee_var (pv 3))))))) (sss_one (ss_ret (ee_ty1k K op1_tup call_tupleN G.b_tuple boot_tuple (es_var (pv 2)))))))⟩
abbrev s__law_poly : Stmt := top 36
abbrev N__law_poly : List Str := ["_law_pen_here", "_law_bound_here", "_law_most", "_law_found", "_law_turn"]
theorem sc__law_poly : FnScope N__law_poly ["_law_pen_here", "_law_bound_here", "_law_most"] (defScope s__law_poly) := ⟨rfl, rfl, rfl, by decide +kernel, rfl, by decide +kernel, by decide +kernel⟩
theorem has__law_poly (G : GF K mg) (GR : Grd kd0 names0 K mg) (D : Def K mg "_law_poly" s__law_poly) (h__law_draw : Has P w K mg 1 "_law_draw" ["_law_pen_here", "_law_many"] d__law_draw) : Has P w K mg 2 "_law_poly" ["_law_pen_here", "_law_bound_here", "_law_most"] d__law_poly := by
  refine has_mk (k := 1) (N := N__law_poly) (ds := b__law_poly) D sc__law_poly (fun _ _ _ _ _ _ us hl => match us, hl with | [_, _, _], _ => rfl) fun base bo f cdv hcd A outer s H E hr tk po hp => ?_
  have nd := sc__law_poly.nd
  exact ⟨_, (sss_cons (ss_wipe [0, 1, 2] (ss_lcOwn 3 (own := [("_law_turn", 4)]) nd (blkOk_by (N := N__law_poly) (sc := defScope s__law_poly) (by decide +kernel)) (ei_range1 G.b_range (ee_has K mg bo h__law_draw hr hp (ea_cons (ee_var (pv 0)) (ea_cons (ee_opk K op2_add opr_add (ee_var (pv 2)).es ee_int.es) ea_nil)))) (fun _ _ _ _ _ => (eg_name (i := 4) nd rfl (by first | exact .inl rfl | exact .inr rfl))) (fun _ _ _ _ _ => ets_nil) (fun _ _ _ _ _ => (ee_has K mg bo h__law_draw hr passW0 (ea_cons (ee_var (pv 0)) (ea_cons (ee_var (pv 1)) ea_nil)))) rfl rfl (sw_true rfl rfl rfl rfl))) (sss_cons (ss_while po (ew_and (et_cmpk K op2_ne (opr_ne hr) (es_var (pv 3)) (ef_lst ea_nil).ee.es) (ew_and1 (et_cmpk K op2_eq (opr_eq hr) (ee_ixk K (es_var (pv 3)) (ee_unk K op1_neg un_neg ee_int.es).es).es ee_int.es))).et (sss_one (ss_pop (pv 3)))) (sss_one (ss_ret (ee_ty1k K op1_tup call_tupleN G.b_tuple boot_tuple (es_var (pv 3)))))))⟩
abbrev s__law_worths : Stmt := top 37
abbrev N__law_worths : List Str := ["_law_bound_here", "_law_poly_here", "_law_found", "_law_x", "_law_worth", "_law_number"]
theorem sc__law_worths : FnScope N__law_worths ["_law_bound_here", "_law_poly_here"] (defScope s__law_worths) := ⟨rfl, rfl, rfl, by decide +kernel, rfl, by decide +kernel, by decide +kernel⟩
theorem has__law_worths (G : GF K mg) (GR : Grd kd0 names0 K mg) (D : Def K mg "_law_worths" s__law_worths) : Has P w K mg 1 "_law_worths" ["_law_bound_here", "_law_poly_here"] d__law_worths := by
  refine has_mk (k := 0) (N := N__law_worths) (ds := b__law_worths) D sc__law_worths (fun _ _ _ _ _ _ us hl => match us, hl with | [_, _], _ => rfl) fun base bo f cdv hcd A outer s H E hr tk po hp => ?_
  have nd := sc__law_worths.nd
  exact ⟨_, (sss_cons (ss_ownF 2 (ef_lst ea_nil) nd) (sss_cons (ss_wipe [0, 1, 3, 4, 5] (ss_for po rfl (ei_range1 G.b_range (ee_var (pv 0))) (eg_name (i := 3) nd rfl (by first | exact .inl rfl | exact .inr rfl)) (sss_cons (ss_setE 4 ee_int nd) (sss_cons (ss_wipe [3, 5] (ss_for po rfl (ei_seqk K (ee_revT (ee_var (pv 1)).es)) (eg_name (i := 5) nd rfl (by first | exact .inl rfl | exact .inr rfl)) (sss_one (ss_wipe [5] (ss_setE 4 (ee_opk K op2_mod op_mod (ee_opk K op2_add opr_add (ee_opk K op2_mul op_mul (ee_var (pv 4)).es (ee_var (pv 3)).es).es (ee_var (pv 5)).es).es (ee_var (pv 0)).es) nd))))) (sss_one (ss_wipe [4] (ss_app (pv 2) (ee_var (pv 4))))))))) (sss_one (ss_ret (ee_ty1k K op1_tup call_tupleN G.b_tuple boot_tuple (es_var (pv 2)))))))⟩
abbrev s__law_function : Stmt := top 38
abbrev N__law_function : List Str := ["_law_pen_here", "_law_bound_here", "_law_way", "_law_found", "_law_at", "_law_few", "_law_x"]
theorem sc__law_function : FnScope N__law_function ["_law_pen_here", "_law_bound_here"] (defScope s__law_function) := ⟨rfl, rfl, rfl, by decide +kernel, rfl, by decide +kernel, by decide +kernel⟩
theorem has__law_function (G : GF K mg) (GR : Grd kd0 names0 K mg) (D : Def K mg "_law_function" s__law_function) (h__law_draw : Has P w K mg 1 "_law_draw" ["_law_pen_here", "_law_many"] d__law_draw) (h__law_order : Has P w K mg 2 "_law_order" ["_law_pen_here", "_law_many"] d__law_order) (h__law_worths : Has P w K mg 1 "_law_worths" ["_law_bound_here", "_law_poly_here"] d__law_worths) (h__law_poly : Has P w K mg 2 "_law_poly" ["_law_pen_here", "_law_bound_here", "_law_most"] d__law_poly) : Has P w K mg 3 "_law_function" ["_law_pen_here", "_law_bound_here"] d__law_function := by
  refine has_mk (k := 2) (N := N__law_function) (ds := b__law_function) D sc__law_function (fun _ _ _ _ _ _ us hl => match us, hl with | [_, _], _ => rfl) fun base bo f cdv hcd A outer s H E hr tk po hp => ?_
  have nd := sc__law_function.nd
  exact ⟨_, (sss_cons (ss_setE 2 (ee_has K mg bo h__law_draw hr hp (ea_cons (ee_var (pv 0)) (ea_cons ee_int ea_nil))) nd) (sss_cons (ss_if (et_cmpk K op2_cmp op_lt (ee_var (pv 2)).es ee_int.es) (sss_one (ss_ret (ee_has K mg bo h__law_order hr hp (ea_cons (ee_var (pv 0)) (ea_cons (ee_var (pv 1)) ea_nil))))) sss_nil) (sss_cons (ss_if (et_cmpk K op2_eq (opr_eq hr) (ee_var (pv 2)).es ee_int.es) (sss_one (ss_ret (ee_has K mg bo h__law_worths hr hp (ea_cons (ee_var (pv 1)) (ea_cons (ee_has K mg bo h__law_poly hr hp (ea_cons (ee_var (pv 0)) (ea_cons (ee_var (pv 1)) (ea_cons ee_int ea_nil)))) ea_nil))))) sss_nil) (sss_cons (ss_wipe [3, 4] (ss_if (et_cmpk K op2_eq (opr_eq hr) (ee_var (pv 2)).es ee_int.es) (sss_cons (ss_setE 3 (ee_has K mg bo h__law_order hr hp (ea_cons (ee_var (pv 0)) (ea_cons (ee_var (pv 1)) ea_nil))) nd) (sss_cons (ss_setE 4 (ee_has K mg bo h__law_draw hr hp (ea_cons (ee_var (pv 0)) (ea_cons (ee_var (pv 1)) ea_nil))) nd) (sss_one (ss_ret (ee_opk K op2_add opr_add (ee_opk K op2_add opr_add (ee_slTk K (ee_var (pv 3)).es eo_no (eo_some (ee_var (pv 4)))).es (ee_tup (ea_cons (ee_has K mg bo h__law_draw hr hp (ea_cons (ee_var (pv 0)) (ea_cons (ee_var (pv 1)) ea_nil))) ea_nil)).es).es (ee_slTk K (ee_var (pv 3)).es (eo_some (ee_opk K op2_add opr_add (ee_var (pv 4)).es ee_int.es)) eo_no).es))))) sss_nil)) (sss_cons (ss_wipe [2] (ss_setE 5 (ee_ixk K (ef_lst (ea_cons (ee_var (pv 1)) (ea_cons ee_int ea_nil))).ee.es (ee_opk K op2_sub op_sub (ee_var (pv 2)).es ee_int.es).es) nd)) (sss_one (ss_ret (ee_ty1k K op1_tup call_tupleN G.b_tuple boot_tuple (ef_lc (own := [("_law_x", 6)]) nd (blkOk_by (N := N__law_function) (sc := defScope s__law_function) (by decide +kernel)) (ei_range1 G.b_range (ee_var (pv 1))) (fun _ _ _ _ _ => (eg_name (i := 6) nd rfl (by first | exact .inl rfl | exact .inr rfl))) (fun _ _ _ _ _ => ets_nil) (fun _ _ _ _ _ => (ee_has K mg bo h__law_draw hr passW0 (ea_cons (ee_var (pv 0)) (ea_cons (ee_var (pv 5)) ea_nil))))).ee.es))))))))⟩
abbrev s__law_text : Stmt := top 39
abbrev N__law_text : List Str := ["_law_row", "_law_number"]
theorem sc__law_text : FnScope N__law_text ["_law_row"] (defScope s__law_text) := ⟨rfl, rfl, rfl, by decide +kernel, rfl, by decide +kernel, by decide +kernel⟩
theorem has__law_text (G : GF K mg) (GR : Grd kd0 names0 K mg) (D : Def K mg "_law_text" s__law_text) : Has P w K mg 1 "_law_text" ["_law_row"] d__law_text := by
  refine has_mk (k := 0) (N := N__law_text) (ds := b__law_text) D sc__law_text (fun _ _ _ _ _ _ us hl => match us, hl with | [_], _ => rfl) fun base bo f cdv hcd A outer s H E hr tk po hp => ?_
  have nd := sc__law_text.nd
  exact ⟨_, (sss_one (ss_ret (ee_orT (ee_join ee_str (ef_lc (own := [("_law_number", 1)]) nd (blkOk_by (N := N__law_text) (sc := defScope s__law_text) (by decide +kernel)) (ei_seqk K (ee_var (pv 0))) (fun _ _ _ _ _ => (eg_name (i := 1) nd rfl (by first | exact .inl rfl | exact .inr rfl))) (fun _ _ _ _ _ => ets_nil) (fun _ _ _ _ _ => (ee_ty1k K op1_str call_str_int G.b_str boot_str (ee_var (pv 1)).es))).ee.es) (ee_one ee_str))))⟩
abbrev s__law_read : Stmt := top 40
abbrev N__law_read : List Str := ["_law_bound_here", "_law_text_here", "_law_kind_here", "_law_found", "_law_at", "_law_word", "_law_number"]
theorem sc__law_read : FnScope N__law_read ["_law_bound_here", "_law_text_here", "_law_kind_here"] (defScope s__law_read) := ⟨rfl, rfl, rfl, by decide +kernel, rfl, by decide +kernel, by decide +kernel⟩
theorem has__law_read (G : GF K mg) (GR : Grd kd0 names0 K mg) (D : Def K mg "_law_read" s__law_read) : Has P w K mg 1 "_law_read" ["_law_bound_here", "_law_text_here", "_law_kind_here"] d__law_read := by
  refine has_mk (k := 0) (N := N__law_read) (ds := b__law_read) D sc__law_read (fun _ _ _ _ _ _ us hl => match us, hl with | [_, _, _], _ => rfl) fun base bo f cdv hcd A outer s H E hr tk po hp => ?_
  have nd := sc__law_read.nd
  exact ⟨_, (sss_cons (ss_if (et_not (et_val (ee_isik K "str" G.b_isinstance G.b_str boot_str (ee_var (pv 1)).es))) (sss_one (ss_ret (ee_unk K op1_neg un_neg ee_int.es))) sss_nil) (sss_cons (ss_if (ew_and (et_cmpk K op2_eq (opr_eq hr) (ee_var (pv 2)).es ee_str.es) (ew_and1 (et_cmpk K op2_eq (opr_eq hr) (ee_var (pv 1)).es ee_str.es))).et (sss_one (ss_ret (ee_tup ea_nil))) sss_nil) (sss_cons (ss_ownF 3 (ef_lst ea_nil) nd) (sss_cons (ss_wipe [1, 4, 5] (ss_for po rfl (ei_enum K G.b_enumerate (ef_split (ee_var (pv 1)) ee_str).ee) (eg_tuplek K (n := 2) (egs_two (eg_name (i := 4) nd rfl (by first | exact .inl rfl | exact .inr rfl)) (egs_two (eg_name (i := 5) nd rfl (by first | exact .inl rfl | exact .inr rfl)) egs_nil))) (sss_cons (ss_wipe [4] (ss_if (et_cmpk K op2_nin (opr_ninr hr) (ee_var (pv 5)).es (ef_lc (own := [("_law_number", 6)]) nd (blkOk_by (N := N__law_read) (sc := defScope s__law_read) (by decide +kernel)) (ei_range1 G.b_range (ee_var (pv 0))) (fun _ _ _ _ _ => (eg_name (i := 6) nd rfl (by first | exact .inl rfl | exact .inr rfl))) (fun _ _ _ _ _ => ets_nil) (fun _ _ _ _ _ => (ee_ty1k K op1_str call_str_int G.b_str boot_str (ee_var (pv 6)).es))).ee.es) (sss_one (ss_ret (ee_var (pv 4)))) sss_nil)) (sss_one (ss_wipe [5] (ss_app (pv 3) (ee_ty1k K op1_intS call_int_str G.b_int boot_int (ee_var (pv 5)).es))))))) (sss_cons (ss_wipe [0, 2] (ss_if (ew_or (ew_and (et_cmpk K op2_eq (opr_eq hr) (ee_var (pv 2)).es ee_str.es) (ew_and1 (et_cmpk K op2_eq (opr_eq hr) (ee_ixk K (es_var (pv 3)) (ee_unk K op1_neg un_neg ee_int.es).es).es ee_int.es))).et (ew_or1 (ew_and (et_cmpk K op2_eq (opr_eq hr) (ee_var (pv 2)).es ee_str.es) (ew_and1 (et_cmpk K op2_ne (opr_ne hr) (ee_call1k K op1_len cr_len G.b_len boot_len (es_var (pv 3))).es (ee_var (pv 0)).es))).et)).et (sss_one (ss_ret (ee_call1k K op1_len cr_len G.b_len boot_len (es_var (pv 3))))) sss_nil)) (sss_one (ss_ret (ee_ty1k K op1_tup call_tupleN G.b_tuple boot_tuple (es_var (pv 3))))))))))⟩
abbrev s__law_spoilt : Stmt := top 41
abbrev N__law_spoilt : List Str := ["_law_pen_here", "_law_text_here", "_law_at", "_law_sign", "_law_to", "_law_words", "_law_word", "_law_some"]
theorem sc__law_spoilt : FnScope N__law_spoilt ["_law_pen_here", "_law_text_here"] (defScope s__law_spoilt) := ⟨rfl, rfl, rfl, by decide +kernel, rfl, by decide +kernel, by decide +kernel⟩
theorem has__law_spoilt (G : GF K mg) (GR : Grd kd0 names0 K mg) (D : Def K mg "_law_spoilt" s__law_spoilt) (h__law_draw : Has P w K mg 1 "_law_draw" ["_law_pen_here", "_law_many"] d__law_draw) : Has P w K mg 2 "_law_spoilt" ["_law_pen_here", "_law_text_here"] d__law_spoilt := by
  refine has_mk (k := 1) (N := N__law_spoilt) (ds := b__law_spoilt) D sc__law_spoilt (fun _ _ _ _ _ _ us hl => match us, hl with | [_, _], _ => rfl) fun base bo f cdv hcd A outer s H E hr tk po hp => ?_
  have nd := sc__law_spoilt.nd
  exact ⟨_, (sss_cons (ss_setE 2 (ee_has K mg bo h__law_draw hr hp (ea_cons (ee_var (pv 0)) (ea_cons (ee_opk K op2_add opr_add (ee_call1k K op1_len cr_len G.b_len boot_len (ee_var (pv 1)).es).es ee_int.es) ea_nil))) nd) (sss_cons (ss_setE 3 (ee_ixS ee_str.es (ee_has K mg bo h__law_draw hr hp (ea_cons (ee_var (pv 0)) (ea_cons ee_int ea_nil))).es) nd) (sss_cons (ss_setE 4 (ee_call2k K op2_min (call_min2 rfl) G.b_min boot_min (ee_call1k K op1_len cr_len G.b_len boot_len (ee_var (pv 1)).es).es (ee_opk K op2_add opr_add (ee_opk K op2_add opr_add (ee_var (pv 2)).es ee_int.es).es (ee_has K mg bo h__law_draw hr hp (ea_cons (ee_var (pv 0)) (ea_cons ee_int ea_nil))).es).es) nd) (sss_cons (ss_setE 5 (ef_split (ee_var (pv 1)) ee_str).ee nd) (sss_cons (ss_setE 6 (ee_has K mg bo h__law_draw hr hp (ea_cons (ee_var (pv 0)) (ea_cons (ee_call1k K op1_len cr_len G.b_len boot_len (ee_var (pv 5)).es) ea_nil))) nd) (sss_cons (ss_wipe [3] (ss_setE 7 (ef_lst (ea_cons (ee_opk K op2_add opr_add (ee_opk K op2_add opr_add (ee_slS (ee_var (pv 1)) eo_no (eo_some (ee_var (pv 2)))).es (ee_var (pv 3)).es).es (ee_slS (ee_var (pv 1)) (eo_some (ee_var (pv 2))) eo_no).es) (ea_cons (ee_opk K op2_add opr_add (ee_slS (ee_var (pv 1)) eo_no (eo_some (ee_var (pv 2)))).es (ee_slS (ee_var (pv 1)) (eo_some (ee_opk K op2_add opr_add (ee_var (pv 2)).es ee_int.es)) eo_no).es) (ea_cons (ee_opk K op2_add opr_add (ee_opk K op2_add opr_add (ee_slS (ee_var (pv 1)) eo_no (eo_some (ee_var (pv 2)))).es (ee_var (pv 3)).es).es (ee_slS (ee_var (pv 1)) (eo_some (ee_opk K op2_add opr_add (ee_var (pv 2)).es ee_int.es)) eo_no).es) ea_nil)))).ee nd)) (sss_cons (ss_wipe [1, 2, 4] (ss_setE 7 (ef_opk K op2_cat op_cat (ee_var (pv 7)).es (ef_lst (ea_cons (ee_opk K op2_add opr_add (ee_slS (ee_var (pv 1)) eo_no (eo_some (ee_var (pv 4)))).es (ee_slS (ee_var (pv 1)) (eo_some (ee_var (pv 2))) eo_no).es) (ea_cons (ee_join ee_str (ef_opk K op2_cat op_cat (ef_slLk K (ee_var (pv 5)).es eo_no (eo_some (ee_var (pv 6)))).ee.es (ef_slLk K (ee_var (pv 5)).es (eo_some (ee_opk K op2_add opr_add (ee_var (pv 6)).es ee_int.es)) eo_no).ee.es).ee.es) (ea_cons (ee_opk K op2_add opr_add (ee_var (pv 1)).es ee_str.es) (ea_cons (ee_opk K op2_add opr_add ee_str.es (ee_var (pv 1)).es) ea_nil))))).ee.es).ee nd)) (sss_one (ss_ret (ee_ixk K (ef_opk K op2_cat op_cat (ee_var (pv 7)).es (ef_lst (ea_cons (ee_join ee_str (ef_opk K op2_cat op_cat (ee_var (pv 5)).es (ef_slLk K (ee_var (pv 5)).es (eo_some (ee_var (pv 6))) (eo_some (ee_opk K op2_add opr_add (ee_var (pv 6)).es ee_int.es))).ee.es).ee.es) (ea_cons (ee_join ee_str (ef_rev (ee_var (pv 5)).es).ee.es) ea_nil))).ee.es).ee.es (ee_has K mg bo h__law_draw hr hp (ea_cons (ee_var (pv 0)) (ea_cons ee_int ea_nil))).es))))))))))⟩
abbrev s__law_one_right : Stmt := top 42
abbrev N__law_one_right : List Str := ["_law_bound_here", "_law_thing", "_law_kind_here", "_law_said_here", "_law_found", "_law_due"]
theorem sc__law_one_right : FnScope N__law_one_right ["_law_bound_here", "_law_thing", "_law_kind_here", "_law_said_here"] (defScope s__law_one_right) := ⟨rfl, rfl, rfl, by decide +kernel, rfl, by decide +kernel, by decide +kernel⟩
theorem has__law_one_right (G : GF K mg) (GR : Grd kd0 names0 K mg) (D : Def K mg "_law_one_right" s__law_one_right) (h__law_read : Has P w K mg 1 "_law_read" ["_law_bound_here", "_law_text_here", "_law_kind_here"] d__law_read) (h__law_same : HasG P w K mg 1 "_law_same" ["_law_found", "_law_due"] d__law_same) : HasG P w K mg 2 "_law_one_right" ["_law_bound_here", "_law_thing", "_law_kind_here", "_law_said_here"] d__law_one_right := by
  refine has_mkG (k := 1) (N := N__law_one_right) (ds := b__law_one_right) D sc__law_one_right (fun _ _ _ _ _ _ us hl => match us, hl with | [_, _, _, _], _ => rfl) fun base bo f cdv hcd A outer s H E gd hr tk po hp => ?_
  have nd := sc__law_one_right.nd
  exact ⟨_, (sss_cons (ss_wipe [0, 1, 2] (ss_setE 4 (ee_has K mg bo h__law_read hr hp (ea_cons (ee_var (pv 0)) (ea_cons (ee_var (pv 1)) (ea_cons (ee_var (pv 2)) ea_nil)))) nd)) (sss_cons (ss_wipe [4] (ss_setE 5 (ee_if (et_val (ee_isik K "tuple" G.b_isinstance G.b_tuple boot_tuple (ee_var (pv 4)).es)) (ee_tup (ea_cons ee_str (ea_cons (ee_var (pv 4)) ea_nil))) (ee_tup (ea_cons ee_str (ea_cons (ee_var (pv 4)) ea_nil)))) nd)) (sss_one (ss_ret (ee_hasG K mg bo h__law_same gd hr hp (ea_cons (ee_var (pv 3)) (ea_cons (ee_var (pv 5)) ea_nil)))))))⟩
abbrev s__law_right : Stmt := top 43
abbrev N__law_right : List Str := ["_law_bound_here", "_law_thing", "_law_turn"]
theorem sc__law_right : FnScope N__law_right ["_law_bound_here", "_law_thing"] (defScope s__law_right) := ⟨rfl, rfl, rfl, by decide +kernel, rfl, by decide +kernel, by decide +kernel⟩
theorem has__law_right (G : GF K mg) (GR : Grd kd0 names0 K mg) (D : Def K mg "_law_right" s__law_right) (h__law_said : Said P w K mg 1) (h__law_one_right : HasG P w K mg 2 "_law_one_right" ["_law_bound_here", "_law_thing", "_law_kind_here", "_law_said_here"] d__law_one_right) (h_function_read : Has P w K mg 4 "function_read" ["bound", "text"] d_function_read) (h_poly_read : Has P w K mg 4 "poly_read" ["bound", "text"] d_poly_read) : HasG P w K mg 7 "_law_right" ["_law_bound_here", "_law_thing"] d__law_right := by
  refine has_mkG (k := 6) (N := N__law_right) (ds := b__law_right) D sc__law_right (fun _ _ _ _ _ _ us hl => match us, hl with | [_, _], _ => rfl) fun base bo f cdv hcd A outer s H E gd hr tk po hp => ?_
  have nd := sc__law_right.nd
  exact ⟨_, (sss_cons (ss_wipe [0, 1, 2] (ss_for po rfl (ei_range1 G.b_range ee_int) (eg_name (i := 2) nd rfl (by first | exact .inl rfl | exact .inr rfl)) (sss_wipe [2] (sss_cons (ss_if (et_not (et_val (ee_hasG K mg bo h__law_one_right gd hr hp (ea_cons (ee_var (pv 0)) (ea_cons (ee_var (pv 1)) (ea_cons ee_str (ea_cons (ee_said K mg (defScope s__law_right) (k := 4) bo h__law_said (by rw [GR.lm]; decide) GR.tu hcd (hr.mono (by decide)) fun A outer s H E f c' hr hp bo => (ee_has K mg bo h_function_read hr hp (ea_cons (ee_var (pv 0)) (ea_cons (ee_var (pv 1)) ea_nil)))) ea_nil))))))) (sss_one (ss_ret ee_bl)) sss_nil) (sss_one (ss_if (et_not (et_val (ee_hasG K mg bo h__law_one_right gd hr hp (ea_cons (ee_var (pv 0)) (ea_cons (ee_var (pv 1)) (ea_cons ee_str (ea_cons (ee_said K mg (defScope s__law_right) (k := 4) bo h__law_said (by rw [GR.lm]; decide) GR.tu hcd (hr.mono (by decide)) fun A outer s H E f c' hr hp bo => (ee_has K mg bo h_poly_read hr hp (ea_cons (ee_var (pv 0)) (ea_cons (ee_var (pv 1)) ea_nil)))) ea_nil))))))) (sss_one (ss_ret ee_bl)) sss_nil)))))) (sss_one (ss_ret ee_bl)))⟩
abbrev s_law : Stmt := top 44
abbrev N_law : List Str := ["_law_script", "_law_some", "_law_text_here", "_law_cell_here", "_law_pen_here", "_law_bound_here", "_law_texts", "_law_things", "_law_turn", "_law_none", "_law_thing"]
theorem sc_law : FnScope N_law ["_law_script"] (defScope s_law) := ⟨rfl, rfl, rfl, by decide +kernel, rfl, by decide +kernel, by decide +kernel⟩
theorem has_law (G : GF K mg) (GR : Grd kd0 names0 K mg) (D : Def K mg "law" s_law) (h__law_said : Said P w K mg 1) (h__law_right : HasG P w K mg 7 "_law_right" ["_law_bound_here", "_law_thing"] d__law_right) (h__law_cell : Has P w K mg 1 "_law_cell" ["_law_script", "_law_k"] d__law_cell) (h__law_pen : Has P w K mg 1 "_law_pen" ["_law_cell_here"] d__law_pen) (h__law_bound : Has P w K mg 2 "_law_bound" ["_law_pen_here"] d__law_bound) (h__law_text : Has P w K mg 1 "_law_text" ["_law_row"] d__law_text) (h__law_poly : Has P w K mg 2 "_law_poly" ["_law_pen_here", "_law_bound_here", "_law_most"] d__law_poly) (h__law_function : Has P w K mg 3 "_law_function" ["_law_pen_here", "_law_bound_here"] d__law_function) (h__law_odd : Has P w K mg 2 "_law_odd" ["_law_pen_here"] d__law_odd) (h__law_spoilt : Has P w K mg 2 "_law_spoilt" ["_law_pen_here", "_law_text_here"] d__law_spoilt) (h__law_no_bound : Has P w K mg 2 "_law_no_bound" ["_law_pen_here"] d__law_no_bound) (h_function_read : Has P w K mg 4 "function_read" ["bound", "text"] d_function_read) (h_poly_read : Has P w K mg 4 "poly_read" ["bound", "text"] d_poly_read) : HasG P w K mg 8 "law" ["_law_script"] d_law := by
  refine has_mkG (k := 7) (N := N_law) (ds := b_law) D sc_law (fun _ _ _ _ _ _ us hl => match us, hl with | [_], _ => rfl) fun base bo f cdv hcd A outer s H E gd hr tk po hp => ?_
  have nd := sc_law.nd
  exact ⟨_, (sss_cons (ss_setE 1 (ef_lst (ea_cons ee_str (ea_cons ee_str (ea_cons ee_str (ea_cons ee_str (ea_cons ee_str (ea_cons ee_str (ea_cons ee_str (ea_cons ee_str (ea_cons ee_str (ea_cons ee_str (ea_cons ee_str (ea_cons ee_str (ea_cons ee_str (ea_cons ee_str ea_nil))))))))))))))).ee nd) (sss_cons (ss_setE 1 (ef_opk K op2_cat op_cat (ee_var (pv 1)).es (ef_lst (ea_cons ee_str (ea_cons ee_str (ea_cons ee_str ea_nil)))).ee.es).ee nd) (sss_cons (ss_wipe [1, 2] (ss_for po rfl (ei_seqk K (ef_opk K op2_cat op_cat (ee_var (pv 1)).es (ef_lst (ea_cons ee_non (ea_cons ee_int (ea_cons (ef_lst (ea_cons ee_str ea_nil)).ee ea_nil)))).ee.es).ee) (eg_name (i := 2) nd rfl (by first | exact .inl rfl | exact .inr rfl)) (sss_one (ss_wipe [2] (ss_if (ew_or (et_not (et_val (ee_hasG K mg bo h__law_right gd hr hp (ea_cons ee_int (ea_cons (ee_var (pv 2)) ea_nil))))) (ew_or (et_not (et_val (ee_hasG K mg bo h__law_right gd hr hp (ea_cons ee_int (ea_cons (ee_var (pv 2)) ea_nil))))) (ew_or1 (et_not (et_val (ee_hasG K mg bo h__law_right gd hr hp (ea_cons ee_int (ea_cons (ee_var (pv 2)) ea_nil)))))))).et (sss_one (ss_ret ee_bl)) sss_nil))))) (sss_cons (ss_wipe [0, 3, 4, 5, 6, 7, 8, 9] (ss_for po rfl (ei_seqk K (ef_opk K op2_cat op_cat (ef_lst (ea_cons (ee_has K mg bo h__law_cell hr hp (ea_cons (ee_var (pv 0)) (ea_cons ee_int ea_nil))) ea_nil)).ee.es (ef_slLk K (ee_var (pv 0)).es (eo_some ee_int) (eo_some ee_int)).ee.es).ee) (eg_name (i := 3) nd rfl (by first | exact .inl rfl | exact .inr rfl)) (sss_cons (ss_wipe [3] (ss_setE 4 (ee_has K mg bo h__law_pen hr hp (ea_cons (ee_var (pv 3)) ea_nil)) nd)) (sss_cons (ss_setE 5 (ee_has K mg bo h__law_bound hr hp (ea_cons (ee_var (pv 4)) ea_nil)) nd) (sss_cons (ss_setE 6 (ef_lst (ea_cons (ee_has K mg bo h__law_text hr hp (ea_cons (ee_has K mg bo h__law_function hr hp (ea_cons (ee_var (pv 4)) (ea_cons (ee_var (pv 5)) ea_nil))) ea_nil)) (ea_cons (ee_has K mg bo h__law_text hr hp (ea_cons (ee_has K mg bo h__law_poly hr hp (ea_cons (ee_var (pv 4)) (ea_cons (ee_var (pv 5)) (ea_cons ee_int ea_nil)))) ea_nil)) ea_nil))).ee nd) (sss_cons (ss_setE 7 (ef_opk K op2_cat op_cat (ee_var (pv 6)).es (ef_lst (ea_cons (ee_has K mg bo h__law_odd hr hp (ea_cons (ee_var (pv 4)) ea_nil)) ea_nil)).ee.es).ee nd) (sss_cons (ss_wipe [6, 8] (ss_for po rfl (ei_range1 G.b_range ee_int) (eg_name (i := 8) nd rfl (by first | exact .inl rfl | exact .inr rfl)) (sss_wipe [8] (sss_one (ss_setE 7 (ef_opk K op2_cat op_cat (ee_var (pv 7)).es (ef_lc (own := [("_law_text_here", 2)]) nd (blkOk_by (N := N_law) (sc := defScope s_law) (by decide +kernel)) (ei_seqk K (ee_var (pv 6))) (fun _ _ _ _ _ => (eg_name (i := 2) nd rfl (by first | exact .inl rfl | exact .inr rfl))) (fun _ _ _ _ _ => ets_nil) (fun _ _ _ _ _ => (ee_has K mg bo h__law_spoilt hr passW0 (ea_cons (ee_var (pv 4)) (ea_cons (ee_var (pv 2)) ea_nil))))).ee.es).ee nd))))) (sss_cons (ss_wipe [5, 7] (ss_if (et_not (et_val (ee_call1k K op1_all (cr_all rfl) G.b_all boot_all (ef_lc (own := [("_law_thing", 10)]) nd (blkOk_by (N := N_law) (sc := defScope s_law) (by decide +kernel)) (ei_seqk K (ee_var (pv 7))) (fun _ _ _ _ _ => (eg_name (i := 10) nd rfl (by first | exact .inl rfl | exact .inr rfl))) (fun _ _ _ _ _ => ets_nil) (fun _ _ _ _ _ => (ee_hasG K mg bo h__law_right gd hr passW0 (ea_cons (ee_var (pv 5)) (ea_cons (ee_var (pv 10)) ea_nil))))).ee.es))) (sss_one (ss_ret ee_bl)) sss_nil)) (sss_cons (ss_wipe [4] (ss_setE 9 (ee_has K mg bo h__law_no_bound hr hp (ea_cons (ee_var (pv 4)) ea_nil)) nd)) (sss_cons (ss_if (et_cmpk K op2_ne (opr_ne hr) (ee_said K mg (defScope s_law) (k := 4) bo h__law_said (by rw [GR.lm]; decide) GR.tu hcd (hr.mono (by decide)) fun A outer s H E f c' hr hp bo => (ee_has K mg bo h_function_read hr hp (ea_cons (ee_var (pv 9)) (ea_cons ee_non ea_nil)))).es (ee_tup (ea_cons ee_str ea_nil)).es) (sss_one (ss_ret ee_bl)) sss_nil) (sss_one (ss_wipe [9] (ss_if (et_cmpk K op2_ne (opr_ne hr) (ee_said K mg (defScope s_law) (k := 4) bo h__law_said (by rw [GR.lm]; decide) GR.tu hcd (hr.mono (by decide)) fun A outer s H E f c' hr hp bo => (ee_has K mg bo h_poly_read hr hp (ea_cons (ee_var (pv 9)) (ea_cons ee_non ea_nil)))).es (ee_tup (ea_cons ee_str ea_nil)).es) (sss_one (ss_ret ee_bl)) sss_nil))))))))))))) (sss_one (ss_ret ee_bl))))))⟩
end
end Q
namespace Q
open PySem PySem.Spec PyProof.Rows L2
def loose0 : List Str := ["OnceError", "NoBound", "NoPrime", "NoPower", "NoNumber", "NoFunction", "NoPoly", "Apart", "NoRow", "NoList", "NoText", "TooGreat", "MOST_BOUND", "is_whole", "is_within", "need_bound", "FIGURES", "number_in", "numbers_in", "function_read", "poly_read", "_law_cell", "_law_pen", "_law_draw", "_law_whole", "_law_kind", "_law_said", "_law_odd", "_law_same", "_law_bound"]
def loose1 : List Str := ["_law_no_bound", "_law_order", "_law_poly", "_law_worths", "_law_function", "_law_text", "_law_read", "_law_spoilt", "_law_one_right", "_law_right"]
def fa0 : List He.Fa := [.glo "is_whole", .glo "is_within", .glo "need_bound", .glo "number_in", .glo "numbers_in", .glo "function_read", .glo "poly_read", .glo "_law_cell", .glo "_law_pen", .glo "_law_draw", .glo "_law_whole", .glo "_law_kind", .glo "_law_said", .glo "_law_odd", .glo "_law_same", .glo "_law_bound", .glo "_law_no_bound", .glo "_law_order", .glo "_law_poly", .glo "_law_worths", .glo "_law_function", .glo "_law_text", .glo "_law_read", .glo "_law_spoilt", .glo "_law_one_right"]
def fa1 : List He.Fa := [.glo "_law_right", .glo "law", .free "ValueError", .free "all", .free "bool", .free "divmod", .free "enumerate", .free "int", .free "isinstance", .free "len", .free "max", .free "min", .free "range", .free "repr", .free "str", .free "tuple", .exc "NoBound", .glo "NoBound", .int "MOST_BOUND" 16, .str "FIGURES" "0123456789"]
def fa : List He.Fa := fa0 ++ fa1
def fn0 : List He.DefD := [⟨("is_whole", none), "is_whole", "is_whole", defArgs s_is_whole, defBody s_is_whole, defScope s_is_whole, [], []⟩, ⟨("is_within", none), "is_within", "is_within", defArgs s_is_within, defBody s_is_within, defScope s_is_within, [], []⟩, ⟨("need_bound", none), "need_bound", "need_bound", defArgs s_need_bound, defBody s_need_bound, defScope s_need_bound, [], []⟩, ⟨("number_in", none), "number_in", "number_in", defArgs s_number_in, defBody s_number_in, defScope s_number_in, [], []⟩, ⟨("numbers_in", none), "numbers_in", "numbers_in", defArgs s_numbers_in, defBody s_numbers_in, defScope s_numbers_in, [], []⟩, ⟨("function_read", none), "function_read", "function_read", defArgs s_function_read, defBody s_function_read, defScope s_function_read, [], []⟩, ⟨("poly_read", none), "poly_read", "poly_read", defArgs s_poly_read, defBody s_poly_read, defScope s_poly_read, [], []⟩, ⟨("_law_cell", none), "_law_cell", "_law_cell", defArgs s__law_cell, defBody s__law_cell, defScope s__law_cell, [], []⟩, ⟨("_law_pen", none), "_law_pen", "_law_pen", defArgs s__law_pen, defBody s__law_pen, defScope s__law_pen, [], []⟩, ⟨("_law_draw", none), "_law_draw", "_law_draw", defArgs s__law_draw, defBody s__law_draw, defScope s__law_draw, [], []⟩, ⟨("_law_whole", none), "_law_whole", "_law_whole", defArgs s__law_whole, defBody s__law_whole, defScope s__law_whole, [], []⟩, ⟨("_law_kind", none), "_law_kind", "_law_kind", defArgs s__law_kind, defBody s__law_kind, defScope s__law_kind, [], []⟩, ⟨("_law_said", none), "_law_said", "_law_said", defArgs s__law_said, defBody s__law_said, defScope s__law_said, [], []⟩, ⟨("_law_odd", none), "_law_odd", "_law_odd", defArgs s__law_odd, defBody s__law_odd, defScope s__law_odd, [], []⟩, ⟨("_law_same", none), "_law_same", "_law_same", defArgs s__law_same, defBody s__law_same, defScope s__law_same, [], []⟩, ⟨("_law_bound", none), "_law_bound", "_law_bound", defArgs s__law_bound, defBody s__law_bound, defScope s__law_bound, [], []⟩, ⟨("_law_no_bound", none), "_law_no_bound", "_law_no_bound", defArgs s__law_no_bound, defBody s__law_no_bound, defScope s__law_no_bound, [], []⟩, ⟨("_law_order", none), "_law_order", "_law_order", defArgs s__law_order, defBody s__law_order, defScope s__law_order, [], []⟩, ⟨("_law_poly", none), "_law_poly", "_law_poly", defArgs s__law_poly, defBody s__law_poly, defScope s__law_poly, [], []⟩, ⟨("_law_worths", none), "_law_worths", "_law_worths", defArgs s__law_worths, defBody s__law_worths, defScope s__law_worths, [], []⟩]
def fn1 : List He.DefD := [⟨("_law_function", none), "_law_function", "_law_function", defArgs s__law_function, defBody s__law_function, defScope s__law_function, [], []⟩, ⟨("_law_text", none), "_law_text", "_law_text", defArgs s__law_text, defBody s__law_text, defScope s__law_text, [], []⟩, ⟨("_law_read", none), "_law_read", "_law_read", defArgs s__law_read, defBody s__law_read, defScope s__law_read, [], []⟩, ⟨("_law_spoilt", none), "_law_spoilt", "_law_spoilt", defArgs s__law_spoilt, defBody s__law_spoilt, defScope s__law_spoilt, [], []⟩, ⟨("_law_one_right", none), "_law_one_right", "_law_one_right", defArgs s__law_one_right, defBody s__law_one_right, defScope s__law_one_right, [], []⟩, ⟨("_law_right", none), "_law_right", "_law_right", defArgs s__law_right, defBody s__law_right, defScope s__law_right, [], []⟩, ⟨("law", none), "law", "law", defArgs s_law, defBody s_law, defScope s_law, [], []⟩, ⟨("NoText", some "__init__"), "__init__", "NoText.__init__", defArgs m_NoText, defBody m_NoText, defScope m_NoText, [], []⟩]
def fn : List He.DefD := fn0 ++ fn1
def loose : List Str := loose0 ++ loose1
abbrev RW : PySem.W.OpenRow := PySem.W.OpenLaw.row PySem.Challenge.rw_onceeach_k74_functions_and_polynomials_r
abbrev tf0 : List He.Defn := names0.map fun x => (x, none)
def extra0 (K : PySem.W.Frag) : Bool := iniB K
abbrev ex0 : PySem.W.Frag → Bool := exX extra0 kd0 names0
abbrev hk : PySem.W.Hook := hookY 4 fa fn [] tf0 ex0
def ob (s : PySem.W.SharedT) : He.AlX := obsY 4 fa fn [] tf0 ex0 (HandSHeadRun.getT s)
theorem ob_eq (s : PySem.W.SharedT) : ob s = hk.obs s.abs := obsY_eq (HandSHeadRun.getT_eq s)
theorem run (w : World) : HandSHeadRun.RunEq RW (PySem.W.view RW.prog [44]) hk ob 8000 loose w := by
  intro os
  kernel_rfl
theorem facts {P : Program} {w : World} {K : PySem.W.Frag} {h : Heap} {mg : Str → Option Value} (X : K.In h) (G0 : h.Ns mainGlobals mg) (c : He.SaysD fa fn K) (GR : Grd kd0 names0 K mg) (EX : extra0 K = true) : HasG P w K mg 8 "law" ["_law_script"] d_law := by
  have G : GF K mg := ⟨He.free_ok X G0 (c.fact 27 (f := .free "ValueError") rfl),
    He.free_ok X G0 (c.fact 28 (f := .free "all") rfl),
    He.free_ok X G0 (c.fact 29 (f := .free "bool") rfl),
    He.free_ok X G0 (c.fact 30 (f := .free "divmod") rfl),
    He.free_ok X G0 (c.fact 31 (f := .free "enumerate") rfl),
    He.free_ok X G0 (c.fact 32 (f := .free "int") rfl),
    He.free_ok X G0 (c.fact 33 (f := .free "isinstance") rfl),
    He.free_ok X G0 (c.fact 34 (f := .free "len") rfl),
    He.free_ok X G0 (c.fact 35 (f := .free "max") rfl),
    He.free_ok X G0 (c.fact 36 (f := .free "min") rfl),
    He.free_ok X G0 (c.fact 37 (f := .free "range") rfl),
    He.free_ok X G0 (c.fact 38 (f := .free "repr") rfl),
    He.free_ok X G0 (c.fact 39 (f := .free "str") rfl),
    He.free_ok X G0 (c.fact 40 (f := .free "tuple") rfl),
    exc_of X G0 c 41 42,
    He.int_ok X G0 (c.fact 43 (f := .int "MOST_BOUND" 16) rfl),
    He.str_ok X G0 (c.fact 44 (f := .str "FIGURES" "0123456789") rfl)⟩
  unfold extra0 at EX
  have IO := ini_ok X G0 EX
  have i_NoText := ini_NoText (P := P) (w := w) IO.once (c.def_ 27)
  have h_is_whole := has_is_whole (P := P) (w := w) G GR (def_of X G0 c 0 0)
  have h_is_within := has_is_within (P := P) (w := w) G GR (def_of X G0 c 1 1) h_is_whole
  have h_need_bound := has_need_bound (P := P) (w := w) G GR (def_of X G0 c 2 2) h_is_within
  have h_number_in := has_number_in (P := P) (w := w) G GR (def_of X G0 c 3 3)
  have h_numbers_in := has_numbers_in (P := P) (w := w) G GR IO i_NoText (def_of X G0 c 4 4) h_number_in
  have h_function_read := has_function_read (P := P) (w := w) G GR IO i_NoText (def_of X G0 c 5 5) h_need_bound h_numbers_in
  have h_poly_read := has_poly_read (P := P) (w := w) G GR IO i_NoText (def_of X G0 c 6 6) h_need_bound h_numbers_in
  have h__law_cell := has__law_cell (P := P) (w := w) G GR (def_of X G0 c 7 7)
  have h__law_pen := has__law_pen (P := P) (w := w) G GR (def_of X G0 c 8 8)
  have h__law_draw := has__law_draw (P := P) (w := w) G GR (def_of X G0 c 9 9)
  have h__law_whole := has__law_whole (P := P) (w := w) G GR (def_of X G0 c 10 10)
  have hot__law_whole := hot__law_whole (P := P) (w := w) G (def_of X G0 c 10 10)
  have h__law_kind := has__law_kind (P := P) (w := w) G GR (def_of X G0 c 11 11)
  have h__law_said := has__law_said (P := P) (w := w) G GR (def_of X G0 c 12 12) h__law_kind hot__law_whole
  have h__law_odd := has__law_odd (P := P) (w := w) G GR (def_of X G0 c 13 13) h__law_draw
  have h__law_same := has__law_same (P := P) (w := w) G GR (def_of X G0 c 14 14)
  have h__law_bound := has__law_bound (P := P) (w := w) G GR (def_of X G0 c 15 15) h__law_draw
  have h__law_no_bound := has__law_no_bound (P := P) (w := w) G GR (def_of X G0 c 16 16) h__law_draw
  have h__law_order := has__law_order (P := P) (w := w) G GR (def_of X G0 c 17 17) h__law_draw
  have h__law_poly := has__law_poly (P := P) (w := w) G GR (def_of X G0 c 18 18) h__law_draw
  have h__law_worths := has__law_worths (P := P) (w := w) G GR (def_of X G0 c 19 19)
  have h__law_function := has__law_function (P := P) (w := w) G GR (def_of X G0 c 20 20) h__law_draw h__law_order h__law_worths h__law_poly
  have h__law_text := has__law_text (P := P) (w := w) G GR (def_of X G0 c 21 21)
  have h__law_read := has__law_read (P := P) (w := w) G GR (def_of X G0 c 22 22)
  have h__law_spoilt := has__law_spoilt (P := P) (w := w) G GR (def_of X G0 c 23 23) h__law_draw
  have h__law_one_right := has__law_one_right (P := P) (w := w) G GR (def_of X G0 c 24 24) h__law_read h__law_same
  have h__law_right := has__law_right (P := P) (w := w) G GR (def_of X G0 c 25 25) h__law_said h__law_one_right h_function_read h_poly_read
  have h_law := has_law (P := P) (w := w) G GR (def_of X G0 c 26 26) h__law_said h__law_right h__law_cell h__law_pen h__law_bound h__law_text h__law_poly h__law_function h__law_odd h__law_spoilt h__law_no_bound h_function_read h_poly_read
  exact h_law
end Q
open PySem PySem.W PySem.Calls PyProof.Rows
theorem PySem.Challenge.cw_onceeach_k74_functions_and_polynomials_r_holds : PySem.Challenge.rw_onceeach_k74_functions_and_polynomials_r.Holds := by
  w_on; o_law
  refine HandSHeadRun.head_any (r := OpenLaw.row PySem.Challenge.rw_onceeach_k74_functions_and_polynomials_r) (q := view (OpenLaw.row PySem.Challenge.rw_onceeach_k74_functions_and_polynomials_r).prog [44]) (H := Q.hk) (ob := Q.ob) (M := 8000) (loose := Q.loose) (d := HandSHeadRun.topDef (OpenLaw.row PySem.Challenge.rw_onceeach_k74_functions_and_polynomials_r).prog 44) (kwd := []) Q.ob_eq
    (by kernel_rfl) (fun s => by kernel_rfl) Q.run (by kernel_rfl) (by kernel_rfl) (by kernel_rfl) (by rfl) (by first | assumption | decide +kernel) (by decide +kernel) ⟨rfl, rfl, rfl, rfl, rfl, by decide +kernel⟩ ?hw ?hc
  case hw => w_witness2
  case hc =>
    exact Q.walk_lawX (l := PySem.Challenge.rw_onceeach_k74_functions_and_polynomials_r) (n := 63) (k := 8) (x := "_law_script") (kd := Q.kd0) (names := Q.names0) (fa := Q.fa) (fn := Q.fn) (df := Q.d_law) rfl (by decide) (by kernel_rfl) ⟨rfl, by decide, by decide⟩ (by kernel_rfl) (fun w h Y => Y) Q.law_true
      fun w mg K h KX G c GR EX => Q.facts KX G c GR EX
