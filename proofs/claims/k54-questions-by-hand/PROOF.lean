import PyProof.Rows.All
import HandS.TupAny
import HandS.TupMul
import HandS.Conv
import HandS.Deep
import HandS.Strs
import KE.KIndexWalk
import KE.DataFind
import HandS.Dict
import KE.KDictPairs
import KE.SortData
import KE.KDictSum
import KE.KDictCopyH
import HandS.SetFor
import HandS.Zip
import HandS.Exc
import HandS.ExcOwn
import HandS.ExcValue
import HandS.ExcIs
import HandS.ForMost
import HandS.More
import HandS.WordsExc
import HandS.TupLe
import HandS.Walk
import HandS.Wide
import HandS.IsInst
import HandS.Style
import HandS.Codes
import HandS.SortInts
import KE.LtData
import KE.DataCmp
import KE.DataMinMax
import KE.KDictKeyed
import KE.GoesNew
import KE.GoesMore
import KE.GoesEnum
import HandS.Defaults
import HandS.Head0
import HandS.Head1
import HandS.Head2
import HandS.HeadEnd
import HandS.HeadHook1
import HandS.HeadHook2
import HandS.HeadHook3
import HandS.HeadHook4
import PyProof.ExcBaseAll.ValueError
import PyProof.TableCode
import Lean
import KE.KStateDown
import PySem.Challenge.RW_signsure_k54_questions_by_hand
set_option maxHeartbeats 0
set_option maxRecDepth 100000
set_option Elab.async false
set_option linter.all false
set_option Elab.async false
set_option linter.all false
set_option maxRecDepth 100000
set_option maxHeartbeats 4000000
namespace L2
open PySem PySem.Spec PyProof.Rows HT
/-- a tuple without a dict -/
def TAt (H : Hp) (a : Addr) (xs : List V) : Prop := ∃ o : Obj, o.dict = none ∧ H a = some (.frz o (.tup xs))
theorem TAt.sq {K : PySem.W.Frag} {H : Hp} {a : Addr} {xs : List V} (h : TAt H a xs) : SqT K H a xs := by
  obtain ⟨o, _, e⟩ := h
  exact .inl (.inr ⟨o, e⟩)
abbrev NewT (H : Hp) (xs : List V) (Q : VK) : Prop := ∀ (p : Addr) (o : Obj), o.dict = none → H p = none → Q (.ref p) (upd H p (.frz o (.tup xs)))
section
variable {X : Cx} {pins : List (Addr × Obj)} {σ : St} {H : Hp} {s : Shared} {Q : VK}
theorem ep_newT {xs : List V} {us : List Value} {t' : Nat} (I : Inv X pins σ H s) (r : Vals xs us) (z : xs.length ≤ sizeLine) (q : NewT H xs Q) : EP X pins σ Q (.ref s.heap.objs.size) { s with heap := s.heap.push { cls := .type "tuple", data := .seq us.toArray }, toks := t' } :=
  ⟨.ref s.heap.objs.size, _, I.laid (o := .frz { cls := .type "tuple", data := .seq us.toArray } (.tup xs)) (fun b u e => Heap.get?_push_of_some _ e) (Nat.le_refl _) ⟨Heap.get?_push_size _ rfl, z, us, r, IsTup.new _ _⟩, rfl, q _ _ rfl (I.hok.fresh (Nat.le_refl _))⟩
end
section
variable {X : Cx} {es : List Expr} {t : TA} {pos : Pos}
def tTupF (t : TA) : TE := fun σ H Q => t σ H fun xs H1 => xs.length ≤ sizeLine ∧ NewT H1 xs Q
theorem pe_tupF {k : Nat} (h : PA X es t) : PE X (.Tuple es k pos) (tTupF t) :=
  ⟨fun pins s σ H Q I hq => wpAny_Tuple_spliced (thn (h.run pos pins s σ H _ I hq) fun us s1 ⟨xs, H1, I1, r, z, q⟩ => ⟨by rw [← r.length]; exact z, ep_newT (t' := s1.toks) I1 r z q⟩)⟩
/-- t + u -/
def rCatF (K : PySem.W.Frag) : R2 := fun x y H Q => ∃ a b xs ys, x = .ref a ∧ y = .ref b ∧ SqT K H a xs ∧ SqT K H b ys ∧ xs.length + ys.length ≤ sizeLine ∧ (xs = [] → Q (.ref b) H) ∧ (xs ≠ [] → ys = [] → Q (.ref a) H) ∧ (xs ≠ [] → ys ≠ [] → NewT H (xs ++ ys) Q)
theorem op_catF : OpR X (binaryOp .Add) (rCatF X.K) := fun pins s σ H x y v u Q I rx ry h => by
  obtain ⟨a, b, xs, ys, ex, ey, ha, hb, hz, q0, q1, q2⟩ := h
  subst ex ey
  cases rx; cases ry
  obtain ⟨us, r1, p1, _⟩ := I.tuple ha
  obtain ⟨ws, r2, p2, _⟩ := I.tuple hb
  by_cases hx : xs = []
  · subst hx
    cases r1
    exact cat_tup0 p1 p2 ⟨.ref b, _, I, rfl, q0 rfl⟩
  · exact HT.cat_tup p1 p2 (fun e => hx (r1.nil_iff.mp e)) (fun e => ⟨.ref a, _, I, rfl, q1 hx (r2.nil_iff.mp e)⟩) (fun e => ep_newT (t' := s.toks) I (r1.append r2) (by rw [List.length_append]; exact hz) (q2 hx fun e2 => e (r2.nil_iff.mpr e2))) (by rw [← r1.length, ← r2.length]; exact hz)
/-- t[lo:hi] -/
def rSlF (K : PySem.W.Frag) : V → Option Int → Option Int → Hp → VK → Prop := fun x lo hi H Q => ∃ a xs, x = .ref a ∧ SqT K H a xs ∧
  (HT.sIx xs.length 0 lo = 0 ∧ HT.sIx xs.length xs.length hi = xs.length → Q (.ref a) H) ∧ (¬ (HT.sIx xs.length 0 lo = 0 ∧ HT.sIx xs.length xs.length hi = xs.length) → NewT H (cutV xs lo hi) Q)
theorem sl_tupF : SlR X (rSlF X.K) := fun pins s σ H x v vl vu lo hi sl Q I rx hs pl pu h => by
  obtain ⟨a, xs, ex, hx, q1, q2⟩ := h
  subst ex
  cases rx
  obtain ⟨us, r, ht, hz⟩ := I.tuple hx
  have hn : us.toArray.size = xs.length := List.size_toArray.trans r.length.symm
  refine ⟨"tuple", _, PyProof.Rows.slot_tuple_getitem.lookup, ht.typeIs, ?_⟩
  by_cases hw : HT.sIx xs.length 0 lo = 0 ∧ HT.sIx xs.length xs.length hi = xs.length
  · exact getItem_tuple_whole ht hs pl pu (by rw [hn]; exact hw) ⟨.ref a, _, I, rfl, q1 hw⟩
  · refine HT.getItem_tuple_cut ht hs pl pu (by rw [hn]; exact hw) ?_ (by rw [hn]; exact hz)
    rw [hn]
    exact ep_newT (t' := s.toks) I ((r.drop (HT.sIx xs.length 0 lo)).take (HT.sIx xs.length xs.length hi - HT.sIx xs.length 0 lo)) (Nat.le_trans (cutV_length xs lo hi) hz) (q2 hw)
/-- tuple(..) -/
theorem call_tupF : CallR X (.type "tuple") (fun xs H Q => ∃ p ys, xs = [.ref p] ∧ ((SqL X.K H p ys ∧ NewT H ys Q) ∨ (SqT X.K H p ys ∧ Q (.ref p) H))) := fun pins s σ H xs us Q I r h => by
  obtain ⟨p, ys, ex, h⟩ := h
  subst ex
  obtain ⟨u, rfl, rx⟩ := vals1 r
  cases rx
  rcases h with ⟨hq, q⟩ | ⟨hq, q⟩
  · obtain ⟨its, r', pl, hz⟩ := I.list hq
    have hn := r'.length
    exact call_tuple_list pl.isList (fun h' kp => ep_newT (t' := s.toks) (I.kept (t' := s.toks) kp) r' hz q) (by simp only [List.size_toArray] <;> omega)
  · obtain ⟨its, r', pl, hz⟩ := I.tuple hq
    exact call_tuple_same pl ⟨.ref p, _, I, rfl, q⟩
def tyF (K : PySem.W.Frag) (T : String) (x : V) (H : Hp) : Prop := tyV K T x H ∨ (T = "tuple" ∧ ∃ p xs, x = .ref p ∧ TAt H p xs)
theorem tyF_is {pins : List (Addr × Obj)} {σ : St} {H : Hp} {s : Shared} {T : String} {x : V} {v : Value} (I : Inv X pins σ H s) (r : RelV x v) (ty : tyF X.K T x H) : s.TypeIs v T ∧ ∀ a, v = .ref a → ∃ ob, s.heap.get? a = some ob ∧ ob.dict = none := by
  rcases ty with ty | ⟨rfl, p, xs, rfl, o, hd, e⟩
  · exact tyV_is I r ty
  · cases r
    obtain ⟨h1, _, its, _, o', h2, h3, h4⟩ := I.hok p _ e
    exact ⟨⟨o', h2, h3⟩, fun a ea => by cases ea; exact ⟨o, h1, hd⟩⟩
def tBF (K : PySem.W.Frag) (T : String) (r : V → List V → Hp → VK → Prop) (to : TE) (t : TA) : TE := fun σ H Q => to σ H fun x H1 => tyF K T x H1 ∧ t σ H1 fun xs H2 => r x xs H2 Q
theorem pe_bmF {o e : Expr} {to : TE} {t : TA} {name : Str} {apos cpos : Pos} {T id : String} {r : V → List V → Hp → VK → Prop} (pa : PlainAttrs T) (slot : Slot T name id) (hty : typeOf (.builtin id) = pure (.type "method_descriptor")) (hm : MtR X id r) (ho : PE X o to) (ha : PA X [e] t)
    (hbase : attributeBase o name X.env (eval o X.env) = eval o X.env)
    (hfew : ((backTo cpos (starEach [e] X.env)).all (fun x => !x.1) && (backToKw cpos (keywordEach [] X.env)).all (fun x => x.1.isSome) && decide ([e].length + ([] : List Keyword).length + (if ([] : List Keyword).isEmpty then 0 else 1) < 30)) = true)
    (hline : (apos.endLine == cpos.line) = true) (hs : starEach [e] X.env = (false, eval e X.env) :: starEach [] X.env) : PE X (.Call (.Attribute o name apos) [e] [] cpos) (tBF X.K T r to t) :=
  ⟨fun pins s σ H Q I h => wpAny_Call_method_late hbase hfew hline rfl (thn (ho.run pins s σ H _ I h) fun v s1 ⟨x, H1, I1, r1, ty, q1⟩ => by
    obtain ⟨h1, h2⟩ := tyF_is I1 r1 ty
    refine ⟨T, id, pa, slot, hty, h1, h2, ?_⟩
    have hA := ha.run cpos pins s1 σ H1 _ I1 q1
    rw [hs] at hA ⊢
    exact Calls.callWith_builtin rfl (Calls.evalArgs_plain (thn hA fun us s2 ⟨vs, H2, I2, r2, q2⟩ => hm pins s2 σ H2 x vs v us Q I2 r1 r2 q2)))⟩
/-- t.count(x) -/
def rCountT (K : PySem.W.Frag) : V → List V → Hp → VK → Prop := fun x xs H Q => ∃ (a : Addr) (y : V) (d : PyData) (ds : List PyData), x = V.ref a ∧ xs = [y] ∧ Dp K H (V.ref a) (.tuple ds) ∧ Dp K H y d ∧ SeqAt.shaped (.tuple ds) = true ∧ SeqAt.shaped d = true ∧ Q (.int (ds.countP (fun z => PyData.eqv z d) : Nat)) H
theorem mt_countT (hu : X.A.units + 65 < cLine) : MtR X "tuple.count" (rCountT X.K) := fun pins s σ H x xs v us Q I rx rxs h => by
  obtain ⟨a, y, d, ds, ex, exs, hl, hy, sl, sd, q⟩ := h
  subst ex exs
  cases rx
  obtain ⟨uy, rfl, ry⟩ := vals1 rxs
  obtain ⟨bs, r1⟩ := Dp.reads I d y uy hy ry
  have hlay : PyData.canLayAll0 ds = true := SeqAt.canLay_of_shaped sl
  cases hl with
  | tup hs ha =>
    obtain ⟨its, rv, ⟨⟨cls, dd, data, sls⟩, ho, hc, n, hdt⟩, _⟩ := I.tuple hs
    simp only at hc hdt
    subst hc hdt
    obtain ⟨as, h4⟩ := Dp.readsAll I ds _ its ha rv
    have hmap := SeqAt.readsAll_map ds its as hlay h4
    refine call_meets PySem.F.slot_tuple_count ⟨_, ho, rfl⟩ PySem.F.entry_tuple_count (PySem.F.args_tuple_count_2 _ _) (SeqAt.tuple_countAt a its.toArray n dd sls uy (fun u => PyData.eqv (SeqAt.readOf s.heap u) d))
      ⟨ho, SeqAt.items_eqAt (vs := its.toArray) (show ReadsAll s.heap its.toArray.toList ds as from h4) r1 hlay (SeqAt.canLay_of_shaped sd) (room_in_shaped sd hu), .int _, H, I.tok _, ⟨s.toks, ?_⟩, q⟩
    rw [← hmap, List.countP_map, List.toList_toArray]; rfl
/-- t.index(x) -/
def rIndexT (K : PySem.W.Frag) : V → List V → Hp → VK → Prop := fun x xs H Q => ∃ (a : Addr) (y : V) (d : PyData) (ds : List PyData) (j : Nat) (z : PyData), x = V.ref a ∧ xs = [y] ∧ Dp K H (V.ref a) (.tuple ds) ∧ Dp K H y d ∧ SeqAt.shaped (.tuple ds) = true ∧ SeqAt.shaped d = true ∧ ds[j]? = some z ∧ PyData.eqv z d = true ∧ (∀ m z', m < j → ds[m]? = some z' → PyData.eqv z' d = false) ∧ Q (.int (j : Nat)) H
theorem mt_indexT (hu : X.A.units + 65 < cLine) : MtR X "tuple.index" (rIndexT X.K) := fun pins s σ H x xs v us Q I rx rxs h => by
  obtain ⟨a, y, d, ds, j, z, ex, exs, hl, hy, sl, sd, hz, hzj, hno, q⟩ := h
  subst ex exs
  cases rx
  obtain ⟨uy, rfl, ry⟩ := vals1 rxs
  obtain ⟨bs, r1⟩ := Dp.reads I d y uy hy ry
  have hlay : PyData.canLayAll0 ds = true := SeqAt.canLay_of_shaped sl
  cases hl with
  | tup hs ha =>
    obtain ⟨its, rv, ⟨⟨cls, dd, data, sls⟩, ho, hc, n, hdt⟩, hlen⟩ := I.tuple hs
    simp only at hc hdt
    subst hc hdt
    obtain ⟨as, h4⟩ := Dp.readsAll I ds _ its ha rv
    have hn := SeqAt.ReadsAll.length ds its as h4
    have hmap := SeqAt.readsAll_map ds its as hlay h4
    have hvl := rv.length
    have hsl := sizeLine_eq
    have hjd := (List.getElem?_eq_some_iff.mp hz).1
    have hj : j < its.toArray.size := by simp; omega
    have item : ∀ (m : Nat) (hm : m < its.toArray.size) (z' : PyData), ds[m]? = some z' → SeqAt.readOf s.heap its.toArray[m] = z' := fun m hm z' hz' => by
      have hml : m < its.length := by simpa using hm
      rw [← hmap, List.getElem?_map, List.getElem?_eq_getElem hml] at hz'
      simpa using (Option.some.inj hz')
    refine call_meets PySem.F.slot_tuple_index ⟨_, ho, rfl⟩ PySem.F.entry_tuple_index (PySem.F.args_tuple_index_2 _ _)
      (TI.tuple_indexAt a its.toArray n dd sls uy (fun u => PyData.eqv (SeqAt.readOf s.heap u) d) j hj ?_ ?_) ⟨ho, SeqAt.items_eqAt (vs := its.toArray) (show ReadsAll s.heap its.toArray.toList ds as from h4) r1 hlay (SeqAt.canLay_of_shaped sd) (room_in_shaped sd hu), .int (j : Nat), H, I.tok _, ⟨_, rfl⟩, q⟩
    · show PyData.eqv (SeqAt.readOf s.heap its.toArray[j]) d = true
      rw [item j hj z hz]; exact hzj
    · intro m hm hmj
      show PyData.eqv (SeqAt.readOf s.heap its.toArray[m]) d = false
      have hz' : ds[m]? = some ds[m] := List.getElem?_eq_getElem (by omega)
      rw [item m hm _ hz']; exact hno m _ hmj hz'
end
end L2
set_option Elab.async false
set_option linter.all false
set_option maxRecDepth 100000
set_option maxHeartbeats 4000000
namespace L2
open PySem PySem.Spec PyProof.Rows HT
/-- an entry: its key, the key's tuple, its value -/
abbrev Ent3 := List Key × Addr × V
abbrev EntV := List Key × Addr × Value
abbrev KO : List Ent3 → List EntV → Prop := Paired fun p q => p.1 = q.1 ∧ p.2.1 = q.2.1 ∧ RelV p.2.2 q.2.2
/-- what is true of the dict's one object -/
def dOk (P : Program) (w : World) (a : Addr) (kvs : List Ent3) (h : Heap) : Prop :=
  kvs.length ≤ sizeLine ∧ (a == sysModules) = false ∧ ∃ xs, KO kvs xs ∧ ∃ o es ep, h.get? a = some o ∧ o.ExactDict ∧ o.data = .dict es ep ∧ es.toList = xs.map (entryOfKey (tupleKind (mixKind P w))) ∧ (xs.map (·.1)).Nodup
def dO (P : Program) (w : World) (a : Addr) (kvs : List Ent3) : HO := .ext (dOk P w a kvs)
theorem dO_ok {P : Program} {w : World} {H : Hp} {h : Heap} {a : Addr} {kvs : List Ent3} (k : dOk P w a kvs h) : ObjOk P w H h a (dO P w a kvs) := by
  refine ⟨k, ?_, fun h1 h2 k1 st => ?_⟩
  · obtain ⟨_, _, _, _, o, _, _, e, _⟩ := k
    exact ⟨o, e⟩
  · obtain ⟨z, n, xs, r, o, es, ep, e, q⟩ := k1
    exact ⟨z, n, xs, r, o, es, ep, st o e, q⟩
/-- value at a key; the dict behind a store -/
def valO (kvs : List Ent3) (k : List Key) : Option V := (kvs.find? fun p => decide (p.1 = k)).map (·.2.2)
def putO (kvs : List Ent3) (k : List Key) (b : Addr) (v : V) : List Ent3 :=
  if (valO kvs k).isSome then kvs.map fun p => if p.1 = k then (p.1, p.2.1, v) else p else kvs ++ [(k, b, v)]
theorem valO_pos {p : Ent3} {r : List Ent3} {k : List Key} (e : p.1 = k) : valO (p :: r) k = some p.2.2 := by simp [valO, List.find?_cons, e]
theorem valO_neg {p : Ent3} {r : List Ent3} {k : List Key} (e : ¬ p.1 = k) : valO (p :: r) k = valO r k := by simp [valO, List.find?_cons, e]
theorem putO_len (kvs : List Ent3) (k : List Key) (b : Addr) (v : V) : (putO kvs k b v).length ≤ kvs.length + 1 := by
  unfold putO
  split
  · rw [List.length_map]; omega
  · simp
theorem KO.val {kvs : List Ent3} {xs : List EntV} (r : KO kvs xs) (k : List Key) : RelO (valO kvs k) ((atKey xs k).map (·.2)) := by
  induction r with
  | nil => exact True.intro
  | @cons p q ps qs h t ih =>
    obtain ⟨h1, _, h2⟩ := h
    by_cases e : p.1 = k
    · have e' : q.1 = k := h1.symm.trans e
      have b : atKey (q :: qs) k = some q.2 := by simp [atKey, List.find?_cons, e']
      rw [valO_pos e, b]; exact h2
    · have e' : ¬ q.1 = k := fun z => e (h1.trans z)
      have b : atKey (q :: qs) k = atKey qs k := by simp [atKey, List.find?_cons, e']
      rw [valO_neg e, b]; exact ih
theorem KO.repl {kvs : List Ent3} {xs : List EntV} (r : KO kvs xs) (k : List Key) {y : V} {u : Value} (ry : RelV y u) :
    KO (kvs.map fun p => if p.1 = k then (p.1, p.2.1, y) else p) (xs.map (putAt k u)) := by
  induction r with
  | nil => exact .nil
  | @cons p q ps qs h t ih =>
    rw [List.map_cons, List.map_cons]
    refine .cons ?_ ih
    obtain ⟨h1, h2, h3⟩ := h
    unfold putAt
    by_cases e : p.1 = k
    · rw [if_pos e, if_pos (h1.symm.trans e)]; exact ⟨h1, h2, ry⟩
    · rw [if_neg e, if_neg (fun z => e (h1.trans z))]; exact ⟨h1, h2, h3⟩
theorem KO.put {kvs : List Ent3} {xs : List EntV} (r : KO kvs xs) (k : List Key) (b : Addr) {y : V} {u : Value} (ry : RelV y u) : KO (putO kvs k b y) (storedH xs k b u) := by
  have e : (valO kvs k).isSome = (atKey xs k).isSome := by
    rw [(r.val k).isSome_eq, Option.isSome_map]
  unfold putO storedH
  rw [e]
  by_cases q : (atKey xs k).isSome = true
  · rw [if_pos q, if_pos q]; exact r.repl k ry
  · rw [if_neg q, if_neg q]; exact Paired.snoc r ⟨rfl, rfl, ry⟩
/-- the keys' tuples stand -/
abbrev KeysAt (H : Hp) (kvs : List Ent3) : Prop := ∀ p ∈ kvs, Rd H p.2.1 (.tup (p.1.map kV))
section
variable {P : Program} {w : World} {H : Hp} {h : Heap} {a : Addr}
theorem keyR_of {ks : List Key} (ok : HOk P w H h) (e : Rd H a (.tup (ks.map kV))) : (tupleKind (mixKind P w)).is h ks a := by
  obtain ⟨_, its, r, o, h1, h2, n, h3⟩ := (show ObjOk P w H h a (.tup (ks.map kV)) from e.ok ok)
  exact ⟨o, its.toArray, n, h1, h2, h3, by simpa using items_are r⟩
theorem do_of {kvs : List Ent3} (ok : HOk P w H h) (e : H a = some (dO P w a kvs)) (ks : KeysAt H kvs) : kvs.length ≤ sizeLine ∧ (a == sysModules) = false ∧ ∃ xs, KO kvs xs ∧ h.DictOfH (tupleKind (mixKind P w)) a xs := by
  obtain ⟨⟨z, y, xs, r, o, es, ep, h1, h2, h3, h4, h5⟩, _⟩ := (show ObjOk P w H h a (dO P w a kvs) from ok a _ e)
  refine ⟨z, y, xs, r, o, es, ep, h1, h2, h3, h4, fun x hx => ?_, h5⟩
  have all : ∀ {l : List Ent3} {m : List EntV}, KO l m → KeysAt H l → ∀ x ∈ m, (tupleKind (mixKind P w)).is h x.1 x.2.1 := by
    intro l m q
    induction q with
    | nil => intro _ x hx; exact nomatch hx
    | @cons p q ps qs hq t ih =>
      intro ka x hx
      rcases List.mem_cons.mp hx with e | hx
      · subst e
        have := ka p List.mem_cons_self
        rw [← hq.1, ← hq.2.1]
        exact keyR_of ok this
      · exact ih (fun p hp => ka p (List.mem_cons_of_mem _ hp)) x hx
  exact all r ks x hx
end
/-- what the dict at a holds at the key y -/
def DG (P : Program) (w : World) (H : Hp) (a : Addr) (y : V) (r : Option V) : Prop :=
  ∃ kvs k b, H a = some (dO P w a kvs) ∧ KeysAt H kvs ∧ y = .ref b ∧ Rd H b (.tup (k.map kV)) ∧ r = valO kvs k
section
variable {X : Cx} {pins : List (Addr × Obj)} {σ : St} {H : Hp} {s : Shared} {a : Addr} {y v d : V} {u r : Value} {o : Option V} {A : Around} {E : Value → Shared → Prop}
theorem o_getItem {Q : Value → Shared → Prop} (hu : A.units + 1 < cLine) (I : Inv X pins σ H s) (g : DG X.prog X.w H a y (some v)) (ry : RelV y u) (h : ∀ w' s', Inv X pins σ H s' → RelV v w' → Q w' s') :
    wpAny (model X.prog X.w) A (getItem (.ref a) u) Q E s := by
  obtain ⟨kvs, k, b, e, ka, ey, eb, l⟩ := g
  subst ey
  cases (show u = Value.ref b from ry)
  obtain ⟨z, hd, xs, rel, dd⟩ := do_of I.hok e ka
  obtain ⟨w', hw, rw'⟩ := RelO.some_of (v := v) (o := (atKey xs k).map (·.2)) (by rw [l]; exact rel.val k)
  obtain ⟨p, hp, hp2⟩ := Option.map_eq_some_iff.mp hw
  refine wpAny_getItem_heap (tupleKind_room_in1 hu) (keyR_of I.hok eb) dd hp ?_
  rw [hp2]
  exact h w' _ (I.tok _) rw'
theorem o_in {Q : Value → Shared → Prop} (hu : A.units + 1 < cLine) (I : Inv X pins σ H s) (g : DG X.prog X.w H a y o) (ry : RelV y u) (h : ∀ s', Inv X pins σ H s' → Q (.bool o.isSome) s') :
    wpAny (model X.prog X.w) A (compareOp .In u (.ref a)) Q E s := by
  obtain ⟨kvs, k, b, e, ka, ey, eb, l⟩ := g
  subst ey
  cases (show u = Value.ref b from ry)
  obtain ⟨z, hd, xs, rel, dd⟩ := do_of I.hok e ka
  refine wpAny_in_heap (tupleKind_room_in1 hu) (keyR_of I.hok eb) hd dd ?_
  have q := (rel.val k).isSome_eq
  rw [Option.isSome_map] at q
  rw [← q, ← l]
  exact h _ (I.tok _)
theorem o_notIn {Q : Value → Shared → Prop} (hu : A.units + 1 < cLine) (I : Inv X pins σ H s) (g : DG X.prog X.w H a y o) (ry : RelV y u) (h : ∀ s', Inv X pins σ H s' → Q (.bool (!o.isSome)) s') :
    wpAny (model X.prog X.w) A (compareOp .NotIn u (.ref a)) Q E s := by
  obtain ⟨kvs, k, b, e, ka, ey, eb, l⟩ := g
  subst ey
  cases (show u = Value.ref b from ry)
  obtain ⟨z, hd, xs, rel, dd⟩ := do_of I.hok e ka
  refine wpAny_notIn_heap (tupleKind_room_in1 hu) (keyR_of I.hok eb) hd dd ?_
  have q := (rel.val k).isSome_eq
  rw [Option.isSome_map] at q
  rw [← q, ← l]
  exact h _ (I.tok _)
theorem o_setItem {kvs : List Ent3} {k : List Key} {b : Addr} {Q : Unit → Shared → Prop} (hu : A.units + 1 < cLine) (I : Inv X pins σ H s) (e : H a = some (dO X.prog X.w a kvs)) (ka : KeysAt H kvs) (eb : Rd H b (.tup (k.map kV))) (l : kvs.length < sizeLine) (rv : RelV v r)
    (h : ∀ s', Inv X pins σ (upd H a (dO X.prog X.w a (putO kvs k b v))) s' → Q () s') : wpAny (model X.prog X.w) A (setItem (.ref a) (.ref b) r) Q E s := by
  obtain ⟨z, hd, xs, rel, dd⟩ := do_of I.hok e ka
  have hz : xs.length ≤ sizeLine := by rw [← Paired.length rel]; exact z
  have hl : (putO kvs k b v).length ≤ sizeLine := by have := putO_len kvs k b v; omega
  refine wpAny_setItem_heap (hsz := hz) (tupleKind_room_in1 hu) (keyR_of I.hok eb) dd fun h' dd' hs => h _ ?_
  obtain ⟨q, es, ep, hq, h2, h3, h4, _, h5⟩ := dd'
  exact d_write I (by rw [e]; exact True.intro) hs ⟨q, hq⟩ (dO_ok ⟨hl, hd, _, rel.put k b rv, q, es, ep, hq, h2, h3, h4, h5⟩)
theorem o_get2 {Q : Value → Shared → Prop} (hu : A.units + 1 < cLine) (I : Inv X pins σ H s) (g : DG X.prog X.w H a y o) (ry : RelV y u) (rd : RelV d r) (h : ∀ w' s', Inv X pins σ H s' → RelV (o.getD d) w' → Q w' s') :
    wpAny (model X.prog X.w) A (call (.builtin "dict.get") [.ref a, u, r]) Q E s := by
  obtain ⟨kvs, k, b, e, ka, ey, eb, l⟩ := g
  subst ey
  cases (show u = Value.ref b from ry)
  obtain ⟨z, hd, xs, rel, dd⟩ := do_of I.hok e ka
  refine call_meetsIn PySem.F.slot_dict_get dd.typeIs PySem.F.entry_dict_get (PySem.F.args_dict_get_3 _ _ _) (meetsH_dict_get_default (tupleKind (mixKind X.prog X.w)) a b hd r) ⟨tupleKind_room_in1 hu, k, xs, keyR_of I.hok eb, dd, h _ _ (I.tok _) ?_⟩
  rw [l]
  exact (rel.val k).getD rd
theorem o_typeIs (I : Inv X pins σ H s) {kvs : List Ent3} (e : H a = some (dO X.prog X.w a kvs)) : s.TypeIs (.ref a) "dict" ∧ ∃ ob, s.heap.get? a = some ob ∧ ob.dict = none := by
  obtain ⟨⟨z, y, xs, r, ob, es, ep, h1, h2, _⟩, _⟩ := (show ObjOk X.prog X.w H s.heap a (dO X.prog X.w a kvs) from I.hok a _ e)
  exact ⟨⟨ob, h1, h2.1⟩, ob, h1, h2.2.1⟩
end
section
variable {X : Cx}
def rIxO (P : Program) (w : World) : R2 := fun x y H Q => ∃ a v, x = .ref a ∧ DG P w H a y (some v) ∧ Q v H
theorem ix_dO (hu : X.A.units + 1 < cLine) : IxR X (rIxO X.prog X.w) := by
  intro value slice pins s σ H x y ov i Q I rx ry h hs
  obtain ⟨a, v, ex, g, q⟩ := h
  subst ex
  cases rx
  have hT := (o_typeIs I g.choose_spec.choose_spec.choose_spec.1).1
  unfold subscriptTail
  refine wpAny_bind ?_
  rw [getitemInPython_of_ne hT.not_modules]
  refine wpAny_bind (wpAny_specialOf hT PySem.F.slot_dict_getitem.lookup ?_)
  have fin : wpAny (model X.prog X.w) X.A (subscripted slice false (.ref a) i) (fun r s₃ => wpAny (model X.prog X.w) X.A (letTemporaryGo value (.ref a) r >>= fun _ => pure r) (EP X pins σ Q) X.xe s₃) X.xe s := by
    rw [hs]
    exact wpAny_operating (o_getItem hu I g ry fun w' s3 I3 rw' => wpAny_bind (wpAny_letTemporaryGo (wpAny_pure ⟨v, H, I3, rw', q⟩)))
  first
    | exact wpAny_pure (wpAny_bind fin)
    | exact wpAny_bind (wpAny_pure (wpAny_bind fin))
    | exact wpAny_bind fin
def rInO (P : Program) (w : World) (neg : Bool) : R2 := fun y x H Q => ∃ a o, x = .ref a ∧ DG P w H a y o ∧ Q (.bl (neg != o.isSome)) H
theorem op_inO (hu : X.A.units + 1 < cLine) : OpR X (compareOp .In) (rInO X.prog X.w false) := by
  intro pins s σ H y x iv u Q I ry rx h
  obtain ⟨a, o, ex, g, q⟩ := h
  subst ex
  cases rx
  exact o_in hu I g ry fun s3 I3 => ⟨.bl o.isSome, H, I3, rfl, by simpa using q⟩
theorem op_notInO (hu : X.A.units + 1 < cLine) : OpR X (compareOp .NotIn) (rInO X.prog X.w true) := by
  intro pins s σ H y x iv u Q I ry rx h
  obtain ⟨a, o, ex, g, q⟩ := h
  subst ex
  cases rx
  exact o_notIn hu I g ry fun s3 I3 => ⟨.bl (!o.isSome), H, I3, rfl, by simpa using q⟩
def rSetO (P : Program) (w : World) : V → V → V → Hp → (Hp → Prop) → Prop := fun o i v H Q => ∃ a b kvs k, o = .ref a ∧ i = .ref b ∧ H a = some (dO P w a kvs) ∧ KeysAt H kvs ∧ Rd H b (.tup (k.map kV)) ∧ kvs.length < sizeLine ∧ Q (upd H a (dO P w a (putO kvs k b v)))
theorem set_dO (hu : X.A.units + 1 < cLine) : PSet X (rSetO X.prog X.w) := by
  intro pins s σ H o i v ov iv u Q I ro ri rv h
  obtain ⟨a, b, kvs, k, rfl, rfl, e, ka, eb, l, q⟩ := h
  cases ro
  cases ri
  exact o_setItem hu I e ka eb l rv fun s' I' => ⟨_, I', q⟩
theorem PSet.or {t t' : TSet} (h : PSet X t) (h' : PSet X t') : PSet X (fun o i v H Q => t o i v H Q ∨ t' o i v H Q) := by
  intro pins s σ H o i v ov iv u Q I ro ri rv q
  rcases q with q | q
  · exact h pins s σ H o i v ov iv u Q I ro ri rv q
  · exact h' pins s σ H o i v ov iv u Q I ro ri rv q
def rGetO (P : Program) (w : World) : V → List V → Hp → VK → Prop := fun x xs H Q => ∃ a y z o, x = .ref a ∧ xs = [y, z] ∧ DG P w H a y o ∧ Q (o.getD z) H
theorem mt_getO (hu : X.A.units + 1 < cLine) : MtR X "dict.get" (rGetO X.prog X.w) := by
  intro pins s σ H x xs v us Q I rx rs h
  obtain ⟨a, y, z, o, ex, exs, g, q⟩ := h
  subst ex exs
  cases rx
  cases rs with
  | cons r1 t => cases t with
    | cons r2 t => cases t with
      | nil => exact o_get2 hu I g r1 r2 fun w' s3 I3 rw' => ⟨_, H, I3, rw', q⟩
/-- {} -/
def tDNewO (P : Program) (w : World) : TE := fun _ H Q => ∀ p, H p = none → Q (.ref p) (upd H p (dO P w p []))
theorem pe_dnewO {pos : Pos} : PE X (.Dict [] [] pos) (tDNewO X.prog X.w) := ⟨fun pins s σ H Q I h =>
  wpAny_Dict_empty ⟨.ref s.heap.objs.size, _, I.laid (a := s.heap.objs.size) (o := dO X.prog X.w s.heap.objs.size []) (t' := s.toks) (fun _ _ q => Heap.get?_push_of_some _ q) (Nat.le_refl _)
    (dO_ok ⟨Nat.zero_le _, beq_eq_false_iff_ne.mpr (Ne.symm (Nat.ne_of_lt I.big)), [], .nil, _, #[], 0, Heap.get?_push_size _ rfl, ⟨rfl, rfl, rfl⟩, rfl, rfl, List.nodup_nil⟩), rfl, h _ (I.hok.fresh (Nat.le_refl _))⟩⟩
end
end L2
set_option Elab.async false
set_option linter.all false
set_option maxRecDepth 100000
set_option maxHeartbeats 4000000
namespace L2
open PySem PySem.Spec PyProof.Rows HT
def putsO (acc kvs : List Ent3) : List Ent3 := kvs.foldl (fun a p => putO a p.1 p.2.1 p.2.2) acc
theorem putsO_len : ∀ (kvs acc : List Ent3), (putsO acc kvs).length ≤ acc.length + kvs.length
  | [], acc => by simp [putsO]
  | p :: r, acc => by
    have h := putsO_len r (putO acc p.1 p.2.1 p.2.2)
    have h2 := putO_len acc p.1 p.2.1 p.2.2
    simp only [putsO, List.foldl_cons, List.length_cons] at h ⊢
    omega
theorem KO.puts : ∀ {kvs : List Ent3} {xs : List EntV}, KO kvs xs → ∀ {acc : List Ent3} {ys : List EntV}, KO acc ys → KO (putsO acc kvs) (storedAllH ys xs)
  | _, _, .nil, _, _, r => r
  | _, _, .cons (a := p) (b := q) h t, acc, ys, r => by
    have r2 := r.put p.1 p.2.1 h.2.2
    rw [show putsO acc (p :: _) = putsO (putO acc p.1 p.2.1 p.2.2) _ from rfl, show storedAllH ys (q :: _) = storedAllH (storedH ys q.1 q.2.1 q.2.2) _ from rfl, ← h.1, ← h.2.1]
    exact KO.puts t r2
section
variable {X : Cx}
abbrev PrO (K : PySem.W.Frag) (H : Hp) : List Addr → List Ent3 → Prop := Paired fun p kv => SqT K H p [.ref kv.2.1, kv.2.2] ∧ Rd H kv.2.1 (.tup (kv.1.map kV))
theorem prO_of {pins : List (Addr × Obj)} {σ : St} {H : Hp} {s : Shared} (I : Inv X pins σ H s) : ∀ {ps : List Addr} {kvs : List Ent3}, PrO X.K H ps kvs →
    ∃ xs : List EntV, KO kvs xs ∧ xs.length = ps.length ∧ (∀ x ∈ xs, Rd H x.2.1 (.tup (x.1.map kV))) ∧ ∀ (j : Nat) (q : EntV), xs[j]? = some q → ∃ b, ps[j]? = some b ∧ IsTup s.heap b #[.ref q.2.1, q.2.2]
  | _, _, .nil => ⟨[], .nil, rfl, fun x hx => (nomatch hx), fun j q e => by simp at e⟩
  | _, _, .cons (a := p) (b := kv) h t => by
    obtain ⟨xs, r, hl, hk, hp⟩ := prO_of I t
    obtain ⟨its, rv, ht, _⟩ := I.tuple h.1
    obtain ⟨u, y, ei, ru, ry⟩ := vals2 rv
    subst ei
    cases ru
    refine ⟨(kv.1, kv.2.1, y) :: xs, .cons ⟨rfl, rfl, ry⟩ r, by rw [List.length_cons, List.length_cons, hl], fun x hx => ?_, fun j q e => ?_⟩
    · rcases List.mem_cons.mp hx with e | hx
      · subst e; exact h.2
      · exact hk x hx
    · cases j with
      | zero =>
        have e' : (kv.1, kv.2.1, y) = q := Option.some.inj e
        subst e'
        exact ⟨p, rfl, ht⟩
      | succ j =>
        obtain ⟨b, e1, e2⟩ := hp j q (by simpa using e)
        exact ⟨b, by simpa using e1, e2⟩
def rDictO (P : Program) (w : World) (K : PySem.W.Frag) : List V → Hp → VK → Prop := fun xs H Q => ∃ (a : Addr) (ps : List Addr) (kvs : List Ent3), xs = [.ref a] ∧ (SqL K H a (ps.map V.ref) ∨ TAt H a (ps.map V.ref)) ∧ PrO K H ps kvs ∧
    ∀ p, H p = none → Q (.ref p) (upd H p (dO P w p (putsO [] kvs)))
theorem call_dictO (hcalm : X.calm = true) (hu : X.A.units + 8 < cLine) : CallR X (.type "dict") (rDictO X.prog X.w X.K) := by
  intro pins s σ H xs us Q I r q
  obtain ⟨a, ps, kvs, ex, hq, hp, q⟩ := q
  subst ex
  obtain ⟨u, eu, rx⟩ := vals1 r
  subst eu
  cases rx
  obtain ⟨es, rel, hl, hks, hpr⟩ := prO_of I hp
  have hm : (s.heap.objs.size == sysModules) = false := beq_eq_false_iff_ne.mpr (Nat.ne_of_gt I.big)
  have items : ∀ its : List Value, its = ps.map Value.ref → PairItems s.heap its.toArray (fun j => ps.getD j 0) (es.map fun e => (Value.ref e.2.1, e.2.2)) := fun its ei => by
    subst ei
    refine ⟨by simp [hl], fun j k v e => ?_⟩
    rw [List.getElem?_map] at e
    obtain ⟨x, hx, ex⟩ := Option.map_eq_some_iff.mp e
    cases ex
    obtain ⟨b, e1, e2⟩ := hpr j x hx
    have eb : ps.getD j 0 = b := by rw [List.getD_eq_getElem?_getD, e1]; rfl
    refine ⟨by simp [e1], ?_⟩
    show PairAt s.heap (ps.getD j 0) _ _
    rw [eb]
    exact .inl e2
  have have_ : PairsHaveH (tupleKind (mixKind X.prog X.w)) (es.map fun e => (Value.ref e.2.1, e.2.2)).length (PairRel (es.map fun e => (Value.ref e.2.1, e.2.2))) es := by
    refine ⟨by simp, fun i key v e => ?_⟩
    rw [PairRel, List.getElem?_map] at e
    obtain ⟨x, hx, ex⟩ := Option.map_eq_some_iff.mp e
    cases ex
    exact ⟨x.1, x.2.1, hx, rfl⟩
  have stay : KeysStay (tupleKind (mixKind X.prog X.w)) s.heap s.heap.objs.size [] es := fun h' k x hx => by
    obtain ⟨o, its, n, h1, h2, h3, h4⟩ := keyR_of I.hok (hks x hx)
    exact ⟨o, its, n, k _ o (Nat.ne_of_lt (Heap.lt_size h1)) (by simp) h1, h2, h3, h4⟩
  have room : (tupleKind (mixKind X.prog X.w)).room X.A.in1.in1 := by
    exact tupleKind_room_in1 (A := X.A.in1) (by show X.A.units + 1 + 1 < cLine; omega)
  have fin : ps.length ≤ sizeLine → ∀ h' tk, h'.DictOfH (tupleKind (mixKind X.prog X.w)) s.heap.objs.size (storedAllH [] es) → (∀ b o, b ∉ ([] : List Addr) → s.heap.get? b = some o → h'.get? b = some o) → EP X pins σ Q (.ref s.heap.objs.size) { s with heap := h', toks := tk } := fun hz h' tk dd k => by
    obtain ⟨o, es', ep, h1, h2, h3, h4, _, h5⟩ := dd
    refine ⟨.ref s.heap.objs.size, upd H s.heap.objs.size (dO X.prog X.w s.heap.objs.size (putsO [] kvs)), I.laid (t' := tk) (fun b o e => k b o (by simp) e) (Nat.le_refl _) (dO_ok ⟨?_, hm, _, KO.puts rel .nil, o, es', ep, h1, h2, h3, h4, h5⟩), rfl, q _ (I.hok.fresh (Nat.le_refl _))⟩
    have := putsO_len kvs []
    have e := Paired.length rel
    simp only [List.length_nil] at this
    omega
  rcases hq with hq | ⟨ob, od, hq⟩
  · obtain ⟨its, rv, pl, hz⟩ := I.list hq
    have ei := refs_at rv
    rw [List.length_map] at hz
    obtain ⟨o, n, ho, hc, hd, hdat⟩ := pl
    exact call_dict_pairsH (PairArg.list a its.toArray (fun j => ps.getD j 0) _) (I.ok.hd hcalm) room ⟨⟨o, n, ho, hc, hd, hdat⟩, items its ei⟩ have_ stay (by rw [List.length_map, hl]; exact hz) (fin hz)
  · obtain ⟨hg, z, its, rv, o, ho, hc, n, hdat⟩ := (show ObjOk X.prog X.w H s.heap a (.frz ob (.tup (ps.map V.ref))) from I.hok a _ hq)
    have ei := refs_at rv
    rw [List.length_map] at z
    rw [hg] at ho
    cases ho
    exact call_dict_pairsH (PairArg.tuple a its.toArray (fun j => ps.getD j 0) _) (I.ok.hd hcalm) room ⟨⟨ob, n, hg, hc, od, hdat⟩, items its ei⟩ have_ stay (by rw [List.length_map, hl]; exact z) (fin z)
end
end L2
set_option Elab.async false
set_option linter.all false
set_option maxRecDepth 100000
set_option maxHeartbeats 4000000
namespace PySem.W
open PySem PySem.SeqAt PySem.Calls PyProof.Rows
section
variable {prog : Program} {w : World} {A : Around} {E : Value → Shared → Prop} {s : Shared}
theorem ltTup_call {Q : Value → Shared → Prop} {a b : Addr} {xs ys : Array Value} {e r : Nat → Bool} (ha : s.heap.IsTuple a xs) (hb : s.heap.IsTuple b ys) (he : ∀ j (h1 : j < xs.size) (h2 : j < ys.size), EqAt A.in1 s xs[j] ys[j] (e j)) (hr : ∀ j (h1 : j < xs.size) (h2 : j < ys.size), e j = false → RcLt A.in1 s xs[j] ys[j] (r j))
    (h : Q (.bool (firstLt e r (decide (xs.size < ys.size)) (List.range (min xs.size ys.size)))) s) : wpAny (model prog w) A (call (.builtin "tuple.__lt__") [.ref a, .ref b]) Q E s := by
  obtain ⟨⟨c1, d1, t1, l1⟩, g1, k1, m1, q1⟩ := id ha
  obtain ⟨⟨c2, d2, t2, l2⟩, g2, k2, m2, q2⟩ := id hb
  simp only at k1 q1 k2 q2
  subst k1 q1 k2 q2
  exact call_meets F.slot_tuple_lt ⟨_, g1, rfl⟩ F.entry_tuple_lt (F.args_tuple_lt_2 _ _) (tuple_ltAt a b xs ys m1 m2 d1 d2 l1 l2 e r) ⟨g1, g2, he, hr, h⟩
theorem oneLt_tup {xs ys : List PyData} {u v : Value} {as bs : List Addr} {Q : Bool → Shared → Prop} (ra : Reads s.heap u (.tuple xs) as) (rb : Reads s.heap v (.tuple ys) bs) (hal : alikeAll xs ys = true) (hu : A.units + min (PyData.tuple xs).depth (PyData.tuple ys).depth < cLine) (hq : Q (dataLt (.tuple xs) (.tuple ys)) s) : wpAny (model prog w) A (oneLt' true u v) Q E s := by
  cases ra with
  | @tuple a oa va na _ as1 g1 g2 g3 g4 =>
    cases rb with
    | @tuple b ob vb nb _ bs1 k1 k2 k3 k4 =>
      have z1 : va.size = xs.length := by simpa using ReadsAll.length _ _ _ g4
      have z2 : vb.size = ys.length := by simpa using ReadsAll.length _ _ _ k4
      rw [dataLt_tuple, ← firstLt_toks xs ys hal, ← z1, ← z2] at hq
      rw [oneLt'_eq]; simp only [if_true]
      refine wpAny_bind (wpAny_cRoomFor (room_here hu) (wpAny_bind (wpAny_callSpecialIfBound?_slot (T := "tuple") ⟨_, g1, g2⟩ F.slot_tuple_lt (ltTup_call (e := pairEq xs ys) (r := fun j => dataLt (xs.getD j .none) (ys.getD j .none)) ⟨_, g1, g2, _, g3⟩ ⟨_, k1, k2, _, k3⟩ (fun j j1 j2 => ?_) (fun j j1 j2 hj => ?_) (wpAny_truthy_bool hq)))))
      · have q := eqAt_alikeAll xs ys A.in1 s va.toList vb.toList _ _ g4 k4 hal (room_in hu) j (by simpa using j1) (by simpa using j2)
        simpa using q
      · have q := rcLt_alikeAll xs ys A.in1 s va.toList vb.toList _ _ g4 k4 hal (room_in hu) j (by simpa using j1) (by simpa using j2) hj
        simpa using q
/-- the first items, the first tuple being empty -/
theorem firsts_any {M : Model} : ∀ (vs : List Value), (∀ v ∈ vs, ∃ xs as, Reads s.heap v (.tuple xs) as) → ∀ {Q : List (Option Value) → Shared → Prop}, (∀ fs, fs.length = vs.length → (∀ a r, vs = a :: r → (∃ as, Reads s.heap a (.tuple []) as) → ∃ q, fs = none :: q) → Q fs s) → wpAny M A (vs.mapM firstOfTuple') Q E s
  | [], _, Q, h => by rw [List.mapM_nil]; exact wpAny_pure (h [] rfl fun a r e => nomatch e)
  | v :: vs, hv, Q, h => by
    rw [List.mapM_cons]
    refine wpAny_bind ?_
    rw [kas_first_eq]
    obtain ⟨xs, as, r⟩ := hv v (.head _)
    have r0 := r
    cases r with
    | @tuple a o ys n _ as1 g1 g2 g3 g4 =>
      refine wpAny_bind (Looks.here (show Looks M s.heap (typeOf (.ref a)) o.cls from (Looks.ld g1).andThen .now) ?_)
      rw [g2, if_neg (by first | decide | simp)]
      refine wpAny_bind (listItems_at g1 g3 (wpAny_pure ?_))
      refine wpAny_bind (firsts_any vs (fun u hu => hv u (.tail _ hu)) fun fs hl hf => wpAny_pure (h _ (by simp [hl]) fun b q e r1 => ?_))
      cases e
      obtain ⟨bs, r1⟩ := r1
      cases r1 with
      | @tuple _ o2 zs n2 _ as2 k1 k2 k3 k4 =>
        rw [g1] at k1; cases k1
        rw [g3] at k3; cases k3
        have z : ys.toList = [] := by
          cases q : ys.toList with
          | nil => rfl
          | cons x y => rw [q] at k4; cases k4
        have z2 : ys[0]? = none := by rw [← Array.getElem?_toList, z]; rfl
        exact ⟨fs, by rw [z2]⟩
theorem sortsE {vs : List Value} {ds : List PyData} (e : EachIs (fun v d => ∃ as, Reads s.heap v d as) vs (.tuple [] :: ds)) (hal : AllAlike (.tuple [] :: ds)) (hu : ∀ d, d ∈ PyData.tuple [] :: ds → A.units + d.depth < cLine) : SortsAt prog w A s (dataKind s.heap (.tuple [] :: ds)) vs := by
  have tp : ∀ d, d ∈ PyData.tuple [] :: ds → ∃ xs, d = .tuple xs := fun d hd => by
    have := hal d hd _ (.head _)
    cases d <;> first | exact ⟨_, rfl⟩ | exact absurd this (by simp [alike])
  refine ⟨fun v hv => ?_, oneType', ?_, fun h2 E' Q hq => ?_⟩
  · obtain ⟨d, hd, as, r⟩ := e.left v hv
    exact ⟨_, dataKind_some hal hd r⟩
  · intro E' x y a b Q ha hb hq
    obtain ⟨d, as, hd, ra, rfl⟩ := dataKind_inv ha
    obtain ⟨d', as', hd', rb, rfl⟩ := dataKind_inv hb
    obtain ⟨xs, rfl⟩ := tp d hd
    obtain ⟨ys, rfl⟩ := tp d' hd'
    rw [keyLt'_oneType]
    have q1 : alikeAll xs ys = true := by simpa [alike] using hal _ hd _ hd'
    exact oneLt_tup ra rb q1 (Nat.lt_of_le_of_lt (Nat.add_le_add_left (Nat.min_le_left _ _) _) (hu _ hd)) hq
  · have hv : ∀ v ∈ vs, ∃ xs as, Reads s.heap v (.tuple xs) as := fun v hv => by
      obtain ⟨d, hd, as, r⟩ := e.left v hv
      obtain ⟨xs, rfl⟩ := tp d hd
      exact ⟨xs, as, r⟩
    obtain ⟨v1, vr, hvr, r1⟩ : ∃ v1 vr, vs = v1 :: vr ∧ ∃ as, Reads s.heap v1 (.tuple []) as := by
      cases e with
      | cons h t => exact ⟨_, _, rfl, h⟩
    rw [keyKind'_eq, List.mapM_toArray, map_eq_pure_bind]
    refine wpAny_bind (wpAny_bind (firsts_any vs hv fun fs hl hf => wpAny_pure ?_))
    obtain ⟨q, rfl⟩ := hf v1 vr hvr r1
    rw [if_neg (by simp), if_neg (by simp)]
    rw [oneTypeOnly'_eq, List.mapM_toArray, map_eq_pure_bind]
    refine wpAny_bind (wpAny_bind (wpAny_bind (kas_mapM (r := Value.type "tuple") _ (fun v hm Q' hq' => ?_) (wpAny_pure ?_))))
    · obtain ⟨xs, as, r⟩ := hv v hm
      exact (looks_reads r).here hq'
    · subst hvr
      have a1 : ((v1 :: vr).map (fun _ => Value.type "tuple")).toArray[0]? = some (Value.type "tuple") := by simp
      have a2 : (((v1 :: vr).map (fun _ => Value.type "tuple")).toArray.all fun x => x == Value.type "tuple") = true := by simp
      rw [a1]
      simp only [a2, if_true]
      exact wpAny_pure (wpAny_pure hq)
end
section
variable {prog : Program} {w : World} {A : Around} {E : Value → Shared → Prop} {s : Shared} {β : Type} {vs : List Value} {bs : List β} {enc : β → PyData} {R : Value → β → Prop}
/-- .. may be sorted -/
def SortableE (ds : List PyData) : Prop := Sortable ds ∨ ∃ r, ds = .tuple [] :: r
theorem sorted_dataE {l : Addr} {Q : Value → Shared → Prop} (hl : s.heap.IsList l vs.toArray) (e : EachIs R vs bs) (er : EachIs (fun v b => ∃ as, Reads s.heap v (enc b) as) vs bs) (hal : AllAlike (bs.map enc)) (hk : SortableE (bs.map enc)) (hL : bs.length ≤ sizeLine) (hu : ∀ b, b ∈ bs → A.units + 2 + (enc b).depth < cLine)
    (h : ∀ out, out.length = bs.length → EachIs R out (bs.mergeSort (dataLe false enc)) → Q (.ref (s.heap.objs.size + 1)) { s with heap := sortedAll s.heap vs (List.toArray out) }) : wpAny (model prog w) A (call (.builtin "sorted") [.ref l]) Q E s := by
  rcases hk with hk | ⟨r, hk⟩
  · exact sorted_data hl e er hal hk hL hu h
  · have er2 : EachIs (fun v b => ∃ as, Reads (sortingHeap (copyHeap s.heap vs) (s.heap.objs.size + 1) vs) v (enc b) as) vs bs := er.mono fun _ _ ⟨as, q⟩ => ⟨as, PyProof.Rows.Reads.keeps (fun _ _ => sorting_copy_old) q⟩
    have em := each_map (R := fun v d => ∃ as, Reads (sortingHeap (copyHeap s.heap vs) (s.heap.objs.size + 1) vs) v d as) enc er2
    have hb := bound_map (A := A.in1.in1) (bs := bs) (enc := enc) hu
    have S : SortsAt prog w A.in1.in1 { s with heap := sortingHeap (copyHeap s.heap vs) (s.heap.objs.size + 1) vs } (dataKind (sortingHeap (copyHeap s.heap vs) (s.heap.objs.size + 1) vs) (bs.map enc)) vs := by
      rw [hk] at em hal hb ⊢
      exact sortsE (s := { s with heap := sortingHeap (copyHeap s.heap vs) (s.heap.objs.size + 1) vs }) em hal hb
    exact sorted_vals hl S (by rw [e.length]; exact hL) (h _ (by rw [sortVals_length false rfl]; exact e.length) (sortVals_data false e er2 hal))
end
end PySem.W
set_option Elab.async false
set_option linter.all false
set_option maxRecDepth 100000
set_option maxHeartbeats 4000000
namespace PySem.W
open PySem PySem.SeqAt PySem.Calls PyProof.Rows
section
variable {prog : Program} {w : World} {A : Around} {E : Value → Shared → Prop} {s : Shared} {β : Type} {bs : List β} {enc : β → PyData} {R : Value → β → Prop}
theorem sortsAny {vs : List Value} {ds : List PyData} (e : EachIs (fun v d => ∃ as, Reads s.heap v d as) vs ds) (hal : AllAlike ds) (hk : SortableE ds) (hu : ∀ d, d ∈ ds → A.units + d.depth < cLine) : SortsAt prog w A s (dataKind s.heap ds) vs := by
  rcases hk with hk | ⟨r, rfl⟩
  · exact SortsAt.data e hal hk hu
  · exact sortsE e hal hu
theorem sorted_dictE {d : Addr} {es : Array DictEntry} {ep : Nat} {Q : Value → Shared → Prop} (lo : (d == sysModules) = false) (hh : A.handled = none) (hm : s.heap.DictRaw d es ep) (e : EachIs R (es.toList.map (·.key)) bs) (er : EachIs (fun v b => ∃ as, Reads s.heap v (enc b) as) (es.toList.map (·.key)) bs) (hal : AllAlike (bs.map enc)) (hk : SortableE (bs.map enc)) (hL : bs.length ≤ sizeLine) (hu : ∀ b, b ∈ bs → A.units + 2 + (enc b).depth < cLine)
    (h : ∀ (h1 h' : Heap) (tk n : Nat) (out : List Value), out.length = bs.length → EachIs R out (bs.mergeSort (dataLe false enc)) → (∀ b o, s.heap.get? b = some o → h1.get? b = some o) → (∀ b o, h1.get? b = some o → h'.get? b = some o) → h'.get? h1.objs.size = some (seqObj "list" out.toArray n) → Q (.ref h1.objs.size) { s with heap := h', toks := tk }) :
    wpAny (model prog w) A (call (.builtin "sorted") [.ref d]) Q E s := by
  have hel := e.length
  have hsz : es.size = bs.length := by rw [← hel]; simp
  refine call_function_entry kind_sorted plain_sorted entry_sorted (args_sorted1 _) ?_
  unfold Builtin.«sorted»
  refine wpAny_bind (m := checkCount "sorted" 1 1 _) (wpAny_pure ?_)
  refine wpAny_bind (kdu_collect (A := A.in1) (KdlSrc.rawDict (prog := prog) (w := w) (es := es) (ep := ep) lo) hh hm (by rw [hsz]; exact hL) fun h1 tk acc hk1 hacc => ?_)
  have hvs : acc.toList = es.toList.map (·.key) := by
    refine List.ext_getElem (by rw [Array.length_toList, List.length_map, Array.length_toList]; exact hacc.1) fun j j1 j2 => ?_
    obtain ⟨hi, hj⟩ := hacc.2 j acc.toList[j] (by rw [← Array.getElem?_toList]; exact List.getElem?_eq_getElem j1)
    rw [hj]; simp
  rw [hvs]
  have hLv : (es.toList.map (·.key)).length ≤ sizeLine := by rw [hel]; exact hL
  refine wpAny_bind (wpAny_newList ?_ hLv)
  have ho : (h1.push { cls := .type "list", data := .seq (es.toList.map (·.key)).toArray }).get? h1.objs.size = some (seqObj "list" (es.toList.map (·.key)).toArray 0) := Heap.get?_push_size _ rfl
  have old : ∀ b o, s.heap.get? b = some o → (sortingHeap (h1.push { cls := .type "list", data := .seq (es.toList.map (·.key)).toArray }) h1.objs.size (es.toList.map (·.key))).get? b = some o := fun b o q =>
    sortingHeap_old (Nat.ne_of_lt (Heap.lt_size (hk1 b o q))) (Heap.get?_push_of_some _ (hk1 b o q))
  have er2 : EachIs (fun v b => ∃ as, Reads (sortingHeap (h1.push { cls := .type "list", data := .seq (es.toList.map (·.key)).toArray }) h1.objs.size (es.toList.map (·.key))) v (enc b) as) (es.toList.map (·.key)) bs := er.mono fun _ _ ⟨as, q⟩ => ⟨as, PyProof.Rows.Reads.keeps old q⟩
  have S := sortsAny (prog := prog) (w := w) (A := A.in1.in1) (s := { s with heap := sortingHeap (h1.push { cls := .type "list", data := .seq (es.toList.map (·.key)).toArray }) h1.objs.size (es.toList.map (·.key)), toks := tk }) (each_map (R := fun v d => ∃ as, Reads (sortingHeap (h1.push { cls := .type "list", data := .seq (es.toList.map (·.key)).toArray }) h1.objs.size (es.toList.map (·.key))) v d as) enc er2) hal hk (bound_map hu)
  refine wpAny_bind (wpAny_holding (wpAny_call_entry_kw slot_list_sort ⟨_, ho, rfl⟩ entry_list_sort ?body (args_list_sort _)))
  case body =>
    show wpAny (model prog w) A.in1.in1 (Builtin.«list.sort» ⟨[.ref h1.objs.size], []⟩) _ _ _
    refine list_sort_vals (s := { s with heap := h1.push { cls := .type "list", data := .seq (es.toList.map (·.key)).toArray }, toks := tk }) ho S hLv ?_
    refine ⟨_, rfl, wpAny_pure ⟨_, rfl, ?_⟩⟩
    obtain ⟨n, hn⟩ := sortedHeap_at (vs := es.toList.map (·.key)) (out := (sortVals (dataKind (sortingHeap (h1.push { cls := .type "list", data := .seq (es.toList.map (·.key)).toArray }) h1.objs.size (es.toList.map (·.key))) (bs.map enc)) false (es.toList.map (·.key)) (es.toList.map (·.key))).toArray) ho
    refine h h1 _ _ n _ (by rw [sortVals_length false rfl]; exact hel) (sortVals_data false e er2 hal) hk1 (fun b o q => ?_) hn
    rw [sortedHeap_old (Nat.ne_of_lt (Heap.lt_size q)) (by rw [PyProof.Rows.size_push']; exact Nat.lt_succ_of_lt (Heap.lt_size q))]
    exact Heap.get?_push_of_some _ q
end
end PySem.W
set_option Elab.async false
set_option linter.all false
set_option maxRecDepth 100000
set_option maxHeartbeats 4000000
namespace L2
open PySem PySem.Spec PyProof.Rows
def kS (e : Int × Value) : Str := match e.2 with | .str k _ => k | _ => Str.empty
def gS (w : World) (e : Int × Value) : Prop := ∃ k t, e.2 = Value.str k t ∧ e.1 = hashStr w k
/-- a set of texts at a: those of L -/
def SetX (w : World) (h : Heap) (a : Addr) (L : List Str) : Prop := ∃ o es ep t, h.get? a = some o ∧ o.ExactSet ∧ o.data = .set es ep t ∧ (∀ e ∈ es.toList, gS w e) ∧ (es.toList.map kS).Nodup ∧ (∀ k, k ∈ es.toList.map kS ↔ k ∈ L) ∧
  es.size ≤ L.length ∧ es.size < scanBound ∧ t.fits es.size = true ∧ Ris t.place.toList ∧ (w.params.followText "set-order" = true ∨ t.led = true)
section
variable {P : Program} {w : World} {h h' : Heap} {a : Addr} {L : List Str}
theorem SetX.at (R : SetX w h a L) (k : ∀ o, h.get? a = some o → h'.get? a = some o) : SetX w h' a L := by
  obtain ⟨o, es, ep, t, q, r⟩ := R; exact ⟨o, es, ep, t, k o q, r⟩
theorem gS_elems {l : List (Int × Value)} (g : ∀ e ∈ l, gS w e) : ElemsOf (strKind P w) l := fun e he => by
  obtain ⟨k, t, q1, q2⟩ := g e he
  exact ⟨⟨k, by rw [q1]; exact strKind_is P w k t, q2⟩, by rw [q1] <;> rfl⟩
theorem gS_is {e : Int × Value} (g : gS w e) (k : Str) : (strKind P w).is k e.2 = true ↔ kS e = k := by
  obtain ⟨k0, t, q1, q2⟩ := g
  have ek : kS e = k0 := by unfold kS; rw [q1]
  rw [ek, q1]
  constructor
  · intro z; exact (strKind P w).inj _ k0 k (strKind_is P w k0 t) z
  · rintro rfl; exact strKind_is P w k0 t
theorem gS_mem {l : List (Int × Value)} (g : ∀ e ∈ l, gS w e) (k : Str) : k ∈ l.map kS ↔ ∃ e ∈ l, (strKind P w).is k e.2 = true := by
  rw [List.mem_map]
  exact ⟨fun ⟨e, he, q⟩ => ⟨e, he, (gS_is (g e he) k).2 q⟩, fun ⟨e, he, q⟩ => ⟨e, he, (gS_is (g e he) k).1 q⟩⟩
end
section
variable {P : Program} {w : World} {A : Around} {E : Value → Shared → Prop} {s : Shared} {a : Addr} {L : List Str}
theorem storeX {g : Bool → Sem Unit} (hg : ∀ (b : Bool) (s1 : Shared) (Q1 : Unit → Shared → Prop), Q1 () s1 → wpAny (model P w) A (g b) Q1 E s1) {o : Obj} {es e1 : Array (Int × Value)} {ep : Nat} {t t2 : SetTable} (ho : s.heap.get? a = some o) (hx : o.ExactSet) (hd : o.data = .set es ep t)
    (g1 : ∀ e ∈ e1.toList, gS w e) (nd : (e1.toList.map kS).Nodup) (mm : ∀ k, k ∈ e1.toList.map kS ↔ k ∈ L) (hl : e1.size ≤ L.length) (hb : e1.size < scanBound) (hf : t2.fits e1.size = true) (hr : Ris t2.place.toList) (led : w.params.followText "set-order" = true ∨ t2.led = true) {dm : Bool} {R : Option Bool → Shared → Prop} (hR : ∀ h', Heap.SameBut a s.heap h' → SetX w h' a L → R (some true) { s with heap := h' }) :
    wpAny (model P w) A (do
        storeSet a e1 t2
        if (!dm && t2.tooFull) = true then do
            g (relayAll t2 e1 (SetTable.grown e1.size)).2.2
            storeSet a (relayAll t2 e1 (SetTable.grown e1.size)).1 (relayAll t2 e1 (SetTable.grown e1.size)).2.1
            pure (some true)
          else pure (some true)) R E s := by
  refine wpAny_bind (wpAny_storeSet_of ho hd ?_ (fits_of_scanBound hb))
  have o1 := store_at (es' := e1) (t' := t2) ho hd
  have b1 := Heap.SameBut.update s.heap a (Obj.putSet e1 t2)
  split
  · have x1 := relayAll_perm t2 e1 (SetTable.grown e1.size); have x2 := relayAll_fits t2 e1 (SetTable.grown e1.size); have x3 := relayAll_ris t2 e1 (SetTable.grown e1.size); have x4 := relayAll_led t2 e1 (SetTable.grown e1.size)
    generalize relayAll t2 e1 (SetTable.grown e1.size) = Z at x1 x2 x3 x4 ⊢
    obtain ⟨e2, t3, gv⟩ := Z
    dsimp only at x1 x2 x3 x4 ⊢
    have z : e2.size = e1.size := by rw [← Array.length_toList, x1.length_eq, Array.length_toList]
    refine wpAny_bind (hg _ _ _ (wpAny_bind (wpAny_storeSet_of o1 rfl ?_ (fits_of_scanBound (by rw [z]; exact hb)))))
    have o2 := store_at (es' := e2) (t' := t3) o1 rfl
    refine wpAny_pure (hR _ (b1.trans (Heap.SameBut.update _ a _)) ⟨_, e2, _, t3, o2, hx, rfl, fun e he => g1 e (x1.mem_iff.mp he), (x1.map kS).nodup_iff.mpr nd, fun k => (x1.map kS).mem_iff.trans (mm k), by rw [z]; exact hl, by rw [z]; exact hb, x2, x3, led.imp id fun q => by rw [x4]; exact q⟩)
  · exact wpAny_pure (hR _ b1 ⟨_, e1, _, t2, o1, hx, rfl, g1, nd, mm, hl, hb, hf, hr, led⟩)
theorem addX {k : Str} {tk : Tok} {Q : Bool → Shared → Prop} (R : SetX w s.heap a L) (room : L.length + 1 < scanBound) (hQ : ∀ b h', Heap.SameBut a s.heap h' → SetX w h' a (L ++ [k]) → Q b { s with heap := h' }) : wpAny (model P w) A (setAddHashed a (.str k tk) ((strKind P w).hash k)) Q E s := by
  obtain ⟨o, es, ep, t, ho, hx, hd, g, nd, mm, hl, hb, hf, hr, led⟩ := R
  have hk : (strKind P w).is k (.str k tk) = true := strKind_is P w k tk
  have hs : (Value.str k tk).scannable = true := rfl
  have he : ElemsOf (strKind P w) es.toList := gS_elems g
  unfold setAddHashed setAddHashedIn
  refine wpAny_holding (wpAny_bind (wpAny_setState_of ho hd hf ?_)); dsimp only
  rw [byScan_of hs hb he]; simp only [↓reduceIte]
  unfold setAddByScan
  refine wpAny_bind (wpAny_bind (wpAny_rule (wpAny_bind (wpAny_setScan_of hk ho hd hf he ?_))))
  cases q : List.findIdx? (fun e => (strKind P w).is k e.2) es.toList with
  | some j =>
    dsimp only
    obtain ⟨j1, j2, _⟩ := List.findIdx?_eq_some_iff_getElem.mp q
    have hm : k ∈ es.toList.map kS := (gS_mem (P := P) (w := w) g k).2 ⟨es.toList[j], List.getElem_mem j1, j2⟩
    refine wpAny_pure (wpAny_pure (hQ _ s.heap (Heap.SameBut.refl a s.heap) ⟨o, es, ep, t, ho, hx, hd, g, nd, fun i => ?_, by rw [List.length_append]; omega, hb, hf, hr, led⟩))
    rw [mm i, List.mem_append, List.mem_singleton]
    exact ⟨.inl, fun z => z.elim id fun e => by rw [e]; exact (mm k).1 hm⟩
  | none =>
    dsimp only
    have hn : k ∉ es.toList.map kS := fun z => by
      obtain ⟨e, he, z⟩ := (gS_mem (P := P) (w := w) g k).1 z
      have c := List.findIdx?_eq_none_iff.mp q e he
      rw [z] at c; cases c
    have way : ∀ (b : Bool) {s1 : Shared} {Q1 : Unit → Shared → Prop}, Q1 () s1 → wpAny (model P w) A (match b with | true => rule "set.scan.the-table-gave-way" | false => pure ()) Q1 E s1 := fun b s1 Q1 z => by cases b <;> first | exact wpAny_pure z | exact wpAny_rule z
    have pm := layNew_perm t es ((strKind P w).hash k) (.str k tk); have f1 := layNew_fits t es ((strKind P w).hash k) (.str k tk); have r1 := layNew_ris t es ((strKind P w).hash k) (.str k tk) hr; have l1 := layNew_led t es ((strKind P w).hash k) (.str k tk)
    generalize layNew t es ((strKind P w).hash k) (.str k tk) = Z at pm f1 r1 l1 ⊢
    obtain ⟨e1, t1, dm, gv⟩ := Z
    dsimp only at pm f1 r1 l1 ⊢
    rw [Array.toList_push] at pm
    have pc : e1.toList.Perm (((strKind P w).hash k, Value.str k tk) :: es.toList) := pm.trans (List.perm_append_singleton _ _)
    have pk : (e1.toList.map kS).Perm (k :: es.toList.map kS) := pc.map kS
    have g1 : ∀ e ∈ e1.toList, gS w e := fun e he => by
      rcases List.mem_cons.mp (pc.mem_iff.mp he) with z | z
      · rw [z]; exact ⟨k, tk, rfl, rfl⟩
      · exact g e z
    have n1 : (e1.toList.map kS).Nodup := pk.nodup_iff.mpr (List.nodup_cons.mpr ⟨hn, nd⟩)
    have m1 : ∀ i, i ∈ e1.toList.map kS ↔ i ∈ L ++ [k] := fun i => by
      rw [pk.mem_iff, List.mem_cons, mm i, List.mem_append, List.mem_singleton]; exact Or.comm
    have z1 : e1.size = es.size + 1 := by rw [← Array.length_toList, pc.length_eq, List.length_cons, Array.length_toList]
    have le1 : e1.size ≤ (L ++ [k]).length := by rw [z1, List.length_append]; simp; omega
    have b1 : e1.size < scanBound := by rw [z1]; omega
    have ld : w.params.followText "set-order" = true ∨ t1.led = true := led.imp id fun z => by rw [l1]; exact z
    refine wpAny_bind (way _ ?_)
    split
    · refine wpAny_bind ?_
      rw [hashByValue_scannable 8 hs]
      refine wpAny_pure (storeX ?_ ho hx hd g1 n1 m1 le1 b1 ?_ ?_ ?_ ?_)
      · intro b s1 Q1 z; cases b <;> first | exact wpAny_pure z | exact wpAny_rule z
      · first | (split <;> first | exact f1 | exact SetTable.fits_plain_off f1) | exact f1
      · first | (split <;> exact r1) | exact r1
      · first | (split <;> exact ld) | exact ld
      · intro h' sb r; dsimp only; exact wpAny_pure (hQ _ h' sb r)
    · refine wpAny_bind (wpAny_pure ?_)
      simp only [↓reduceIte]
      refine storeX ?_ ho hx hd g1 n1 m1 le1 b1 f1 r1 ld ?_
      · intro b s1 Q1 z; cases b <;> first | exact wpAny_pure z | exact wpAny_rule z
      · intro h' sb r; dsimp only; exact wpAny_pure (hQ _ h' sb r)
theorem newX {w : World} {h : Heap} {a : Addr} (ho : h.get? a = some { cls := .type "set", dict := none, data := .set #[] 0 (.fresh 0 0 (!w.params.followText "set-order")) }) : SetX w h a [] :=
  ⟨_, #[], 0, _, ho, ⟨rfl, rfl, rfl⟩, rfl, (fun e he => by simp at he), (by simp), (fun k => by simp), (by simp), (by decide), (by rfl), List.Pairwise.nil, by
    show _ ∨ (!w.params.followText "set-order") = true
    cases w.params.followText "set-order" <;> simp⟩
/-- the update's loop, from the item number i on -/
theorem updX {I : Addr} {fp wr : List Addr} {G : Array GenState → Array GenState → Prop} {n : Nat} {Pv : Nat → Value → Prop} {St : Nat → Shared → Prop} {R : Result → Shared → Prop} (W : WalksS P w A.in1 I fp wr G n Pv St) (S : Addr) (hSf : S ∉ fp) (xs : List Str) (hn : n = xs.length) (hb : xs.length + 1 < scanBound) (hv : ∀ i v, Pv i v → ∃ k t, xs[i]? = some k ∧ v = .str k t) :
    ∀ (k i : Nat) (s : Shared), n - i = k → i ≤ n → St i s → SetX w s.heap S (xs.take i) → (∀ s', Moved (S :: wr) G s s' → SetX w s'.heap S xs → R (.ok (.ret .none)) s') → codeAny (model P w) A (.builtin "set.update.loop" ⟨[.ref S, .ref I], []⟩) R s := by
  have hw : S ∉ wr := fun z => hSf (W.sub _ z)
  have sub : ∀ b ∈ wr, b ∈ S :: wr := fun b z => List.mem_cons_of_mem _ z
  intro k
  induction k with
  | zero =>
    intro i s hk hi st hS hR
    have e0 : i = n := by omega
    subst e0
    refine codeAny_builtin F.entry_set_update_loop ?_; rw [Around.under_plainId F.plain_set_update_loop _]
    show wpAny _ A.in1 (pyNext (.ref I) >>= _) _ _ s
    refine wpAny_bind (W.done s _ _ st fun s' m => ?_)
    show wpAny _ A.in1 (ret Value.none) _ _ s'
    rw [List.take_of_length_le (by omega)] at hS
    exact wpAny_pure (hR s' (m.mono sub) (hS.at fun o q => m.heap S o hw q))
  | succ k ih =>
    intro i s hk hi st hS hR
    have lt : i < n := by omega
    refine codeAny_builtin F.entry_set_update_loop ?_; rw [Around.under_plainId F.plain_set_update_loop _]
    show wpAny _ A.in1 (pyNext (.ref I) >>= _) _ _ s
    refine wpAny_bind (W.item i s _ _ lt st fun v s' hP st' m => ?_)
    obtain ⟨z, t, hz, rfl⟩ := hv i v hP
    have hS1 : SetX w s'.heap S (xs.take i) := hS.at fun o q => m.heap S o hw q
    show wpAny _ A.in1 (holding [Value.str z t] (setAdd S (.str z t)) >>= _) _ _ s'
    refine wpAny_bind (wpAny_holding ?_)
    unfold setAdd
    refine wpAny_holding (wpAny_bind ((strKind P w).pyHash (k := z) (strKind_is P w z t) ?_))
    refine addX (s := { s' with toks := s'.toks + 1 }) hS1 (by rw [List.length_take]; omega) fun b h' sb hS2 => ?_
    have hS3 : SetX w h' S (xs.take (i + 1)) := by rw [List.take_add_one, hz]; exact hS2
    refine wpAny_pure ⟨plainId_quiet F.plain_set_update_loop _, ih (i + 1) _ (by omega) lt (W.frame _ s' _ _ st' (Nat.le_succ _) fun b hb o e => ?_) hS3 fun s2 m2 hS4 => ?_⟩
    · rw [sb.2 b (fun q : b = S => hSf (by rw [← q]; exact hb))]; exact e
    · refine hR s2 (Moved.trans W.gtrans ((m.mono sub).then_heap (Nat.le_succ _) fun b o hb e => ?_) m2) hS4
      rw [sb.2 b (fun q : b = S => hb (by rw [q]; exact List.mem_cons_self))]; exact e
/-- set(l), l a list of texts -/
theorem callX {l : Addr} {items : Array Value} (xs : List Str) {Q : Value → Shared → Prop} (hh : A.handled = none) (hl : s.heap.IsList l items) (hi : ∀ (i : Nat) (v : Value), items[i]? = some v → ∃ k t, xs[i]? = some k ∧ v = .str k t) (hz : items.size = xs.length) (hb : xs.length + 1 < scanBound)
    (h : ∀ (h' : Heap) (tk : Nat), SetX w h' s.heap.objs.size xs → (∀ b o, s.heap.get? b = some o → h'.get? b = some o) → Q (.ref s.heap.objs.size) { s with heap := h', toks := tk }) : wpAny (model P w) A (call (.type "set") [.ref l]) Q E s := by
  obtain ⟨c, tl, hmro⟩ := F.called_set.mro
  have q1 := F.called_set.made; have q2 := F.called_set.sub; have q3 := F.called_set.notType; have q4 := F.called_set.canCreate; have q5 := F.typeCall_set_1 (.ref l)
  refine wpAny_call (codeAny_of_tree ?_)
  show wpAny _ _ (callAny (.type "set") _) _ _ _
  refine wpAny_pure ⟨Code.quiet_builtin _ (by decide +kernel), codeAny_builtin F.entry_type_call ?_⟩
  rw [Around.under_plain (weight_type_call_type "set" [.ref l] []) rfl]
  repeat (any_goals (first | assumption | wp_step))
  refine codeAny_mono (code_set_led1 (.ref l) (E := E) (Q₁ := fun obj s1 => obj = .ref s.heap.objs.size ∧ s1 = { s with heap := s.heap.push { cls := .type "set", dict := none, data := .set #[] 0 (.fresh 0 0 (!w.params.followText "set-order")) } }) ⟨rfl, rfl⟩) fun r s1 hr => ?_
  cases r with
  | error e => exact hr
  | ok fl =>
    cases fl with
    | ret obj =>
      obtain ⟨rfl, rfl⟩ := hr
      have g0 : (s.heap.push { cls := .type "set", dict := none, data := .set #[] 0 (.fresh 0 0 (!w.params.followText "set-order")) }).get? s.heap.objs.size = some { cls := .type "set", dict := none, data := .set #[] 0 (.fresh 0 0 (!w.params.followText "set-order")) } := Heap.get?_push_size _ rfl
      have ty : Shared.TypeIs { s with heap := s.heap.push { cls := .type "set", dict := none, data := .set #[] 0 (.fresh 0 0 (!w.params.followText "set-order")) } } (.ref s.heap.objs.size) "set" := ⟨_, g0, rfl⟩
      have q6 := F.called_set.init.lookup; have q7 := F.called_set.init.bind (.ref s.heap.objs.size)
      repeat (any_goals (first | assumption | wp_step))
      refine codeAny_mono (codeAny_call_builtin (R := wants (fun r s2 => r = .none ∧ ∃ h' tk, s2 = { s with heap := h', toks := tk } ∧ SetX w h' s.heap.objs.size xs ∧ (∀ b o, s.heap.get? b = some o → h'.get? b = some o)) E) F.called_set.init.plain F.entry_set_init (check_set_init_1 ty ?_)) fun r2 s2 hr2 => ?_
      · obtain ⟨⟨cl, di, da, sl⟩, g1, cc, nl, dd⟩ := hl
        simp only at cc dd
        subst cc; subst dd
        have g2 : (s.heap.push { cls := .type "set", dict := none, data := .set #[] 0 (.fresh 0 0 (!w.params.followText "set-order")) }).get? l = some { cls := .type "list", dict := di, data := .seq items nl, slots := sl } := Heap.get?_push_of_some _ g1
        have u1 := F.sub_list_set; have u2 := F.sub_list_frozenset
        have u3 : (Value.type "list" == Value.type "dict") = false := by decide
        have l1 : (s.heap.push { cls := .type "set", dict := none, data := .set #[] 0 (.fresh 0 0 (!w.params.followText "set-order")) }).IsList l items := ⟨_, g2, rfl, nl, rfl⟩
        unfold Builtin.«set.__init__» noKeywords Builtin.Frozenset.updateFrom
        generalize hPI : pyIter = PI
        wp_walk
        subst hPI
        refine wpAny_pyIter_list l1 (wpAny_bind (wpAny_runValue ?_))
        have lt : l < s.heap.objs.size := Heap.lt_size g1
        have h3 : A.in1.in1.in1.handled = none := by simp [hh]
        have n1 : l ≠ (s.heap.push { cls := .type "set", dict := none, data := .set #[] 0 (.fresh 0 0 (!w.params.followText "set-order")) }).objs.size := by rw [Heap.size_push]; exact Nat.ne_of_lt (Nat.lt_succ_of_lt lt)
        have n2 : s.heap.objs.size ∉ [(s.heap.push { cls := .type "set", dict := none, data := .set #[] 0 (.fresh 0 0 (!w.params.followText "set-order")) }).objs.size, l] := by
          rw [Heap.size_push]; simp only [List.mem_cons, List.not_mem_nil, or_false, not_or]; exact ⟨Nat.ne_of_lt (Nat.lt_succ_self _), Nat.ne_of_gt lt⟩
        refine updX ((Walks.list h3 _ l n1 items).toS) s.heap.objs.size n2 xs hz hb hi (items.size - 0) 0 _ (by omega) (Nat.zero_le _) ⟨⟨_, Heap.get?_push_size _ rfl, rfl, rfl⟩, (l1.push _)⟩ (newX (Heap.get?_push_of_some _ g0)) ?_
        intro s' m hS
        obtain ⟨h', g', d', tk', os'⟩ := s'
        have e1 : g' = s.gens := m.gens; have e2 : d' = s.drawn := m.drawn; have e3 : os' = s.os := m.os
        subst e1; subst e2; subst e3
        show wpAny _ _ _ _ _ _
        refine wpAny_pure ?_
        show wpAny _ _ (ret Value.none) _ _ _
        refine wpAny_pure ⟨rfl, h', tk', rfl, hS, fun b o e => ?_⟩
        have b0 : b < s.heap.objs.size := Heap.lt_size e
        exact m.heap b o (by rw [Heap.size_push]; simp only [List.mem_cons, List.not_mem_nil, or_false, not_or]; exact ⟨Nat.ne_of_lt b0, Nat.ne_of_lt (Nat.lt_succ_of_lt b0)⟩) (Heap.get?_push_of_some _ (Heap.get?_push_of_some _ e))
      · cases r2 with
        | error e => exact hr2
        | ok fl2 =>
          cases fl2 with
          | ret r =>
            obtain ⟨rfl, h', tk, rfl, hS, hk⟩ := hr2
            repeat (any_goals (first | assumption | wp_step))
            exact h _ _ hS hk
          | _ => exact hr2.elim
    | _ => exact hr.elim
/-- sorted(a), a a set of texts -/
theorem sortedX {Q : Value → Shared → Prop} (R : SetX w s.heap a L) (hh : A.handled = none) (hu : A.units + 10 < cLine)
    (hQ : ∀ s' p (out : List Value) (c : Nat) (ks : List Str), (∀ b o, s.heap.get? b = some o → s'.heap.get? b = some o) → s'.gens = s.gens → s'.os = s.os → s.heap.objs.size ≤ p → s'.heap.get? p = some (seqObj "list" out.toArray c) → PySem.W.EachIs (fun v (k : Str) => ∃ t, v = .str k t) out (ks.mergeSort (PySem.W.dataLe false PyData.str)) → ks.Nodup → (∀ k, k ∈ ks ↔ k ∈ L) → ks.length < scanBound → Q (.ref p) s') :
    wpAny (model P w) A (call (.builtin "sorted") [.ref a]) Q E s := by
  obtain ⟨o, es, ep, t, ho, hx, hd, g, nd, mm, hl, hb, hf, hr, led⟩ := R
  refine Calls.call_function_entry kind_sorted plain_sorted entry_sorted (args_sorted1 _) ?_
  unfold Builtin.«sorted»
  refine wpAny_bind (m := checkCount "sorted" 1 1 _) (wpAny_pure ?_)
  refine wpAny_bind (collect_set (A := A.in1) hh ⟨o, ho, hx.1, hd⟩ hf hb hr led fun s1 vs k1 z1 g1 o1 pm => ?_)
  have vl : vs.length = es.size := by rw [pm.length_eq, List.length_map, Array.length_toList]
  have fit := fits_of_scanBound hb
  have isS : ∀ v ∈ vs, ∃ k t, v = Value.str k t := fun v hv => by
    obtain ⟨e, he, q⟩ := List.mem_map.mp (pm.mem_iff.mp hv)
    obtain ⟨k, t, q1, _⟩ := g e he
    exact ⟨k, t, by rw [← q]; exact q1⟩
  have each : ∀ l : List Value, (∀ v ∈ l, ∃ k t, v = Value.str k t) → PySem.W.EachIs (fun v (k : Str) => ∃ t, v = .str k t) l (l.map fun v => kS (0, v)) := by
    intro l
    induction l with
    | nil => intro _; exact .nil
    | cons v l ih =>
      intro hv
      obtain ⟨k, t, rfl⟩ := hv v (.head _)
      exact .cons ⟨t, rfl⟩ (ih fun u hu => hv u (.tail _ hu))
  have pk : (vs.map fun v => kS (0, v)).Perm (es.toList.map kS) := by
    have q := pm.map fun v => kS (0, v)
    rw [List.map_map] at q
    exact q
  refine wpAny_bind (wpAny_newList ?_ (by rw [vl]; exact fit))
  have oL : (s1.heap.push (seqObj "list" vs.toArray 0)).get? s1.heap.objs.size = some (seqObj "list" vs.toArray 0) := Heap.get?_push_size _ rfl
  refine wpAny_bind (wpAny_holding (PySem.W.list_sort_data (enc := PyData.str) (bs := vs.map fun v => kS (0, v)) (R := fun v (k : Str) => ∃ t, v = .str k t) (n := 0) oL (each vs isS) ?_ (PySem.W.AllAlike.of fun _ _ => rfl) (PySem.W.Sortable.others fun _ => ⟨by simp, by simp⟩) (by rw [List.length_map, vl]; exact fit) (fun b _ => ?_) fun out ol er => ?_))
  · exact (each vs isS).mono fun v k ⟨t, e⟩ => ⟨[], by rw [e]; exact .str _ _, by simp⟩
  · show A.units + 1 + 1 + 0 < cLine
    omega
  · obtain ⟨c, hc⟩ := sortedHeap_at (vs := vs) (out := out.toArray) oL
    refine wpAny_pure ⟨_, rfl, hQ _ s1.heap.objs.size out c (vs.map fun v => kS (0, v)) (fun b u e => ?_) g1 o1 z1 hc er (pk.nodup_iff.mpr nd) (fun k => by rw [pk.mem_iff]; exact mm k) (by rw [List.length_map, vl]; exact hb)⟩
    have q := k1 b u e
    have lt := Heap.lt_size q
    show (sortedHeap (s1.heap.push (seqObj "list" vs.toArray 0)) s1.heap.objs.size vs out.toArray).get? b = some u
    rw [sortedHeap_old (Nat.ne_of_lt lt) (by rw [size_push']; exact Nat.lt_succ_of_lt lt)]
    exact Heap.get?_push_of_some _ q
end
end L2
set_option linter.all false
namespace PV
/-- data -/
inductive D where
  | non | bl (b : Bool) | int (i : Int) | str (s : List Nat)
  | tup (xs : List D) | lst (xs : List D) | dct (kvs : List (D × D)) | fn (k : Nat) | obj (k : Nat) | scr (ns : List Int)
  deriving Inhabited
def sizeL : Nat := 16777216
def bi (b : Bool) : Int := if b then 1 else 0
def eqScr : List Int → List D → Bool
  | [], [] => true
  | i :: r, .int j :: s => i == j && eqScr r s
  | i :: r, .bl b :: s => i == bi b && eqScr r s
  | _, _ => false
mutual
/-- == -/
def eqD : D → D → Bool
  | .non, .non => true
  | .bl a, .bl b => a == b
  | .bl a, .int j => bi a == j
  | .int i, .bl b => i == bi b
  | .int i, .int j => i == j
  | .str x, .str y => x == y
  | .lst xs, .lst ys => eqDs xs ys
  | .tup xs, .tup ys => eqDs xs ys
  | .scr ns, .lst ys => eqScr ns ys
  | .lst ys, .scr ns => eqScr ns ys
  | .scr a, .scr b => a == b
  | _, _ => false
def eqDs : List D → List D → Bool
  | [], [] => true
  | x :: xs, y :: ys => eqD x y && eqDs xs ys
  | _, _ => false
end
mutual
/-- no deeper than n, no dict, no def -/
def sh : Nat → D → Bool
  | _, .non => true
  | _, .bl _ => true
  | _, .int _ => true
  | _, .str _ => true
  | n + 1, .tup xs => shs n xs
  | n + 1, .lst xs => shs n xs
  | n + 1, .scr _ => true
  | _, _ => false
def shs : Nat → List D → Bool
  | _, [] => true
  | n, x :: xs => sh n x && shs n xs
end
/-- code points in order -/
def ltS : List Nat → List Nat → Bool
  | [], [] => false
  | [], _ :: _ => true
  | _ :: _, [] => false
  | x :: xs, y :: ys => if x == y then ltS xs ys else Nat.blt x y
mutual
/-- comparable, place by place -/
def alD : D → D → Bool
  | .non, .non => true
  | .bl _, .bl _ => true
  | .int _, .int _ => true
  | .str _, .str _ => true
  | .lst xs, .lst ys => alDs xs ys
  | .tup xs, .tup ys => alDs xs ys
  | _, _ => false
def alDs : List D → List D → Bool
  | x :: xs, y :: ys => alD x y && alDs xs ys
  | _, _ => true
end
mutual
/-- <, of comparable data -/
def ltB : D → D → Bool
  | .bl a, .bl b => !a && b
  | .int i, .int j => decide (i < j)
  | .str x, .str y => ltS x y
  | .lst xs, .lst ys => ltBs xs ys
  | .tup xs, .tup ys => ltBs xs ys
  | _, _ => false
def ltBs : List D → List D → Bool
  | [], [] => false
  | [], _ :: _ => true
  | _ :: _, [] => false
  | x :: xs, y :: ys => if eqD x y then ltBs xs ys else ltB x y
end
def insB (x : D) : List D → List D
  | [] => [x]
  | y :: r => if ltB y x then y :: insB x r else x :: y :: r
def sortB : List D → List D
  | [] => []
  | x :: r => insB x (sortB r)
/-- may be sorted: comparable with each other, all filled tuples or none a tuple -/
def alAll : List D → Bool
  | [] => true
  | x :: r => alD x x && (r.all fun y => alD x y && alD y x) && alAll r
def fullT : D → Bool
  | .tup (_ :: _) => true
  | _ => false
def plainK : D → Bool
  | .tup _ => false
  | .non => false
  | _ => true
/-- the first is the empty tuple -/
def headE : List D → Bool
  | .tup [] :: _ => true
  | _ => false
def sortable (xs : List D) : Bool := alAll xs && (xs.all fullT || xs.all plainK || headE xs) && shs 49 xs && Nat.ble xs.length sizeL
def minB : D → List D → D
  | a, [] => a
  | a, b :: r => if ltB b a then minB b r else minB a r
def isNotN : D → Bool
  | .non => false
  | _ => true
/-- a place counted from either end -/
def ix (n : Nat) (i : Int) : Option Nat :=
  if 0 ≤ i then (if i < n then some i.toNat else none) else if -(n : Int) ≤ i then some (i + n).toNat else none
def cutIx (n d : Nat) : Option Int → Nat
  | none => d
  | some i => if 0 ≤ i then min i.toNat n else (i + n).toNat
def cut {α : Type} (xs : List α) (lo hi : Option Int) : List α := (xs.drop (cutIx xs.length 0 lo)).take (cutIx xs.length xs.length hi - cutIx xs.length 0 lo)
def big : Nat := 2 ^ 4096
def mulOk (a b : Int) : Bool := Nat.blt a.natAbs big && Nat.blt b.natAbs big
def divOk (a b : Int) : Bool := (b != 0) && Nat.blt b.natAbs big
def intsOf : List D → Option (List Int)
  | [] => some []
  | .int i :: r => (intsOf r).map (i :: ·)
  | _ => none
def blsOf : List D → Option (List Bool)
  | [] => some []
  | .bl i :: r => (blsOf r).map (i :: ·)
  | _ => none
def strsOf : List D → Option (List (List Nat))
  | [] => some []
  | .str i :: r => (strsOf r).map (i :: ·)
  | _ => none
def maxI : Int → List Int → Int
  | a, [] => a
  | a, b :: r => if b > a then maxI b r else maxI a r
def findD (x : D) : Nat → List D → Option Nat
  | _, [] => none
  | n, y :: r => if eqD y x then some n else findD x (n + 1) r
def joinS (sep : List Nat) : List (List Nat) → List Nat
  | [] => []
  | [x] => x
  | x :: y :: r => x ++ (sep ++ joinS sep (y :: r))
/-- a key of a dict: a tuple of ints and texts -/
def kOk : D → Bool
  | .int _ => true
  | .str _ => true
  | _ => false
def tkey : D → Bool
  | .tup xs => xs.all kOk
  | _ => false
/-- dicts: pairs in the order of insertion -/
def dget (k : D) : List (D × D) → Option D
  | [] => none
  | (a, b) :: r => if eqD a k then some b else dget k r
def dput (k v : D) (kvs : List (D × D)) : List (D × D) :=
  if (dget k kvs).isSome then kvs.map fun p => if eqD p.1 k then (p.1, v) else p else kvs ++ [(k, v)]
def pairs : List D → List (D × D) → Option (List (D × D))
  | [], acc => some acc
  | .tup [a, b] :: r, acc => if tkey a then pairs r (dput a b acc) else none
  | _, _ => none
inductive Ty | int | bool | str | tuple | list | dict
  deriving DecidableEq
def Ty.has : Ty → D → Option Bool
  | _, .fn _ => none
  | _, .dct _ => none
  | _, .obj _ => none
  | _, .scr _ => none
  | .int, .int _ => some true
  | .int, .bl _ => some true
  | .bool, .bl _ => some true
  | .str, .str _ => some true
  | .tuple, .tup _ => some true
  | .list, .lst _ => some true
  | _, _ => some false
inductive Op
  | add | sub | mul | fdiv | mod | pow | neg
  | eq | ne | lt | le | gt | ge | mem | nmem | isN | notN | isB | notB
  | idx | slAB | slA | slB | slO
  | len | tupleOf | listOf | sortedOf | sortedSet | lenSet | isi (t : Ty) | intOf | all | any | sum | min1 | max1 | min2 | max2 | abs
  | count | index | join | dget2 | dictOf | lrng | trng | enumOf | isx (l : List Nat)
  | gget (kvs : List (List Nat × D)) | gin (kvs : List (List Nat × D)) (neg : Bool)
def kget (k : List Nat) : List (List Nat × D) → Option D
  | [] => none
  | (a, b) :: r => if a == k then some b else kget k r
/-- a value, or a new list or dict (true) -/
abbrev Out := Option (Bool × D)
def bout (b : Bool) : Out := some (false, .bl b)
def lesq (b : Nat) (x : Bool × D) : Out := if Nat.ble b sizeL then some x else none
def repOk (n : Int) (k : Nat) : Bool := decide (-1000 ≤ n) && decide (n ≤ 1000) && Nat.ble k 1000
def Op.add2 : D → D → Out
  | .int i, .int j => some (false, .int (i + j))
  | .str x, .str y => lesq (x.length + y.length) (false, .str (x ++ y))
  | .tup x, .tup y => lesq (x.length + y.length) (false, .tup (x ++ y))
  | .lst x, .lst y => lesq (x.length + y.length) (true, .lst (x ++ y))
  | _, _ => none
def Op.mul2 : D → D → Out
  | .int i, .int j => if mulOk i j then some (false, .int (i * j)) else none
  | .str x, .int n => if repOk n x.length then some (false, .str (List.replicate n.toNat x).flatten) else none
  | .tup x, .int n => if repOk n x.length && !x.isEmpty then some (false, .tup (List.replicate n.toNat x).flatten) else none
  | .lst x, .int n => if repOk n x.length then some (true, .lst (List.replicate n.toNat x).flatten) else none
  | _, _ => none
def Op.mem2 (neg : Bool) : D → D → Out
  | .str [c], .str y => bout (neg != y.contains c)
  | x, .lst ys => if sh 50 x && shs 50 ys then bout (neg != ys.any fun y => eqD y x) else none
  | x, .tup ys => if sh 50 x && shs 50 ys then bout (neg != ys.any fun y => eqD y x) else none
  | x, .dct kvs => if tkey x then bout (neg != (dget x kvs).isSome) else none
  | _, _ => none
def Op.len1 : D → Out
  | .str x => lesq x.length (false, .int x.length)
  | .tup x => some (false, .int x.length)
  | .lst x => some (false, .int x.length)
  | .scr x => some (false, .int x.length)
  | .dct x => some (false, .int x.length)
  | _ => none
def Op.idx2 : D → D → Out
  | .str x, .int i => if Nat.ble x.length sizeL then (match (ix x.length i).bind fun j => x[j]? with | some c => some (false, .str [c]) | none => none) else none
  | .tup x, .int i => (match (ix x.length i).bind fun j => x[j]? with | some c => some (false, c) | none => none)
  | .lst x, .int i => (match (ix x.length i).bind fun j => x[j]? with | some c => some (false, c) | none => none)
  | .scr x, .int i => (match (ix x.length i).bind fun j => x[j]? with | some c => some (false, .int c) | none => none)
  | .dct kvs, k => if tkey k then (match dget k kvs with | some d => some (false, d) | none => none) else none
  | _, _ => none
def Op.sl (lo hi : Option Int) : D → Out
  | .str x => lesq x.length (false, .str (cut x lo hi))
  | .tup x => some (false, .tup (cut x lo hi))
  | .lst x => some (true, .lst (cut x lo hi))
  | _ => none
def Op.seqOf : D → Option (List D)
  | .tup x => some x
  | .lst x => some x
  | .str x => if Nat.ble x.length sizeL then some (x.map fun c => .str [c]) else none
  | .scr ns => some (ns.map .int)
  | _ => none
def Op.count2 : D → D → Out
  | .lst xs, x => if sh 50 x && shs 50 xs then some (false, .int (xs.countP fun y => eqD y x)) else none
  | .tup xs, x => if sh 50 x && shs 50 xs then some (false, .int (xs.countP fun y => eqD y x)) else none
  | .str xs, .str [c] => some (false, .int (xs.count c))
  | _, _ => none
def Op.index2 : D → D → Out
  | .lst xs, x => if sh 50 x && shs 50 xs then (match findD x 0 xs with | some n => some (false, .int n) | none => none) else none
  | .tup xs, x => if sh 50 x && shs 50 xs then (match findD x 0 xs with | some n => some (false, .int n) | none => none) else none
  | .str xs, .str [c] => (match findD (.str [c]) 0 (xs.map fun c => .str [c]) with | some n => some (false, .int n) | none => none)
  | _, _ => none
def Op.lt2 : D → D → Out
  | .int i, .int j => bout (decide (i < j))
  | .str x, .str y => bout (ltS x y)
  | .tup x, .tup y => if alDs x y && shs 49 x && shs 49 y then bout (ltBs x y) else none
  | _, _ => none
def Op.le2 : D → D → Out
  | .int i, .int j => bout (decide (i ≤ j))
  | .str x, .str y => bout (!ltS y x)
  | .tup x, .tup y => if alDs x y && shs 49 x && shs 49 y then bout (!ltBs y x) else none
  | _, _ => none
def Op.sub2 : D → D → Out
  | .int i, .int j => some (false, .int (i - j))
  | _, _ => none
def Op.fdiv2 : D → D → Out
  | .int i, .int j => if divOk i j then some (false, .int (i.fdiv j)) else none
  | _, _ => none
def Op.mod2 : D → D → Out
  | .int i, .int j => if j == 0 then none else some (false, .int (i.fmod j))
  | _, _ => none
def Op.pow2 : D → D → Out
  | .int i, .int j => if Nat.blt i.natAbs (2 ^ 64) && decide (0 ≤ j) && decide (j ≤ 1000) then some (false, .int (i ^ j.toNat)) else none
  | _, _ => none
def Op.neg1 : D → Out
  | .int i => some (false, .int (-i))
  | _ => none
def Op.abs1 : D → Out
  | .int i => some (false, .int (if i < 0 then -i else i))
  | _ => none
def Op.isN1 (ng : Bool) : D → Out
  | .non => bout (!ng)
  | .fn _ => none
  | _ => bout ng
def Op.isB2 (ng : Bool) : D → D → Out
  | .bl a, .bl b => bout (ng != (a == b))
  | _, _ => none
def Op.eq2 (ng : Bool) (a b : D) : Out := if sh 50 a && sh 50 b then bout (ng != eqD a b) else none
def Op.slI (lo hi : Option D) (a : D) : Out := match lo, hi with
  | none, none => Op.sl none none a
  | some (.int i), none => Op.sl (some i) none a
  | none, some (.int j) => Op.sl none (some j) a
  | some (.int i), some (.int j) => Op.sl (some i) (some j) a
  | _, _ => none
def Op.tupOf1 : D → Out
  | .tup x => some (false, .tup x)
  | .lst x => some (false, .tup x)
  | .scr x => some (false, .tup (x.map .int))
  | _ => none
def Op.lstOf1 : D → Out
  | .tup x => some (true, .lst x)
  | .lst x => some (true, .lst x)
  | .scr x => some (true, .lst (x.map .int))
  | .str x => lesq x.length (true, .lst (x.map fun c => .str [c]))
  | _ => none
def Op.sort1 : D → Out
  | .lst xs => if sortable xs then some (true, .lst (sortB xs)) else none
  | .dct kvs => if sortable (kvs.map (·.1)) then some (true, .lst (sortB (kvs.map (·.1)))) else none
  | _ => none
/-- the different ones -/
def dedI : List Int → List Int
  | [] => []
  | x :: r => if r.contains x then dedI r else x :: dedI r
def insI (x : Int) : List Int → List Int
  | [] => [x]
  | y :: r => if y < x then y :: insI x r else x :: y :: r
def sortI : List Int → List Int
  | [] => []
  | x :: r => insI x (sortI r)
def dedS : List (List Nat) → List (List Nat)
  | [] => []
  | x :: r => if r.contains x then dedS r else x :: dedS r
/-- len(set(t)), sorted(set(t)), t a tuple of ints or a list of texts -/
def Op.lenSet1 : D → Out
  | .lst xs => (match strsOf xs with | some zs => if Nat.ble zs.length 1000 then some (false, .int (dedS zs).length) else none | none => none)
  | .tup xs => (match intsOf xs with | some ns => if Nat.ble ns.length 60 then some (false, .int (dedI ns).length) else none | none => none)
  | _ => none
def Op.sortSet1 : D → Out
  | .lst xs => (match strsOf xs with | some zs => if Nat.ble zs.length 1000 then some (true, .lst (sortB ((dedS zs).map .str))) else none | none => none)
  | .tup xs => (match intsOf xs with | some ns => if Nat.ble ns.length 60 then some (true, .lst ((sortI (dedI ns)).map .int)) else none | none => none)
  | _ => none
def Op.isi1 (t : Ty) (a : D) : Out := match t.has a with
  | some b => bout b
  | none => none
def Op.intOf1 : D → Out
  | .bl b => some (false, .int (bi b))
  | .int b => some (false, .int b)
  | _ => none
def Op.alls (f : List Bool → Bool) : D → Out
  | .lst xs => (match blsOf xs with | some bs => bout (f bs) | none => none)
  | _ => none
def Op.sum1 : D → Out
  | .lst xs => (match intsOf xs with | some ns => some (false, .int ns.sum) | none => none)
  | _ => none
def Op.minL : List D → Out
  | x :: xs => if alAll (x :: xs) && (x :: xs).all isNotN && shs 49 (x :: xs) then some (false, minB x xs) else none
  | [] => none
def Op.min11 : D → Out
  | .lst xs => Op.minL xs
  | .tup xs => Op.minL xs
  | _ => none
def Op.maxL (f : Int → List Int → Int) : D → Out
  | .lst (.int x :: xs) => (match intsOf xs with | some ns => some (false, .int (f x ns)) | none => none)
  | _ => none
def Op.int2 (f : Int → Int → Int) : D → D → Out
  | .int i, .int j => some (false, .int (f i j))
  | _, _ => none
def Op.joinL (s : List Nat) (xs : List D) : Out := match strsOf xs with
  | some zs => (if Nat.ble ((zs.map (·.length)).sum + zs.length * s.length) sizeL then some (false, .str (joinS s zs)) else none)
  | none => none
def Op.join2 : D → D → Out
  | .str s, .lst xs => Op.joinL s xs
  | .str s, .tup xs => Op.joinL s xs
  | _, _ => none
def Op.dget3 : D → D → D → Out
  | .dct kvs, k, d => if tkey k then some (false, (dget k kvs).getD d) else none
  | _, _, _ => none
def Op.dictOf1 : D → Out
  | .lst xs => (match pairs xs [] with | some kvs => some (true, .dct kvs) | none => none)
  | .tup xs => (match pairs xs [] with | some kvs => some (true, .dct kvs) | none => none)
  | _ => none
def Op.gget1 (kvs : List (List Nat × D)) : D → Out
  | .str k => (match kget k kvs with | some d => some (false, d) | none => none)
  | _ => none
def Op.gin1 (kvs : List (List Nat × D)) (ng : Bool) : D → Out
  | .str k => bout (ng != (kget k kvs).isSome)
  | _ => none
def rng (lo : Int) : Nat → List D
  | 0 => []
  | n + 1 => .int lo :: rng (lo + 1) n
def rngOk (lo hi : Int) : Option (List D) := if decide (-1000000 ≤ lo) && decide (lo ≤ 1000000) && decide (-1000000 ≤ hi) && decide (hi ≤ 1000000) then some (rng lo (hi - lo).toNat) else none
/-- list(range(lo, hi)), tuple(range(lo, hi)) -/
def Op.lrngD (t : Bool) : D → D → Out
  | .int lo, .int hi => (match rngOk lo hi with | some xs => some (if t then (false, .tup xs) else (true, .lst xs)) | none => none)
  | _, _ => none
def enumD : Int → List D → List D
  | _, [] => []
  | k, x :: r => .tup [.int k, x] :: enumD (k + 1) r
/-- list(enumerate(xs)) -/
def Op.enumOf1 : D → Out
  | .lst xs => some (true, .lst (enumD 0 xs))
  | _ => none
/-- isinstance(e, class), e a caught error -/
def Op.isx1 (l : List Nat) : D → Out
  | .obj k => bout (l.any fun j => Nat.beq j k)
  | _ => none
def Op.run1 (o : Op) (a : D) : Out := match o with
  | .enumOf => Op.enumOf1 a
  | .isx l => Op.isx1 l a
  | .lrng => Op.lrngD false (.int 0) a
  | .trng => Op.lrngD true (.int 0) a
  | .neg => Op.neg1 a
  | .isN => Op.isN1 false a
  | .notN => Op.isN1 true a
  | .slO => Op.slI none none a
  | .len => Op.len1 a
  | .tupleOf => Op.tupOf1 a
  | .listOf => Op.lstOf1 a
  | .sortedOf => Op.sort1 a
  | .sortedSet => Op.sortSet1 a
  | .lenSet => Op.lenSet1 a
  | .isi t => Op.isi1 t a
  | .intOf => Op.intOf1 a
  | .all => Op.alls (fun bs => bs.all id) a
  | .any => Op.alls (fun bs => bs.any id) a
  | .sum => Op.sum1 a
  | .min1 => Op.min11 a
  | .max1 => Op.maxL maxI a
  | .abs => Op.abs1 a
  | .dictOf => Op.dictOf1 a
  | .gget kvs => Op.gget1 kvs a
  | .gin kvs ng => Op.gin1 kvs ng a
  | _ => none
def Op.run2 (o : Op) (a b : D) : Out := match o with
  | .lrng => Op.lrngD false a b
  | .trng => Op.lrngD true a b
  | .add => Op.add2 a b
  | .sub => Op.sub2 a b
  | .mul => Op.mul2 a b
  | .fdiv => Op.fdiv2 a b
  | .mod => Op.mod2 a b
  | .pow => Op.pow2 a b
  | .eq => Op.eq2 false a b
  | .ne => Op.eq2 true a b
  | .lt => Op.lt2 a b
  | .le => Op.le2 a b
  | .gt => Op.lt2 b a
  | .ge => Op.le2 b a
  | .mem => Op.mem2 false a b
  | .nmem => Op.mem2 true a b
  | .isB => Op.isB2 false a b
  | .notB => Op.isB2 true a b
  | .idx => Op.idx2 a b
  | .slA => Op.slI (some b) none a
  | .slB => Op.slI none (some b) a
  | .min2 => Op.int2 (fun i j => if j < i then j else i) a b
  | .max2 => Op.int2 (fun i j => if j > i then j else i) a b
  | .count => Op.count2 a b
  | .index => Op.index2 a b
  | .join => Op.join2 a b
  | _ => none
def Op.run3 (o : Op) (a b c : D) : Out := match o with
  | .slAB => Op.slI (some b) (some c) a
  | .dget2 => Op.dget3 a b c
  | _ => none
def Op.run (o : Op) : List D → Out
  | [a] => o.run1 a
  | [a, b] => o.run2 a b
  | [a, b, c] => o.run3 a b c
  | _ => none
/-- a loop's or comprehension's target: a name, or names of a tuple -/
inductive Tg | one (i : Nat) | many (is : List Nat)
mutual
inductive E
  | c (d : D) | v (i : Nat) | op (o : Op) (as : Es) | meth (o : Op) (e : E) (as : Es) | slc (a : E) (hl : Bool) (lo : E) (hh : Bool) (hi : E)
  | and (a b : E) | or (a b : E) | not (a : E) | ite (c a b : E) | chain (o o' : Op) (a b c : E)
  | tup (es : Es) | lst (es : Es) | dict (es : Es)
  | call (f : Nat) (as : Es) | calld (e : E) (as : Es)
  | comp (vs : List Nat) (t : Tg) (it : It) (cond : E) (elt : E)
  | comp2 (vs vs1 : List Nat) (t : Tg) (it : It) (t2 : Tg) (it2 : It) (cond : E) (elt : E)
  | app (i : Nat) (e : E) | ext (i : Nat) (e : E) | pop (i : Nat) | popAt (i : Nat) (e : E) | stop
inductive Es | nil | cons (e : E) (es : Es)
inductive It | seq (e : E) | rng1 (e : E) | rng2 (a b : E) | enum (e : E) | zip (a b : E)
end
mutual
inductive S
  | set (i : Nat) (m : Bool) (e : E) | unpack (is : List Nat) (e : E) | par (is : List (Nat × Bool)) (es : Es)
  | setItem (i : Nat) (k e : E) | ex (e : E) | ret (e : E) | ite (c : E) (a b : Ss) | for (t : Tg) (it : It) (body : Ss)
  | while (c : E) (body : Ss) | raise (c : Nat) | tryc (m : Nat) (b : Ss) (i y : Nat) | stop
inductive Ss | nil | cons (s : S) (r : Ss)
end
inductive Sl | none | val (d : D) | own (t : Option Nat) (d : D)
  deriving Inhabited
abbrev St := List Sl
inductive R | val (d : D) | var (i : Nat) | fresh (d : D)
inductive Res (α : Type) | ok (a : α) | exc (c : Nat) | no
@[inline] def Res.bind {α β : Type} : Res α → (α → Res β) → Res β
  | .ok a, f => f a
  | .exc c, _ => .exc c
  | .no, _ => .no
/-- no error leaves a comprehension -/
def Res.calm {α : Type} : Res α → Res α
  | .ok a => .ok a
  | _ => .no
/-- an argument as the callee takes it: a value, the caller's own list, a new list -/
inductive Ar | val (d : D) | ref (d : D) | own (d : D)
inductive Ret | val (d : D) | fresh (d : D)
abbrev Fns := Nat → List Ar → Res (Ret × List Sl)
def slot (st : St) (i : Nat) : Sl := st.getD i .none
def Sl.has : Sl → Bool
  | .none => false
  | _ => true
/-- what a result is, read and not kept -/
def R.look (st : St) : R → Option D
  | .val d => some d
  | .fresh d => some d
  | .var i => match slot st i with
    | .own _ d => some d
    | .val d => some d
    | .none => none
/-- a result kept: an own list is never changed again -/
def R.keep (st : St) : R → Option (D × St)
  | .val d => some (d, st)
  | .fresh d => some (d, st)
  | .var i => match slot st i with
    | .own _ d => some (d, st.set i (.val d))
    | .val d => some (d, st)
    | .none => none
/-- a new thing read by an operation is kept -/
def R.still : R → R
  | .fresh d => .val d
  | r => r
def looks (st : St) : List R → Option (List D)
  | [] => some []
  | r :: rs => match r.look st, looks st rs with
    | some d, some ds => some (d :: ds)
    | _, _ => none
/-- what methods an object has -/
def kind : D → Nat
  | .non => 0 | .bl _ => 1 | .int _ => 2 | .str _ => 3 | .tup _ => 4 | .lst _ => 5 | .dct _ => 6 | .fn _ => 7 | .obj _ => 8 | .scr _ => 9
/-- the kinds of data that have the method -/
def Op.recv : Op → Nat → Bool
  | .count, 5 => true
  | .index, 5 => true
  | .count, 4 => true
  | .count, 3 => true
  | .index, 4 => true
  | .join, 3 => true
  | .dget2, 6 => true
  | _, _ => false
def outR : Bool × D → R
  | (true, d) => .fresh d
  | (false, d) => .val d
/-- the arguments of a call: fl tells which parameters are changed -/
def args (fl : List Bool) : List R → St → Option (List Ar × List (Option Nat) × St)
  | [], st => some ([], [], st)
  | r :: rs, st => match fl with
    | [] => none
    | f :: fl =>
      match r with
      | .val d => (args fl rs st).map fun (as, ws, st) => (.val d :: as, none :: ws, st)
      | .fresh d => (args fl rs st).map fun (as, ws, st) => ((if f then .own d else .val d) :: as, none :: ws, st)
      | .var i => match slot st i with
        | .none => none
        | .val d => (args fl rs st).map fun (as, ws, st) => (.val d :: as, none :: ws, st)
        | .own _ d =>
          if f then (args fl rs st).bind fun (as, ws, st') => if ws.contains (some i) then none else (match slot st' i with
            | .own _ d' => some (.ref d' :: as, some i :: ws, st')
            | _ => none)
          else (args fl rs (st.set i (.val d))).map fun (as, ws, st) => (.val d :: as, none :: ws, st)
/-- behind the call: what the callee left of the caller's own lists -/
def outs : Nat → List (Option Nat) → List Sl → St → Option St
  | _, [], _, st => some st
  | k, none :: ws, _ :: os, st => outs (k + 1) ws os st
  | k, some i :: ws, .own (some k') d :: os, st => if k' == k then (match slot st i with
    | .own t _ => outs (k + 1) ws os (st.set i (.own t d))
    | _ => none) else none
  | _, _, _, _ => none
def retR : Ret → R
  | .val d => .val d
  | .fresh d => .fresh d
/-- a target takes an item -/
def tgs : List Nat → List D → St → Option St
  | [], [], st => some st
  | i :: is, d :: ds, st => if Nat.blt i st.length then tgs is ds (st.set i (.val d)) else none
  | _, _, _ => none
def Tg.set : Tg → D → St → Option St
  | .one i, d, st => if Nat.blt i st.length then some (st.set i (.val d)) else none
  | .many is, .tup ds, st => tgs is ds st
  | .many _, _, _ => none
def wipe (st : St) : List Nat → St
  | [] => st
  | v :: vs => (wipe st vs).set v .none
/-- the slots of a comprehension's names as they were -/
def back (old st : St) : List Nat → St
  | [] => st
  | v :: vs => (back old st vs).set v (slot old v)
def noOwn (st : St) (vs : List Nat) : Bool := vs.all fun v => match slot st v with | .own _ _ => false | _ => true
def zipD : List D → List D → List D
  | x :: xs, y :: ys => .tup [x, y] :: zipD xs ys
  | _, _ => []
/-- the turns of a comprehension: the list so far (turned round) -/
def turns (t : Tg) (body : St → Res (Option D × St)) : List D → St → Res (List D × St)
  | [], st => .ok ([], st)
  | x :: xs, st => match t.set x st with
    | none => .no
    | some st1 => (body st1).bind fun (o, st2) => (turns t body xs st2).bind fun (ds, st3) => .ok (match o with | some d => d :: ds | none => ds, st3)
def turns2 (t : Tg) (body : St → Res (List D × St)) : List D → St → Res (List D × St)
  | [], st => .ok ([], st)
  | x :: xs, st => match t.set x st with
    | none => .no
    | some st1 => (body st1).bind fun (o, st2) => (turns2 t body xs st2).bind fun (ds, st3) => .ok (o ++ ds, st3)
def dsplit : List D → List (D × D) → Option (List (D × D))
  | [], acc => some acc
  | k :: v :: r, acc => dsplit r (dput k v acc)
  | _, _ => none
/-- a part of a slice -/
def part (b : Bool) (st : St) (x : Res (R × St)) : Res (Option Int × St) :=
  if b then x.bind fun (r, s) => match r with
    | .val (.int i) => .ok (some i, s)
    | _ => .no
  else .ok (none, st)
section
variable (Φ : Fns) (fl : Nat → List Bool)
mutual
def ev : E → St → Res (R × St)
  | .c d, st => .ok (.val d, st)
  | .v i, st => match slot st i with
    | .none => .no
    | .val d => .ok (.val d, st)
    | .own _ _ => .ok (.var i, st)
  | .op o as, st => (evOs as st).bind fun (rs, st1) => match looks st1 rs with
    | none => .no
    | some ds => match o.run ds with
      | none => .no
      | some x => .ok (outR x, st1)
  | .meth o e as, st => (ev e st).bind fun (r, st1) => match r.still.look st1 with
    | none => .no
    | some d => if o.recv (kind d) then (evOs as st1).bind fun (rs, st2) => match looks st2 (r.still :: rs) with
      | some (d2 :: ds) => if kind d == kind d2 then (match o.run (d2 :: ds) with
        | none => .no
        | some x => .ok (outR x, st2)) else .no
      | _ => .no else .no
  | .slc a hl lo hh hi, st => (ev a st).bind fun (r, st1) => (part hl st1 (ev lo st1)).bind fun (l, st2) => (part hh st2 (ev hi st2)).bind fun (u, st3) => match r.still.look st3 with
    | none => .no
    | some d => match Op.sl l u d with
      | none => .no
      | some x => .ok (outR x, st3)
  | .and a b, st => (ev a st).bind fun (r, st1) => match r with
    | .val (.bl true) => ev b st1
    | .val (.bl false) => .ok (.val (.bl false), st1)
    | _ => .no
  | .or a b, st => (ev a st).bind fun (r, st1) => match r with
    | .val (.bl false) => ev b st1
    | .val (.bl true) => .ok (.val (.bl true), st1)
    | _ => .no
  | .not a, st => (ev a st).bind fun (r, st1) => match r with
    | .val (.bl b) => .ok (.val (.bl (!b)), st1)
    | _ => .no
  | .ite c a b, st => (ev c st).bind fun (r, st1) => match r with
    | .val (.bl true) => ev a st1
    | .val (.bl false) => ev b st1
    | _ => .no
  | .chain o o' a b c, st => (ev a st).bind fun (r, st1) => match r with
    | .val x => (ev b st1).bind fun (r, st2) => match r with
      | .val y => (match o.run [x, y] with
        | some (_, .bl false) => .ok (.val (.bl false), st2)
        | some (_, .bl true) => (ev c st2).bind fun (r, st3) => match r with
          | .val z => (match o'.run [y, z] with
            | some (_, .bl k) => .ok (.val (.bl k), st3)
            | _ => .no)
          | _ => .no
        | _ => .no)
      | _ => .no
    | _ => .no
  | .tup es, st => (evVs es st).bind fun (ds, st1) => if Nat.ble ds.length sizeL then .ok (.val (.tup ds), st1) else .no
  | .lst es, st => (evVs es st).bind fun (ds, st1) => if Nat.ble ds.length sizeL then .ok (.fresh (.lst ds), st1) else .no
  | .dict es, st => (evVs es st).bind fun (ds, st1) => match dsplit ds [] with
    | some kvs => .ok (.fresh (.dct kvs), st1)
    | none => .no
  | .call f as, st => (evAs as st).bind fun (rs, st1) => match args (fl f) rs st1 with
    | none => .no
    | some (ars, ws, st2) => (Φ f ars).bind fun (r, os) => match outs 0 ws os st2 with
      | none => .no
      | some st3 => .ok (retR r, st3)
  | .calld e as, st => (ev e st).bind fun (r, st0) => match r with
    | .val (.fn f) => (evAs as st0).bind fun (rs, st1) => (match args (fl f) rs st1 with
      | none => .no
      | some (ars, ws, st2) => (Φ f ars).bind fun (r, os) => match outs 0 ws os st2 with
        | none => .no
        | some st3 => .ok (retR r, st3))
    | _ => .no
  | .comp vs t it cond elt, st => (evIt it st).bind fun (xs, st1) => if noOwn st1 vs then
      (turns t (fun s => (ev cond s).bind fun (r, s1) => match r with
        | .val (.bl true) => (ev elt s1).bind fun (r, s2) => (match r.keep s2 with
          | some (d, s3) => .ok (some d, wipe s3 vs)
          | none => .no)
        | .val (.bl false) => .ok (none, wipe s1 vs)
        | _ => .no) xs (wipe st1 vs)).calm.bind fun (ds, st2) => if Nat.ble ds.length sizeL then .ok (.fresh (.lst ds), back st1 st2 vs) else .no
    else .no
  | .comp2 vs vs1 t it t2 it2 cond elt, st => (evIt it st).bind fun (xs, st1) => if noOwn st1 vs then
      (turns2 t (fun s => (evIt it2 s).bind fun (ys, s0) => (turns t2 (fun s => (ev cond s).bind fun (r, s1) => match r with
        | .val (.bl true) => (ev elt s1).bind fun (r, s2) => (match r.keep s2 with
          | some (d, s3) => .ok (some d, wipe s3 vs1)
          | none => .no)
        | .val (.bl false) => .ok (none, wipe s1 vs1)
        | _ => .no) ys (wipe s0 vs1)).bind fun (ds, s9) => .ok (ds, wipe s9 vs)) xs (wipe st1 vs)).calm.bind fun (ds, st2) => if Nat.ble ds.length sizeL then .ok (.fresh (.lst ds), back st1 st2 vs) else .no
    else .no
  | .app i e, st => match slot st i with
    | .own _ (.lst _) => (ev e st).bind fun (r, st1) => (match r.keep st1 with
      | none => .no
      | some (d, st2) => match slot st2 i with
        | .own t (.lst xs) => if Nat.blt xs.length sizeL then .ok (.val .non, st2.set i (.own t (.lst (xs ++ [d])))) else .no
        | _ => .no)
    | _ => .no
  | .ext i e, st => match slot st i with
    | .own _ (.lst _) => (ev e st).bind fun (r, st1) => (match r.keep st1 with
      | some (.lst ds, st2) => (match slot st2 i with
        | .own t (.lst xs) => if Nat.ble (xs.length + ds.length) sizeL then .ok (.val .non, st2.set i (.own t (.lst (xs ++ ds)))) else .no
        | _ => .no)
      | _ => .no)
    | _ => .no
  | .pop i, st => match slot st i with
    | .own t (.lst xs) => (match xs.getLast? with
      | some d => .ok (.val d, st.set i (.own t (.lst xs.dropLast)))
      | none => .no)
    | _ => .no
  | .popAt i e, st => match slot st i with
    | .own _ (.lst _) => (ev e st).bind fun (r, st1) => (match r with
      | .val (.int k) => (match slot st1 i with
        | .own t (.lst xs) => if decide (0 ≤ k) && decide (k < xs.length) && Nat.ble xs.length sizeL then (match xs[k.toNat]? with
          | some d => .ok (.val d, st1.set i (.own t (.lst (xs.eraseIdx k.toNat))))
          | none => .no) else .no
        | _ => .no)
      | _ => .no)
    | _ => .no
  | .stop, _ => .no
/-- operands: read, not kept -/
def evOs : Es → St → Res (List R × St)
  | .nil, st => .ok ([], st)
  | .cons e es, st => (ev e st).bind fun (r, st1) => (evOs es st1).bind fun (rs, st2) => .ok (r.still :: rs, st2)
/-- kept values -/
def evVs : Es → St → Res (List D × St)
  | .nil, st => .ok ([], st)
  | .cons e es, st => (ev e st).bind fun (r, st1) => match r.keep st1 with
    | none => .no
    | some (d, st2) => (evVs es st2).bind fun (ds, st3) => .ok (d :: ds, st3)
/-- arguments of a call -/
def evAs : Es → St → Res (List R × St)
  | .nil, st => .ok ([], st)
  | .cons e es, st => (ev e st).bind fun (r, st1) => (evAs es st1).bind fun (rs, st2) => .ok (r :: rs, st2)
/-- what a loop walks -/
def evIt : It → St → Res (List D × St)
  | .seq e, st => (ev e st).bind fun (r, st1) => match r.keep st1 with
    | none => .no
    | some (d, st2) => (match Op.seqOf d with
      | some xs => .ok (xs, st2)
      | none => .no)
  | .rng1 e, st => (ev e st).bind fun (r, st1) => match r with
    | .val (.int n) => (match rngOk 0 n with
      | some xs => .ok (xs, st1)
      | none => .no)
    | _ => .no
  | .rng2 a b, st => (ev a st).bind fun (r, st1) => match r with
    | .val (.int lo) => (ev b st1).bind fun (r, st2) => (match r with
      | .val (.int hi) => (match rngOk lo hi with
        | some xs => .ok (xs, st2)
        | none => .no)
      | _ => .no)
    | _ => .no
  | .enum e, st => (ev e st).bind fun (r, st1) => match r.keep st1 with
    | none => .no
    | some (d, st2) => (match Op.seqOf d with
      | some xs => .ok (enumD 0 xs, st2)
      | none => .no)
  | .zip a b, st => (ev a st).bind fun (r, st1) => match r.keep st1 with
    | none => .no
    | some (d, st2) => (ev b st2).bind fun (r, st3) => match r.keep st3 with
      | none => .no
      | some (d', st4) => (match Op.seqOf d, Op.seqOf d' with
        | some xs, some ys => .ok (zipD xs ys, st4)
        | _, _ => .no)
end
inductive Fl | next | ret (r : Ret)
/-- a name takes a result: an own list where it is to be changed -/
def bindS (i : Nat) (m : Bool) (r : R) (st : St) : Option St :=
  if Nat.blt i st.length then
    (match r, m with
      | .fresh d, true => some (st.set i (.own none d))
      | r, _ => match r.keep st with
        | some (d, st1) => some (st1.set i (.val d))
        | none => none)
  else none
def bindSs : List (Nat × Bool) → List R → St → Option St
  | [], [], st => some st
  | (i, m) :: is, r :: rs, st => match bindS i m r st with
    | some st1 => bindSs is rs st1
    | none => none
  | _, _, _ => none
/-- the results of a parallel assignment: names in it are kept at once -/
def keepV (st : St) : R → Option (R × St)
  | .var i => match R.keep st (.var i) with
    | some (d, st1) => some (.val d, st1)
    | none => none
  | r => some (r, st)
def evPs : Es → St → Res (List R × St)
  | .nil, st => .ok ([], st)
  | .cons e es, st => (ev Φ fl e st).bind fun (r, st1) => match keepV st1 r with
    | none => .no
    | some (r, st2) => (evPs es st2).bind fun (rs, st3) => .ok (r :: rs, st3)
def retOf (st : St) : R → Option (Ret × St)
  | .val d => some (.val d, st)
  | .fresh d => some (.fresh d, st)
  | .var i => match slot st i with
    | .own none d => some (.fresh d, st.set i .none)
    | .own (some _) d => some (.val d, st.set i (.val d))
    | .val d => some (.val d, st)
    | .none => none
def loop (t : Tg) (body : St → Res (Fl × St)) : List D → St → Res (Fl × St)
  | [], st => .ok (.next, st)
  | x :: xs, st => match t.set x st with
    | none => .no
    | some st1 => (body st1).bind fun (f, st2) => match f with
      | .next => loop t body xs st2
      | .ret r => .ok (.ret r, st2)
def whileN (cond : St → Res (R × St)) (body : St → Res (Fl × St)) : Nat → St → Res (Fl × St)
  | 0, _ => .no
  | n + 1, st => (cond st).bind fun (r, st1) => match r with
    | .val (.bl true) => (body st1).bind fun (f, st2) => (match f with
      | .next => whileN cond body n st2
      | .ret r => .ok (.ret r, st2))
    | .val (.bl false) => .ok (.next, st1)
    | _ => .no
def wfuel : Nat := 100000
mutual
def ex : S → St → Res (Fl × St)
  | .set i m e, st => (ev Φ fl e st).bind fun (r, st1) => match bindS i m r st1 with
    | some st2 => .ok (.next, st2)
    | none => .no
  | .unpack is e, st => (ev Φ fl e st).bind fun (r, st1) => match r.keep st1 with
    | some (.tup ds, st2) => (match tgs is ds st2 with
      | some st3 => .ok (.next, st3)
      | none => .no)
    | _ => .no
  | .par is es, st => (evPs Φ fl es st).bind fun (rs, st1) => match bindSs is rs st1 with
    | some st2 => .ok (.next, st2)
    | none => .no
  | .setItem i k e, st => (ev Φ fl e st).bind fun (r, st1) => match r.keep st1 with
    | none => .no
    | some (d, st2) => if (slot st2 i).has then (ev Φ fl k st2).bind fun (r, st3) => match r.keep st3 with
      | none => .no
      | some (kd, st4) => (match slot st4 i with
        | .own t (.lst xs) => (match kd with
          | .int j => (match ix xs.length j with
            | some n => .ok (.next, st4.set i (.own t (.lst (xs.set n d))))
            | none => .no)
          | _ => .no)
        | .own t (.dct kvs) => if tkey kd && Nat.blt kvs.length sizeL then .ok (.next, st4.set i (.own t (.dct (dput kd d kvs)))) else .no
        | _ => .no) else .no
  | .ex e, st => (ev Φ fl e st).bind fun (_, st1) => .ok (.next, st1)
  | .ret e, st => (ev Φ fl e st).bind fun (r, st1) => match retOf st1 r with
    | some (r, st2) => .ok (.ret r, st2)
    | none => .no
  | .ite c a b, st => (ev Φ fl c st).bind fun (r, st1) => match r with
    | .val (.bl true) => exs a st1
    | .val (.bl false) => exs b st1
    | _ => .no
  | .for t it body, st => (evIt Φ fl it st).bind fun (xs, st1) => loop t (exs body) xs st1
  | .while c body, st => whileN (ev Φ fl c) (exs body) wfuel st
  | .raise c, _ => .exc c
  | .tryc m b i y, st => match exs b st with
    | .ok x => .ok x
    | .exc c => if Nat.blt c m && Nat.blt i st.length && Nat.blt y st.length then .ok (.next, (List.replicate st.length .none).set y (.val (.obj c))) else .no
    | .no => .no
  | .stop, _ => .no
def exs : Ss → St → Res (Fl × St)
  | .nil, st => .ok (.next, st)
  | .cons s r, st => (ex s st).bind fun (f, st1) => match f with
    | .next => exs r st1
    | .ret v => .ok (.ret v, st1)
end
end
/-- a def: how many parameters, how many slots, its body -/
structure Fn where
  np : Nat
  ns : Nat
  body : Ss
def start (k : Nat) : List Ar → St
  | [] => []
  | .val d :: as => .val d :: start (k + 1) as
  | .ref d :: as => .own (some k) d :: start (k + 1) as
  | .own d :: as => .own none d :: start (k + 1) as
def finish (np : Nat) : Fl × St → Ret × List Sl
  | (.next, st) => (.val .non, st.take np)
  | (.ret r, st) => (r, st.take np)
def runFn (fl : Nat → List Bool) (Φ : Fns) (f : Fn) (as : List Ar) : Res (Ret × List Sl) :=
  if as.length == f.np then (exs Φ fl f.body (start 0 as ++ List.replicate (f.ns - f.np) .none)).bind fun x => .ok (finish f.np x) else .no
/-- the meaning of the defs by the depth of calls -/
def Fns.at (fl : Nat → List Bool) (tab : Nat → Option Fn) : Nat → Fns
  | 0, _, _ => .no
  | n + 1, f, as => match tab f with
    | some d => runFn fl (Fns.at fl tab n) d as
    | none => .no
end PV
set_option Elab.async false
set_option linter.all false
set_option maxRecDepth 100000
set_option maxHeartbeats 4000000
namespace PV
theorem dedI_mem : ∀ (l : List Int) (k : Int), k ∈ dedI l ↔ k ∈ l
  | [], k => by simp [dedI]
  | x :: r, k => by
    rw [dedI]
    split
    · rename_i h
      have h : x ∈ r := by simpa using h
      rw [dedI_mem r k, List.mem_cons]
      exact ⟨.inr, fun z => z.elim (fun z => z ▸ h) id⟩
    · rw [List.mem_cons, List.mem_cons, dedI_mem r k]
theorem dedI_nodup : ∀ l : List Int, (dedI l).Nodup
  | [] => .nil
  | x :: r => by
    rw [dedI]
    split
    · exact dedI_nodup r
    · rename_i h
      have h : x ∉ r := by simpa using h
      exact List.nodup_cons.mpr ⟨fun z => h ((dedI_mem r x).1 z), dedI_nodup r⟩
theorem nodup_len {l m : List Int} (h1 : l.Nodup) (h2 : m.Nodup) (h : ∀ k, k ∈ l ↔ k ∈ m) : l.length = m.length :=
  ((List.perm_ext_iff_of_nodup h1 h2).mpr h).length_eq
theorem insI_perm (x : Int) : ∀ l : List Int, (insI x l).Perm (x :: l)
  | [] => .refl _
  | y :: r => by
    rw [insI]
    split
    · exact ((insI_perm x r).cons y).trans (.swap x y r)
    · exact .refl _
theorem sortI_perm : ∀ l : List Int, (sortI l).Perm l
  | [] => .refl _
  | x :: r => (insI_perm x (sortI r)).trans ((sortI_perm r).cons x)
theorem insI_le (x : Int) : ∀ l : List Int, l.Pairwise (· ≤ ·) → (insI x l).Pairwise (· ≤ ·)
  | [], _ => by simp [insI]
  | y :: r, h => by
    rw [insI]
    have h' := List.pairwise_cons.mp h
    split
    · rename_i hl
      refine List.pairwise_cons.mpr ⟨fun z hz => ?_, insI_le x r h'.2⟩
      rcases List.mem_cons.mp ((insI_perm x r).mem_iff.mp hz) with rfl | hz
      · omega
      · exact h'.1 z hz
    · rename_i hl
      refine List.pairwise_cons.mpr ⟨fun z hz => ?_, h⟩
      rcases List.mem_cons.mp hz with rfl | hz
      · omega
      · have := h'.1 z hz; omega
theorem sortI_le : ∀ l : List Int, (sortI l).Pairwise (· ≤ ·)
  | [] => .nil
  | x :: r => insI_le x _ (sortI_le r)
theorem sorted_uniq {l m : List Int} (hl : l.Pairwise (· < ·)) (hm : m.Pairwise (· ≤ ·)) (md : m.Nodup) (h : ∀ k, k ∈ l ↔ k ∈ m) : l = m := by
  have ld : l.Nodup := hl.imp fun h => Int.ne_of_lt h
  exact List.Perm.eq_of_pairwise (fun a b _ _ h1 h2 => Int.le_antisymm h1 h2) (hl.imp fun h => Int.le_of_lt h) hm ((List.perm_ext_iff_of_nodup ld md).mpr h)
theorem dedS_mem : ∀ (l : List (List Nat)) (k : List Nat), k ∈ dedS l ↔ k ∈ l
  | [], k => by simp [dedS]
  | x :: r, k => by
    rw [dedS]
    split
    · rename_i h
      have h : x ∈ r := by simpa using h
      rw [dedS_mem r k, List.mem_cons]
      exact ⟨.inr, fun z => z.elim (fun z => z ▸ h) id⟩
    · rw [List.mem_cons, List.mem_cons, dedS_mem r k]
theorem dedS_nodup : ∀ l : List (List Nat), (dedS l).Nodup
  | [] => .nil
  | x :: r => by
    rw [dedS]
    split
    · exact dedS_nodup r
    · rename_i h
      have h : x ∉ r := by simpa using h
      exact List.nodup_cons.mpr ⟨fun z => h ((dedS_mem r x).1 z), dedS_nodup r⟩
end PV
set_option Elab.async false
set_option linter.all false
set_option maxRecDepth 100000
set_option maxHeartbeats 4000000
namespace L2
open PySem PySem.Spec PyProof.Rows
/-- an exception of the class cls at a, caught -/
def ExH (cls : Value) (a : Addr) : HO := .ext fun h => ∃ (oe : Obj) (vs : Array Value), h.get? a = some oe ∧ Zc cls none oe ∧ oe.data = .fields vs
theorem exH_ok {P : Program} {w : World} {H : Hp} {h : Heap} {a : Addr} {cls : Value} {oe : Obj} {vs : Array Value} (e : h.get? a = some oe) (z : Zc cls none oe) (d : oe.data = .fields vs) : ObjOk P w H h a (ExH cls a) :=
  ⟨⟨oe, vs, e, z, d⟩, ⟨oe, e⟩, fun _ _ ⟨o, v, q, r⟩ k => ⟨o, v, k o q, r⟩⟩
section
variable {X : Cx} {pins : List (Addr × Obj)} {σ σ0 : St} {H H0 : Hp} {s sI : Shared}
/-- a thing that came behind sI is tracked -/
theorem Inv.layX {a : Addr} {o : HO} (J : Inv X pins σ0 H0 sI) (I : Inv X pins σ H s) (n0 : sI.heap.get? a = none) (nL : a ≠ X.env.locals) (nh : H a = none) (new : ObjOk X.prog X.w (upd H a o) s.heap a o) : Inv X pins σ (upd H a o) s := by
  have ne : ∀ b u, sI.heap.get? b = some u → b ≠ a := fun b u q z => by rw [z, n0] at q; cases q
  refine ⟨I.ok, I.os, I.bare, ⟨I.base.keep, I.base.slot, fun b u q n x => ?_, I.base.there, fun b xs q => ?_, fun b u v q => ?_, fun b ps q => ?_⟩, I.loc, I.cell, ?_, fun x c q => ?_, fun p hp => ?_, I.hok.laidN (fun _ _ q => q) nh new, I.len⟩
  · obtain ⟨o', z⟩ := J.base.there b u q x
    rw [upd_ne (ne b o' z)]
    exact I.base.free b u q n x
  · have z := I.base.tups b xs q
    rw [upd_ne (ne_of_none z nh)]; exact z
  · have z := I.base.frzs b u v q
    rw [upd_ne (ne_of_none z nh)]; exact z
  · obtain ⟨more, z⟩ := I.base.tbls b ps q
    exact ⟨more, by rw [upd_ne (ne_of_none z nh)]; exact z⟩
  · rw [upd_ne (Ne.symm nL)]; exact I.free
  · obtain ⟨v, z⟩ := J.cell x c q
    obtain ⟨oc, z1, z2⟩ := z
    rw [upd_ne (ne c oc z1)]
    exact I.freeC x c q
  · obtain ⟨q1, q2, q3, q4, q5⟩ := I.pin p hp
    obtain ⟨j1, _⟩ := J.pin p hp
    exact ⟨q1, by rw [upd_ne (ne _ _ j1)]; exact q2, q3, q4, q5⟩
end
/-- what is wished of an exception: caught, and kept -/
def wKp (K : PySem.W.Frag) (c : Value) (i m : Nat) (ts : Addr → TS) (D : Ends) : WX := fun cls d σ H => σ.length = m → PySem.W.exmOne K cls c = some true ∧ d = none ∧ ∀ a, H a = none → ts a { nx := fun σ' H' => H' a = none → D.nx (σ'.set i none) (upd H' a (ExH cls a)), rt := fun _ _ => False, bk := fun _ _ => False, ct := fun _ _ => False } (σ.set i (some (.ref a))) H
section
variable {X : Cx} {x n : Str} {c : Value} {i : Nat} {body suite : List Stmt} {b₀ : Stmt} {np pos pos' : Pos} {tb : WX → TS} {ts : Addr → TS}
theorem ps_try_keep (hs : X.stack = X.env :: X.outer) (hf : X.env.frame = some X.env.locals) (hN : X.N.Nodup) (hi : X.N[i]? = some n) (hln : X.env.kindOf n = some .local) (hc : Names X x c)
    (hb : ∀ (W : WX) (pn : List (Addr × Obj)) (xe : Value → Shared → Prop), Takes (X.tr pn xe) W → PassesOwn (model X.prog X.w) X.A X.env xe → PSs (X.tr pn xe) body (tb W))
    (hsu : ∀ (a : Addr) (oe : Obj) (pn : List (Addr × Obj)), PSs (X.suite a ((a, oe) :: pn)) (b₀ :: suite) (ts a)) :
    PS X (.Try body [.ExceptHandler (some (.Name x np)) (some n) (b₀ :: suite) pos'] [] [] pos) (fun D σ H => tb (wKp X.K c i σ.length ts D) D σ H) := by
  refine ⟨fun pins s σ H D I h => ?_⟩
  have ok := I.ok
  have fr : X.A.frames = some (X.env :: X.outer) := by rw [ok.frames, hs]
  have lo : Loc X.env.scope n := .inl hln
  refine wpAny_Try_except (wpAny_mono ((hb (wKp X.K c i σ.length ts D) (X.pn ++ pins) (fun e s1 => wpAny (model X.prog X.w) X.A (noteFrame e X.env) (fun _ s2 => wpAny (model X.prog X.w) X.A (setFlight e none) (fun _ s3 => wpAny (model X.prog X.w) X.A (handleBy e X.env [.ExceptHandler (some (.Name x np)) (some n) (b₀ :: suite) pos']) (SP X pins D) X.xe s3) X.xe s2) X.xe s1) (fun u s' xx => ?_) PassesOwn.looking).run [] s σ H D (I.toTry _) h) (fun f s1 hsp => ?_) (fun e s1 he => he))
  · obtain ⟨a, B, sI, pins', σ', H', cls, d, rfl, J', nb, up, sky, na, os, ag, ww⟩ := xx
    have J : Inv X pins σ' H' sI := J'.ofTry ok
    obtain ⟨hb1, hd0, hyes⟩ := ww (by rw [J.len, I.len])
    subst hd0
    have sky' : Sky B (X.env :: X.outer) a (Zc cls none) X.env.locals s'.heap := by rw [← hs]; exact sky
    show wpAny (model X.prog X.w) X.A (noteFrame (.ref a) X.env) _ _ _
    refine Sky.land Zc.steady fr hf sky' fun h3 fl3 up3 => ?_
    have J3 : Inv X pins σ' H' { s' with heap := h3 } := J.landed nb fl3.1 (up.trans up3) os ag
    obtain ⟨oe3, vs3, he3, hz3, hd3⟩ := fl3.there
    have nfr : a ∉ frs (X.env :: X.outer) := fun hm => by
      obtain ⟨_, o', e', hnf⟩ := fl3.2.2.1.mem hm
      rw [he3] at e'; cases e'
      exact hnf _ hd3
    have nL : a ≠ X.env.locals := fun z => nfr (List.mem_filterMap.mpr ⟨X.env, List.mem_cons_self, by rw [hf, z]⟩)
    have nF : a ∉ X.fs := fun hm => by
      obtain ⟨e, he, q⟩ := List.mem_filterMap.mp hm
      exact nfr (List.mem_filterMap.mpr ⟨e, List.mem_cons_of_mem _ he, q⟩)
    have n0 : sI.heap.get? a = none := by
      cases q : sI.heap.get? a with
      | none => rfl
      | some o =>
        have z := nb a o q (by rw [hs]; exact nfr)
        rw [fl3.2.1] at z; cases z
    have S3 := J3.suite he3 hd3 na nL nF
    refine wpAny_handleBy_cons (codeAny_handlers_test ?_) (by intro q; cases q)
    have LT : PySem.W.Looks (model X.prog X.w) h3 (typeOf (.ref a)) cls := fun A Q E s k q => wpAny_typeOf_ref (k _ _ he3) (by rw [hz3.1]; exact q)
    have LM := PySem.W.exm_one (M := model X.prog X.w) (J3.kIn) LT hb1
    have test : ∀ {Q : Value → Shared → Prop} {E : Value → Shared → Prop}, Q c { s' with heap := h3 } → wpAny (model X.prog X.w) (X.A.mark (some (.ref a))) (eval (.Name x np) X.env) Q E { s' with heap := h3 } := fun {Q E} q => by
      obtain ⟨hg, hdbg, hm | ⟨hm, hv, hnn⟩⟩ := hc
      · exact ld_glob (X := X.suite a ((a, oe3) :: (X.pn ++ pins))) S3 hg hm q hdbg
      · exact ld_blt (X := X.suite a ((a, oe3) :: (X.pn ++ pins))) S3 hg hm hv q hnn hdbg
    refine test (LM.here (codeAny_handlers_suite_as (HandSPX.lands_againZ fl3 fun h4 fl4 up4 => ?_)))
    have J4 : Inv X pins σ' H' { s' with heap := h4 } := J.landed nb fl4.1 ((up.trans up3).trans up4) os ag
    obtain ⟨oe4, vs4, he4, hz4, hd4⟩ := fl4.there
    have S4 := J4.suite he4 hd4 na nL nF
    refine store_ok (X := X.suite a ((a, oe4) :: (X.pn ++ pins))) (v := .ref a) S4 hN hi lo rfl (fun s5 S5 => ?_) (.inr hln)
    refine wpAny_mono ((hsu a oe4 (X.pn ++ pins)).run [] s5 _ H' _ S5 (hyes a na)) (fun f s6 hsp => ?_) (fun _ _ z => False.elim z)
    cases f with
    | next =>
      obtain ⟨σ6, H6, S6, q6⟩ := hsp
      have I6 : Inv X ((a, oe4) :: pins) σ6 H6 s6 := ⟨ok, S6.os, S6.bare, S6.base, S6.loc, S6.cell, S6.free, S6.freeC, fun p hp => by
        refine S6.pin p ?_
        show p ∈ ((a, oe4) :: (X.pn ++ pins)) ++ []
        rw [List.append_nil]
        rcases List.mem_append.mp hp with z | z
        · exact List.mem_cons_of_mem _ (List.mem_append_left _ z)
        · rcases List.mem_cons.mp z with z | z
          · rw [z]; exact List.mem_cons_self
          · exact List.mem_cons_of_mem _ (List.mem_append_right _ z), S6.hok, S6.len⟩
      refine gone_ok I6 hN hi hln fun s7 J7 => ?_
      obtain ⟨g7, n7, _⟩ := J7.pin (a, oe4) (List.mem_append_right _ List.mem_cons_self)
      have I7 : Inv X pins (σ6.set i none) H6 s7 := ⟨J7.ok, J7.os, J7.bare, J7.base, J7.loc, J7.cell, J7.free, J7.freeC, fun p hp => J7.pin p (by
        rcases List.mem_append.mp hp with z | z
        · exact List.mem_append_left _ z
        · exact List.mem_append_right _ (List.mem_cons_of_mem _ z)), J7.hok, J7.len⟩
      exact ⟨_, _, J.layX I7 n0 nL n7 (exH_ok g7 hz4 hd4), q6 n7⟩
    | brk => obtain ⟨σ6, H6, S6, q6⟩ := hsp; exact q6.elim
    | cont => obtain ⟨σ6, H6, S6, q6⟩ := hsp; exact q6.elim
    | ret u => obtain ⟨v6, σ6, H6, S6, r6, q6⟩ := hsp; exact q6.elim
  · cases f with
    | next =>
      obtain ⟨σ', H', J', q⟩ := hsp
      exact wpAny_execs_nil ⟨σ', H', J'.ofTry ok, q⟩
    | brk => obtain ⟨σ', H', J', q⟩ := hsp; exact ⟨σ', H', J'.ofTry ok, q⟩
    | cont => obtain ⟨σ', H', J', q⟩ := hsp; exact ⟨σ', H', J'.ofTry ok, q⟩
    | ret u => obtain ⟨v, σ', H', J', r, q⟩ := hsp; exact ⟨v, σ', H', J'.ofTry ok, r, q⟩
end
/-- isinstance(e, c), e a caught exception that is kept -/
def rIsK (K : PySem.W.Frag) : List V → Hp → VK → Prop := fun xs H Q => ∃ (a D : Addr) (c : V) (cv : Value) (b : Bool), xs = [.ref a, c] ∧ H a = some (ExH (.ref D) a) ∧ ExcC K D ∧ (∀ u, RelV c u → u = cv) ∧ PySem.W.kitOne K (.ref D) cv = some b ∧ Q (.bl b) H
theorem call_isK {X : Cx} : CallR X (.builtin "isinstance") (rIsK X.K) := by
  intro pins s σ H xs us Q I r h
  obtain ⟨a, D, c, cv, b, rfl, ha, C, hcv, e, q⟩ := h
  cases r with
  | cons rx rr =>
    cases rr with
    | cons rt rr =>
      cases rr
      cases rx
      have ec := hcv _ rt
      subst ec
      obtain ⟨oe, vs, hget, hz, hv⟩ := (I.hok a _ ha).1
      have J : PySem.W.InstAt s.heap a oe D none := by
        obtain ⟨oc, od, oda, osl⟩ := oe
        obtain ⟨h1, h2⟩ := hz
        dsimp only at h1 h2 hv
        subst h1 h2 hv
        exact ⟨hget, rfl, rfl, trivial⟩
      exact PySem.W.kia_one (PySem.W.handS_kitx_exc C.hg C.hk C.hs C.hd C.ha C.hn C.ht C.hm) I.kIn J e (fun z => nomatch z) fun tk => ⟨.bl b, H, I.kept (t' := tk) fun _ _ z => z, rfl, q⟩
end L2
set_option Elab.async false
set_option linter.all false
set_option maxRecDepth 100000
namespace PV
open PySem PySem.Spec PyProof.Rows L2
/-- what is fixed for a whole law: fa, xa: the addresses of the defs and of the classes of errors -/
structure Cn where
  P : Program
  w : World
  K : PySem.W.Frag
  mg : Str → Option Value
  base : Heap
  fa : Nat → Option Addr
  xa : Nat → Option Addr
def keyD : Key → D
  | .inl i => .int i
  | .inr x => .str x.cps.toList
abbrev okS (s : List Nat) : Prop := ∀ c ∈ s, c < 0x110000
mutual
inductive Rep (C : Cn) (G : Hp) : V → D → Prop
  | non : Rep C G .non .non
  | bl (b : Bool) : Rep C G (.bl b) (.bl b)
  | int (i : Int) : Rep C G (.int i) (.int i)
  | str (s : List Nat) : okS s → Rep C G (.str ⟨s.toArray⟩) (.str s)
  | tup {a : Addr} {vs : List V} {ds : List D} : TAt G a vs → Reps C G vs ds → Rep C G (.ref a) (.tup ds)
  | lst {a : Addr} {vs : List V} {ds : List D} : G a = some (.lst vs) → Reps C G vs ds → Rep C G (.ref a) (.lst ds)
  | scr {a : Addr} {ns : List Int} : SqL C.K G a (ns.map V.int) → Rep C G (.ref a) (.scr ns)
  | dctO {a : Addr} {kv : List Ent3} {kvs : List (D × D)} : G a = some (dO C.P C.w a kv) → RepO C G kv kvs → Rep C G (.ref a) (.dct kvs)
  | fn {a : Addr} {k : Nat} : C.fa k = some a → Rep C G (.ref a) (.fn k)
  | obj {a x : Addr} {k : Nat} : C.xa k = some x → G a = some (ExH (.ref x) a) → Rep C G (.ref a) (.obj k)
inductive Reps (C : Cn) (G : Hp) : List V → List D → Prop
  | nil : Reps C G [] []
  | cons {v : V} {vs : List V} {d : D} {ds : List D} : Rep C G v d → Reps C G vs ds → Reps C G (v :: vs) (d :: ds)
inductive RepO (C : Cn) (G : Hp) : List Ent3 → List (D × D) → Prop
  | nil : RepO C G [] []
  | cons {k : List Key} {b : Addr} {v : V} {vs : List Ent3} {d : D} {ds : List (D × D)} : TAt G b (k.map kV) → Reps C G (k.map kV) (k.map keyD) → Rep C G v d → RepO C G vs ds → RepO C G ((k, b, v) :: vs) ((.tup (k.map keyD), d) :: ds)
end
def Sub (G H : Hp) : Prop := ∀ a o, G a = some o → H a = some o
theorem Sub.rfl {G : Hp} : Sub G G := fun _ _ h => h
theorem Sub.trans {G H I : Hp} (a : Sub G H) (b : Sub H I) : Sub G I := fun x o h => b x o (a x o h)
theorem Sub.upd {G : Hp} {p : Addr} {o : HO} (h : G p = none) : Sub G (upd G p o) := fun a x e => by rw [upd_ne (ne_of_none e h)]; exact e
theorem Sub.updB {G H : Hp} {p : Addr} {o : HO} (s : Sub G H) : Sub (L2.upd G p o) (L2.upd H p o) := fun a x e => by
  by_cases h : a = p
  · subst h; rw [upd_same] at e ⊢; exact e
  · rw [upd_ne h] at e ⊢; exact s a x e
theorem Sub.updR {G H : Hp} {p : Addr} {o : HO} (s : Sub G H) (h : G p = none) : Sub G (L2.upd H p o) := fun a x e => by
  rw [upd_ne (ne_of_none e h)]; exact s a x e
theorem Sub.none {G H : Hp} (s : Sub G H) {p : Addr} (h : H p = none) : G p = none := by
  cases e : G p with
  | none => rfl
  | some o => rw [s p o e] at h; cases h
theorem Rd.sub {G H : Hp} {a : Addr} {u : HO} (s : Sub G H) (r : Rd G a u) : Rd H a u := by
  rcases r with r | ⟨o, r⟩
  · exact .inl (s _ _ r)
  · exact .inr ⟨o, s _ _ r⟩
theorem SqL.sub {K : PySem.W.Frag} {G H : Hp} {a : Addr} {xs : List V} (s : Sub G H) (r : SqL K G a xs) : SqL K H a xs := by
  rcases r with r | r
  · exact .inl (Rd.sub s r)
  · exact .inr r
theorem TAt.sub {G H : Hp} {a : Addr} {xs : List V} (s : Sub G H) (r : TAt G a xs) : TAt H a xs := by
  obtain ⟨o, h1, h2⟩ := r
  exact ⟨o, h1, s _ _ h2⟩
theorem SqT.sub {K : PySem.W.Frag} {G H : Hp} {a : Addr} {xs : List V} (s : Sub G H) (r : SqT K G a xs) : SqT K H a xs := by
  rcases r with r | r
  · exact .inl (Rd.sub s r)
  · exact .inr r
section
variable {C : Cn} {G G' : Hp}
mutual
theorem Rep.mono (s : Sub G G') : ∀ {v : V} {d : D}, Rep C G v d → Rep C G' v d
  | _, _, .non => .non
  | _, _, .bl b => .bl b
  | _, _, .int i => .int i
  | _, _, .str x h => .str x h
  | _, _, .tup q r => .tup (TAt.sub s q) (Reps.mono s r)
  | _, _, .lst q r => .lst (s _ _ q) (Reps.mono s r)
  | _, _, .scr q => .scr (SqL.sub s q)
  | _, _, .dctO q r => .dctO (s _ _ q) (RepO.mono s r)
  | _, _, .fn h => .fn h
  | _, _, .obj h q => .obj h (s _ _ q)
theorem Reps.mono (s : Sub G G') : ∀ {v : List V} {d : List D}, Reps C G v d → Reps C G' v d
  | _, _, .nil => .nil
  | _, _, .cons h r => .cons (Rep.mono s h) (Reps.mono s r)
theorem RepO.mono (s : Sub G G') : ∀ {v : List Ent3} {d : List (D × D)}, RepO C G v d → RepO C G' v d
  | _, _, .nil => .nil
  | _, _, .cons t u h r => .cons (TAt.sub s t) (Reps.mono s u) (Rep.mono s h) (RepO.mono s r)
end
theorem Reps.length : ∀ {vs : List V} {ds : List D}, Reps C G vs ds → vs.length = ds.length
  | _, _, .nil => rfl
  | _, _, .cons _ r => by rw [List.length_cons, List.length_cons, Reps.length r]
theorem Reps.append : ∀ {vs ws : List V} {ds es : List D}, Reps C G vs ds → Reps C G ws es → Reps C G (vs ++ ws) (ds ++ es)
  | _, _, _, _, .nil, s => s
  | _, _, _, _, .cons h r, s => .cons h (Reps.append r s)
theorem Reps.get : ∀ {vs : List V} {ds : List D} {i : Nat} {d : D}, Reps C G vs ds → ds[i]? = some d → ∃ v, vs[i]? = some v ∧ Rep C G v d
  | _, _, _, _, .nil, e => by simp at e
  | _, _, 0, _, .cons h _, e => by simp at e; subst e; exact ⟨_, rfl, h⟩
  | _, _, i + 1, d, .cons _ r, e => by
    obtain ⟨v, h1, h2⟩ := Reps.get (i := i) (d := d) r (by simpa using e)
    exact ⟨v, by simpa using h1, h2⟩
theorem Reps.getV : ∀ {vs : List V} {ds : List D} {i : Nat} {v : V}, Reps C G vs ds → vs[i]? = some v → ∃ d, ds[i]? = some d ∧ Rep C G v d
  | _, _, _, _, .nil, e => by simp at e
  | _, _, 0, _, .cons h _, e => by simp at e; subst e; exact ⟨_, rfl, h⟩
  | _, _, i + 1, d, .cons _ r, e => by
    obtain ⟨v, h1, h2⟩ := Reps.getV (i := i) (v := d) r (by simpa using e)
    exact ⟨v, by simpa using h1, h2⟩
theorem Reps.take : ∀ {vs : List V} {ds : List D} (n : Nat), Reps C G vs ds → Reps C G (vs.take n) (ds.take n)
  | _, _, 0, _ => .nil
  | _, _, _ + 1, .nil => .nil
  | _, _, n + 1, .cons h r => .cons h (Reps.take n r)
theorem Reps.drop : ∀ {vs : List V} {ds : List D} (n : Nat), Reps C G vs ds → Reps C G (vs.drop n) (ds.drop n)
  | _, _, 0, r => r
  | _, _, _ + 1, .nil => .nil
  | _, _, n + 1, .cons _ r => Reps.drop n r
theorem Reps.set {v : V} {d : D} (h : Rep C G v d) : ∀ {vs : List V} {ds : List D} (n : Nat), Reps C G vs ds → Reps C G (vs.set n v) (ds.set n d)
  | _, _, _, .nil => .nil
  | _, _, 0, .cons _ r => .cons h r
  | _, _, n + 1, .cons q r => .cons q (Reps.set h n r)
theorem Reps.dropLast : ∀ {vs : List V} {ds : List D}, Reps C G vs ds → Reps C G vs.dropLast ds.dropLast := fun {vs ds} r => by
  rw [List.dropLast_eq_take, List.dropLast_eq_take, r.length]; exact r.take _
theorem Reps.eraseIdx : ∀ {vs : List V} {ds : List D} (n : Nat), Reps C G vs ds → Reps C G (vs.eraseIdx n) (ds.eraseIdx n)
  | _, _, _, .nil => .nil
  | _, _, 0, .cons _ r => r
  | _, _, n + 1, .cons q r => .cons q (Reps.eraseIdx n r)
theorem Reps.flat {vs : List V} {ds : List D} (r : Reps C G vs ds) : ∀ n : Nat, Reps C G (List.replicate n vs).flatten (List.replicate n ds).flatten
  | 0 => .nil
  | n + 1 => by
    rw [List.replicate_succ, List.replicate_succ, List.flatten_cons, List.flatten_cons]
    exact r.append (Reps.flat r n)
theorem Rep.int_inv {v : V} {i : Int} (h : Rep C G v (.int i)) : v = .int i := by cases h; rfl
theorem Rep.bl_inv {v : V} {b : Bool} (h : Rep C G v (.bl b)) : v = .bl b := by cases h; rfl
theorem Rep.str_inv {v : V} {s : List Nat} (h : Rep C G v (.str s)) : v = .str ⟨s.toArray⟩ ∧ okS s := by cases h; exact ⟨rfl, by assumption⟩
end
/-- an own list or dict at p -/
def Own (C : Cn) (G H : Hp) (p : Addr) : D → Prop
  | .lst ds => ∃ vs, H p = some (.lst vs) ∧ Reps C G vs ds
  | .dct kvs => ∃ kv, H p = some (dO C.P C.w p kv) ∧ RepO C G kv kvs
  | _ => False
theorem Own.mono {C : Cn} {G G' H H' : Hp} {p : Addr} {d : D} (s : Sub G G') (e : H' p = H p) (o : Own C G H p d) : Own C G' H' p d := by
  cases d with
  | lst ds => obtain ⟨vs, h, r⟩ := o; exact ⟨vs, e.trans h, r.mono s⟩
  | dct kvs =>
    obtain ⟨kv, h, r⟩ := o; exact ⟨kv, e.trans h, r.mono s⟩
  | _ => exact o.elim
theorem Own.some {C : Cn} {G H : Hp} {p : Addr} {d : D} (o : Own C G H p d) : ∃ u, H p = some u := by
  cases d with
  | lst ds => obtain ⟨vs, h, r⟩ := o; exact ⟨_, h⟩
  | dct kvs => obtain ⟨kv, h, r⟩ := o; exact ⟨_, h⟩
  | _ => exact o.elim
/-- .. never changed again: a value -/
theorem Own.rep {C : Cn} {G H : Hp} {p : Addr} {d : D} {u : HO} (o : Own C G H p d) (e : H p = Option.some u) (n : G p = none) : Rep C (L2.upd G p u) (.ref p) d := by
  have s : Sub G (L2.upd G p u) := Sub.upd n
  cases d with
  | lst ds =>
    obtain ⟨vs, h, r⟩ := o
    rw [e] at h; cases h
    exact .lst upd_same (r.mono s)
  | dct kvs =>
    obtain ⟨kv, h, r⟩ := o
    rw [e] at h; cases h
    exact .dctO upd_same (r.mono s)
  | _ => exact o.elim
structure Rel (C : Cn) (A : List Addr) (R G : Hp) (st : St) (σ : L2.St) (H : Hp) : Prop where
  len : st.length = σ.length
  subR : Sub R H
  subG : Sub G H
  dis : ∀ a o, G a = some o → R a = none
  val : ∀ i d, slot st i = .val d → ∃ v, σ[i]? = some (some v) ∧ Rep C G v d
  own : ∀ i t d, slot st i = .own t d → ∃ p, σ[i]? = some (some (.ref p)) ∧ R p = none ∧ G p = none ∧ Own C G H p d ∧ ∀ k, t = some k → A[k]? = some p
  inj : ∀ i j t u d e p, slot st i = .own t d → slot st j = .own u e → σ[i]? = some (some (.ref p)) → σ[j]? = some (some (.ref p)) → i = j
def NotOwn (st : St) (σ : L2.St) (p : Addr) : Prop := ∀ i t d, slot st i = .own t d → σ[i]? ≠ some (some (.ref p))
theorem slot_set_same {st : St} {i : Nat} {s : Sl} (h : i < st.length) : slot (st.set i s) i = s := by
  unfold slot; rw [List.getD_eq_getElem?_getD, List.getElem?_set_self h]; rfl
theorem slot_set_ne {st : St} {i j : Nat} {s : Sl} (h : i ≠ j) : slot (st.set i s) j = slot st j := by
  unfold slot; rw [List.getD_eq_getElem?_getD, List.getD_eq_getElem?_getD, List.getElem?_set_ne h]
theorem slot_lt {st : St} {i : Nat} (h : slot st i ≠ .none) : i < st.length := by
  unfold slot at h
  rw [List.getD_eq_getElem?_getD] at h
  by_cases e : i < st.length
  · exact e
  · rw [List.getElem?_eq_none (by omega)] at h; exact absurd rfl h
theorem slot_set {st : St} {i j : Nat} {s : Sl} : slot (st.set i s) j = if i = j ∧ i < st.length then s else slot st j := by
  by_cases h : i = j
  · subst h
    by_cases l : i < st.length
    · rw [slot_set_same l, if_pos ⟨rfl, l⟩]
    · rw [List.set_eq_of_length_le (by omega), if_neg (fun q => l q.2)]
  · rw [slot_set_ne h, if_neg (fun q => h q.1)]
section
variable {C : Cn} {A : List Addr} {R G : Hp} {st : St} {σ : L2.St} {H : Hp}
theorem Rel.gnone (r : Rel C A R G st σ H) {p : Addr} (h : H p = none) : G p = none := r.subG.none h
theorem Rel.rnone (r : Rel C A R G st σ H) {p : Addr} (h : H p = none) : R p = none := r.subR.none h
theorem Rel.notOwn (r : Rel C A R G st σ H) {p : Addr} (h : H p = none) : NotOwn st σ p := fun i t d e z => by
  obtain ⟨q, h1, _, _, o, _⟩ := r.own i t d e
  rw [h1] at z; cases z
  obtain ⟨u, hu⟩ := o.some
  rw [hu] at h; cases h
/-- a new thing, kept -/
theorem Rel.alloc (r : Rel C A R G st σ H) {p : Addr} {o : HO} (h : H p = none) : Rel C A R (upd G p o) st σ (upd H p o) := by
  have g := r.gnone h
  have rn := r.rnone h
  have sg : Sub G (upd G p o) := Sub.upd g
  refine ⟨r.len, r.subR.updR rn, r.subG.updB, fun a x e => ?_, fun i d e => ?_, fun i t d e => ?_, r.inj⟩
  · by_cases hp : a = p
    · subst hp; exact rn
    · rw [upd_ne hp] at e; exact r.dis a x e
  · obtain ⟨v, h1, h2⟩ := r.val i d e
    exact ⟨v, h1, h2.mono sg⟩
  · obtain ⟨q, h1, h2, h3, h4, h5⟩ := r.own i t d e
    have ne : q ≠ p := by
      obtain ⟨u, hu⟩ := h4.some
      exact ne_of_none hu h
    exact ⟨q, h1, h2, by rw [upd_ne ne]; exact h3, h4.mono sg (upd_ne ne), h5⟩
/-- a new thing -/
theorem Rel.allocF (r : Rel C A R G st σ H) {p : Addr} {o : HO} (h : H p = none) : Rel C A R G st σ (upd H p o) := by
  refine ⟨r.len, r.subR.updR (r.rnone h), r.subG.updR (r.gnone h), r.dis, r.val, fun i t d e => ?_, r.inj⟩
  obtain ⟨q, h1, h2, h3, h4, h5⟩ := r.own i t d e
  have ne : q ≠ p := by
    obtain ⟨u, hu⟩ := h4.some
    exact ne_of_none hu h
  exact ⟨q, h1, h2, h3, h4.mono Sub.rfl (upd_ne ne), h5⟩
/-- a new thing is kept -/
theorem Rel.freeze (r : Rel C A R G st σ H) {p : Addr} {o : HO} (h : H p = some o) (g : G p = none) (rn : R p = none) (no : NotOwn st σ p) : Rel C A R (upd G p o) st σ H := by
  have sg : Sub G (upd G p o) := Sub.upd g
  refine ⟨r.len, r.subR, fun a x e => ?_, fun a x e => ?_, fun i d e => ?_, fun i t d e => ?_, r.inj⟩
  · by_cases hp : a = p
    · subst hp; rw [upd_same] at e; rw [h]; exact e
    · rw [upd_ne hp] at e; exact r.subG a x e
  · by_cases hp : a = p
    · subst hp; exact rn
    · rw [upd_ne hp] at e; exact r.dis a x e
  · obtain ⟨v, h1, h2⟩ := r.val i d e
    exact ⟨v, h1, h2.mono sg⟩
  · obtain ⟨q, h1, h2, h3, h4, h5⟩ := r.own i t d e
    have ne : q ≠ p := fun z => no i t d e (z ▸ h1)
    exact ⟨q, h1, h2, by rw [upd_ne ne]; exact h3, h4.mono sg _root_.rfl, h5⟩
/-- a slot's own thing is kept -/
theorem Rel.keep (r : Rel C A R G st σ H) {i : Nat} {t : Option Nat} {d : D} (e : slot st i = .own t d) :
    ∃ p u, σ[i]? = some (some (.ref p)) ∧ H p = some u ∧ G p = none ∧ Rel C A R (upd G p u) (st.set i (.val d)) σ H ∧ Rep C (upd G p u) (.ref p) d := by
  obtain ⟨p, h1, h2, h3, h4, h5⟩ := r.own i t d e
  obtain ⟨u, hu⟩ := h4.some
  have hl : i < st.length := slot_lt (by rw [e]; intro z; cases z)
  have sg : Sub G (upd G p u) := Sub.upd h3
  have rp := h4.rep hu h3
  refine ⟨p, u, h1, hu, h3, ⟨by simpa using r.len, r.subR, fun a x q => ?_, fun a x q => ?_, fun j d' q => ?_, fun j t' d' q => ?_, fun j k t1 t2 d1 d2 p' q1 q2 q3 q4 => ?_⟩, rp⟩
  · by_cases hp : a = p
    · subst hp; rw [upd_same] at q; rw [hu]; exact q
    · rw [upd_ne hp] at q; exact r.subG a x q
  · by_cases hp : a = p
    · subst hp; exact h2
    · rw [upd_ne hp] at q; exact r.dis a x q
  · by_cases hj : i = j
    · subst hj
      rw [slot_set_same hl] at q
      cases q
      exact ⟨_, h1, rp⟩
    · rw [slot_set_ne hj] at q
      obtain ⟨v, g1, g2⟩ := r.val j d' q
      exact ⟨v, g1, g2.mono sg⟩
  · by_cases hj : i = j
    · subst hj; rw [slot_set_same hl] at q; cases q
    · rw [slot_set_ne hj] at q
      obtain ⟨p', g1, g2, g3, g4, g5⟩ := r.own j t' d' q
      have ne : p' ≠ p := fun z => hj (r.inj i j t t' d d' p e q h1 (z ▸ g1))
      exact ⟨p', g1, g2, by rw [upd_ne ne]; exact g3, g4.mono sg _root_.rfl, g5⟩
  · have n1 : i ≠ j := fun z => by subst z; rw [slot_set_same hl] at q1; cases q1
    have n2 : i ≠ k := fun z => by subst z; rw [slot_set_same hl] at q2; cases q2
    rw [slot_set_ne n1] at q1
    rw [slot_set_ne n2] at q2
    exact r.inj j k t1 t2 d1 d2 p' q1 q2 q3 q4
/-- a slot's own thing is changed -/
theorem Rel.write (r : Rel C A R G st σ H) {i : Nat} {t : Option Nat} {d d' : D} {p : Addr} {u : HO} (e : slot st i = .own t d) (hp : σ[i]? = some (some (.ref p))) (no : Own C G (upd H p u) p d') :
    Rel C A R G (st.set i (.own t d')) σ (upd H p u) := by
  obtain ⟨p0, h1, h2, h3, h4, h5⟩ := r.own i t d e
  have e0 : p0 = p := by rw [h1] at hp; cases hp; rfl
  subst e0
  have hl : i < st.length := slot_lt (by rw [e]; intro z; cases z)
  refine ⟨by simpa using r.len, r.subR.updR h2, r.subG.updR h3, r.dis, fun j d1 q => ?_, fun j t1 d1 q => ?_, fun j k t1 t2 d1 d2 p' q1 q2 q3 q4 => ?_⟩
  · by_cases hj : i = j
    · subst hj; rw [slot_set_same hl] at q; cases q
    · rw [slot_set_ne hj] at q; exact r.val j d1 q
  · by_cases hj : i = j
    · subst hj
      rw [slot_set_same hl] at q
      cases q
      exact ⟨p0, h1, h2, h3, no, h5⟩
    · rw [slot_set_ne hj] at q
      obtain ⟨p', g1, g2, g3, g4, g5⟩ := r.own j t1 d1 q
      have ne : p' ≠ p0 := fun z => hj (r.inj i j t t1 d d1 p0 e q h1 (z ▸ g1))
      exact ⟨p', g1, g2, g3, g4.mono Sub.rfl (upd_ne ne), g5⟩
  · have f : ∀ {m tm dm}, slot (st.set i (.own t d')) m = .own tm dm → ∃ tm dm, slot st m = .own tm dm := fun {m tm dm} q => by
      by_cases hm : i = m
      · subst hm; exact ⟨_, _, e⟩
      · rw [slot_set_ne hm] at q; exact ⟨_, _, q⟩
    obtain ⟨_, _, f1⟩ := f q1
    obtain ⟨_, _, f2⟩ := f q2
    exact r.inj j k _ _ _ _ p' f1 f2 q3 q4
/-- a name takes a value -/
theorem Rel.setVal (r : Rel C A R G st σ H) {i : Nat} {v : V} {d : D} (h : Rep C G v d) (hl : i < st.length) : Rel C A R G (st.set i (.val d)) (σ.set i (some v)) H := by
  have hs : i < σ.length := by rw [← r.len]; exact hl
  refine ⟨by simpa using r.len, r.subR, r.subG, r.dis, fun j d1 q => ?_, fun j t1 d1 q => ?_, fun j k t1 t2 d1 d2 p' q1 q2 q3 q4 => ?_⟩
  · by_cases hj : i = j
    · subst hj
      rw [slot_set_same hl] at q; cases q
      exact ⟨v, by rw [List.getElem?_set_self hs], h⟩
    · rw [slot_set_ne hj] at q
      rw [List.getElem?_set_ne hj]
      exact r.val j d1 q
  · by_cases hj : i = j
    · subst hj; rw [slot_set_same hl] at q; cases q
    · rw [slot_set_ne hj] at q
      rw [List.getElem?_set_ne hj]
      exact r.own j t1 d1 q
  · have n1 : i ≠ j := fun z => by subst z; rw [slot_set_same hl] at q1; cases q1
    have n2 : i ≠ k := fun z => by subst z; rw [slot_set_same hl] at q2; cases q2
    rw [slot_set_ne n1] at q1
    rw [slot_set_ne n2] at q2
    rw [List.getElem?_set_ne n1] at q3
    rw [List.getElem?_set_ne n2] at q4
    exact r.inj j k t1 t2 d1 d2 p' q1 q2 q3 q4
/-- a name takes a new thing -/
theorem Rel.setOwn (r : Rel C A R G st σ H) {i : Nat} {p : Addr} {d : D} (o : Own C G H p d) (g : G p = none) (rn : R p = none) (no : NotOwn st σ p) (hl : i < st.length) :
    Rel C A R G (st.set i (.own none d)) (σ.set i (some (.ref p))) H := by
  have hs : i < σ.length := by rw [← r.len]; exact hl
  refine ⟨by simpa using r.len, r.subR, r.subG, r.dis, fun j d1 q => ?_, fun j t1 d1 q => ?_, fun j k t1 t2 d1 d2 p' q1 q2 q3 q4 => ?_⟩
  · by_cases hj : i = j
    · subst hj; rw [slot_set_same hl] at q; cases q
    · rw [slot_set_ne hj] at q
      rw [List.getElem?_set_ne hj]
      exact r.val j d1 q
  · by_cases hj : i = j
    · subst hj
      rw [slot_set_same hl] at q
      cases q
      exact ⟨p, by rw [List.getElem?_set_self hs], rn, g, o, fun k z => nomatch z⟩
    · rw [slot_set_ne hj] at q
      rw [List.getElem?_set_ne hj]
      exact r.own j t1 d1 q
  · by_cases n1 : i = j
    · by_cases n2 : i = k
      · exact n1.symm.trans n2
      · subst n1
        rw [slot_set_ne n2] at q2
        rw [List.getElem?_set_ne n2] at q4
        rw [List.getElem?_set_self hs] at q3
        cases q3
        exact absurd q4 (no k t2 d2 q2)
    · rw [slot_set_ne n1] at q1
      rw [List.getElem?_set_ne n1] at q3
      by_cases n2 : i = k
      · subst n2
        rw [List.getElem?_set_self hs] at q4
        cases q4
        exact absurd q3 (no j t1 d1 q1)
      · rw [slot_set_ne n2] at q2
        rw [List.getElem?_set_ne n2] at q4
        exact r.inj j k t1 t2 d1 d2 p' q1 q2 q3 q4
/-- a slot is forgotten -/
theorem Rel.drop (r : Rel C A R G st σ H) (i : Nat) : Rel C A R G (st.set i .none) σ H := by
  have f : ∀ {j s}, slot (st.set i .none) j = s → s ≠ .none → slot st j = s := fun {j s} q n => by
    rw [slot_set] at q
    split at q
    · exact absurd q.symm n
    · exact q
  exact ⟨by simpa using r.len, r.subR, r.subG, r.dis, fun j d q => r.val j d (f q (by intro z; cases z)), fun j t d q => r.own j t d (f q (by intro z; cases z)),
    fun j k t1 t2 d1 d2 p' q1 q2 q3 q4 => r.inj j k t1 t2 d1 d2 p' (f q1 (by intro z; cases z)) (f q2 (by intro z; cases z)) q3 q4⟩
/-- a thing in hand is put aside while others are reckoned .. -/
theorem Rel.aside (r : Rel C A R G st σ H) {p : Addr} {o : HO} (h : H p = some o) (g : G p = none) (no : NotOwn st σ p) : Rel C A (upd R p o) G st σ H := by
  refine ⟨r.len, fun a x e => ?_, r.subG, fun a x e => ?_, r.val, fun i t d e => ?_, r.inj⟩
  · by_cases hp : a = p
    · subst hp; rw [upd_same] at e; rw [h]; exact e
    · rw [upd_ne hp] at e; exact r.subR a x e
  · rw [upd_ne (ne_of_none e g)]; exact r.dis a x e
  · obtain ⟨q, h1, h2, h3, h4, h5⟩ := r.own i t d e
    have ne : q ≠ p := fun z => no i t d e (z ▸ h1)
    exact ⟨q, h1, by rw [upd_ne ne]; exact h2, h3, h4, h5⟩
/-- .. and taken up again -/
theorem Rel.again {p : Addr} {o : HO} (rn : R p = none) (r : Rel C A (upd R p o) G st σ H) : Rel C A R G st σ H ∧ H p = some o ∧ G p = none ∧ NotOwn st σ p := by
  refine ⟨⟨r.len, fun a x e => r.subR a x (by rw [upd_ne (ne_of_none e rn)]; exact e), r.subG, fun a x e => ?_, r.val, fun i t d e => ?_, r.inj⟩, r.subR p o upd_same, ?_, fun i t d e z => ?_⟩
  · have q := r.dis a x e
    by_cases hp : a = p
    · subst hp; exact rn
    · rw [upd_ne hp] at q; exact q
  · obtain ⟨q, h1, h2, h3, h4, h5⟩ := r.own i t d e
    have ne : q ≠ p := fun z => by subst z; rw [upd_same] at h2; cases h2
    rw [upd_ne ne] at h2
    exact ⟨q, h1, h2, h3, h4, h5⟩
  · cases e : G p with
    | none => rfl
    | some x => have := r.dis p x e; rw [upd_same] at this; cases this
  · obtain ⟨q, h1, h2, _⟩ := r.own i t d e
    rw [h1] at z; cases z
    rw [upd_same] at h2; cases h2
end
end PV
set_option Elab.async false
set_option linter.all false
set_option maxRecDepth 100000
set_option maxHeartbeats 1000000
namespace PV
open PySem PySem.Spec PyProof.Rows L2
structure Tab where
  fa : Nat → Option Addr
  xa : Nat → Option Addr
abbrev cn (X : Cx) (T : Tab) : Cn := ⟨X.prog, X.w, X.K, X.mg, X.base, T.fa, T.xa⟩
/-- how a result stands -/
def RR (C : Cn) (F G : Hp) (st : St) (σ : L2.St) (H : Hp) : R → V → Prop
  | .val d, v => Rep C G v d
  | .var i, v => σ[i]? = some (some v)
  | .fresh d, v => ∃ p, v = .ref p ∧ F p = none ∧ G p = none ∧ NotOwn st σ p ∧ Own C G H p d
/-- an error leaves -/
def XP (C : Cn) (F G : Hp) (W : WX) (c : Nat) : Prop := ∃ x, C.xa c = some x ∧ ∀ σ' G' H', Sub G G' → Sub F H' → Sub G' H' → (∀ a o, G' a = some o → F a = none) → W (.ref x) none σ' H'
theorem XP.mono {C : Cn} {F G G1 : Hp} {W : WX} {c : Nat} (s : Sub G G1) (h : XP C F G W c) : XP C F G1 W c := by
  obtain ⟨x, e, h⟩ := h
  exact ⟨x, e, fun σ' G' H' s1 => h σ' G' H' (s.trans s1)⟩
/-- what is wanted behind an evaluation -/
def endG {α β : Type} (C : Cn) (A : List Addr) (F G : Hp) (σ : L2.St) (W : WX) (P : Hp → Hp → St → α → β → Prop) (Q : β → Hp → Prop) : Res (α × St) → Prop
  | .ok (a, st) => ∀ b G' H', Sub G G' → Rel C A F G' st σ H' → P G' H' st a b → Q b H'
  | .exc c => XP C F G W c
  | .no => False
section
variable {α β α' β' : Type} {C : Cn} {A : List Addr} {F G G1 : Hp} {σ : L2.St} {W : WX} {P : Hp → Hp → St → α → β → Prop} {P' : Hp → Hp → St → α' → β' → Prop} {Q Q1 : β → Hp → Prop} {Q' : β' → Hp → Prop} {x : Res (α × St)}
theorem endG.mono (s : Sub G G1) (h : endG C A F G σ W P Q x) : endG C A F G1 σ W P Q x := by
  cases x with
  | ok a => exact fun b G' H' s1 r p => h b G' H' (s.trans s1) r p
  | exc c => exact XP.mono s h
  | no => exact h
theorem endG.imp (hq : ∀ b H, Q b H → Q1 b H) (h : endG C A F G σ W P Q x) : endG C A F G σ W P Q1 x := by
  cases x with
  | ok a => exact fun b G' H' s1 r p => hq b H' (h b G' H' s1 r p)
  | exc c => exact h
  | no => exact h
theorem endG.bind {f : α × St → Res (α' × St)} (h : endG C A F G σ W P' Q' (x.bind f))
    (k : ∀ a st1 b G1 H1, x = .ok (a, st1) → Sub G G1 → Rel C A F G1 st1 σ H1 → P G1 H1 st1 a b → endG C A F G1 σ W P' Q' (f (a, st1)) → Q b H1) : endG C A F G σ W P Q x := by
  cases x with
  | ok a => exact fun b G' H' s1 r p => k a.1 a.2 b G' H' _root_.rfl s1 r p (endG.mono s1 h)
  | exc c => exact h
  | no => exact h
end
abbrev PE1 (C : Cn) (F : Hp) (σ : L2.St) : Hp → Hp → St → R → V → Prop := fun G H st r v => RR C F G st σ H r v
def RRs (C : Cn) (F G : Hp) (st : St) (σ : L2.St) (H : Hp) : List R → List V → Prop
  | [], [] => True
  | r :: rs, v :: vs => RR C F G st σ H r v ∧ RRs C F G st σ H rs vs
  | _, _ => False
abbrev PEs (C : Cn) (F : Hp) (σ : L2.St) : Hp → Hp → St → List R → List V → Prop := fun G H st r v => RRs C F G st σ H r v
abbrev PVs (C : Cn) : Hp → Hp → St → List D → List V → Prop := fun G H st r v => Reps C G v r
section
variable (C : Cn) (Φ : Fns) (fl : Nat → List Bool) (W : WX)
def rdE (e : E) : TE := fun σ H Q => ∃ A F G st, Rel C A F G st σ H ∧ endG C A F G σ W (PE1 C F σ) Q (ev Φ fl e st)
def rdOs (es : Es) : TA := fun σ H Q => ∃ A F G st, Rel C A F G st σ H ∧ endG C A F G σ W (PEs C F σ) Q (evOs Φ fl es st)
def rdVs (es : Es) : TA := fun σ H Q => ∃ A F G st, Rel C A F G st σ H ∧ endG C A F G σ W (PVs C) Q (evVs Φ fl es st)
def endB (A : List Addr) (F G : Hp) (σ : L2.St) (Q : Bool → Hp → Prop) : Res (R × St) → Prop
  | .ok (.val (.bl b), st) => ∀ G' H', Sub G G' → Rel C A F G' st σ H' → Q b H'
  | .ok _ => False
  | .exc c => XP C F G W c
  | .no => False
/-- a test -/
def rdT (e : E) : TT := fun σ H Q => ∃ A F G st, Rel C A F G st σ H ∧ endB C W A F G σ Q (ev Φ fl e st)
end
theorem PE.imp {X : Cx} {e : Expr} {t t' : TE} (h : PE X e t) (k : ∀ σ H Q, t' σ H Q → t σ H Q) : PE X e t' := ⟨fun pins s σ H Q I q => h.run pins s σ H Q I (k σ H Q q)⟩
theorem PT.imp {X : Cx} {e : Expr} {t t' : TT} (h : PT X e t) (k : ∀ σ H Q, t' σ H Q → t σ H Q) : PT X e t' := ⟨fun pins s σ H Q I q => h.run pins s σ H Q I (k σ H Q q)⟩
theorem PW.imp {X : Cx} {e : Expr} {t t' : TT} (h : PW X e t) (k : ∀ σ H Q, t' σ H Q → t σ H Q) : PW X e t' := ⟨fun w pins s σ H Q I q => h.run w pins s σ H Q I (k σ H Q q)⟩
theorem PA.imp {X : Cx} {e : List Expr} {t t' : TA} (h : PA X e t) (k : ∀ σ H Q, t' σ H Q → t σ H Q) : PA X e t' := ⟨fun p pins s σ H Q I q => h.run p pins s σ H Q I (k σ H Q q)⟩
theorem PS.imp {X : Cx} {e : Stmt} {t t' : TS} (h : PS X e t) (k : ∀ D σ H, t' D σ H → t D σ H) : PS X e t' := ⟨fun pins s σ H D I q => h.run pins s σ H D I (k D σ H q)⟩
theorem PSs.imp {X : Cx} {e : List Stmt} {t t' : TS} (h : PSs X e t) (k : ∀ D σ H, t' D σ H → t D σ H) : PSs X e t' := ⟨fun pins s σ H D I q => h.run pins s σ H D I (k D σ H q)⟩
theorem PE.or {X : Cx} {e : Expr} {t t' : TE} (h : PE X e t) (h' : PE X e t') : PE X e (fun σ H Q => t σ H Q ∨ t' σ H Q) := ⟨fun pins s σ H Q I q => by
  rcases q with q | q
  · exact h.run pins s σ H Q I q
  · exact h'.run pins s σ H Q I q⟩
section
variable {C : Cn} {A : List Addr} {F G : Hp} {st st' : St} {σ : L2.St} {H : Hp} {r : R} {v : V} {d : D}
/-- a result read now -/
def ORep (C : Cn) (G H : Hp) (v : V) (d : D) : Prop := Rep C G v d ∨ ∃ p, v = .ref p ∧ Own C G H p d
theorem RR.look (rel : Rel C A F G st σ H) (h : RR C F G st σ H r v) (e : r.look st = some d) : ORep C G H v d := by
  cases r with
  | val d' => cases e; exact .inl h
  | fresh d' => cases e; obtain ⟨p, h1, _, _, _, h2⟩ := h; exact .inr ⟨p, h1, h2⟩
  | var i =>
    have h : σ[i]? = some (some v) := h
    cases q : slot st i with
    | none => simp only [R.look, q] at e; cases e
    | val d' =>
      simp only [R.look, q] at e; cases e
      obtain ⟨v', h1, h2⟩ := rel.val i _ q
      rw [h] at h1; cases h1
      exact .inl h2
    | own t d' =>
      simp only [R.look, q] at e; cases e
      obtain ⟨p, h1, _, _, h2, _⟩ := rel.own i t _ q
      rw [h] at h1; cases h1
      exact .inr ⟨p, rfl, h2⟩
theorem RR.still (rel : Rel C A F G st σ H) (h : RR C F G st σ H r v) : ∃ G', Sub G G' ∧ Rel C A F G' st σ H ∧ RR C F G' st σ H r.still v := by
  cases r with
  | val d' => exact ⟨G, Sub.rfl, rel, h⟩
  | var i => exact ⟨G, Sub.rfl, rel, h⟩
  | fresh d' =>
    obtain ⟨p, rfl, h1, h2, h3, h4⟩ := h
    obtain ⟨u, hu⟩ := h4.some
    exact ⟨_, Sub.upd h2, rel.freeze hu h2 h1 h3, h4.rep hu h2⟩
theorem RR.keep (rel : Rel C A F G st σ H) (h : RR C F G st σ H r v) (e : r.keep st = some (d, st')) : ∃ G', Sub G G' ∧ Rel C A F G' st' σ H ∧ Rep C G' v d := by
  cases r with
  | val d' => cases e; exact ⟨G, Sub.rfl, rel, h⟩
  | fresh d' =>
    cases e
    obtain ⟨p, rfl, h1, h2, h3, h4⟩ := h
    obtain ⟨u, hu⟩ := h4.some
    exact ⟨_, Sub.upd h2, rel.freeze hu h2 h1 h3, h4.rep hu h2⟩
  | var i =>
    have h : σ[i]? = some (some v) := h
    cases q : slot st i with
    | none => simp only [R.keep, q] at e; cases e
    | val d' =>
      simp only [R.keep, q] at e; cases e
      obtain ⟨v', h1, h2⟩ := rel.val i _ q
      rw [h] at h1; cases h1
      exact ⟨G, Sub.rfl, rel, h2⟩
    | own t d' =>
      simp only [R.keep, q] at e; cases e
      obtain ⟨p, u, h1, h2, h3, h4, h5⟩ := rel.keep q
      rw [h] at h1; cases h1
      exact ⟨_, Sub.upd h3, h4, h5⟩
/-- a result that is no new thing stays -/
theorem RR.stay {G' H' : Hp} {st' : St} (s : Sub G G') (h : RR C F G st σ H r.still v) : RR C F G' st' σ H' r.still v := by
  cases r with
  | val d => exact Rep.mono s h
  | var i => exact h
  | fresh d => exact Rep.mono s h
def OReps (C : Cn) (G H : Hp) : List V → List D → Prop
  | [], [] => True
  | v :: vs, d :: ds => ORep C G H v d ∧ OReps C G H vs ds
  | _, _ => False
theorem RRs.looks (rel : Rel C A F G st σ H) : ∀ {rs : List R} {vs : List V} {ds : List D}, RRs C F G st σ H rs vs → looks st rs = some ds → OReps C G H vs ds
  | [], [], ds, _, e => by cases e; trivial
  | r :: rs, v :: vs, ds, h, e => by
    cases q : r.look st with
    | none => simp only [PV.looks, q] at e; cases e
    | some d =>
      cases q2 : PV.looks st rs with
      | none => simp only [PV.looks, q, q2] at e; cases e
      | some ds' =>
        simp only [PV.looks, q, q2] at e; cases e
        exact ⟨h.1.look rel q, RRs.looks rel h.2 q2⟩
  | [], _ :: _, _, h, _ => h.elim
  | _ :: _, [], _, h, _ => h.elim
theorem ORep.int_inv {i : Int} (h : ORep C G H v (.int i)) : v = .int i := by
  rcases h with h | ⟨p, _, h⟩
  · exact h.int_inv
  · exact h.elim
theorem ORep.bl_inv {i : Bool} (h : ORep C G H v (.bl i)) : v = .bl i := by
  rcases h with h | ⟨p, _, h⟩
  · exact h.bl_inv
  · exact h.elim
theorem ORep.str_inv {s : List Nat} (h : ORep C G H v (.str s)) : v = .str ⟨s.toArray⟩ ∧ okS s := by
  rcases h with h | ⟨p, _, h⟩
  · exact h.str_inv
  · exact h.elim
theorem ORep.tup_inv {ds : List D} (s : Sub G H) (h : ORep C G H v (.tup ds)) : ∃ a vs, v = .ref a ∧ TAt H a vs ∧ TAt G a vs ∧ Reps C G vs ds := by
  rcases h with h | ⟨p, _, h⟩
  · cases h with
    | tup q r => exact ⟨_, _, rfl, TAt.sub s q, q, r⟩
  · exact h.elim
theorem ORep.lst_inv {ds : List D} (s : Sub G H) (h : ORep C G H v (.lst ds)) : ∃ a vs, v = .ref a ∧ H a = some (.lst vs) ∧ Reps C G vs ds := by
  rcases h with h | ⟨p, e, vs, h, r⟩
  · cases h with
    | lst q r => exact ⟨_, _, rfl, s _ _ q, r⟩
  · exact ⟨p, vs, e, h, r⟩
theorem ORep.scr_inv {ns : List Int} (s : Sub G H) (h : ORep C G H v (.scr ns)) : ∃ a, v = .ref a ∧ SqL C.K H a (ns.map V.int) := by
  rcases h with h | ⟨p, _, h⟩
  · cases h with
    | scr q => exact ⟨_, rfl, SqL.sub s q⟩
  · exact h.elim
theorem ORep.tup_rep {ds : List D} (h : ORep C G H v (.tup ds)) : Rep C G v (.tup ds) := by
  rcases h with h | ⟨p, _, h⟩
  · exact h
  · exact h.elim
abbrev OkE (C : Cn) (A : List Addr) (F G : Hp) (σ : L2.St) (Q : VK) (r : R) (st : St) : Prop := ∀ v G' H', Sub G G' → Rel C A F G' st σ H' → RR C F G' st σ H' r v → Q v H'
variable {Q : VK}
theorem OkE.pure (h : OkE C A F G σ Q (.val d) st) (rel : Rel C A F G st σ H) (p : Rep C G v d) : Q v H := h v G H Sub.rfl rel p
theorem OkE.newT {vs : List V} {ds : List D} (h : OkE C A F G σ Q (.val (.tup ds)) st) (rel : Rel C A F G st σ H) (r : Reps C G vs ds) : NewT H vs Q := fun p o ho hp =>
  h _ (upd G p (.frz o (.tup vs))) _ (Sub.upd (rel.gnone hp)) (rel.alloc hp) (.tup ⟨o, ho, upd_same⟩ (r.mono (Sub.upd (rel.gnone hp))))
theorem OkE.newL {p : Addr} {vs : List V} {ds : List D} (h : OkE C A F G σ Q (.fresh (.lst ds)) st) (rel : Rel C A F G st σ H) (hp : H p = none) (r : Reps C G vs ds) : Q (.ref p) (upd H p (.lst vs)) :=
  h _ G _ Sub.rfl (rel.allocF hp) ⟨p, rfl, rel.rnone hp, rel.gnone hp, rel.notOwn hp, vs, upd_same, r⟩
end
/-- a strict operation at its operands -/
def OpE (C : Cn) (o : Op) (σ : L2.St) (vs : List V) (H : Hp) (Q : VK) : Prop := ∃ A F G st ds z, Rel C A F G st σ H ∧ OReps C G H vs ds ∧ o.run ds = some z ∧ OkE C A F G σ Q (outR z) st
section
variable {C : Cn} {Φ : Fns} {fl : Nat → List Bool} {W : WX} {σ : L2.St} {H : Hp}
theorem rdE.imp {e : E} {Q Q' : VK} (h : rdE C Φ fl W e σ H Q) (k : ∀ v H, Q v H → Q' v H) : rdE C Φ fl W e σ H Q' := by
  obtain ⟨A, F, G, st, rel, h⟩ := h
  exact ⟨A, F, G, st, rel, endG.imp k h⟩
theorem rdOs_nil {Q : List V → Hp → Prop} (h : rdOs C Φ fl W .nil σ H Q) : Q [] H := by
  obtain ⟨A, F, G, st, rel, h⟩ := h
  exact h [] G H Sub.rfl rel trivial
theorem rdOs_cons {e : E} {es : Es} {Q : List V → Hp → Prop} (h : rdOs C Φ fl W (.cons e es) σ H Q) : rdE C Φ fl W e σ H fun x H1 => rdOs C Φ fl W es σ H1 fun xs H2 => Q (x :: xs) H2 := by
  obtain ⟨A, F, G, st, rel, h⟩ := h
  refine ⟨A, F, G, st, rel, endG.bind h fun r st1 v G1 H1 _ s1 rel1 p1 h1 => ?_⟩
  obtain ⟨G2, s2, rel2, p2⟩ := RR.still rel1 p1
  refine ⟨A, F, G2, st1, rel2, endG.bind (endG.mono s2 h1) fun rs st3 vs G3 H3 _ s3 rel3 p3 h3 => ?_⟩
  exact h3 (v :: vs) G3 H3 Sub.rfl rel3 ⟨RR.stay s3 p2, p3⟩
theorem rdVs_nil {Q : List V → Hp → Prop} (h : rdVs C Φ fl W .nil σ H Q) : Q [] H := by
  obtain ⟨A, F, G, st, rel, h⟩ := h
  exact h [] G H Sub.rfl rel .nil
theorem rdVs_cons {e : E} {es : Es} {Q : List V → Hp → Prop} (h : rdVs C Φ fl W (.cons e es) σ H Q) : rdE C Φ fl W e σ H fun x H1 => rdVs C Φ fl W es σ H1 fun xs H2 => Q (x :: xs) H2 := by
  obtain ⟨A, F, G, st, rel, h⟩ := h
  refine ⟨A, F, G, st, rel, endG.bind h fun r st1 v G1 H1 _ s1 rel1 p1 h1 => ?_⟩
  cases q : r.keep st1 with
  | none => simp only [q] at h1; exact h1.elim
  | some y =>
    obtain ⟨d, st2⟩ := y
    simp only [q] at h1
    obtain ⟨G2, s2, rel2, p2⟩ := RR.keep rel1 p1 q
    refine ⟨A, F, G2, st2, rel2, endG.bind (endG.mono s2 h1) fun rs st3 vs G3 H3 _ s3 rel3 p3 h3 => ?_⟩
    exact h3 (v :: vs) G3 H3 Sub.rfl rel3 (.cons (p2.mono s3) p3)
theorem rd_op {o : Op} {es : Es} {Q : VK} (h : rdE C Φ fl W (.op o es) σ H Q) : rdOs C Φ fl W es σ H fun vs H1 => OpE C o σ vs H1 Q := by
  obtain ⟨A, F, G, st, rel, h⟩ := h
  refine ⟨A, F, G, st, rel, endG.bind h fun rs st1 vs G1 H1 _ s1 rel1 p1 h1 => ?_⟩
  cases q : looks st1 rs with
  | none => simp only [q] at h1; exact h1.elim
  | some ds =>
    simp only [q] at h1
    cases q2 : o.run ds with
    | none => simp only [q2] at h1; exact h1.elim
    | some z =>
      simp only [q2] at h1
      exact ⟨A, F, G1, st1, ds, z, rel1, RRs.looks rel1 p1 q, q2, h1⟩
end
def isStar : Expr → Bool
  | .Starred _ _ => true
  | _ => false
theorem star_one {e : Expr} {es : List Expr} {env : Env} (h : isStar e = false) : starEach (e :: es) env = (false, eval e env) :: starEach es env := by
  cases e <;> first | rfl | (exact nomatch h)
theorem star_any {pos : Pos} {env : Env} : ∀ {es : List Expr}, (es.all fun e => !isStar e) = true → (backTo pos (starEach es env)).any (·.1) = false
  | [], _ => rfl
  | e :: es, h => by
    rw [List.all_cons, Bool.and_eq_true] at h
    rw [star_one (by simpa using h.1)]
    show (false || (backTo pos (starEach es env)).any (·.1)) = false
    rw [star_any h.2]; rfl
section
variable {X : Cx} {T : Tab} {Φ : Fns} {fl : Nat → List Bool} {W : WX} {a b e : Expr} {es : List Expr} {ca cb c : E} {cs : Es} {pos : Pos}
theorem pa_os0 : PA X [] (rdOs (cn X T) Φ fl W .nil) := PA.imp pa_nil fun _ _ _ h => rdOs_nil h
theorem pa_os (ha : PE X e (rdE (cn X T) Φ fl W c)) (hr : PA X es (rdOs (cn X T) Φ fl W cs)) (hs : isStar e = false) : PA X (e :: es) (rdOs (cn X T) Φ fl W (.cons c cs)) :=
  PA.imp (pa_cons ha hr (star_one hs)) fun _ _ _ h => rdOs_cons h
theorem pa_vs0 : PA X [] (rdVs (cn X T) Φ fl W .nil) := PA.imp pa_nil fun _ _ _ h => rdVs_nil h
theorem pa_vs (ha : PE X e (rdE (cn X T) Φ fl W c)) (hr : PA X es (rdVs (cn X T) Φ fl W cs)) (hs : isStar e = false) : PA X (e :: es) (rdVs (cn X T) Φ fl W (.cons c cs)) :=
  PA.imp (pa_cons ha hr (star_one hs)) fun _ _ _ h => rdVs_cons h
/-- a two-place rule serves an operation -/
abbrev OpS (C : Cn) (o : Op) (r : R2) : Prop := ∀ σ x y H Q, OpE C o σ [x, y] H Q → r x y H Q
theorem snd2 {o : Op} {r : R2} (hr : OpS (cn X T) o r) : ∀ σ H Q, rdE (cn X T) Φ fl W (.op o (.cons ca (.cons cb .nil))) σ H Q → tOp r (rdE (cn X T) Φ fl W ca) (rdE (cn X T) Φ fl W cb) σ H Q := fun σ H Q h => by
  refine rdE.imp (rdOs_cons (rd_op h)) fun x H1 h1 => ?_
  refine rdE.imp (rdOs_cons h1) fun y H2 h2 => ?_
  exact hr σ x y H2 Q (rdOs_nil h2)
theorem pe_bin {o : Op} {op : Operator} {r : R2} (ho : OpR X (binaryOp op) r) (hr : OpS (cn X T) o r) (ha : PE X a (rdE (cn X T) Φ fl W ca)) (hb : PE X b (rdE (cn X T) Φ fl W cb)) :
    PE X (.BinOp a op b pos) (rdE (cn X T) Φ fl W (.op o (.cons ca (.cons cb .nil)))) := PE.imp (pe_op ho ha hb) (snd2 hr)
theorem pe_cmp1 {o : Op} {op : CmpOp} {r : R2} (ho : OpR X (compareOp op) r) (hr : OpS (cn X T) o r) (ha : PE X a (rdE (cn X T) Φ fl W ca)) (hb : PE X b (rdE (cn X T) Φ fl W cb)) (hm : behindInMarks op b = false) :
    PE X (.Compare a [op] [b] pos) (rdE (cn X T) Φ fl W (.op o (.cons ca (.cons cb .nil)))) := PE.imp (pe_cmpR ho ha hb hm) (snd2 hr)
theorem pe_sub1 {o : Op} {r : R2} (ho : IxR X r) (hr : OpS (cn X T) o r) (ha : PE X a (rdE (cn X T) Φ fl W ca)) (hb : PE X b (rdE (cn X T) Φ fl W cb)) (hs : PlainIx b) :
    PE X (.Subscript a b pos) (rdE (cn X T) Φ fl W (.op o (.cons ca (.cons cb .nil)))) := PE.imp (pe_ix ho ha hb hs) (snd2 hr)
/-- a rule for a call of values serves an operation -/
abbrev CallS (C : Cn) (o : Op) (r : List V → Hp → VK → Prop) : Prop := ∀ σ vs H Q, OpE C o σ vs H Q → r vs H Q
theorem pe_cb {o : Op} {r : List V → Hp → VK → Prop} {id : String} {x : Str} {p : Pos} (hc : CallR X (.builtin id) r) (hr : CallS (cn X T) o r) (hg : Gl X x) (hm : X.mg x = none) (hv : bootBuiltins x = some (.builtin id)) (ha : PA X (e :: es) (rdOs (cn X T) Φ fl W cs))
    (hs : isStar e = false) (hss : (es.all fun e => !isStar e) = true) (hn : x ≠ "__name__") (hdb : (x == ("__debug__" : Str)) = false) : PE X (.Call (.Name x p) (e :: es) [] pos) (rdE (cn X T) Φ fl W (.op o cs)) :=
  PE.imp (pe_callB hc hg hm hv ha hn hdb (star_one hs) (star_any hss)) fun σ H Q h => by
    obtain ⟨A, F, G, st, rel, h⟩ := rd_op h
    exact ⟨A, F, G, st, rel, endG.imp (fun vs H1 q => hr σ vs H1 Q q) h⟩
theorem pe_ct {o : Op} {r : List V → Hp → VK → Prop} {id : String} {x : Str} {p : Pos} (hc : CallR X (.type id) r) (hr : CallS (cn X T) o r) (hg : Gl X x) (hm : X.mg x = none) (hv : bootBuiltins x = some (.type id)) (ha : PA X (e :: es) (rdOs (cn X T) Φ fl W cs))
    (hs : isStar e = false) (hss : (es.all fun e => !isStar e) = true) (hn : x ≠ "__name__") (hdb : (x == ("__debug__" : Str)) = false) : PE X (.Call (.Name x p) (e :: es) [] pos) (rdE (cn X T) Φ fl W (.op o cs)) :=
  PE.imp (pe_callTy hc hg hm hv ha hn hdb (star_one hs) (star_any hss)) fun σ H Q h => by
    obtain ⟨A, F, G, st, rel, h⟩ := rd_op h
    exact ⟨A, F, G, st, rel, endG.imp (fun vs H1 q => hr σ vs H1 Q q) h⟩
theorem pe_v {i : Nat} {x : Str} (hN : X.N[i]? = some x) (hv : Vis X.env.scope x) (hd : (x == ("__debug__" : Str)) = false) (hcd : (x == ("__classdict__" : Str)) = false) : PE X (.Name x pos) (rdE (cn X T) Φ fl W (.v i)) :=
  PE.imp (pe_var hN hv hd hcd) fun σ H Q h => by
    obtain ⟨A, F, G, st, rel, h⟩ := h
    unfold ev at h
    cases q : slot st i with
    | none => rw [q] at h; exact h.elim
    | val d =>
      rw [q] at h
      obtain ⟨v, h1, h2⟩ := rel.val i d q
      exact ⟨v, h1, h v G H Sub.rfl rel h2⟩
    | own t d =>
      rw [q] at h
      obtain ⟨p, h1, h2⟩ := rel.own i t d q
      exact ⟨_, h1, h _ G H Sub.rfl rel h1⟩
theorem pe_k {v : V} {d : D} (h : PE X e (tC v)) (hd : ∀ G, Rep (cn X T) G v d) : PE X e (rdE (cn X T) Φ fl W (.c d)) :=
  PE.imp h fun σ H Q h => by
    obtain ⟨A, F, G, st, rel, h⟩ := h
    exact h v G H Sub.rfl rel (hd G)
theorem pe_t {k : Nat} (h : PA X es (rdVs (cn X T) Φ fl W cs)) : PE X (.Tuple es k pos) (rdE (cn X T) Φ fl W (.tup cs)) :=
  PE.imp (pe_tupF h) fun σ H Q h => by
    obtain ⟨A, F, G, st, rel, h⟩ := h
    refine ⟨A, F, G, st, rel, endG.bind h fun ds st1 vs G1 H1 _ s1 rel1 p1 h1 => ?_⟩
    dsimp only at h1
    split at h1
    · rename_i hz
      exact ⟨by rw [Reps.length p1]; exact Nat.le_of_ble_eq_true hz, OkE.newT h1 rel1 p1⟩
    · exact h1.elim
theorem pe_l (h : PA X es (rdVs (cn X T) Φ fl W cs)) : PE X (.List es pos) (rdE (cn X T) Φ fl W (.lst cs)) :=
  PE.imp (pe_lst h) fun σ H Q h => by
    obtain ⟨A, F, G, st, rel, h⟩ := h
    refine ⟨A, F, G, st, rel, endG.bind h fun ds st1 vs G1 H1 _ s1 rel1 p1 h1 => ?_⟩
    dsimp only at h1
    split at h1
    · rename_i hz
      refine ⟨by rw [Reps.length p1]; exact Nat.le_of_ble_eq_true hz, fun p hp => ?_⟩
      exact OkE.newL h1 rel1 hp p1
    · exact h1.elim
end
end PV
set_option Elab.async false
set_option linter.all false
set_option maxRecDepth 100000
set_option maxHeartbeats 1000000
namespace PV
open PySem PySem.Spec PyProof.Rows L2
theorem keyD_eq (a b : Key) : eqD (keyD a) (keyD b) = decide (a = b) := by
  cases a with
  | inl i => cases b with
    | inl j => simp only [keyD, eqD, Sum.inl.injEq]; exact Bool.eq_iff_iff.mpr (by simp)
    | inr y => simp [keyD, eqD]
  | inr x => cases b with
    | inl j => simp [keyD, eqD]
    | inr y =>
      obtain ⟨x⟩ := x; obtain ⟨y⟩ := y
      simp only [keyD, eqD, Sum.inr.injEq, PySem.Str.mk.injEq]
      by_cases h : x = y
      · subst h; simp
      · have : x.toList ≠ y.toList := fun e => h (Array.toList_inj.mp e)
        simp [h, this]
theorem keysD_eq : ∀ a b : List Key, eqDs (a.map keyD) (b.map keyD) = decide (a = b)
  | [], [] => by simp [eqDs]
  | [], _ :: _ => by simp [eqDs]
  | _ :: _, [] => by simp [eqDs]
  | a :: r, b :: t => by
    rw [List.map_cons, List.map_cons, eqDs, keyD_eq, keysD_eq r t]
    exact Bool.eq_iff_iff.mpr (by simp)
theorem keyT_eq (a b : List Key) : eqD (.tup (a.map keyD)) (.tup (b.map keyD)) = decide (a = b) := by
  rw [eqD]; exact keysD_eq a b
section
variable {C : Cn} {G H : Hp}
theorem Reps.keys : ∀ {vs : List V} {ds : List D}, Reps C G vs ds → ds.all kOk = true → ∃ k : List Key, ds = k.map keyD ∧ vs = k.map kV
  | _, _, .nil, _ => ⟨[], rfl, rfl⟩
  | _, _, .cons (d := d) h r, e => by
    rw [List.all_cons, Bool.and_eq_true] at e
    obtain ⟨k, e1, e2⟩ := Reps.keys r e.2
    cases h with
    | int i => exact ⟨.inl i :: k, by rw [e1]; rfl, by rw [e2]; rfl⟩
    | str x hx => exact ⟨.inr ⟨x.toArray⟩ :: k, by rw [e1]; rfl, by rw [e2]; rfl⟩
    | _ => exact absurd e.1 (by simp [kOk])
theorem Rep.key {v : V} {d : D} (h : Rep C G v d) (e : tkey d = true) : ∃ (k : List Key) (b : Addr), d = .tup (k.map keyD) ∧ v = .ref b ∧ TAt G b (k.map kV) ∧ Reps C G (k.map kV) (k.map keyD) := by
  cases h with
  | @tup a vs ds q r =>
    obtain ⟨k, e1, e2⟩ := r.keys e
    subst e1 e2
    exact ⟨k, a, rfl, rfl, q, r⟩
  | _ => exact absurd e (by simp [tkey])
theorem tat_rd {b : Addr} {xs : List V} (h : TAt G b xs) : Rd G b (.tup xs) := by
  obtain ⟨o, _, e⟩ := h
  exact .inr ⟨o, e⟩
theorem RepO.keysAt (s : Sub G H) : ∀ {kv : List Ent3} {kvs : List (D × D)}, RepO C G kv kvs → KeysAt H kv
  | _, _, .nil => fun p hp => nomatch hp
  | _, _, .cons t _ h r => fun p hp => by
    rcases List.mem_cons.mp hp with e | hp
    · subst e; exact tat_rd (TAt.sub s t)
    · exact RepO.keysAt s r p hp
theorem RepO.length : ∀ {kv : List Ent3} {kvs : List (D × D)}, RepO C G kv kvs → kv.length = kvs.length
  | _, _, .nil => rfl
  | _, _, .cons t _ h r => by rw [List.length_cons, List.length_cons, RepO.length r]
theorem RepO.get (k : List Key) : ∀ {kv : List Ent3} {kvs : List (D × D)}, RepO C G kv kvs → (valO kv k = none ∧ dget (.tup (k.map keyD)) kvs = none) ∨ ∃ v d, valO kv k = some v ∧ dget (.tup (k.map keyD)) kvs = some d ∧ Rep C G v d
  | _, _, .nil => .inl ⟨rfl, rfl⟩
  | _, _, .cons (k := k') t _ h r => by
    rw [dget, keyT_eq]
    by_cases e : k' = k
    · exact .inr ⟨_, _, valO_pos e, by rw [if_pos (by simpa using e)], h⟩
    · rw [valO_neg e, if_neg (by simpa using e)]
      exact RepO.get k r
theorem RepO.repl {k : List Key} {v : V} {d : D} (h : Rep C G v d) : ∀ {kv : List Ent3} {kvs : List (D × D)}, RepO C G kv kvs →
    RepO C G (kv.map fun p => if p.1 = k then (p.1, p.2.1, v) else p) (kvs.map fun p => if eqD p.1 (.tup (k.map keyD)) then (p.1, d) else p)
  | _, _, .nil => .nil
  | _, _, .cons (k := k') t u q r => by
    rw [List.map_cons, List.map_cons]
    dsimp only
    rw [keyT_eq]
    by_cases z : k' = k
    · rw [if_pos z, if_pos (by simpa using z)]
      exact .cons t u h (RepO.repl h r)
    · rw [if_neg z, if_neg (by simpa using z)]
      exact .cons t u q (RepO.repl h r)
theorem RepO.snoc {k : List Key} {b : Addr} {v : V} {d : D} (tb : TAt G b (k.map kV)) (ub : Reps C G (k.map kV) (k.map keyD)) (h : Rep C G v d) : ∀ {kv : List Ent3} {kvs : List (D × D)}, RepO C G kv kvs → RepO C G (kv ++ [(k, b, v)]) (kvs ++ [(.tup (k.map keyD), d)])
  | _, _, .nil => .cons tb ub h .nil
  | _, _, .cons t u q r => .cons t u q (RepO.snoc tb ub h r)
theorem RepO.put {k : List Key} {b : Addr} {v : V} {d : D} {kv : List Ent3} {kvs : List (D × D)} (tb : TAt G b (k.map kV)) (ub : Reps C G (k.map kV) (k.map keyD)) (h : Rep C G v d) (r : RepO C G kv kvs) : RepO C G (putO kv k b v) (dput (.tup (k.map keyD)) d kvs) := by
  unfold putO dput
  rcases r.get k with ⟨e1, e2⟩ | ⟨v', d', e1, e2, _⟩
  · rw [e1, e2]
    exact r.snoc tb ub h
  · rw [e1, e2]
    exact r.repl h
theorem ORep.dct {C : Cn} {G H : Hp} {v : V} {kvs : List (D × D)} (s : Sub G H) (h : ORep C G H v (.dct kvs)) : ∃ a kv, v = .ref a ∧ H a = some (dO C.P C.w a kv) ∧ RepO C G kv kvs := by
  rcases h with h | ⟨p, rfl, kv, h, r⟩
  · cases h with
    | dctO q r => exact ⟨_, _, rfl, s _ _ q, r⟩
  · exact ⟨p, kv, rfl, h, r⟩
/-- the keys as values -/
theorem RepO.keys : ∀ {kv : List Ent3} {kvs : List (D × D)}, RepO C G kv kvs → Reps C G (kv.map fun e => V.ref e.2.1) (kvs.map (·.1))
  | _, _, .nil => .nil
  | _, _, .cons t u h r => .cons (.tup t u) (RepO.keys r)
/-- what a dict holds at a key -/
theorem ORep.dg {C : Cn} {G H : Hp} {v y : V} {kvs : List (D × D)} {kd : D} (s : Sub G H) (h : ORep C G H v (.dct kvs)) (hy : ORep C G H y kd) (e : tkey kd = true) :
    ∃ a, v = .ref a ∧ ((dget kd kvs = none ∧ DG C.P C.w H a y none) ∨ ∃ u d, dget kd kvs = some d ∧ Rep C G u d ∧ DG C.P C.w H a y (some u)) := by
  obtain ⟨a, kv, rfl, h1, r⟩ := h.dct s
  have hk : ∃ (k : List Key) (b : Addr), kd = .tup (k.map keyD) ∧ y = .ref b ∧ TAt G b (k.map kV) ∧ Reps C G (k.map kV) (k.map keyD) := by
    rcases hy with hy | ⟨p, rfl, hy⟩
    · exact hy.key e
    · cases kd <;> first | exact hy.elim | exact nomatch e
  obtain ⟨k, b, rfl, rfl, tb, _⟩ := hk
  refine ⟨a, rfl, ?_⟩
  rcases r.get k with ⟨e1, e2⟩ | ⟨u, d, e1, e2, ru⟩
  · exact .inl ⟨e2, kv, k, b, h1, r.keysAt s, rfl, tat_rd (TAt.sub s tb), e1.symm⟩
  · exact .inr ⟨u, d, e2, ru, kv, k, b, h1, r.keysAt s, rfl, tat_rd (TAt.sub s tb), e1.symm⟩
end
end PV
set_option Elab.async false
set_option linter.all false
set_option maxRecDepth 100000
set_option maxHeartbeats 4000000
namespace L2
open PySem PySem.Spec PyProof.Rows
theorem tuple_mulOne (l : Addr) (items : Array Value) (n : Nat) (dd : Option Addr) (sl : Array (Option Value)) (u : Tok) :
    Meets (Builtin.«tuple.__mul__» ⟨[.ref l, .int 1 u], []⟩) (fun _ R s => s.heap.get? l = some { cls := .type "tuple", dict := dd, data := .seq items n, slots := sl } ∧
      R (.ok (.ret (Value.ref l))) s) :=
  .of_wp fun prog w A R s h => by
    obtain ⟨hp, g, d, tk, os⟩ := s
    obtain ⟨hl, h⟩ := h
    have f1 := AutoSeq1.idx_int
    wp_walk using wpAny_loadPart' hl
    exact ⟨_, rfl, h⟩
theorem tuple_mulNone (l : Addr) (items : Array Value) (n : Nat) (dd : Option Addr) (sl : Array (Option Value)) (x : Int) (u : Tok) (c0 : (decide (x < -(2 ^ 63)) || decide (x ≥ 2 ^ 63)) = false) (c1 : (items.isEmpty || x == 1) = false) (c2 : x ≤ 0) :
    Meets (Builtin.«tuple.__mul__» ⟨[.ref l, .int x u], []⟩) (fun _ R s => s.heap.get? l = some { cls := .type "tuple", dict := dd, data := .seq items n, slots := sl } ∧
      R (.ok (.ret (Value.ref s.heap.objs.size))) { s with heap := s.heap.push { cls := Value.type "tuple", data := Data.seq #[] }, toks := s.toks }) :=
  .of_wp fun prog w A R s h => by
    obtain ⟨hp, g, d, tk, os⟩ := s
    obtain ⟨hl, h⟩ := h
    have f1 := AutoSeq1.idx_int
    wp_walk using wpAny_loadPart' hl
    have c2' : decide ((decide (x ≤ 0) || items.isEmpty) = true) = true := by simp [c2]
    repeat (first
      | (refine wpAny_ite_false (decide_eq_false (by rw [c0]; exact Bool.false_ne_true)) ?_; wp_walk using wpAny_loadPart' hl)
      | (refine wpAny_ite_false (decide_eq_false (by rw [c1]; exact Bool.false_ne_true)) ?_; wp_walk using wpAny_loadPart' hl)
      | (refine wpAny_ite_true c2' ?_; wp_walk using wpAny_loadPart' hl))
    exact ⟨_, rfl, h⟩
theorem repl_fold (z : List Nat) : ∀ (m : Nat) (acc : Array Nat), (List.replicate m z.toArray).foldl (fun a b => a ++ b) acc = acc ++ (List.replicate m z).flatten.toArray
  | 0, acc => by simp
  | m + 1, acc => by
    rw [List.replicate_succ, List.foldl_cons, repl_fold z m, List.replicate_succ, List.flatten_cons]
    simp
section
variable {X : Cx}
def rMulS : R2 := fun x y H Q => ∃ (z : Str) (k : Int), x = .str z ∧ y = .int k ∧ -1000 ≤ k ∧ k ≤ 1000 ∧ z.length ≤ 1000 ∧ Q (.str ⟨(List.replicate k.toNat z.cps.toList).flatten.toArray⟩) H
theorem op_mulS : OpR X (binaryOp .Mult) rMulS := by
  intro pins s σ H x y v u Q I rx ry h
  obtain ⟨z, k, rfl, rfl, h1, h2, hz, q⟩ := h
  obtain ⟨t, rfl⟩ := rx
  obtain ⟨t', rfl⟩ := ry
  have hm : z.length * k.toNat ≤ 1000 * 1000 := Nat.mul_le_mul hz (by omega)
  refine PySem.P.mul_str (by rw [decide_eq_false (by omega), decide_eq_false (by omega)]; rfl) (fun k1 _ => ?_) (fun _ _ => ?_) ?_
  · have k0 : 0 < k := by omega
    have e : (1000 : Int) ≤ (2 ^ 63 - 1) / k := Int.le_ediv_of_mul_le k0 (by omega)
    omega
  · unfold Builtin.Str.tooLong
    rw [sizeLine_eq]
    exact decide_eq_false (by omega)
  · by_cases k1 : k < 1
    · rw [if_pos k1]
      have e : k.toNat = 0 := by omega
      rw [e] at q
      exact ⟨by decide, .str Str.empty, H, I.tok _, ⟨_, rfl⟩, q⟩
    · rw [if_neg k1]
      split
      · rename_i hc
        rw [Bool.or_eq_true] at hc
        have e : (⟨(List.replicate k.toNat z.cps.toList).flatten.toArray⟩ : Str) = z := by
          rcases hc with hc | hc
          · have : k.toNat = 1 := by have := eq_of_beq hc; omega
            rw [this]; simp
          · have hl : z.cps.size = 0 := eq_of_beq hc
            have : z.cps = #[] := Array.eq_empty_of_size_eq_zero hl
            obtain ⟨c⟩ := z
            simp only at this
            subst this
            have e2 : ∀ m : Nat, (List.replicate m ([] : List Nat)).flatten = [] := fun m => by induction m <;> simp_all [List.replicate_succ]
            simp [e2]
        rw [e] at q
        exact ⟨.str z, H, I, ⟨_, rfl⟩, q⟩
      · have e : ((List.replicate k.toNat z.cps).foldl (· ++ ·) #[]) = (List.replicate k.toNat z.cps.toList).flatten.toArray := by
          have := repl_fold z.cps.toList k.toNat #[]
          simpa using this
        rw [e]
        refine ⟨?_, .str _, H, I.tok _, ⟨_, rfl⟩, q⟩
        rw [sizeLine_eq]
        have : (List.replicate k.toNat z.cps.toList).flatten.length = k.toNat * z.cps.toList.length := PyProof.Rows.lm_len_rep_flat _ _
        have e3 : z.cps.toList.length = z.length := by simp [Str.length]
        simp only [Str.length, List.size_toArray, this, e3]
        rw [Nat.mul_comm]
        simp only [Str.length] at hm
        omega
/-- a tuple times an int above 1 -/
theorem op_repF : OpR X (binaryOp .Mult) (fun x y H Q => ∃ l k xs, x = .ref l ∧ y = .int k ∧ SqT X.K H l xs ∧ xs ≠ [] ∧ 2 ≤ k ∧ k ≤ 1000 ∧ xs.length ≤ 1000 ∧ NewT H (List.replicate k.toNat xs).flatten Q) := fun pins s σ H x y v u Q I rx ry h => by
  obtain ⟨l, k, xs, ex, ey, hT, hne, h1, h2, hz, q⟩ := h
  subst ex ey
  cases rx
  obtain ⟨t, rfl⟩ := ry
  obtain ⟨its, r, ⟨⟨cls, dd, data, sl⟩, ho, hc, n, hd⟩, _⟩ := I.tuple hT
  simp only at hc hd
  subst hc hd
  have hle := r.length
  have hi : its.toArray.isEmpty = false := by
    cases its with
    | nil => exact absurd (List.eq_nil_of_length_eq_zero hle) hne
    | cons a b => rfl
  have hsz : ((its.toArray.size : Nat) : Int) * k ≤ 1000000 := by
    rw [List.size_toArray, ← hle]
    have : ((xs.length : Nat) : Int) * k ≤ 1000 * k := Int.mul_le_mul_of_nonneg_right (by omega) (by omega)
    omega
  have hfl : k.toNat * xs.length ≤ 1000 * 1000 := Nat.mul_le_mul (by omega) hz
  have c0 : (decide (k < -(2 ^ 63)) || decide (k ≥ 2 ^ 63)) = false := by rw [decide_eq_false (by omega), decide_eq_false (by omega)]; rfl
  have c1 : (its.toArray.isEmpty || k == 1) = false := by rw [hi, Bool.false_or]; exact beq_eq_false_iff_ne.mpr (by omega)
  have c2 : (decide (k ≤ 0) || its.toArray.isEmpty) = false := by rw [hi, Bool.or_false]; exact decide_eq_false (by omega)
  have c4 : Builtin.Tuple.tupleTooMany (((its.toArray.size : Nat) : Int) * k) = false := by
    unfold Builtin.Tuple.tupleTooMany; rw [sizeLine_eq]; exact decide_eq_false (by omega)
  refine wpAny_binaryOp_repeat_ref (T := "tuple") (U := "int") (by decide) ⟨_, ho, rfl⟩ (fun s' => typeIs_int s' k t) noFill_tuple_mul F.fills_int_mul F.slot_int_rmul repeat_tuple F.slot_int_index.lookup
    (call_meets F.slot_int_rmul (typeIs_int s k t) F.entry_int_rmul (F.args_int_rmul_2 _ _) (int_rmul_tuple k t l its.toArray n dd sl)
      ⟨ho, rfl, ⟨_, ho, rfl⟩, call_meets F.slot_tuple_mul ⟨_, ho, rfl⟩ F.entry_tuple_mul (F.args_tuple_mul_2 _ _) (tuple_mulW l its.toArray n dd sl k t c0 c1 c2 (by omega) c4 (by rw [size_rep, List.size_toArray, PyProof.Rows.lm_len_rep_flat, ← hle, sizeLine_eq]; omega)) ⟨ho, ?_⟩⟩)
  rw [size_rep]
  exact ep_newT (t' := s.toks) I (r.rep k.toNat) (by rw [PyProof.Rows.lm_len_rep_flat, sizeLine_eq]; omega) q
/-- a tuple times an int -/
def rRepA (K : PySem.W.Frag) : R2 := fun x y H Q => ∃ l k xs, x = .ref l ∧ y = .int k ∧ SqT K H l xs ∧ xs ≠ [] ∧ -1000 ≤ k ∧ k ≤ 1000 ∧ xs.length ≤ 1000 ∧ (k = 1 → Q (.ref l) H) ∧
  (k ≠ 1 → NewT H (List.replicate k.toNat xs).flatten Q)
theorem op_repA : OpR X (binaryOp .Mult) (rRepA X.K) := by
  intro pins s σ H x y v u Q I rx ry h
  obtain ⟨l, k, xs, rfl, rfl, hT, hne, h1, h2, hz, q1, q2⟩ := h
  by_cases k2 : 2 ≤ k
  · exact op_repF pins s σ H _ _ v u Q I rx ry ⟨l, k, xs, rfl, rfl, hT, hne, k2, h2, hz, q2 (by omega)⟩
  cases rx
  obtain ⟨t, rfl⟩ := ry
  obtain ⟨its, r, ⟨⟨cls, dd, data, sl⟩, ho, hc, n, hd⟩, hs⟩ := I.tuple hT
  simp only at hc hd
  subst hc hd
  have hle : its.length = xs.length := r.length.symm
  have hn : its ≠ [] := fun e => hne (by
    rw [e] at hle
    exact List.eq_nil_of_length_eq_zero hle.symm)
  have hi : its.toArray.isEmpty = false := by
    cases its with
    | nil => exact absurd rfl hn
    | cons a b => rfl
  by_cases k1 : k = 1
  · subst k1
    refine wpAny_binaryOp_repeat_ref (T := "tuple") (U := "int") (by decide) ⟨_, ho, rfl⟩ (fun s' => typeIs_int s' 1 t) noFill_tuple_mul F.fills_int_mul F.slot_int_rmul repeat_tuple F.slot_int_index.lookup
      (call_meets F.slot_int_rmul (typeIs_int s 1 t) F.entry_int_rmul (F.args_int_rmul_2 _ _) (int_rmul_tuple 1 t l its.toArray n dd sl)
        ⟨ho, rfl, ⟨_, ho, rfl⟩, call_meets F.slot_tuple_mul ⟨_, ho, rfl⟩ F.entry_tuple_mul (F.args_tuple_mul_2 _ _) (tuple_mulOne l its.toArray n dd sl t) ⟨ho, ?_⟩⟩)
    exact ⟨.ref l, H, I, rfl, q1 rfl⟩
  · have c0 : (decide (k < -(2 ^ 63)) || decide (k ≥ 2 ^ 63)) = false := by
      rw [decide_eq_false (by omega), decide_eq_false (by omega)] <;> rfl
    have c1 : (its.toArray.isEmpty || k == 1) = false := by
      rw [hi, Bool.false_or]
      exact beq_eq_false_iff_ne.mpr (by omega)
    refine wpAny_binaryOp_repeat_ref (T := "tuple") (U := "int") (by decide) ⟨_, ho, rfl⟩ (fun s' => typeIs_int s' k t) noFill_tuple_mul F.fills_int_mul F.slot_int_rmul repeat_tuple F.slot_int_index.lookup
      (call_meets F.slot_int_rmul (typeIs_int s k t) F.entry_int_rmul (F.args_int_rmul_2 _ _) (int_rmul_tuple k t l its.toArray n dd sl)
        ⟨ho, rfl, ⟨_, ho, rfl⟩, call_meets F.slot_tuple_mul ⟨_, ho, rfl⟩ F.entry_tuple_mul (F.args_tuple_mul_2 _ _) (tuple_mulNone l its.toArray n dd sl k t c0 c1 (by omega)) ⟨ho, ?_⟩⟩)
    have q := q2 k1
    have e : k.toNat = 0 := by omega
    rw [e] at q
    exact ep_newT (t' := s.toks) (us := []) I .nil (by simp) q
end
end L2
set_option Elab.async false
set_option linter.all false
set_option maxRecDepth 100000
set_option maxHeartbeats 4000000
namespace PV
open PySem PySem.Spec PyProof.Rows L2
mutual
def toPy : D → PyData
  | .non => .none
  | .bl b => .bool b
  | .int i => .int i
  | .str s => .str ⟨s.toArray⟩
  | .tup xs => .tuple (toPys xs)
  | .lst xs => .list (toPys xs)
  | .scr ns => .list (ns.map .int)
  | _ => .none
def toPys : List D → List PyData
  | [] => []
  | x :: xs => toPy x :: toPys xs
end
theorem eqScr_py : ∀ (ns : List Int) (ys : List D) (m : Nat), shs m ys = true → PyData.eqvAll (ns.map .int) (toPys ys) = eqScr ns ys
  | [], [], _, _ => by simp [toPys, eqScr, PyData.eqvAll]
  | [], _ :: _, _, _ => by simp [toPys, eqScr, PyData.eqvAll]
  | _ :: _, [], _, _ => by simp [toPys, eqScr, PyData.eqvAll]
  | i :: r, y :: s, m, h => by
    simp only [shs, Bool.and_eq_true] at h
    have ih := eqScr_py r s m h.2
    cases y <;> simp_all [toPys, toPy, eqScr, PyData.eqvAll, PyData.eqv, bi, sh]
theorem eqScr_yp : ∀ (ns : List Int) (ys : List D) (m : Nat), shs m ys = true → PyData.eqvAll (toPys ys) (ns.map .int) = eqScr ns ys
  | [], [], _, _ => by simp [toPys, eqScr, PyData.eqvAll]
  | [], _ :: _, _, _ => by simp [toPys, eqScr, PyData.eqvAll]
  | _ :: _, [], _, _ => by simp [toPys, eqScr, PyData.eqvAll]
  | i :: r, y :: s, m, h => by
    simp only [shs, Bool.and_eq_true] at h
    have ih := eqScr_yp r s m h.2
    cases y <;> simp_all [toPys, toPy, eqScr, PyData.eqvAll, PyData.eqv, bi, sh] <;> rw [Bool.beq_comm]
theorem eqInts_py : ∀ (ns ms : List Int), PyData.eqvAll (ns.map .int) (ms.map .int) = (ns == ms)
  | [], [] => by simp [PyData.eqvAll]
  | [], _ :: _ => by simp [PyData.eqvAll]
  | _ :: _, [] => by simp [PyData.eqvAll]
  | i :: r, j :: s => by
    have ih := eqInts_py r s
    simp [PyData.eqvAll, PyData.eqv, ih]
theorem str_beq (x y : List Nat) : ((⟨x.toArray⟩ : Str) == ⟨y.toArray⟩) = (x == y) := by
  by_cases h : x = y
  · subst h; simp
  · rw [beq_eq_false_iff_ne.mpr h, beq_eq_false_iff_ne]
    intro e
    injection e with e
    exact h (by simpa using congrArg Array.toList e)
mutual
theorem eqv_py : ∀ (a b : D) (n m : Nat), sh n a = true → sh m b = true → PyData.eqv (toPy a) (toPy b) = eqD a b
  | .non, b, n, m, ha, hb => by cases b <;> simp_all [toPy, eqD, PyData.eqv, sh]
  | .bl _, b, n, m, ha, hb => by cases b <;> simp_all [toPy, eqD, PyData.eqv, sh, bi]
  | .int _, b, n, m, ha, hb => by cases b <;> simp_all [toPy, eqD, PyData.eqv, sh, bi]
  | .str x, b, n, m, ha, hb => by
    cases b with
    | str y => simp only [toPy, eqD, PyData.eqv]; exact str_beq x y
    | _ => simp_all [toPy, eqD, PyData.eqv, sh]
  | .tup xs, b, n, m, ha, hb => by
    cases n with
    | zero => simp [sh] at ha
    | succ n =>
      cases b with
      | tup ys =>
        cases m with
        | zero => simp [sh] at hb
        | succ m => simp only [toPy, eqD, PyData.eqv]; exact eqvs_py xs ys n m (by simpa [sh] using ha) (by simpa [sh] using hb)
      | _ => simp_all [toPy, eqD, PyData.eqv, sh]
  | .lst xs, b, n, m, ha, hb => by
    cases n with
    | zero => simp [sh] at ha
    | succ n =>
      cases b with
      | lst ys =>
        cases m with
        | zero => simp [sh] at hb
        | succ m => simp only [toPy, eqD, PyData.eqv]; exact eqvs_py xs ys n m (by simpa [sh] using ha) (by simpa [sh] using hb)
      | scr ns => simp only [toPy, eqD, PyData.eqv]; exact eqScr_yp ns xs n (by simpa [sh] using ha)
      | _ => simp_all [toPy, eqD, PyData.eqv, sh]
  | .scr ns, b, n, m, ha, hb => by
    cases b with
    | lst ys =>
      cases m with
      | zero => simp [sh] at hb
      | succ m => simp only [toPy, eqD, PyData.eqv]; exact eqScr_py ns ys m (by simpa [sh] using hb)
    | scr ms => simp only [toPy, eqD, PyData.eqv]; exact eqInts_py ns ms
    | _ => simp_all [toPy, eqD, PyData.eqv, sh]
  | .dct _, b, n, m, ha, hb => by simp [sh] at ha
  | .fn _, b, n, m, ha, hb => by simp [sh] at ha
  | .obj _, b, n, m, ha, hb => by simp [sh] at ha
theorem eqvs_py : ∀ (a b : List D) (n m : Nat), shs n a = true → shs m b = true → PyData.eqvAll (toPys a) (toPys b) = eqDs a b
  | [], b, n, m, ha, hb => by cases b <;> simp [toPys, eqDs, PyData.eqvAll]
  | x :: xs, b, n, m, ha, hb => by
    cases b with
    | nil => simp [toPys, eqDs, PyData.eqvAll]
    | cons y ys =>
      simp only [shs, Bool.and_eq_true] at ha hb
      simp only [toPys, eqDs, PyData.eqvAll]
      rw [eqv_py x y n m ha.1 hb.1, eqvs_py xs ys n m ha.2 hb.2]
end
theorem ints_py (ns : List Int) : PyData.canLayAll0 (ns.map .int) = true ∧ PyData.depthAll (ns.map .int) = 0 := by
  induction ns with
  | nil => simp [PyData.canLayAll0, PyData.depthAll]
  | cons i r ih => simp [PyData.canLayAll0, PyData.canLay0, PyData.depthAll, PyData.depth, ih.1, ih.2]
mutual
theorem depth_py : ∀ (n : Nat) (d : D), sh n d = true → (toPy d).depth ≤ n
  | n, .non, h => by simp [toPy, PyData.depth]
  | n, .bl _, h => by simp [toPy, PyData.depth]
  | n, .int _, h => by simp [toPy, PyData.depth]
  | n, .str _, h => by simp [toPy, PyData.depth]
  | 0, .tup xs, h => by simp [sh] at h
  | n + 1, .tup xs, h => by
    simp only [toPy, PyData.depth]
    exact Nat.succ_le_succ (depths_py n xs (by simpa [sh] using h))
  | 0, .lst xs, h => by simp [sh] at h
  | n + 1, .lst xs, h => by
    simp only [toPy, PyData.depth]
    exact Nat.succ_le_succ (depths_py n xs (by simpa [sh] using h))
  | 0, .scr ns, h => by simp [sh] at h
  | n + 1, .scr ns, h => by simp [toPy, PyData.depth, (ints_py ns).2]
  | n, .dct _, h => by simp [sh] at h
  | n, .fn _, h => by simp [sh] at h
  | n, .obj _, h => by simp [sh] at h
theorem depths_py : ∀ (n : Nat) (d : List D), shs n d = true → PyData.depthAll (toPys d) ≤ n
  | n, [], h => by simp [toPys, PyData.depthAll]
  | n, x :: xs, h => by
    simp only [shs, Bool.and_eq_true] at h
    simp only [toPys, PyData.depthAll]
    exact Nat.max_le.mpr ⟨depth_py n x h.1, depths_py n xs h.2⟩
end
theorem okS_py {s : List Nat} (h : okS s) : PyData.strOk ⟨s.toArray⟩ = true := by
  unfold PyData.strOk
  rw [Array.all_eq_true]
  intro i hi
  exact decide_eq_true (h _ (by simp))
theorem dpInts {K : PySem.W.Frag} {H : Hp} : ∀ ns : List Int, DpAll K H (ns.map V.int) (ns.map .int)
  | [] => .nil
  | i :: r => .cons (.int i) (dpInts r)
section
variable {C : Cn} {H : Hp}
mutual
theorem Rep.dp : ∀ {v : V} {d : D} (n : Nat), Rep C H v d → sh n d = true → Dp C.K H v (toPy d) ∧ (toPy d).canLay0 = true
  | _, _, n, .non, h => ⟨.non, by simp [toPy, PyData.canLay0]⟩
  | _, _, n, .bl b, h => ⟨.bl b, by simp [toPy, PyData.canLay0]⟩
  | _, _, n, .int i, h => ⟨.int i, by simp [toPy, PyData.canLay0]⟩
  | _, _, n, .str s ok, h => ⟨.str _, by simp only [toPy, PyData.canLay0]; exact okS_py ok⟩
  | _, _, 0, .tup q r, h => by simp [sh] at h
  | _, _, n + 1, .tup q r, h => by
    obtain ⟨h1, h2⟩ := Reps.dp n r (by simpa [sh] using h)
    exact ⟨.tup q.sq h1, by simp only [toPy, PyData.canLay0]; exact h2⟩
  | _, _, 0, .lst q r, h => by simp [sh] at h
  | _, _, n + 1, .lst q r, h => by
    obtain ⟨h1, h2⟩ := Reps.dp n r (by simpa [sh] using h)
    exact ⟨.lst (.inl (.inl q)) h1, by simp only [toPy, PyData.canLay0]; exact h2⟩
  | _, _, n, .scr q, h => ⟨by simp only [toPy]; exact .lst q (dpInts _), by simp only [toPy, PyData.canLay0]; exact (ints_py _).1⟩
  | _, _, n, .dctO q r, h => by simp [sh] at h
  | _, _, n, .fn q, h => by simp [sh] at h
  | _, _, n, .obj q r, h => by simp [sh] at h
theorem Reps.dp : ∀ {v : List V} {d : List D} (n : Nat), Reps C H v d → shs n d = true → DpAll C.K H v (toPys d) ∧ PyData.canLayAll0 (toPys d) = true
  | _, _, n, .nil, h => ⟨.nil, by simp [toPys, PyData.canLayAll0]⟩
  | _, _, n, .cons q r, h => by
    simp only [shs, Bool.and_eq_true] at h
    obtain ⟨h1, h2⟩ := Rep.dp n q h.1
    obtain ⟨h3, h4⟩ := Reps.dp n r h.2
    exact ⟨.cons h1 h3, by simp [toPys, PyData.canLayAll0, h2, h4]⟩
end
theorem ORep.atH {G : Hp} {v : V} {d : D} (s : Sub G H) (h : ORep C G H v d) : Rep C H v d := by
  rcases h with h | ⟨p, rfl, h⟩
  · exact h.mono s
  · cases d with
    | lst ds => obtain ⟨vs, e, r⟩ := h; exact .lst e (r.mono s)
    | dct kvs =>
      obtain ⟨kv, e, r⟩ := h; exact .dctO e (r.mono s)
    | _ => exact h.elim
theorem ORep.dp {G : Hp} {v : V} {d : D} (s : Sub G H) (h : ORep C G H v d) (e : sh 50 d = true) : Dp C.K H v (toPy d) ∧ SeqAt.shaped (toPy d) = true := by
  obtain ⟨h1, h2⟩ := Rep.dp 50 (h.atH s) e
  refine ⟨h1, ?_⟩
  unfold SeqAt.shaped
  rw [h2, Bool.true_and]
  exact decide_eq_true (Nat.le_trans (depth_py 50 d e) (by omega))
end
section
variable {C : Cn} {o : Op} {σ : L2.St} {x y : V} {H : Hp} {Q : VK}
theorem OpE.two (h : OpE C o σ [x, y] H Q) : ∃ A F G st d e z, Rel C A F G st σ H ∧ ORep C G H x d ∧ ORep C G H y e ∧ o.run [d, e] = some z ∧ OkE C A F G σ Q (outR z) st := by
  obtain ⟨A, F, G, st, ds, z, rel, r, e, ok⟩ := h
  match ds, r, e with
  | [d, e'], ⟨h1, h2, _⟩, e => exact ⟨A, F, G, st, d, e', z, rel, h1, h2, e, ok⟩
  | [], r, _ => exact r.elim
  | [_], ⟨_, r⟩, _ => exact r.elim
  | _ :: _ :: _ :: _, ⟨_, _, r⟩, _ => exact r.elim
theorem OpE.one (h : OpE C o σ [x] H Q) : ∃ A F G st d z, Rel C A F G st σ H ∧ ORep C G H x d ∧ o.run [d] = some z ∧ OkE C A F G σ Q (outR z) st := by
  obtain ⟨A, F, G, st, ds, z, rel, r, e, ok⟩ := h
  match ds, r, e with
  | [d], ⟨h1, _⟩, e => exact ⟨A, F, G, st, d, z, rel, h1, e, ok⟩
  | [], r, _ => exact r.elim
  | _ :: _ :: _, ⟨_, r⟩, _ => exact r.elim
end
theorem bout_eq {b : Bool} {z : Bool × D} (h : bout b = some z) : outR z = .val (.bl b) := by cases h; rfl
section
variable {X : Cx} {T : Tab}
theorem ops_eq : OpS (cn X T) .eq (rEqD X.K) := fun σ x y H Q h => by
  obtain ⟨A, F, G, st, d, e, z, rel, h1, h2, hz, ok⟩ := h.two
  simp only [Op.run, Op.run2, Op.eq2] at hz
  split at hz
  · rename_i hs
    simp only [Bool.and_eq_true] at hs
    obtain ⟨p1, q1⟩ := h1.dp rel.subG hs.1
    obtain ⟨p2, q2⟩ := h2.dp rel.subG hs.2
    refine ⟨toPy d, toPy e, p1, p2, q1, q2, ?_⟩
    rw [bout_eq hz] at ok
    rw [eqv_py d e 50 50 hs.1 hs.2]
    exact ok.pure rel (by rw [Bool.false_bne]; exact .bl _)
  · cases hz
theorem ops_ne : OpS (cn X T) .ne (rNeD X.K) := fun σ x y H Q h => by
  obtain ⟨A, F, G, st, d, e, z, rel, h1, h2, hz, ok⟩ := h.two
  simp only [Op.run, Op.run2, Op.eq2] at hz
  split at hz
  · rename_i hs
    simp only [Bool.and_eq_true] at hs
    obtain ⟨p1, q1⟩ := h1.dp rel.subG hs.1
    obtain ⟨p2, q2⟩ := h2.dp rel.subG hs.2
    refine ⟨toPy d, toPy e, p1, p2, q1, q2, ?_⟩
    rw [bout_eq hz] at ok
    rw [eqv_py d e 50 50 hs.1 hs.2]
    exact ok.pure rel (by rw [Bool.true_bne]; exact .bl _)
  · cases hz
abbrev rAddS : R2 := fun x y H Q => ∃ i j, x = .str i ∧ y = .str j ∧ i.length + j.length ≤ sizeLine ∧ Q (.str (i ++ j)) H
/-- list + list -/
theorem sizeL_eq : sizeL = sizeLine := by rw [sizeLine_eq]; rfl
theorem lesq_some {b : Nat} {x z : Bool × D} (h : lesq b x = some z) : b ≤ sizeLine ∧ z = x := by
  unfold lesq at h
  split at h
  · rename_i hb
    cases h
    exact ⟨by rw [← sizeL_eq]; exact Nat.le_of_ble_eq_true hb, rfl⟩
  · cases h
theorem ops_add : OpS (cn X T) .add (fun x y H Q => (rI0 fun i j => .int (i + j)) x y H Q ∨ (rAddS x y H Q ∨ (rCatF X.K x y H Q ∨ rCat x y H Q))) := fun σ x y H Q h => by
  obtain ⟨A, F, G, st, d, e, z, rel, h1, h2, hz, ok⟩ := h.two
  simp only [Op.run, Op.run2] at hz
  unfold Op.add2 at hz
  split at hz
  · cases hz
    exact .inl ⟨_, _, h1.int_inv, h2.int_inv, ok.pure rel (.int _)⟩
  · rename_i a b
    obtain ⟨hl, rfl⟩ := lesq_some hz
    obtain ⟨rfl, k1⟩ := h1.str_inv
    obtain ⟨rfl, k2⟩ := h2.str_inv
    refine .inr (.inl ⟨_, _, rfl, rfl, by simpa [Str.length] using hl, ?_⟩)
    have e : ((⟨a.toArray⟩ : Str) ++ (⟨b.toArray⟩ : Str)) = ⟨(a ++ b).toArray⟩ := by
      show Str.mk (a.toArray ++ b.toArray) = _
      simp
    rw [e]
    exact ok.pure rel (.str _ fun c hc => (List.mem_append.mp hc).elim (k1 c) (k2 c))
  · rename_i a b
    obtain ⟨hl, rfl⟩ := lesq_some hz
    have t1 := h1.tup_rep
    have t2 := h2.tup_rep
    obtain ⟨p, vs, rfl, g1, g1', r1⟩ := h1.tup_inv rel.subG
    obtain ⟨q, ws, rfl, g2, g2', r2⟩ := h2.tup_inv rel.subG
    refine .inr (.inr (.inl ⟨p, q, vs, ws, rfl, rfl, g1.sq, g2.sq, by rw [r1.length, r2.length]; exact hl, fun e0 => ?_, fun e0 e1 => ?_, fun e0 e1 => ?_⟩))
    · subst e0
      cases r1
      exact ok.pure rel t2
    · subst e1
      cases r2
      rw [List.append_nil] at ok
      exact ok.pure rel t1
    · exact ok.newT rel (r1.append r2)
  · obtain ⟨hl, rfl⟩ := lesq_some hz
    obtain ⟨p, vs, rfl, g1, r1⟩ := h1.lst_inv rel.subG
    obtain ⟨q, ws, rfl, g2, r2⟩ := h2.lst_inv rel.subG
    exact .inr (.inr (.inr ⟨p, q, vs, ws, rfl, rfl, g1, g2, by rw [r1.length, r2.length]; exact hl, fun u hu => ok.newL rel hu (r1.append r2)⟩))
  · cases hz
theorem opr_add : OpR X (binaryOp .Add) (fun x y H Q => (rI0 fun i j => .int (i + j)) x y H Q ∨ (rAddS x y H Q ∨ (rCatF X.K x y H Q ∨ rCat x y H Q))) := op_add.or (op_add_str.or (op_catF.or op_cat))
theorem ops_sub : OpS (cn X T) .sub (rI0 fun i j => .int (i - j)) := fun σ x y H Q h => by
  obtain ⟨A, F, G, st, d, e, z, rel, h1, h2, hz, ok⟩ := h.two
  simp only [Op.run, Op.run2] at hz
  unfold Op.sub2 at hz
  split at hz
  · cases hz
    exact ⟨_, _, h1.int_inv, h2.int_inv, ok.pure rel (.int _)⟩
  · cases hz
theorem big_lt {a : Nat} (h : Nat.blt a big = true) : a < 2 ^ 4096 := Nat.le_of_ble_eq_true h
def CDivZ (_ j : Int) : Prop := j ≠ 0 ∧ j.natAbs.log2 < 9000
theorem op_fdivZ : OpR X (binaryOp .FloorDiv) (rI CDivZ fun i j => .int (i.fdiv j)) := opI fun _ _ _ _ _ _ _ hc q => floordiv_int hc.1 q (.inl (PyProof.noPylong_of_log2 hc.2))
theorem ops_fdiv : OpS (cn X T) .fdiv (rI CDivZ fun i j => .int (i.fdiv j)) := fun σ x y H Q h => by
  obtain ⟨A, F, G, st, d, e, z, rel, h1, h2, hz, ok⟩ := h.two
  simp only [Op.run, Op.run2] at hz
  unfold Op.fdiv2 at hz
  split at hz
  · rename_i i j
    split at hz
    · rename_i hd
      cases hz
      unfold divOk at hd
      simp only [Bool.and_eq_true, bne_iff_ne, ne_eq] at hd
      exact ⟨_, _, h1.int_inv, h2.int_inv, ⟨hd.1, Nat.lt_of_lt_of_le (PySem.Flt.log2_lt_of (by decide) (big_lt hd.2)) (by decide)⟩, ok.pure rel (.int _)⟩
    · cases hz
  · cases hz
theorem opr_fdiv : OpR X (binaryOp .FloorDiv) (rI CDivZ fun i j => .int (i.fdiv j)) := op_fdivZ
theorem ops_mod : OpS (cn X T) .mod (rI (fun _ j => j ≠ 0) fun i j => .int (i.fmod j)) := fun σ x y H Q h => by
  obtain ⟨A, F, G, st, d, e, z, rel, h1, h2, hz, ok⟩ := h.two
  simp only [Op.run, Op.run2] at hz
  unfold Op.mod2 at hz
  split at hz
  · split at hz
    · cases hz
    · rename_i hj
      cases hz
      exact ⟨_, _, h1.int_inv, h2.int_inv, by simpa using hj, ok.pure rel (.int _)⟩
  · cases hz
theorem ops_pow : OpS (cn X T) .pow (rI CPow fun i j => .int (i ^ j.toNat)) := fun σ x y H Q h => by
  obtain ⟨A, F, G, st, d, e, z, rel, h1, h2, hz, ok⟩ := h.two
  simp only [Op.run, Op.run2] at hz
  unfold Op.pow2 at hz
  split at hz
  · split at hz
    · rename_i hj
      simp only [Bool.and_eq_true, decide_eq_true_eq] at hj
      cases hz
      exact ⟨_, _, h1.int_inv, h2.int_inv, ⟨hj.1.2, by omega, Nat.le_of_ble_eq_true hj.1.1⟩, ok.pure rel (.int _)⟩
    · cases hz
  · cases hz
theorem uns_neg : ∀ σ x H Q, OpE (cn X T) .neg σ [x] H Q → (rU fun i => .int (-i)) x H Q := fun σ x H Q h => by
  obtain ⟨A, F, G, st, d, z, rel, h1, hz, ok⟩ := h.one
  simp only [Op.run, Op.run1] at hz
  unfold Op.neg1 at hz
  split at hz
  · cases hz
    exact ⟨_, h1.int_inv, ok.pure rel (.int _)⟩
  · cases hz
theorem pe_neg {a : Expr} {ca : E} {Φ : Fns} {fl : Nat → List Bool} {W : WX} {pos : Pos} (ha : PE X a (rdE (cn X T) Φ fl W ca)) : PE X (.UnaryOp .USub a pos) (rdE (cn X T) Φ fl W (.op .neg (.cons ca .nil))) :=
  PE.imp (pe_un un_neg ha) fun σ H Q h => rdE.imp (rdOs_cons (rd_op h)) fun x H1 h1 => uns_neg σ x H1 Q (rdOs_nil h1)
theorem ops_mul : OpS (cn X T) .mul (fun x y H Q => (rI CMulW fun i j => .int (i * j)) x y H Q ∨ (rMulS x y H Q ∨ (rRepA X.K x y H Q ∨ rRep x y H Q))) := fun σ x y H Q h => by
  obtain ⟨A, F, G, st, d, e, z, rel, h1, h2, hz, ok⟩ := h.two
  simp only [Op.run, Op.run2] at hz
  unfold Op.mul2 at hz
  split at hz
  · split at hz
    · rename_i hm
      cases hz
      unfold mulOk at hm
      rw [Bool.and_eq_true] at hm
      exact .inl ⟨_, _, h1.int_inv, h2.int_inv, wide_mul (big_lt hm.1) (big_lt hm.2) (by decide) (by decide) (by decide), ok.pure rel (.int _)⟩
    · cases hz
  · rename_i a n
    split at hz
    · rename_i hm
      cases hz
      simp only [repOk, Bool.and_eq_true, decide_eq_true_eq] at hm
      obtain ⟨⟨m1, m2⟩, m3⟩ := hm
      obtain ⟨rfl, k1⟩ := h1.str_inv
      have hl : a.length ≤ 1000 := Nat.le_of_ble_eq_true m3
      refine .inr (.inl ⟨_, n, rfl, h2.int_inv, m1, m2, by simpa [Str.length] using hl, ?_⟩)
      refine ok.pure rel (.str _ fun c hc => ?_)
      obtain ⟨l, hl, hc⟩ := List.mem_flatten.mp hc
      rw [(List.mem_replicate.mp hl).2] at hc
      exact k1 c hc
    · cases hz
  · rename_i a n
    split at hz
    · rename_i hm
      cases hz
      simp only [repOk, Bool.and_eq_true, decide_eq_true_eq, Bool.not_eq_true', List.isEmpty_eq_false_iff] at hm
      obtain ⟨⟨⟨m1, m2⟩, m3⟩, he⟩ := hm
      have hl : a.length ≤ 1000 := Nat.le_of_ble_eq_true m3
      have t1 := h1.tup_rep
      obtain ⟨p, vs, rfl, g1, g1', r1⟩ := h1.tup_inv rel.subG
      · have hv : vs ≠ [] := fun z => he (by subst z; cases r1; rfl)
        refine .inr (.inr (.inl ⟨p, n, vs, rfl, h2.int_inv, g1.sq, hv, m1, m2, by rw [r1.length]; exact hl, fun e => ?_, fun e => ok.newT rel (r1.flat _)⟩))
        subst e
        simp only [show ((1 : Int).toNat) = 1 from rfl, List.replicate_succ, List.replicate_zero, List.flatten_cons, List.flatten_nil, List.append_nil] at ok
        exact ok.pure rel t1
    · cases hz
  · rename_i a n
    split at hz
    · rename_i hm
      cases hz
      simp only [repOk, Bool.and_eq_true, decide_eq_true_eq] at hm
      obtain ⟨⟨m1, m2⟩, m3⟩ := hm
      have hl : a.length ≤ 1000 := Nat.le_of_ble_eq_true m3
      obtain ⟨p, vs, rfl, g1, r1⟩ := h1.lst_inv rel.subG
      refine .inr (.inr (.inr ⟨p, n, vs, rfl, h2.int_inv, g1, by omega, by omega, ?_, fun u hu => ok.newL rel hu (r1.flat _)⟩))
      rw [r1.length, sizeLine_eq]
      have : a.length * n.toNat ≤ 1000 * 1000 := Nat.mul_le_mul hl (by omega)
      omega
    · cases hz
  · cases hz
end
end PV
set_option Elab.async false
set_option linter.all false
set_option maxRecDepth 100000
set_option maxHeartbeats 4000000
namespace PV
open PySem PySem.Spec PyProof.Rows L2
theorem ltS_lt : ∀ x y : List Nat, ltS x y = decide (x < y)
  | [], [] => by simp [ltS]
  | [], _ :: _ => by simp [ltS]
  | _ :: _, [] => by simp [ltS]
  | x :: xs, y :: ys => by
    simp only [ltS]
    by_cases h : x = y
    · subst h
      rw [if_pos (by simp), ltS_lt xs ys]
      simp
    · rw [if_neg (by simpa using h)]
      by_cases hl : x < y
      · have e : Nat.blt x y = true := by show Nat.ble (x + 1) y = true; exact Nat.ble_eq_true_of_le hl
        rw [e]
        exact (decide_eq_true (List.cons_lt_cons_iff.mpr (.inl hl))).symm
      · have : ¬ (x :: xs < y :: ys) := fun z => by
          rcases List.cons_lt_cons_iff.mp z with z | ⟨z, _⟩
          · exact hl z
          · exact h z
        rw [decide_eq_false this]
        cases e : Nat.blt x y with
        | false => rfl
        | true => exact absurd (Nat.le_of_ble_eq_true e) hl
mutual
theorem al_py : ∀ (a b : D), alD a b = true → PySem.W.alike (toPy a) (toPy b) = true
  | .non, b, h => by cases b <;> simp_all [alD, toPy, PySem.W.alike]
  | .bl _, b, h => by cases b <;> simp_all [alD, toPy, PySem.W.alike]
  | .int _, b, h => by cases b <;> simp_all [alD, toPy, PySem.W.alike]
  | .str _, b, h => by cases b <;> simp_all [alD, toPy, PySem.W.alike]
  | .tup xs, b, h => by
    cases b with
    | tup ys => simp only [toPy, PySem.W.alike]; exact als_py xs ys (by simpa [alD] using h)
    | _ => simp [alD] at h
  | .lst xs, b, h => by
    cases b with
    | lst ys => simp only [toPy, PySem.W.alike]; exact als_py xs ys (by simpa [alD] using h)
    | _ => simp [alD] at h
  | .scr _, b, h => by simp [alD] at h
  | .dct _, b, h => by simp [alD] at h
  | .fn _, b, h => by simp [alD] at h
  | .obj _, b, h => by simp [alD] at h
theorem als_py : ∀ (a b : List D), alDs a b = true → PySem.W.alikeAll (toPys a) (toPys b) = true
  | [], b, h => by cases b <;> simp [toPys, PySem.W.alikeAll]
  | x :: xs, [], h => by simp [toPys, PySem.W.alikeAll]
  | x :: xs, y :: ys, h => by
    simp only [alDs, Bool.and_eq_true] at h
    simp only [toPys, PySem.W.alikeAll, Bool.and_eq_true]
    exact ⟨al_py x y h.1, als_py xs ys h.2⟩
end
theorem lex_end : PyProof.Rows.lexLt itemOrd (PySem.W.keyToksAll []) (PySem.W.keyToksAll []) = false := lex_irrefl _
mutual
theorem lt_py : ∀ (a b : D) (n m : Nat), sh n a = true → sh m b = true → alD a b = true → PySem.W.dataLt (toPy a) (toPy b) = ltB a b
  | .non, b, n, m, ha, hb, h => by
    cases b with
    | non => simp only [toPy, ltB, PySem.W.dataLt]; exact lex_irrefl _
    | _ => simp [alD] at h
  | .bl x, b, n, m, ha, hb, h => by
    cases b with
    | bl y => simp only [toPy, ltB]; rw [PySem.W.dataLt_bool]; cases x <;> cases y <;> decide
    | _ => simp [alD] at h
  | .int x, b, n, m, ha, hb, h => by
    cases b with
    | int y => simp only [toPy, ltB]; rw [PySem.W.dataLt_int]
    | _ => simp [alD] at h
  | .str x, b, n, m, ha, hb, h => by
    cases b with
    | str y => simp only [toPy, ltB]; rw [PySem.W.dataLt_str, ltS_lt]
    | _ => simp [alD] at h
  | .tup xs, b, n, m, ha, hb, h => by
    cases b with
    | tup ys =>
      cases n with
      | zero => simp [sh] at ha
      | succ n =>
        cases m with
        | zero => simp [sh] at hb
        | succ m =>
          simp only [toPy, ltB]
          rw [PySem.W.dataLt_tuple]
          exact lts_py xs ys n m (by simpa [sh] using ha) (by simpa [sh] using hb) (by simpa [alD] using h)
    | _ => simp [alD] at h
  | .lst xs, b, n, m, ha, hb, h => by
    cases b with
    | lst ys =>
      cases n with
      | zero => simp [sh] at ha
      | succ n =>
        cases m with
        | zero => simp [sh] at hb
        | succ m =>
          simp only [toPy, ltB]
          rw [PySem.W.dataLt_list]
          exact lts_py xs ys n m (by simpa [sh] using ha) (by simpa [sh] using hb) (by simpa [alD] using h)
    | _ => simp [alD] at h
  | .scr _, b, n, m, ha, hb, h => by simp [alD] at h
  | .dct _, b, n, m, ha, hb, h => by simp [alD] at h
  | .fn _, b, n, m, ha, hb, h => by simp [alD] at h
  | .obj _, b, n, m, ha, hb, h => by simp [alD] at h
theorem lts_py : ∀ (a b : List D) (n m : Nat), shs n a = true → shs m b = true → alDs a b = true → PyProof.Rows.lexLt itemOrd (PySem.W.keyToksAll (toPys a)) (PySem.W.keyToksAll (toPys b)) = ltBs a b
  | [], [], n, m, ha, hb, h => lex_end
  | [], y :: ys, n, m, ha, hb, h => by
    simp only [toPys, ltBs, PySem.W.keyToksAll]
    rw [PyProof.Rows.lex_diff (O := itemOrd) (by simp)]
    rfl
  | x :: xs, [], n, m, ha, hb, h => by
    simp only [toPys, ltBs, PySem.W.keyToksAll]
    rw [PyProof.Rows.lex_diff (O := itemOrd) (by simp)]
    rfl
  | x :: xs, y :: ys, n, m, ha, hb, h => by
    simp only [alDs, shs, Bool.and_eq_true] at h ha hb
    simp only [toPys, ltBs]
    rw [PySem.W.dataLt_cons (al_py x y h.1), eqv_py x y n m ha.1 hb.1, lts_py xs ys n m ha.2 hb.2 h.2, lt_py x y n m ha.1 hb.1 h.1]
end
section
variable {X : Cx}
/-- tuples in order -/
def rLtT (K : PySem.W.Frag) (f : PyData → PyData → Bool) : R2 := fun x y H Q => ∃ ds es, Dp K H x (.tuple ds) ∧ Dp K H y (.tuple es) ∧ PySem.W.alikeAll ds es = true ∧ (PyData.tuple ds).depth ≤ 60 ∧ Q (.bl (f (.tuple ds) (.tuple es))) H
theorem room60 {u : Nat} {d e : PyData} (hu : u + 65 < cLine) (h : d.depth ≤ 60) : u + min d.depth e.depth < cLine := by
  have := Nat.min_le_left d.depth e.depth
  omega
theorem op_ltT (hu : X.A.units + 65 < cLine) : OpR X (compareOp .Lt) (rLtT X.K fun a b => PySem.W.dataLt a b) := by
  intro pins s σ H x y v u Q I rx ry h
  obtain ⟨ds, es, h1, h2, h3, h4, q⟩ := h
  obtain ⟨as, r1⟩ := Dp.reads I _ x v h1 rx
  obtain ⟨bs, r2⟩ := Dp.reads I _ y u h2 ry
  exact PySem.W.lt_data r1 r2 (by simpa [PySem.W.alike] using h3) (by intro z; cases z) (room60 hu h4) ⟨.bl _, H, I, rfl, q⟩
theorem op_gtT (hu : X.A.units + 65 < cLine) : OpR X (compareOp .Gt) (rLtT X.K fun a b => PySem.W.dataLt b a) := by
  intro pins s σ H x y v u Q I rx ry h
  obtain ⟨ds, es, h1, h2, h3, h4, q⟩ := h
  obtain ⟨as, r1⟩ := Dp.reads I _ x v h1 rx
  obtain ⟨bs, r2⟩ := Dp.reads I _ y u h2 ry
  exact PySem.W.gt_data r1 r2 (by simpa [PySem.W.alike] using h3) (by intro z; cases z) (room60 hu h4) ⟨.bl _, H, I, rfl, q⟩
theorem op_leT (hu : X.A.units + 65 < cLine) : OpR X (compareOp .LtE) (rLtT X.K fun a b => !PySem.W.dataLt b a) := by
  intro pins s σ H x y v u Q I rx ry h
  obtain ⟨ds, es, h1, h2, h3, h4, q⟩ := h
  obtain ⟨as, r1⟩ := Dp.reads I _ x v h1 rx
  obtain ⟨bs, r2⟩ := Dp.reads I _ y u h2 ry
  exact PySem.W.le_data r1 r2 (by simpa [PySem.W.alike] using h3) (by intro z; cases z) (room60 hu h4) ⟨.bl _, H, I, rfl, q⟩
theorem op_geT (hu : X.A.units + 65 < cLine) : OpR X (compareOp .GtE) (rLtT X.K fun a b => !PySem.W.dataLt a b) := by
  intro pins s σ H x y v u Q I rx ry h
  obtain ⟨ds, es, h1, h2, h3, h4, q⟩ := h
  obtain ⟨as, r1⟩ := Dp.reads I _ x v h1 rx
  obtain ⟨bs, r2⟩ := Dp.reads I _ y u h2 ry
  exact PySem.W.ge_data r1 r2 (by simpa [PySem.W.alike] using h3) (by intro z; cases z) (room60 hu h4) ⟨.bl _, H, I, rfl, q⟩
end
/-- two tuples compared -/
theorem tup_cmp {C : Cn} {G H : Hp} {x y : V} {a b : List D} (s : Sub G H) (h1 : ORep C G H x (.tup a)) (h2 : ORep C G H y (.tup b)) (hs : (alDs a b && shs 49 a && shs 49 b) = true) :
    Dp C.K H x (.tuple (toPys a)) ∧ Dp C.K H y (.tuple (toPys b)) ∧ PySem.W.alikeAll (toPys a) (toPys b) = true ∧ (PyData.tuple (toPys a)).depth ≤ 60 ∧ shs 49 a = true ∧ shs 49 b = true ∧ alDs a b = true := by
  simp only [Bool.and_eq_true] at hs
  obtain ⟨⟨e1, e2⟩, e3⟩ := hs
  have d1 := Rep.dp 50 (h1.atH s) (by simpa [sh] using e2)
  have d2 := Rep.dp 50 (h2.atH s) (by simpa [sh] using e3)
  exact ⟨d1.1, d2.1, als_py a b e1, Nat.le_trans (depth_py 50 (.tup a) (by simpa [sh] using e2)) (by omega), e2, e3, e1⟩
mutual
theorem eqD_al : ∀ (a b : D), alD a b = true → eqD a b = true → a = b
  | .non, b, h, e => by cases b <;> simp_all [alD]
  | .bl _, b, h, e => by cases b <;> simp_all [alD, eqD]
  | .int _, b, h, e => by cases b <;> simp_all [alD, eqD]
  | .str _, b, h, e => by cases b <;> simp_all [alD, eqD]
  | .tup xs, b, h, e => by
    cases b with
    | tup ys => exact congrArg _ (eqDs_al xs ys (by simpa [alD] using h) (by simpa [eqD] using e))
    | _ => simp [alD] at h
  | .lst xs, b, h, e => by
    cases b with
    | lst ys => exact congrArg _ (eqDs_al xs ys (by simpa [alD] using h) (by simpa [eqD] using e))
    | _ => simp [alD] at h
  | .scr _, b, h, e => by simp [alD] at h
  | .dct _, b, h, e => by simp [alD] at h
  | .fn _, b, h, e => by simp [alD] at h
  | .obj _, b, h, e => by simp [alD] at h
theorem eqDs_al : ∀ (a b : List D), alDs a b = true → eqDs a b = true → a = b
  | [], [], _, _ => rfl
  | [], _ :: _, _, e => by simp [eqDs] at e
  | _ :: _, [], _, e => by simp [eqDs] at e
  | x :: xs, y :: ys, h, e => by
    simp only [alDs, eqDs, Bool.and_eq_true] at h e
    rw [eqD_al x y h.1 e.1, eqDs_al xs ys h.2 e.2]
end
abbrev toks (d : D) : List (Int ⊕ List Nat) := PySem.W.keyToks (toPy d)
def leT (a b : D) : Bool := !PyProof.Rows.lexLt itemOrd (toks b) (toks a)
theorem leT_trans (a b c : D) (h1 : leT a b = true) (h2 : leT b c = true) : leT a c = true := by
  unfold leT at *
  simp only [Bool.not_eq_true'] at *
  cases e : PyProof.Rows.lexLt itemOrd (toks c) (toks a) with
  | false => rfl
  | true =>
    rcases PyProof.Rows.lex_negTrans (O := itemOrd) (toks c) (toks b) (toks a) e with z | z
    · rw [h2] at z; cases z
    · rw [h1] at z; cases z
theorem leT_total (a b : D) : (leT a b || leT b a) = true := by
  unfold leT
  cases e : PyProof.Rows.lexLt itemOrd (toks b) (toks a) with
  | false => rfl
  | true =>
    cases e2 : PyProof.Rows.lexLt itemOrd (toks a) (toks b) with
    | false => rfl
    | true =>
      have := PyProof.Rows.lex_trans (O := itemOrd) _ _ _ e e2
      rw [PyProof.Rows.lex_irrefl] at this; cases this
theorem leT_anti {a b : D} (n m : Nat) (ha : sh n a = true) (hb : sh m b = true) (h : alD a b = true) (h1 : leT a b = true) (h2 : leT b a = true) : a = b := by
  refine eqD_al a b h ?_
  have e : toks a = toks b := PyProof.Rows.lex_total (O := itemOrd) _ _ (by simpa [leT] using h2) (by simpa [leT] using h1)
  rw [← eqv_py a b n m ha hb]
  cases q : PyData.eqv (toPy a) (toPy b) with
  | true => rfl
  | false =>
    have := (PySem.W.toks_eqv (toPy a) (toPy b) (al_py a b h)).2 q [.inl 0] [.inl 1]
    have e' : PySem.W.keyToks (toPy a) = PySem.W.keyToks (toPy b) := e
    rw [e', PySem.W.lex_pre, PyProof.Rows.lex_irrefl, PyProof.Rows.lex_diff (O := itemOrd) (by simp)] at this
    cases this
theorem alAll_ok : ∀ {ds : List D}, alAll ds = true → ∀ a ∈ ds, ∀ b ∈ ds, alD a b = true
  | [], _, a, ha, _, _ => by simp at ha
  | x :: r, h, a, ha, b, hb => by
    simp only [alAll, Bool.and_eq_true, List.all_eq_true] at h
    obtain ⟨⟨h1, h2⟩, h3⟩ := h
    rcases List.mem_cons.mp ha with e | e <;> rcases List.mem_cons.mp hb with f | f
    · subst e; subst f; exact h1
    · subst e; exact (h2 b f).1
    · subst f; exact (h2 a e).2
    · exact alAll_ok h3 a e b f
theorem shs_mem {n : Nat} : ∀ {ds : List D}, shs n ds = true → ∀ a ∈ ds, sh n a = true
  | [], _, a, ha => by simp at ha
  | x :: r, h, a, ha => by
    simp only [shs, Bool.and_eq_true] at h
    rcases List.mem_cons.mp ha with e | e
    · subst e; exact h.1
    · exact shs_mem h.2 a e
theorem lt_leT {a b : D} (ha : sh 49 a = true) (hb : sh 49 b = true) (h : alD a b = true) : leT b a = !ltB a b := by
  unfold leT
  have := lt_py a b 49 49 ha hb h
  unfold PySem.W.dataLt at this
  rw [this]
theorem insB_perm (x : D) : ∀ ds : List D, (insB x ds).Perm (x :: ds)
  | [] => .refl _
  | y :: r => by
    unfold insB
    split
    · exact ((insB_perm x r).cons y).trans (.swap x y r)
    · exact .refl _
theorem sortB_perm : ∀ ds : List D, (sortB ds).Perm ds
  | [] => .refl _
  | x :: r => (insB_perm x (sortB r)).trans ((sortB_perm r).cons x)
theorem insB_sorted {x : D} : ∀ {ds : List D}, (∀ a ∈ x :: ds, ∀ b ∈ x :: ds, alD a b = true) → (∀ a ∈ x :: ds, sh 49 a = true) → ds.Pairwise (fun a b => leT a b = true) → (insB x ds).Pairwise fun a b => leT a b = true
  | [], _, _, _ => by simp [insB]
  | y :: r, ha, hs, hp => by
    obtain ⟨h1, h2⟩ := List.pairwise_cons.mp hp
    have hx : x ∈ x :: y :: r := by simp
    have hy : y ∈ x :: y :: r := by simp
    unfold insB
    split
    · rename_i hl
      refine List.pairwise_cons.mpr ⟨fun b hb => ?_, insB_sorted (fun a h b h' => ha a (by rcases List.mem_cons.mp h with e | e <;> simp [e]) b (by rcases List.mem_cons.mp h' with e | e <;> simp [e])) (fun a h => hs a (by rcases List.mem_cons.mp h with e | e <;> simp [e])) h2⟩
      rcases List.mem_cons.mp ((insB_perm x r).mem_iff.mp hb) with e | e
      · subst e
        have t := leT_total y b
        rw [lt_leT (hs y hy) (hs b hx) (ha y hy b hx), hl, Bool.not_true, Bool.or_false] at t
        exact t
      · exact h1 b e
    · rename_i hl
      have hxy : leT x y = true := by rw [lt_leT (hs y hy) (hs x hx) (ha y hy x hx)]; simpa using hl
      refine List.pairwise_cons.mpr ⟨fun b hb => ?_, hp⟩
      rcases List.mem_cons.mp hb with e | e
      · subst e; exact hxy
      · exact leT_trans x y b hxy (h1 b e)
theorem sortB_sorted : ∀ {ds : List D}, (∀ a ∈ ds, ∀ b ∈ ds, alD a b = true) → (∀ a ∈ ds, sh 49 a = true) → (sortB ds).Pairwise fun a b => leT a b = true
  | [], _, _ => .nil
  | x :: r, ha, hs => by
    have up : ∀ a, a ∈ x :: sortB r → a ∈ x :: r := fun a h => by
      rcases List.mem_cons.mp h with e | e
      · subst e; exact List.mem_cons_self
      · exact List.mem_cons_of_mem _ ((sortB_perm r).mem_iff.mp e)
    exact insB_sorted (fun a h b h' => ha a (up a h) b (up b h')) (fun a h => hs a (up a h)) (sortB_sorted (fun a h b h' => ha a (by simp [h]) b (by simp [h'])) fun a h => hs a (by simp [h]))
theorem sortB_eq {ds : List D} (ha : ∀ a ∈ ds, ∀ b ∈ ds, alD a b = true) (hs : ∀ a ∈ ds, sh 49 a = true) : ds.mergeSort leT = sortB ds := by
  refine List.Perm.eq_of_pairwise (le := fun a b => leT a b = true) (fun a b h h' h1 h2 => ?_) (List.pairwise_mergeSort leT_trans leT_total ds) (sortB_sorted ha hs) ((List.mergeSort_perm ds leT).trans (sortB_perm ds).symm)
  have m1 := (List.mergeSort_perm ds leT).mem_iff.mp h
  have m2 := (sortB_perm ds).mem_iff.mp h'
  exact leT_anti 49 49 (hs a m1) (hs b m2) (ha a m1 b m2) h1 h2
section
variable {X : Cx} {T : Tab}
/-- sorted(list) of data -/
def rSortedD (K : PySem.W.Frag) : List V → Hp → VK → Prop := fun xs H Q => ∃ (a : Addr) (bs : List (V × PyData)), xs = [.ref a] ∧ SqL K H a (bs.map (·.1)) ∧ DpAll K H (bs.map (·.1)) (bs.map (·.2)) ∧ PySem.W.AllAlike (bs.map (·.2)) ∧ PySem.W.SortableE (bs.map (·.2)) ∧ (∀ b ∈ bs, b.2.depth ≤ 60) ∧
  ∀ p, H p = none → Q (.ref p) (upd H p (.lst ((bs.mergeSort (PySem.W.dataLe false (·.2))).map (·.1))))
theorem each_rel : ∀ {bs : List (V × PyData)} {us : List Value}, Vals (bs.map (·.1)) us → PySem.W.EachIs (fun u (b : V × PyData) => RelV b.1 u) us bs
  | [], [], _ => .nil
  | b :: bs, u :: us, .cons h r => .cons h (each_rel r)
theorem each_back : ∀ {bs : List (V × PyData)} {us : List Value}, PySem.W.EachIs (fun u (b : V × PyData) => RelV b.1 u) us bs → Vals (bs.map (·.1)) us
  | [], [], _ => .nil
  | b :: bs, u :: us, .cons h r => .cons h (each_back r)
theorem each_reads {pins : List (Addr × Obj)} {σ : L2.St} {H : Hp} {s : Shared} (I : Inv X pins σ H s) : ∀ {bs : List (V × PyData)} {us : List Value}, DpAll X.K H (bs.map (·.1)) (bs.map (·.2)) → Vals (bs.map (·.1)) us → PySem.W.EachIs (fun u (b : V × PyData) => ∃ as, Reads s.heap u b.2 as) us bs
  | [], [], _, _ => .nil
  | b :: bs, u :: us, .cons hd hr, .cons h r => .cons (Dp.reads I b.2 b.1 u hd h) (each_reads I hr r)
theorem cr_sortedD (hu : X.A.units + 65 < cLine) : CallR X (.builtin "sorted") (rSortedD X.K) := by
  intro pins s σ H vs us Q I r h
  obtain ⟨a, bs, rfl, hs, hd, hal, hso, hdp, q⟩ := h
  obtain ⟨its, rv, hl, hz⟩ := I.list hs
  rw [Vals.ref1 r]
  have hz : bs.length ≤ sizeLine := by simpa using hz
  refine PySem.W.sorted_dataE (bs := bs) (enc := (·.2)) (R := fun u b => RelV b.1 u) hl.isList (each_rel rv) (each_reads I hd rv) hal hso hz (fun b hb => by have := hdp b hb; omega) fun out h1 h2 => ?_
  obtain ⟨ep, he'⟩ := PyProof.Rows.sortedAll_at s.heap its out.toArray
  refine ⟨.ref _, upd H (s.heap.objs.size + 1) (.lst ((bs.mergeSort (PySem.W.dataLe false (·.2))).map (·.1))), I.laid (t' := s.toks) (fun _ _ => PyProof.Rows.sortedAll_old) (Nat.le_succ _) ⟨?_, out, ep, each_back h2, he'⟩, rfl, q _ (I.hok.fresh (Nat.le_succ _))⟩
  rw [List.length_map, (List.mergeSort_perm bs _).length_eq]
  exact hz
theorem ko_keys : ∀ {kvs : List Ent3} {xs : List EntV}, KO kvs xs → Vals (kvs.map fun e => V.ref e.2.1) (xs.map fun x => Value.ref x.2.1)
  | _, _, .nil => .nil
  | _, _, .cons h t => .cons (by show Value.ref _ = Value.ref _; rw [h.2.1]) (ko_keys t)
/-- sorted(dict) -/
def rSortO (P : Program) (w : World) (K : PySem.W.Frag) : List V → Hp → VK → Prop := fun xs H Q => ∃ (a : Addr) (kvs : List Ent3) (bs : List (V × PyData)), xs = [.ref a] ∧ H a = some (dO P w a kvs) ∧ bs.map (·.1) = kvs.map (fun e => V.ref e.2.1) ∧ DpAll K H (bs.map (·.1)) (bs.map (·.2)) ∧ PySem.W.AllAlike (bs.map (·.2)) ∧ PySem.W.SortableE (bs.map (·.2)) ∧ (∀ b ∈ bs, b.2.depth ≤ 60) ∧
  ∀ p, H p = none → Q (.ref p) (upd H p (.lst ((bs.mergeSort (PySem.W.dataLe false (·.2))).map (·.1))))
theorem cr_sortedO (hc : X.calm = true) (hu : X.A.units + 65 < cLine) : CallR X (.builtin "sorted") (rSortO X.prog X.w X.K) := by
  intro pins s σ H vs us Q I r h
  obtain ⟨a, kvs, bs, rfl, hq, hb, hd, hal, hso, hdp, q⟩ := h
  rw [Vals.ref1 r]
  obtain ⟨⟨hz, hsy, xs, rel, o, es, ep, h1, h2, h3, h4, h5⟩, _⟩ := (show ObjOk X.prog X.w H s.heap a (dO X.prog X.w a kvs) from I.hok a _ hq)
  have hk : es.toList.map (·.key) = xs.map fun x => Value.ref x.2.1 := by rw [h4, List.map_map]; rfl
  have hv : Vals (bs.map (·.1)) (es.toList.map (·.key)) := by
    rw [hb, hk]
    exact ko_keys rel
  have hzb : bs.length ≤ sizeLine := by
    have := congrArg List.length hb
    rw [List.length_map, List.length_map] at this
    omega
  refine PySem.W.sorted_dictE (bs := bs) (enc := (·.2)) (R := fun u b => RelV b.1 u) hsy (I.ok.hd hc) ⟨o, h1, h2, h3⟩ (each_rel hv) (each_reads I hd hv) hal hso hzb (fun b hb => by have := hdp b hb; omega) fun h1 h' tk n out e1 e2 k1 k2 k3 => ?_
  have I1 : Inv X pins σ H { s with heap := h1, toks := tk } := I.kept (t' := tk) k1
  refine ⟨.ref h1.objs.size, upd H h1.objs.size (.lst ((bs.mergeSort (PySem.W.dataLe false (·.2))).map (·.1))), I1.laid (t' := tk) k2 (Nat.le_refl _) ⟨?_, out, n, each_back e2, ?_⟩, rfl, q _ (I1.hok.fresh (Nat.le_refl _))⟩
  · rw [List.length_map, (List.mergeSort_perm bs _).length_eq]
    exact hzb
  · exact k3
theorem cr_sortedA (hc : X.calm = true) (hu : X.A.units + 65 < cLine) : CallR X (.builtin "sorted") (fun xs H Q => rSortedD X.K xs H Q ∨ rSortO X.prog X.w X.K xs H Q) := (cr_sortedD hu).or (cr_sortedO hc hu)
def toB (C : Cn) : List V → List D → List (V × D)
  | v :: vs, d :: ds => (v, d) :: toB C vs ds
  | _, _ => []
theorem toB_ok {C : Cn} {G : Hp} : ∀ {vs : List V} {ds : List D}, Reps C G vs ds → (toB C vs ds).map (·.1) = vs ∧ (toB C vs ds).map (·.2) = ds ∧ ∀ p ∈ toB C vs ds, Rep C G p.1 p.2
  | _, _, .nil => ⟨rfl, rfl, fun p h => by simp [toB] at h⟩
  | _, _, .cons h r => by
    obtain ⟨h1, h2, h3⟩ := toB_ok r
    refine ⟨by simp [toB, h1], by simp [toB, h2], fun p hp => ?_⟩
    rcases List.mem_cons.mp hp with e | e
    · subst e; exact h
    · exact h3 p e
theorem reps_of {C : Cn} {G : Hp} : ∀ {bs : List (V × D)}, (∀ p ∈ bs, Rep C G p.1 p.2) → Reps C G (bs.map (·.1)) (bs.map (·.2))
  | [], _ => .nil
  | b :: bs, h => .cons (h b (by simp)) (reps_of fun p hp => h p (by simp [hp]))
theorem toPys_map : ∀ ds : List D, toPys ds = ds.map toPy
  | [] => rfl
  | d :: ds => by simp [toPys, toPys_map ds]
theorem ds_sorted {bs : List (V × D)} (ha : ∀ a ∈ bs.map (·.2), ∀ b ∈ bs.map (·.2), alD a b = true) (hs : ∀ a ∈ bs.map (·.2), sh 49 a = true) :
    ((bs.map fun p => (p.1, toPy p.2)).mergeSort (PySem.W.dataLe false (·.2))).map (·.1) = (bs.mergeSort fun p q => leT p.2 q.2).map (·.1) ∧ (bs.mergeSort fun p q => leT p.2 q.2).map (·.2) = sortB (bs.map (·.2)) := by
  constructor
  · have := List.map_mergeSort (r := fun p q : V × D => leT p.2 q.2) (s := PySem.W.dataLe false (fun b : V × PyData => b.2)) (f := fun p : V × D => (p.1, toPy p.2)) (l := bs) (fun a _ b _ => by rw [PySem.W.dataLe_eq]; rfl)
    rw [← this, List.map_map]
    rfl
  · rw [← sortB_eq ha hs]
    exact List.map_mergeSort (fun a _ b _ => rfl)
theorem sortable_ok {ds : List D} (h : sortable ds = true) : (∀ a ∈ ds, ∀ b ∈ ds, alD a b = true) ∧ (∀ a ∈ ds, sh 49 a = true) ∧ PySem.W.SortableE (ds.map toPy) ∧ ds.length ≤ sizeLine ∧ shs 49 ds = true := by
  simp only [sortable, Bool.and_eq_true, Bool.or_eq_true, List.all_eq_true] at h
  obtain ⟨⟨⟨h1, h2⟩, h3⟩, h4⟩ := h
  refine ⟨alAll_ok h1, shs_mem h3, ?_, ?_, h3⟩
  · rcases h2 with (h2 | h2) | h2
    · refine .inl (.inl fun d hd => ?_)
      obtain ⟨e, he, rfl⟩ := List.mem_map.mp hd
      have := h2 e he
      unfold fullT at this
      split at this
      · exact ⟨_, _, rfl⟩
      · cases this
    · refine .inl (.inr fun d hd => ?_)
      obtain ⟨e, he, rfl⟩ := List.mem_map.mp hd
      have h5 := h2 e he
      have h6 := alAll_ok h1 e he e he
      unfold plainK at h5
      split at h5
      · cases h5
      · cases h5
      · rename_i n1 n2
        constructor
        · intro z
          cases e <;> simp_all [toPy, alD]
        · intro xs z
          cases e <;> simp_all [toPy, alD]
    · unfold headE at h2
      split at h2
      · rename_i r
        exact .inr ⟨r.map toPy, rfl⟩
      · cases h2
  · have := Nat.le_of_ble_eq_true h4
    rw [sizeLine_eq]; exact this
theorem cs_sorted : CallS (cn X T) .sortedOf (fun xs H Q => rSortedD X.K xs H Q ∨ rSortO X.prog X.w X.K xs H Q) := fun σ vs H Q h => by
  have run_uni' : ∀ (ds : List D) z, Op.sortedOf.run ds = some z → ∃ d, ds = [d] := fun ds z h => by
    match ds, h with
    | [d], _ => exact ⟨d, rfl⟩
    | [], h => cases h
    | [_, _], h => cases h
    | [_, _, _], h => cases h
    | _ :: _ :: _ :: _ :: _, h => cases h
  obtain ⟨A, F, G, st, ds0, z, rel, hr, hz, ok⟩ := h
  obtain ⟨d, rfl⟩ := run_uni' ds0 z hz
  match vs, hr with
  | [x], hr =>
    have h1 := hr.1
    obtain ⟨ds, hd0, hso, rfl⟩ : ∃ ds, (d = .lst ds ∨ ∃ kvs, d = .dct kvs ∧ ds = kvs.map (·.1)) ∧ sortable ds = true ∧ z = (true, .lst (sortB ds)) := by
      have hz : Op.sort1 d = some z := hz
      cases d with
      | lst ds =>
        simp only [Op.sort1] at hz
        split at hz
        · rename_i q; cases hz; exact ⟨ds, .inl rfl, q, rfl⟩
        · cases hz
      | dct kvs =>
        simp only [Op.sort1] at hz
        split at hz
        · rename_i q; cases hz; exact ⟨_, .inr ⟨kvs, rfl, rfl⟩, q, rfl⟩
        · cases hz
      | _ => cases hz
    obtain ⟨ha, hs, hk, hlen, hsh⟩ := sortable_ok hso
    obtain ⟨p, ws, rfl, g1, r1⟩ : ∃ p ws, x = .ref p ∧ (H p = some (.lst ws) ∨ ∃ kv, H p = some (dO X.prog X.w p kv) ∧ ws = kv.map fun e => V.ref e.2.1) ∧ Reps (cn X T) G ws ds := by
      rcases hd0 with rfl | ⟨kvs, rfl, rfl⟩
      · obtain ⟨p, ws, h2, h3, h4⟩ := h1.lst_inv rel.subG
        exact ⟨p, ws, h2, .inl h3, h4⟩
      · obtain ⟨p, kv, h2, h3, h4⟩ := h1.dct rel.subG
        exact ⟨p, _, h2, .inr ⟨kv, h3, rfl⟩, h4.keys⟩
    obtain ⟨e1, e2, e3⟩ := toB_ok r1
    have hd := Reps.dp 49 (r1.mono rel.subG) hsh
    have m1 : ((toB (cn X T) ws ds).map fun p => (p.1, toPy p.2)).map (·.1) = ws := by rw [List.map_map]; exact e1
    have m2 : ((toB (cn X T) ws ds).map fun p => (p.1, toPy p.2)).map (·.2) = ds.map toPy := by
      rw [List.map_map]
      have : ((fun p : V × PyData => p.2) ∘ fun p : V × D => (p.1, toPy p.2)) = toPy ∘ (·.2) := rfl
      rw [this, ← List.map_map, e2]
    suffices hh : PySem.W.AllAlike (((toB (cn X T) ws ds).map fun p => (p.1, toPy p.2)).map (·.2)) ∧ (∀ b ∈ (toB (cn X T) ws ds).map fun p => (p.1, toPy p.2), b.2.depth ≤ 60) ∧ ∀ l, H l = none → Q (.ref l) (upd H l (.lst ((((toB (cn X T) ws ds).map fun p => (p.1, toPy p.2)).mergeSort (PySem.W.dataLe false (·.2))).map (·.1)))) by
      rcases g1 with g1 | ⟨kv, g1, hw⟩
      · exact .inl ⟨p, (toB (cn X T) ws ds).map fun p => (p.1, toPy p.2), rfl, .inl (.inl (by rw [m1]; exact g1)), by rw [m1, m2, ← toPys_map]; exact hd.1, hh.1, by rw [m2]; exact hk, hh.2.1, hh.2.2⟩
      · exact .inr ⟨p, kv, (toB (cn X T) ws ds).map fun p => (p.1, toPy p.2), rfl, g1, by rw [m1]; exact hw, by rw [m1, m2, ← toPys_map]; exact hd.1, hh.1, by rw [m2]; exact hk, hh.2.1, hh.2.2⟩
    refine ⟨?_, ?_, fun l hl => ?_⟩
    · rw [m2]
      intro a ha' b hb'
      obtain ⟨a', q1, rfl⟩ := List.mem_map.mp ha'
      obtain ⟨b', q2, rfl⟩ := List.mem_map.mp hb'
      exact al_py a' b' (ha a' q1 b' q2)
    · intro b hb
      obtain ⟨b', q1, rfl⟩ := List.mem_map.mp hb
      have : b'.2 ∈ ds := by rw [← e2]; exact List.mem_map.mpr ⟨b', q1, rfl⟩
      exact Nat.le_trans (depth_py 49 b'.2 (hs _ this)) (by omega)
    · obtain ⟨k1, k2⟩ := ds_sorted (bs := toB (cn X T) ws ds) (by rw [e2]; exact ha) (by rw [e2]; exact hs)
      rw [k1]
      refine ok.newL rel hl ?_
      rw [e2] at k2
      rw [← k2]
      refine reps_of fun b hb => e3 b ((List.mergeSort_perm _ _).mem_iff.mp hb)
end
end PV
set_option Elab.async false
set_option linter.all false
set_option maxRecDepth 100000
set_option maxHeartbeats 4000000
namespace PV
open PySem PySem.Spec PyProof.Rows L2
section
variable {X : Cx} {T : Tab}
abbrev rOrdS (f : List Nat → List Nat → Bool) : R2 := fun x y H Q => ∃ i j, x = .str i ∧ y = .str j ∧ Q (.bl (f i.cps.toList j.cps.toList)) H
mutual
theorem alD_comm : ∀ a b : D, alD a b = alD b a
  | .non, b => by cases b <;> simp [alD]
  | .bl _, b => by cases b <;> simp [alD]
  | .int _, b => by cases b <;> simp [alD]
  | .str _, b => by cases b <;> simp [alD]
  | .tup xs, b => by cases b <;> simp [alD]; exact alDs_comm xs _
  | .lst xs, b => by cases b <;> simp [alD]; exact alDs_comm xs _
  | .scr _, b => by cases b <;> simp [alD]
  | .dct _, b => by cases b <;> simp [alD]
  | .fn _, b => by cases b <;> simp [alD]
  | .obj _, b => by cases b <;> simp [alD]
theorem alDs_comm : ∀ a b : List D, alDs a b = alDs b a
  | [], [] => rfl
  | [], _ :: _ => by simp [alDs]
  | _ :: _, [] => by simp [alDs]
  | x :: xs, y :: ys => by simp only [alDs]; rw [alD_comm x y, alDs_comm xs ys]
end
theorem ops_lt : OpS (cn X T) .lt (fun x y H Q => (rI0 fun i j => .bl (decide (i < j))) x y H Q ∨ (rOrdS (fun i j => decide (i < j)) x y H Q ∨ rLtT X.K (fun a b => PySem.W.dataLt a b) x y H Q)) := fun σ x y H Q h => by
  obtain ⟨A, F, G, st, d, e, z, rel, h1, h2, hz, ok⟩ := h.two
  simp only [Op.run, Op.run2] at hz
  unfold Op.lt2 at hz
  split at hz
  · cases hz; exact .inl ⟨_, _, h1.int_inv, h2.int_inv, ok.pure rel (.bl _)⟩
  · rename_i a b
    cases hz
    obtain ⟨rfl, _⟩ := h1.str_inv
    obtain ⟨rfl, _⟩ := h2.str_inv
    refine .inr (.inl ⟨_, _, rfl, rfl, ?_⟩)
    show Q (.bl (decide (a < b))) H
    rw [← ltS_lt]
    exact ok.pure rel (.bl _)
  · rename_i a b
    split at hz
    · rename_i hs
      cases hz
      obtain ⟨p1, p2, p3, p4, p5, p6, p7⟩ := tup_cmp rel.subG h1 h2 hs
      refine .inr (.inr ⟨_, _, p1, p2, p3, p4, ?_⟩)
      have e := lt_py (.tup a) (.tup b) 50 50 (by simpa [sh] using p5) (by simpa [sh] using p6) (by simpa [alD] using p7)
      simp only [toPy, ltB] at e
      dsimp only
      rw [e]
      exact ok.pure rel (.bl _)
    · cases hz
  · cases hz
theorem ops_gt : OpS (cn X T) .gt (fun x y H Q => (rI0 fun i j => .bl (decide (j < i))) x y H Q ∨ (rOrdS (fun i j => decide (j < i)) x y H Q ∨ rLtT X.K (fun a b => PySem.W.dataLt b a) x y H Q)) := fun σ x y H Q h => by
  obtain ⟨A, F, G, st, d, e, z, rel, h1, h2, hz, ok⟩ := h.two
  simp only [Op.run, Op.run2] at hz
  unfold Op.lt2 at hz
  split at hz
  · cases hz; exact .inl ⟨_, _, h1.int_inv, h2.int_inv, ok.pure rel (.bl _)⟩
  · rename_i a b
    cases hz
    obtain ⟨rfl, _⟩ := h1.str_inv
    obtain ⟨rfl, _⟩ := h2.str_inv
    refine .inr (.inl ⟨_, _, rfl, rfl, ?_⟩)
    show Q (.bl (decide (a < b))) H
    rw [← ltS_lt]
    exact ok.pure rel (.bl _)
  · rename_i a b
    split at hz
    · rename_i hs
      cases hz
      obtain ⟨p1, p2, p3, p4, p5, p6, p7⟩ := tup_cmp rel.subG h2 h1 hs
      refine .inr (.inr ⟨_, _, p2, p1, by rw [PySem.W.alikeAll_comm]; exact p3, Nat.le_trans (depth_py 50 (.tup b) (by simpa [sh] using p6)) (by omega), ?_⟩)
      have e := lt_py (.tup a) (.tup b) 50 50 (by simpa [sh] using p5) (by simpa [sh] using p6) (by simpa [alD] using p7)
      simp only [toPy, ltB] at e
      dsimp only
      rw [e]
      exact ok.pure rel (.bl _)
    · cases hz
  · cases hz
theorem ops_le : OpS (cn X T) .le (fun x y H Q => (rI0 fun i j => .bl (decide (i ≤ j))) x y H Q ∨ (rOrdS (fun i j => !decide (j < i)) x y H Q ∨ rLtT X.K (fun a b => !PySem.W.dataLt b a) x y H Q)) := fun σ x y H Q h => by
  obtain ⟨A, F, G, st, d, e, z, rel, h1, h2, hz, ok⟩ := h.two
  simp only [Op.run, Op.run2] at hz
  unfold Op.le2 at hz
  split at hz
  · cases hz; exact .inl ⟨_, _, h1.int_inv, h2.int_inv, ok.pure rel (.bl _)⟩
  · rename_i a b
    cases hz
    obtain ⟨rfl, _⟩ := h1.str_inv
    obtain ⟨rfl, _⟩ := h2.str_inv
    refine .inr (.inl ⟨_, _, rfl, rfl, ?_⟩)
    show Q (.bl (!decide (b < a))) H
    rw [← ltS_lt]
    exact ok.pure rel (.bl _)
  · rename_i a b
    split at hz
    · rename_i hs
      cases hz
      obtain ⟨p1, p2, p3, p4, p5, p6, p7⟩ := tup_cmp rel.subG h1 h2 hs
      refine .inr (.inr ⟨_, _, p1, p2, p3, p4, ?_⟩)
      have p8 : alDs b a = true := by rw [alDs_comm]; exact p7
      have e := lt_py (.tup b) (.tup a) 50 50 (by simpa [sh] using p6) (by simpa [sh] using p5) (by simpa [alD] using p8)
      simp only [toPy, ltB] at e
      dsimp only
      rw [e]
      exact ok.pure rel (.bl _)
    · cases hz
  · cases hz
theorem ops_ge : OpS (cn X T) .ge (fun x y H Q => (rI0 fun i j => .bl (decide (j ≤ i))) x y H Q ∨ (rOrdS (fun i j => !decide (i < j)) x y H Q ∨ rLtT X.K (fun a b => !PySem.W.dataLt a b) x y H Q)) := fun σ x y H Q h => by
  obtain ⟨A, F, G, st, d, e, z, rel, h1, h2, hz, ok⟩ := h.two
  simp only [Op.run, Op.run2] at hz
  unfold Op.le2 at hz
  split at hz
  · cases hz; exact .inl ⟨_, _, h1.int_inv, h2.int_inv, ok.pure rel (.bl _)⟩
  · rename_i a b
    cases hz
    obtain ⟨rfl, _⟩ := h1.str_inv
    obtain ⟨rfl, _⟩ := h2.str_inv
    refine .inr (.inl ⟨_, _, rfl, rfl, ?_⟩)
    show Q (.bl (!decide (b < a))) H
    rw [← ltS_lt]
    exact ok.pure rel (.bl _)
  · rename_i a b
    split at hz
    · rename_i hs
      cases hz
      obtain ⟨p1, p2, p3, p4, p5, p6, p7⟩ := tup_cmp rel.subG h2 h1 hs
      refine .inr (.inr ⟨_, _, p2, p1, by rw [PySem.W.alikeAll_comm]; exact p3, Nat.le_trans (depth_py 50 (.tup b) (by simpa [sh] using p6)) (by omega), ?_⟩)
      have p8 : alDs b a = true := by rw [alDs_comm]; exact p7
      have e := lt_py (.tup b) (.tup a) 50 50 (by simpa [sh] using p6) (by simpa [sh] using p5) (by simpa [alD] using p8)
      simp only [toPy, ltB] at e
      dsimp only
      rw [e]
      exact ok.pure rel (.bl _)
    · cases hz
  · cases hz
theorem opr_lt (hu : X.A.units + 65 < cLine) : OpR X (compareOp .Lt) (fun x y H Q => (rI0 fun i j => .bl (decide (i < j))) x y H Q ∨ (rOrdS (fun i j => decide (i < j)) x y H Q ∨ rLtT X.K (fun a b => PySem.W.dataLt a b) x y H Q)) := op_lt.or (op_lt_str.or (op_ltT hu))
theorem opr_gt (hu : X.A.units + 65 < cLine) : OpR X (compareOp .Gt) (fun x y H Q => (rI0 fun i j => .bl (decide (j < i))) x y H Q ∨ (rOrdS (fun i j => decide (j < i)) x y H Q ∨ rLtT X.K (fun a b => PySem.W.dataLt b a) x y H Q)) := op_gt.or (op_gt_str.or (op_gtT hu))
theorem opr_le (hu : X.A.units + 65 < cLine) : OpR X (compareOp .LtE) (fun x y H Q => (rI0 fun i j => .bl (decide (i ≤ j))) x y H Q ∨ (rOrdS (fun i j => !decide (j < i)) x y H Q ∨ rLtT X.K (fun a b => !PySem.W.dataLt b a) x y H Q)) := op_le.or (op_le_str.or (op_leT hu))
theorem opr_ge (hu : X.A.units + 65 < cLine) : OpR X (compareOp .GtE) (fun x y H Q => (rI0 fun i j => .bl (decide (j ≤ i))) x y H Q ∨ (rOrdS (fun i j => !decide (i < j)) x y H Q ∨ rLtT X.K (fun a b => !PySem.W.dataLt a b) x y H Q)) := op_ge.or (op_ge_str.or (op_geT hu))
def rInT (K : PySem.W.Frag) (neg : Bool) : R2 := fun x y H Q => ∃ d ds, Dp K H x d ∧ Dp K H y (.tuple ds) ∧ SeqAt.shaped d = true ∧ SeqAt.shaped (.tuple ds) = true ∧ Q (.bl (neg != ds.any fun z => PyData.eqv z d)) H
theorem op_inT (hu : X.A.units + 65 < cLine) : OpR X (compareOp .In) (rInT X.K false) := by
  intro pins s σ H x y v u Q I rx ry h
  obtain ⟨d, ds, hd, he, sd, se, q⟩ := h
  obtain ⟨as, r1⟩ := Dp.reads I d x v hd rx
  obtain ⟨bs, r2⟩ := Dp.reads I (.tuple ds) y u he ry
  exact SeqAt.in_tuple_reads r2 r1 (SeqAt.canLay_of_shaped se) (SeqAt.canLay_of_shaped sd) (room_in_shaped sd hu) ⟨.bl _, H, I, rfl, by simpa using q⟩
theorem op_notInT (hu : X.A.units + 65 < cLine) : OpR X (compareOp .NotIn) (rInT X.K true) := by
  intro pins s σ H x y v u Q I rx ry h
  obtain ⟨d, ds, hd, he, sd, se, q⟩ := h
  obtain ⟨as, r1⟩ := Dp.reads I d x v hd rx
  obtain ⟨bs, r2⟩ := Dp.reads I (.tuple ds) y u he ry
  exact SeqAt.notIn_tuple_reads r2 r1 (SeqAt.canLay_of_shaped se) (SeqAt.canLay_of_shaped sd) (room_in_shaped sd hu) ⟨.bl _, H, I, rfl, by simpa using q⟩
theorem any_py (d : D) (hd : sh 50 d = true) : ∀ (ds : List D), shs 50 ds = true → ((toPys ds).any fun z => PyData.eqv z (toPy d)) = ds.any fun y => eqD y d
  | [], _ => by simp [toPys]
  | x :: xs, h => by
    simp only [shs, Bool.and_eq_true] at h
    simp only [toPys, List.any_cons]
    rw [eqv_py x d 50 50 h.1 hd, any_py d hd xs h.2]
theorem ORep.dpL {C : Cn} {G H : Hp} {v : V} {ds : List D} (s : Sub G H) (h : ORep C G H v (.lst ds)) (e : shs 50 ds = true) : Dp C.K H v (.list (toPys ds)) ∧ SeqAt.shaped (.list (toPys ds)) = true := by
  obtain ⟨h1, h2⟩ := Rep.dp 51 (h.atH s) (by simpa [sh] using e)
  refine ⟨h1, ?_⟩
  unfold SeqAt.shaped
  have h3 : (PyData.list (toPys ds)).canLay0 = true := h2
  rw [h3, Bool.true_and]
  exact decide_eq_true (Nat.le_trans (depth_py 51 (.lst ds) (by simpa [sh] using e)) (by omega))
theorem ORep.dpT {C : Cn} {G H : Hp} {v : V} {ds : List D} (s : Sub G H) (h : ORep C G H v (.tup ds)) (e : shs 50 ds = true) : Dp C.K H v (.tuple (toPys ds)) ∧ SeqAt.shaped (.tuple (toPys ds)) = true := by
  obtain ⟨h1, h2⟩ := Rep.dp 51 (h.atH s) (by simpa [sh] using e)
  refine ⟨h1, ?_⟩
  unfold SeqAt.shaped
  have h3 : (PyData.tuple (toPys ds)).canLay0 = true := h2
  rw [h3, Bool.true_and]
  exact decide_eq_true (Nat.le_trans (depth_py 51 (.tup ds) (by simpa [sh] using e)) (by omega))
abbrev rInC (neg : Bool) : R2 := fun x y H Q => ∃ (c : Nat) (z : Str), x = .str ⟨#[c]⟩ ∧ y = .str z ∧ Q (.bl (neg != decide (c ∈ z.cps.toList))) H
theorem op_inC (neg : Bool) : OpR X (compareOp (if neg then .NotIn else .In)) (rInC neg) := by
  intro pins s σ H x y v u Q I rx ry h
  obtain ⟨c, z, h1, h2, q⟩ := h
  cases neg with
  | false => exact op_in_sign pins s σ H x y v u Q I rx ry ⟨c, z, h1, h2, by simpa using q⟩
  | true => exact op_notIn_sign pins s σ H x y v u Q I rx ry ⟨c, z, h1, h2, by simpa using q⟩
abbrev rInL (K : PySem.W.Frag) (neg : Bool) : R2 := fun x y H Q => ∃ d ds, Dp K H x d ∧ Dp K H y (.list ds) ∧ SeqAt.shaped d = true ∧ SeqAt.shaped (.list ds) = true ∧ Q (.bl (neg != ds.any fun z => PyData.eqv z d)) H
theorem op_inL (neg : Bool) (hu : X.A.units + 65 < cLine) : OpR X (compareOp (if neg then .NotIn else .In)) (rInL X.K neg) := by
  intro pins s σ H x y v u Q I rx ry h
  obtain ⟨d, ds, h1, h2, h3, h4, q⟩ := h
  cases neg with
  | false => exact op_inD hu pins s σ H x y v u Q I rx ry ⟨d, ds, h1, h2, h3, h4, by simpa using q⟩
  | true => exact op_notInD hu pins s σ H x y v u Q I rx ry ⟨d, ds, h1, h2, h3, h4, by simpa using q⟩
abbrev rMem (P : Program) (w : World) (K : PySem.W.Frag) (neg : Bool) : R2 := fun x y H Q => rInC neg x y H Q ∨ (rInL K neg x y H Q ∨ (rInT K neg x y H Q ∨ rInO P w neg x y H Q))
theorem memS {o : Op} {neg : Bool} (ho : ∀ a b, o.run [a, b] = Op.mem2 neg a b) : OpS (cn X T) o (rMem X.prog X.w X.K neg) := fun σ x y H Q h => by
  obtain ⟨A, F, G, st, d, e, z, rel, h1, h2, hz, ok⟩ := h.two
  rw [ho] at hz
  unfold Op.mem2 at hz
  split at hz
  · rename_i c b
    cases hz
    obtain ⟨rfl, _⟩ := h1.str_inv
    obtain ⟨rfl, _⟩ := h2.str_inv
    refine .inl ⟨c, _, rfl, rfl, ?_⟩
    have e : decide (c ∈ b) = b.contains c := by simp
    show Q (.bl (neg != decide (c ∈ b))) H
    rw [e]
    exact ok.pure rel (.bl _)
  · split at hz
    · rename_i hs
      rw [Bool.and_eq_true] at hs
      cases hz
      obtain ⟨p1, q1⟩ := h1.dp rel.subG hs.1
      obtain ⟨p2, q2⟩ := h2.dpL rel.subG hs.2
      refine .inr (.inl ⟨_, _, p1, p2, q1, q2, ?_⟩)
      rw [any_py _ hs.1 _ hs.2]
      exact ok.pure rel (.bl _)
    · cases hz
  · split at hz
    · rename_i hs
      rw [Bool.and_eq_true] at hs
      cases hz
      obtain ⟨p1, q1⟩ := h1.dp rel.subG hs.1
      obtain ⟨p2, q2⟩ := h2.dpT rel.subG hs.2
      refine .inr (.inr (.inl ⟨_, _, p1, p2, q1, q2, ?_⟩))
      rw [any_py _ hs.1 _ hs.2]
      exact ok.pure rel (.bl _)
    · cases hz
  · rename_i kvs
    split at hz
    · rename_i hk
      cases hz
      obtain ⟨a, ea, hd⟩ := ORep.dg rel.subG h2 h1 hk
      rcases hd with ⟨e1, g⟩ | ⟨u, du, e1, _, g⟩
      · refine .inr (.inr (.inr ⟨a, none, ea, g, ?_⟩))
        rw [e1] at ok
        exact ok.pure rel (.bl _)
      · refine .inr (.inr (.inr ⟨a, some u, ea, g, ?_⟩))
        rw [e1] at ok
        exact ok.pure rel (.bl _)
    · cases hz
  · cases hz
theorem ops_mem : OpS (cn X T) .mem (rMem X.prog X.w X.K false) := memS fun _ _ => rfl
theorem ops_nmem : OpS (cn X T) .nmem (rMem X.prog X.w X.K true) := memS fun _ _ => rfl
theorem opr_mem (hu : X.A.units + 65 < cLine) : OpR X (compareOp .In) (rMem X.prog X.w X.K false) := (op_inC (X := X) false).or ((op_inL (X := X) false hu).or ((op_inT hu).or (op_inO (by omega))))
theorem opr_nmem (hu : X.A.units + 65 < cLine) : OpR X (compareOp .NotIn) (rMem X.prog X.w X.K true) := (op_inC (X := X) true).or ((op_inL (X := X) true hu).or ((op_notInT hu).or (op_notInO (by omega))))
theorem ops_isB : OpS (cn X T) .isB rIsB := fun σ x y H Q h => by
  obtain ⟨A, F, G, st, d, e, z, rel, h1, h2, hz, ok⟩ := h.two
  simp only [Op.run, Op.run2] at hz
  unfold Op.isB2 at hz
  split at hz
  · rename_i a b
    cases hz
    refine ⟨a, b, h1.bl_inv, h2.bl_inv, ?_⟩
    have e : decide (a = b) = (false != (a == b)) := by cases a <;> cases b <;> rfl
    rw [e]
    exact ok.pure rel (.bl _)
  · cases hz
theorem ops_notB : OpS (cn X T) .notB rNotB := fun σ x y H Q h => by
  obtain ⟨A, F, G, st, d, e, z, rel, h1, h2, hz, ok⟩ := h.two
  simp only [Op.run, Op.run2] at hz
  unfold Op.isB2 at hz
  split at hz
  · rename_i a b
    cases hz
    refine ⟨a, b, h1.bl_inv, h2.bl_inv, ?_⟩
    have e : (!decide (a = b)) = (true != (a == b)) := by cases a <;> cases b <;> rfl
    rw [e]
    exact ok.pure rel (.bl _)
  · cases hz
theorem ORep.non_iff {C : Cn} {G H : Hp} {v : V} {d : D} (h : ORep C G H v d) : decide (v = .non) = (match d with | .non => true | _ => false) := by
  rcases h with h | ⟨p, rfl, h⟩
  · cases h <;> rfl
  · cases d <;> first | exact h.elim | rfl
theorem isN_val {C : Cn} {G H : Hp} {v : V} {d : D} {ng : Bool} {z : Bool × D} (h : ORep C G H v d) (hz : Op.isN1 ng d = some z) : outR z = .val (.bl (ng != decide (v = .non))) := by
  rw [h.non_iff]
  unfold Op.isN1 at hz
  cases d <;> simp only [bout] at hz <;> cases hz <;> cases ng <;> rfl
theorem pe_isN {a : Expr} {ca : E} {Φ : Fns} {fl : Nat → List Bool} {W : WX} {pos p : Pos} {j : Nat} (ha : PE X a (rdE (cn X T) Φ fl W ca)) : PE X (.Compare a [.Is] [.Constant .none j p] pos) (rdE (cn X T) Φ fl W (.op .isN (.cons ca .nil))) :=
  PE.imp (pe_cmpR op_isN ha pe_non rfl) fun σ H Q h => rdE.imp (rdOs_cons (rd_op h)) fun x H1 h1 => by
    obtain ⟨A, F, G, st, d, z, rel, h2, hz, ok⟩ := OpE.one (rdOs_nil h1)
    refine ⟨rfl, ?_⟩
    rw [isN_val h2 (show Op.isN1 false d = some z from hz)] at ok
    exact ok.pure rel (by simpa using Rep.bl _)
theorem pe_notN {a : Expr} {ca : E} {Φ : Fns} {fl : Nat → List Bool} {W : WX} {pos p : Pos} {j : Nat} (ha : PE X a (rdE (cn X T) Φ fl W ca)) : PE X (.Compare a [.IsNot] [.Constant .none j p] pos) (rdE (cn X T) Φ fl W (.op .notN (.cons ca .nil))) :=
  PE.imp (pe_cmpR op_notN ha pe_non rfl) fun σ H Q h => rdE.imp (rdOs_cons (rd_op h)) fun x H1 h1 => by
    obtain ⟨A, F, G, st, d, z, rel, h2, hz, ok⟩ := OpE.one (rdOs_nil h1)
    refine ⟨rfl, ?_⟩
    rw [isN_val h2 (show Op.isN1 true d = some z from hz)] at ok
    exact ok.pure rel (by simpa using Rep.bl _)
theorem ix_eq (n : Nat) (i : Int) : ix n i = ixN n i := rfl
abbrev rIxD (P : Program) (w : World) (K : PySem.W.Frag) : R2 := fun x y H Q => rIx K x y H Q ∨ rIxO P w x y H Q
theorem ix_all (hu : X.A.units + 65 < cLine) : IxR X (rIxD X.prog X.w X.K) := ix_seq.or (ix_dO (by omega))
theorem ops_idxD : OpS (cn X T) .idx (rIxD X.prog X.w X.K) := fun σ x y H Q h => by
  obtain ⟨A, F, G, st, d, e, z, rel, h1, h2, hz, ok⟩ := h.two
  by_cases hd : ∃ kvs, d = .dct kvs
  · obtain ⟨kvs, rfl⟩ := hd
    have hz : (if tkey e then (match dget e kvs with | some d => some (false, d) | none => none) else none) = some z := hz
    split at hz
    · rename_i hk
      obtain ⟨a, ea, hd⟩ := ORep.dg rel.subG h1 h2 hk
      rcases hd with ⟨e1, g⟩ | ⟨u, du, e1, ru, g⟩
      · rw [e1] at hz; cases hz
      · rw [e1] at hz; cases hz
        exact .inr ⟨a, u, ea, g, ok.pure rel ru⟩
    · cases hz
  refine .inl ?_
  simp only [Op.run, Op.run2] at hz
  unfold Op.idx2 at hz
  split at hz
  · rename_i a i
    split at hz
    · rename_i hl
      split at hz
      · rename_i c hc
        cases hz
        obtain ⟨rfl, k⟩ := h1.str_inv
        have hl : a.length ≤ sizeL := Nat.le_of_ble_eq_true hl
        rw [sizeL_eq] at hl
        have hm : c ∈ a := by
          obtain ⟨j, _, hj⟩ := Option.bind_eq_some_iff.mp hc
          exact List.mem_of_getElem? hj
        exact .inr (.inr ⟨_, _, c, rfl, h2.int_inv, by simpa [Str.length] using hl, by simpa [atI, ix_eq] using hc, ok.pure rel (.str [c] fun x hx => k x (by simp at hx; subst hx; exact hm))⟩)
      · cases hz
    · cases hz
  · split at hz
    · rename_i a i c hc
      cases hz
      obtain ⟨p, vs, rfl, g1, g1', r1⟩ := h1.tup_inv rel.subG
      obtain ⟨j, hj, hc⟩ := Option.bind_eq_some_iff.mp hc
      obtain ⟨v, hv, rv⟩ := r1.get hc
      refine .inr (.inl ⟨p, vs, _, v, rfl, h2.int_inv, g1.sq, ?_, ok.pure rel rv⟩)
      unfold atI
      rw [r1.length, ← ix_eq, hj]
      exact hv
    · cases hz
  · split at hz
    · rename_i a i c hc
      cases hz
      obtain ⟨p, vs, rfl, g1, r1⟩ := h1.lst_inv rel.subG
      obtain ⟨j, hj, hc⟩ := Option.bind_eq_some_iff.mp hc
      obtain ⟨v, hv, rv⟩ := r1.get hc
      refine .inl ⟨p, vs, _, v, rfl, h2.int_inv, .inl (.inl g1), ?_, ok.pure rel rv⟩
      unfold atI
      rw [r1.length, ← ix_eq, hj]
      exact hv
    · cases hz
  · split at hz
    · rename_i a i c hc
      cases hz
      obtain ⟨p, rfl, g1⟩ := h1.scr_inv rel.subG
      obtain ⟨j, hj, hc⟩ := Option.bind_eq_some_iff.mp hc
      refine .inl ⟨p, _, _, .int c, rfl, h2.int_inv, g1, ?_, ok.pure rel (.int c)⟩
      unfold atI
      rw [List.length_map, ← ix_eq, hj]
      simp [List.getElem?_map, hc]
    · cases hz
  · exact absurd ⟨_, rfl⟩ hd
  · cases hz
theorem cutIx_eq (n d : Nat) (o : Option Int) : cutIx n d o = HT.sIx n d o := by
  cases o with
  | none => rfl
  | some i =>
    show (if 0 ≤ i then min i.toNat n else (i + n).toNat) = if i < 0 then (i + (n : Int)).toNat else min i.toNat n
    by_cases h : 0 ≤ i
    · rw [if_pos h, if_neg (by omega)]
    · rw [if_neg h, if_pos (by omega)]
theorem cut_reps {C : Cn} {G : Hp} {vs : List V} {ds : List D} (lo hi : Option Int) (r : Reps C G vs ds) : Reps C G (cutV vs lo hi) (cut ds lo hi) := by
  unfold cutV cut
  rw [r.length, cutIx_eq, cutIx_eq]
  exact (r.drop _).take _
abbrev rSl (K : PySem.W.Frag) : V → Option Int → Option Int → Hp → VK → Prop := fun x lo hi H Q => rSlS x lo hi H Q ∨ (rSlF K x lo hi H Q ∨ rSlL K x lo hi H Q)
theorem slr_all : SlR X (rSl X.K) := sl_str.or (sl_tupF.or sl_list)
theorem sl_val {C : Cn} {A : List Addr} {F G : Hp} {st : St} {σ : L2.St} {H : Hp} {x : V} {d : D} {z : Bool × D} {lo hi : Option Int} {Q : VK} (rel : Rel C A F G st σ H) (h1 : ORep C G H x d) (hz : Op.sl lo hi d = some z) (ok : OkE C A F G σ Q (outR z) st) : rSl C.K x lo hi H Q := by
  unfold Op.sl at hz
  split at hz
  · rename_i a
    obtain ⟨hl, rfl⟩ := lesq_some hz
    obtain ⟨rfl, k⟩ := h1.str_inv
    refine .inl ⟨_, rfl, by simpa [Str.length] using hl, ?_⟩
    have e : cutS ⟨a.toArray⟩ lo hi = ⟨(cut a lo hi).toArray⟩ := by
      unfold cutS cut
      simp only [Str.length, List.size_toArray, cutIx_eq]
    rw [e]
    refine ok.pure rel (.str _ fun c hc => k c ?_)
    exact List.mem_of_mem_drop (List.mem_of_mem_take hc)
  · rename_i a
    cases hz
    have t1 := h1.tup_rep
    obtain ⟨p, vs, rfl, g1, g1', r1⟩ := h1.tup_inv rel.subG
    refine .inr (.inl ⟨p, vs, rfl, g1.sq, fun e => ?_, fun e => ok.newT rel (cut_reps lo hi r1)⟩)
    have ec : cut a lo hi = a := by
      unfold cut
      rw [cutIx_eq, cutIx_eq, ← r1.length, e.1, e.2, r1.length]
      simp
    rw [ec] at ok
    exact ok.pure rel t1
  · cases hz
    obtain ⟨p, vs, rfl, g1, r1⟩ := h1.lst_inv rel.subG
    exact .inr (.inr ⟨p, vs, rfl, .inl (.inl g1), fun u hu => ok.newL rel hu (cut_reps lo hi r1)⟩)
  · cases hz
variable {a b c : Expr} {ca cb cc : E} {Φ : Fns} {fl : Nat → List Bool} {W : WX} {pos p : Pos}
/-- a part of a slice: an expression, or none -/
def rdP (C : Cn) (Φ : Fns) (fl : Nat → List Bool) (W : WX) (hb : Bool) (e : E) : TO := fun σ H Q => ∃ A F G st, Rel C A F G st σ H ∧ endG C A F G σ W (fun _ _ _ (a b : Option Int) => a = b) Q (part hb st (ev Φ fl e st))
theorem po_n : PO X none (rdP (cn X T) Φ fl W false ca) := ⟨fun pins s σ H Q I h => po_none.run pins s σ H Q I (by
  obtain ⟨A, F, G, st, rel, h⟩ := h
  exact h none G H Sub.rfl rel rfl)⟩
theorem po_e (ha : PE X a (rdE (cn X T) Φ fl W ca)) : PO X (some a) (rdP (cn X T) Φ fl W true ca) := ⟨fun pins s σ H Q I h => (po_some ha).run pins s σ H Q I (by
  obtain ⟨A, F, G, st, rel, h⟩ := h
  refine ⟨A, F, G, st, rel, endG.bind (show endG _ _ _ _ _ _ _ _ ((ev Φ fl ca st).bind _) from h) fun r st1 v G1 H1 _ s1 rel1 p1 h1 => ?_⟩
  dsimp only at h1
  split at h1
  · exact ⟨_, Rep.int_inv p1, h1 _ G1 H1 Sub.rfl rel1 rfl⟩
  · exact h1.elim)⟩
theorem pe_slc {hl hh : Bool} {lo hi : Option Expr} (ha : PE X a (rdE (cn X T) Φ fl W ca)) (hlo : PO X lo (rdP (cn X T) Φ fl W hl cb)) (hhi : PO X hi (rdP (cn X T) Φ fl W hh cc)) :
    PE X (.Subscript a (.Slice lo hi none p) pos) (rdE (cn X T) Φ fl W (.slc ca hl cb hh cc)) :=
  PE.imp (pe_slice slr_all ha hlo hhi) fun σ H Q h => by
    obtain ⟨A, F, G, st, rel, h⟩ := h
    refine ⟨A, F, G, st, rel, endG.bind h fun r st1 v G1 H1 _ s1 rel1 p1 h1 => ?_⟩
    obtain ⟨G2, s2, rel2, p2⟩ := RR.still rel1 p1
    refine ⟨A, F, G2, st1, rel2, endG.bind (endG.mono s2 h1) fun l st3 l' G3 H3 _ s3 rel3 p3 h3 => ?_⟩
    subst p3
    refine ⟨A, F, G3, st3, rel3, endG.bind h3 fun u st4 u' G4 H4 _ s4 rel4 p4 h4 => ?_⟩
    subst p4
    dsimp only at h4
    split at h4
    · exact h4.elim
    · rename_i d hd
      split at h4
      · exact h4.elim
      · rename_i z hz
        exact sl_val rel4 (RR.look rel4 (RR.stay (s3.trans s4) p2) hd) hz h4
section
variable {o : Op} {σ : L2.St} {vs : List V} {H : Hp} {Q : VK} {C : Cn}
theorem OpE.uni (ho : ∀ ds z, o.run ds = some z → ∃ d, ds = [d]) (h : OpE C o σ vs H Q) : ∃ A F G st x d z, vs = [x] ∧ Rel C A F G st σ H ∧ ORep C G H x d ∧ o.run [d] = some z ∧ OkE C A F G σ Q (outR z) st := by
  obtain ⟨A, F, G, st, ds, z, rel, r, e, ok⟩ := h
  obtain ⟨d, rfl⟩ := ho ds z e
  match vs, r with
  | [x], ⟨r, _⟩ => exact ⟨A, F, G, st, x, d, z, rfl, rel, r, e, ok⟩
  | [], r => exact r.elim
  | _ :: _ :: _, ⟨_, r⟩ => exact r.elim
theorem OpE.bin (ho : ∀ ds z, o.run ds = some z → ∃ d e, ds = [d, e]) (h : OpE C o σ vs H Q) : ∃ A F G st x y d e z, vs = [x, y] ∧ Rel C A F G st σ H ∧ ORep C G H x d ∧ ORep C G H y e ∧ o.run [d, e] = some z ∧ OkE C A F G σ Q (outR z) st := by
  obtain ⟨A, F, G, st, ds, z, rel, r, e, ok⟩ := h
  obtain ⟨d, e', rfl⟩ := ho ds z e
  match vs, r with
  | [x, y], ⟨r1, r2, _⟩ => exact ⟨A, F, G, st, x, y, d, e', z, rfl, rel, r1, r2, e, ok⟩
  | [], r => exact r.elim
  | [_], ⟨_, r⟩ => exact r.elim
  | _ :: _ :: _ :: _, ⟨_, _, r⟩ => exact r.elim
end
theorem run_uni {o : Op} (h2 : ∀ a b, o.run2 a b = none) (h3 : ∀ a b c, o.run3 a b c = none) : ∀ ds z, o.run ds = some z → ∃ d, ds = [d] := fun ds z h => by
  unfold Op.run at h
  split at h
  · exact ⟨_, rfl⟩
  · rw [h2] at h; cases h
  · rw [h3] at h; cases h
  · cases h
theorem run_bin {o : Op} (h2 : ∀ a, o.run1 a = none) (h3 : ∀ a b c, o.run3 a b c = none) : ∀ ds z, o.run ds = some z → ∃ d e, ds = [d, e] := fun ds z h => by
  unfold Op.run at h
  split at h
  · rw [h2] at h; cases h
  · exact ⟨_, _, rfl⟩
  · rw [h3] at h; cases h
  · cases h
/-- len(dict) -/
def rLenO (P : Program) (w : World) : List V → Hp → VK → Prop := fun xs H Q => ∃ a kvs, xs = [.ref a] ∧ H a = some (dO P w a kvs) ∧ KeysAt H kvs ∧ Q (.int (kvs.length : Nat)) H
theorem call_lenO : CallR X (.builtin "len") (rLenO X.prog X.w) := by
  intro pins s σ H xs us Q I r h
  obtain ⟨a, kvs, rfl, e, ka, q⟩ := h
  obtain ⟨u, rfl, rx⟩ := vals1 r
  cases rx
  obtain ⟨z, hd, xs, rel, dd⟩ := do_of I.hok e ka
  have hl := line63
  have hs : sizeLine = 16777216 := sizeLine_eq
  have hn : xs.length = kvs.length := (Paired.length rel).symm
  have hm : s.heap.DictKeyed (tupleKind (mixKind X.prog X.w)) a (pairsH xs) := ⟨xs, dd, rfl⟩
  have hp : (pairsH xs).length = kvs.length := by simp [pairsH, hn]
  refine PyProof.Rows.call_len_slot (n := (pairsH xs).length) hm.typeIs PySem.F.slot_dict_len (fun Q' hq => len_keyed hd hm hq) (by omega) (by omega) ?_
  rw [hp]
  exact ⟨.int (kvs.length : Nat), H, I.tok _, ⟨_, rfl⟩, q⟩
theorem cr_len : CallR X (.builtin "len") (fun xs H Q => (∃ x n, xs = [x] ∧ LenV X.K x H n ∧ Q (.int n) H) ∨ rLenO X.prog X.w xs H Q) := call_len.or call_lenO
theorem cs_lenD : CallS (cn X T) .len (fun xs H Q => (∃ x n, xs = [x] ∧ LenV X.K x H n ∧ Q (.int n) H) ∨ rLenO X.prog X.w xs H Q) := fun σ vs H Q h => by
  obtain ⟨A, F, G, st, x, d, z, rfl, rel, h1, hz, ok⟩ := h.uni (run_uni (fun _ _ => rfl) (fun _ _ _ => rfl))
  by_cases hdc : ∃ kvs, d = .dct kvs
  · obtain ⟨kvs, rfl⟩ := hdc
    cases hz
    obtain ⟨a, kv, rfl, h2, r⟩ := h1.dct rel.subG
    refine .inr ⟨a, kv, rfl, h2, r.keysAt rel.subG, ?_⟩
    rw [r.length]
    exact ok.pure rel (.int _)
  refine .inl ?_
  simp only [Op.run, Op.run1] at hz
  unfold Op.len1 at hz
  split at hz
  · rename_i a
    obtain ⟨hl, rfl⟩ := lesq_some hz
    obtain ⟨rfl, _⟩ := h1.str_inv
    exact ⟨_, a.length, rfl, ⟨by simpa [Str.length] using hl, by simp [Str.length]⟩, ok.pure rel (.int _)⟩
  · rename_i a
    cases hz
    obtain ⟨p, vs, rfl, g1, g1', r1⟩ := h1.tup_inv rel.subG
    exact ⟨_, a.length, rfl, .inr ⟨vs, g1.sq, r1.length.symm⟩, ok.pure rel (.int _)⟩
  · rename_i a
    cases hz
    obtain ⟨p, vs, rfl, g1, r1⟩ := h1.lst_inv rel.subG
    exact ⟨_, a.length, rfl, .inl ⟨vs, .inl (.inl g1), r1.length.symm⟩, ok.pure rel (.int _)⟩
  · rename_i a
    cases hz
    obtain ⟨p, rfl, g1⟩ := h1.scr_inv rel.subG
    exact ⟨_, a.length, rfl, .inl ⟨_, g1, by simp⟩, ok.pure rel (.int _)⟩
  · exact absurd ⟨_, rfl⟩ hdc
  · cases hz
theorem cs_int : CallS (cn X T) .intOf (fun xs H Q => (∃ i, xs = [.int i] ∧ Q (.int i) H) ∨ ∃ k, xs = [.bl k] ∧ Q (.int (if k then 1 else 0)) H) := fun σ vs H Q h => by
  obtain ⟨A, F, G, st, x, d, z, rfl, rel, h1, hz, ok⟩ := h.uni (run_uni (fun _ _ => rfl) (fun _ _ _ => rfl))
  simp only [Op.run, Op.run1] at hz
  unfold Op.intOf1 at hz
  split at hz
  · cases hz; exact .inr ⟨_, by rw [h1.bl_inv], ok.pure rel (.int _)⟩
  · cases hz; exact .inl ⟨_, by rw [h1.int_inv], ok.pure rel (.int _)⟩
  · cases hz
theorem cs_abs : CallS (cn X T) .abs (fun xs H Q => ∃ i, xs = [.int i] ∧ Q (.int (if i < 0 then -i else i)) H) := fun σ vs H Q h => by
  obtain ⟨A, F, G, st, x, d, z, rfl, rel, h1, hz, ok⟩ := h.uni (run_uni (fun _ _ => rfl) (fun _ _ _ => rfl))
  simp only [Op.run, Op.run1] at hz
  unfold Op.abs1 at hz
  split at hz
  · cases hz; exact ⟨_, by rw [h1.int_inv], ok.pure rel (.int _)⟩
  · cases hz
theorem bls_inv {C : Cn} {G : Hp} : ∀ {vs : List V} {ds : List D} {bs : List Bool}, Reps C G vs ds → blsOf ds = some bs → vs = bs.map V.bl
  | _, _, bs, .nil, e => by cases e; rfl
  | _, _, bs, .cons (d := d) h r, e => by
    cases d with
    | bl b =>
      simp only [blsOf] at e
      obtain ⟨l, hl, rfl⟩ := Option.map_eq_some_iff.mp e
      rw [bls_inv r hl, h.bl_inv]; rfl
    | _ => simp only [blsOf] at e; cases e
theorem ints_inv {C : Cn} {G : Hp} : ∀ {vs : List V} {ds : List D} {bs : List Int}, Reps C G vs ds → intsOf ds = some bs → vs = bs.map V.int
  | _, _, bs, .nil, e => by cases e; rfl
  | _, _, bs, .cons (d := d) h r, e => by
    cases d with
    | int b =>
      simp only [intsOf] at e
      obtain ⟨l, hl, rfl⟩ := Option.map_eq_some_iff.mp e
      rw [ints_inv r hl, h.int_inv]; rfl
    | _ => simp only [intsOf] at e; cases e
theorem cs_all : CallS (cn X T) .all (rAll X.K) := fun σ vs H Q h => by
  obtain ⟨A, F, G, st, x, d, z, rfl, rel, h1, hz, ok⟩ := h.uni (run_uni (fun _ _ => rfl) (fun _ _ _ => rfl))
  simp only [Op.run, Op.run1] at hz
  unfold Op.alls at hz
  split at hz
  · split at hz
    · rename_i bs hb
      cases hz
      obtain ⟨p, vs, rfl, g1, r1⟩ := h1.lst_inv rel.subG
      have e := bls_inv r1 hb
      subst e
      exact ⟨p, bs, rfl, .inl (.inl g1), ok.pure rel (.bl _)⟩
    · cases hz
  · cases hz
theorem cs_any : CallS (cn X T) .any (rAny X.K) := fun σ vs H Q h => by
  obtain ⟨A, F, G, st, x, d, z, rfl, rel, h1, hz, ok⟩ := h.uni (run_uni (fun _ _ => rfl) (fun _ _ _ => rfl))
  simp only [Op.run, Op.run1] at hz
  unfold Op.alls at hz
  split at hz
  · split at hz
    · rename_i bs hb
      cases hz
      obtain ⟨p, vs, rfl, g1, r1⟩ := h1.lst_inv rel.subG
      have e := bls_inv r1 hb
      subst e
      exact ⟨p, bs, rfl, .inl (.inl g1), ok.pure rel (.bl _)⟩
    · cases hz
  · cases hz
theorem cs_sum : CallS (cn X T) .sum (rSum X.K) := fun σ vs H Q h => by
  obtain ⟨A, F, G, st, x, d, z, rfl, rel, h1, hz, ok⟩ := h.uni (run_uni (fun _ _ => rfl) (fun _ _ _ => rfl))
  simp only [Op.run, Op.run1] at hz
  unfold Op.sum1 at hz
  split at hz
  · split at hz
    · rename_i bs hb
      cases hz
      obtain ⟨p, vs, rfl, g1, r1⟩ := h1.lst_inv rel.subG
      have e := ints_inv r1 hb
      subst e
      exact ⟨p, bs, rfl, .inl (.inl g1), ok.pure rel (.int _)⟩
    · cases hz
  · cases hz
theorem maxI_mem : ∀ (a : Int) (r : List Int), maxI a r ∈ a :: r ∧ ∀ y ∈ a :: r, y ≤ maxI a r
  | a, [] => ⟨by simp [maxI], fun y hy => by simp at hy; subst hy; simp [maxI]⟩
  | a, b :: r => by
    unfold maxI
    split
    · rename_i h
      obtain ⟨h1, h2⟩ := maxI_mem b r
      refine ⟨List.mem_cons_of_mem _ h1, fun y hy => ?_⟩
      rcases List.mem_cons.mp hy with rfl | hy
      · exact Int.le_trans (Int.le_of_lt h) (h2 b List.mem_cons_self)
      · exact h2 y hy
    · rename_i h
      obtain ⟨h1, h2⟩ := maxI_mem a r
      refine ⟨?_, fun y hy => ?_⟩
      · rcases List.mem_cons.mp h1 with e | e
        · rw [e]; exact List.mem_cons_self
        · exact List.mem_cons_of_mem _ (List.mem_cons_of_mem _ e)
      · rcases List.mem_cons.mp hy with rfl | hy
        · exact h2 y List.mem_cons_self
        · rcases List.mem_cons.mp hy with rfl | hy
          · exact Int.le_trans (Int.not_lt.mp h) (h2 a List.mem_cons_self)
          · exact h2 y (List.mem_cons_of_mem _ hy)
theorem cs_max1 : CallS (cn X T) .max1 (rMax X.K) := fun σ vs H Q h => by
  obtain ⟨A, F, G, st, x, d, z, rfl, rel, h1, hz, ok⟩ := h.uni (run_uni (fun _ _ => rfl) (fun _ _ _ => rfl))
  simp only [Op.run, Op.run1] at hz
  unfold Op.maxL at hz
  split at hz
  · rename_i y ys
    split at hz
    · rename_i bs hb
      cases hz
      obtain ⟨p, vs, rfl, g1, r1⟩ := h1.lst_inv rel.subG
      have e : vs = (y :: bs).map V.int := ints_inv r1 (by simp only [intsOf, hb]; rfl)
      subst e
      refine ⟨p, y :: bs, rfl, .inl (.inl g1), by simp, fun m hm hmax => ?_⟩
      obtain ⟨e1, e2⟩ := maxI_mem y bs
      have e : m = maxI y bs := Int.le_antisymm (e2 m hm) (hmax _ e1)
      rw [e]
      exact ok.pure rel (.int _)
    · cases hz
  · cases hz
theorem cs_max2 : CallS (cn X T) .max2 (fun xs H Q => ∃ i j, xs = [.int i, .int j] ∧ Q (.int (if j > i then j else i)) H) := fun σ vs H Q h => by
  obtain ⟨A, F, G, st, x, y, d, e, z, rfl, rel, h1, h2, hz, ok⟩ := h.bin (run_bin (fun _ => rfl) (fun _ _ _ => rfl))
  simp only [Op.run, Op.run2] at hz
  unfold Op.int2 at hz
  split at hz
  · cases hz; exact ⟨_, _, by rw [h1.int_inv, h2.int_inv], ok.pure rel (.int _)⟩
  · cases hz
theorem cs_min2 : CallS (cn X T) .min2 (fun xs H Q => ∃ i j, xs = [.int i, .int j] ∧ Q (.int (if j < i then j else i)) H) := fun σ vs H Q h => by
  obtain ⟨A, F, G, st, x, y, d, e, z, rfl, rel, h1, h2, hz, ok⟩ := h.bin (run_bin (fun _ => rfl) (fun _ _ _ => rfl))
  simp only [Op.run, Op.run2] at hz
  unfold Op.int2 at hz
  split at hz
  · cases hz; exact ⟨_, _, by rw [h1.int_inv, h2.int_inv], ok.pure rel (.int _)⟩
  · cases hz
end
end PV
set_option Elab.async false
set_option linter.all false
set_option maxRecDepth 100000
set_option maxHeartbeats 4000000
namespace PV
open PySem PySem.Spec PyProof.Rows L2
section
variable {X : Cx} {T : Tab}
theorem reps_ints {C : Cn} {G : Hp} : ∀ ns : List Int, Reps C G (ns.map V.int) (ns.map .int)
  | [] => .nil
  | i :: r => .cons (.int i) (reps_ints r)
theorem cs_tuple : CallS (cn X T) .tupleOf (fun xs H Q => ∃ p ys, xs = [.ref p] ∧ ((SqL X.K H p ys ∧ NewT H ys Q) ∨ (SqT X.K H p ys ∧ Q (.ref p) H))) := fun σ vs H Q h => by
  obtain ⟨A, F, G, st, x, d, z, rfl, rel, h1, hz, ok⟩ := h.uni (run_uni (fun _ _ => rfl) (fun _ _ _ => rfl))
  simp only [Op.run, Op.run1] at hz
  unfold Op.tupOf1 at hz
  split at hz
  · cases hz
    have t1 := h1.tup_rep
    obtain ⟨p, vs, rfl, g1, g1', r1⟩ := h1.tup_inv rel.subG
    exact ⟨p, vs, rfl, .inr ⟨g1.sq, ok.pure rel t1⟩⟩
  · cases hz
    obtain ⟨p, vs, rfl, g1, r1⟩ := h1.lst_inv rel.subG
    exact ⟨p, vs, rfl, .inl ⟨.inl (.inl g1), ok.newT rel r1⟩⟩
  · cases hz
    obtain ⟨p, rfl, g1⟩ := h1.scr_inv rel.subG
    exact ⟨p, _, rfl, .inl ⟨g1, ok.newT rel (reps_ints _)⟩⟩
  · cases hz
/-- list(text) -/
def rListS : List V → Hp → VK → Prop := fun xs H Q => ∃ z : Str, xs = [.str z] ∧ z.length ≤ sizeLine ∧ ∀ l, H l = none → Q (.ref l) (upd H l (.lst (z.cps.toList.map fun c => V.str ⟨#[c]⟩)))
theorem call_listS (hc : X.calm = true) : CallR X (.type "list") rListS := by
  intro pins s σ H xs us Q I r h
  obtain ⟨z, rfl, hz, q⟩ := h
  obtain ⟨u, rfl, ru⟩ := Vals.one r
  obtain ⟨t, rfl⟩ := ru
  refine PySem.call_list_str (I.ok.hd hc) z t (fun h' tk acc' c' hk he hi => ?_) (by simpa [Str.length] using hz)
  have hv : Vals (z.cps.toList.map fun c => V.str ⟨#[c]⟩) acc'.toList := by
    refine vals_of_at (by simp [hi.1]) fun j x u h1 h2 => ?_
    obtain ⟨c, w, e1, e2⟩ := hi.2 j u (by simpa using h2)
    rw [List.getElem?_map] at h1
    have e3 : z.cps.toList[j]? = some c := by simpa using e1
    rw [e3] at h1
    cases h1
    exact ⟨w, e2⟩
  refine ⟨.ref s.heap.objs.size, _, I.laid (t' := tk) (o := .lst (z.cps.toList.map fun c => V.str ⟨#[c]⟩)) hk (Nat.le_refl _) ?_, rfl, q _ (I.hok.fresh (Nat.le_refl _))⟩
  exact ⟨by simpa [Str.length] using hz, acc'.toList, c', hv, by simpa using he⟩
theorem reps_signs {C : Cn} {G : Hp} : ∀ z : List Nat, okS z → Reps C G (z.map fun c => V.str ⟨#[c]⟩) (z.map fun c => .str [c])
  | [], _ => .nil
  | c :: r, h => .cons (.str [c] fun x hx => by simp at hx; subst hx; exact h x List.mem_cons_self) (reps_signs r fun x hx => h x (List.mem_cons_of_mem _ hx))
theorem cs_list : CallS (cn X T) .listOf (fun xs H Q => (∃ p ys, xs = [.ref p] ∧ (SqL X.K H p ys ∨ SqT X.K H p ys) ∧ ∀ l, H l = none → Q (.ref l) (upd H l (.lst ys))) ∨ rListS xs H Q) := fun σ vs H Q h => by
  obtain ⟨A, F, G, st, x, d, z, rfl, rel, h1, hz, ok⟩ := h.uni (run_uni (fun _ _ => rfl) (fun _ _ _ => rfl))
  simp only [Op.run, Op.run1] at hz
  unfold Op.lstOf1 at hz
  split at hz
  · cases hz
    obtain ⟨p, vs, rfl, g1, g1', r1⟩ := h1.tup_inv rel.subG
    exact .inl ⟨p, vs, rfl, .inr g1.sq, fun u hu => ok.newL rel hu r1⟩
  · cases hz
    obtain ⟨p, vs, rfl, g1, r1⟩ := h1.lst_inv rel.subG
    exact .inl ⟨p, vs, rfl, .inl (.inl (.inl g1)), fun u hu => ok.newL rel hu r1⟩
  · cases hz
    obtain ⟨p, rfl, g1⟩ := h1.scr_inv rel.subG
    exact .inl ⟨p, _, rfl, .inl g1, fun u hu => ok.newL rel hu (reps_ints _)⟩
  · rename_i a
    obtain ⟨hl, rfl⟩ := lesq_some hz
    obtain ⟨rfl, k⟩ := h1.str_inv
    exact .inr ⟨_, rfl, by simpa [Str.length] using hl, fun u hu => ok.newL rel hu (reps_signs a k)⟩
  · cases hz
theorem cr_list (hc : X.calm = true) : CallR X (.type "list") (fun xs H Q => (∃ p ys, xs = [.ref p] ∧ (SqL X.K H p ys ∨ SqT X.K H p ys) ∧ ∀ l, H l = none → Q (.ref l) (upd H l (.lst ys))) ∨ rListS xs H Q) := call_list_of.or (call_listS hc)
def Ty.py : Ty → String
  | .int => "int" | .bool => "bool" | .str => "str" | .tuple => "tuple" | .list => "list" | .dict => "dict"
def D.py : D → String
  | .non => "NoneType" | .bl _ => "bool" | .int _ => "int" | .str _ => "str" | .tup _ => "tuple" | .lst _ => "list" | .dct _ => "dict" | _ => ""
theorem isi_kit (t : Ty) (d : D) (b : Bool) (h : t.has d = some b) : kitB d.py t.py = some b := by
  cases d <;> cases t <;> first | (simp only [Ty.has] at h; cases h; dsimp only [D.py, Ty.py]; decide +kernel) | (simp only [Ty.has] at h; cases h)
theorem ORep.ty {C : Cn} {G H : Hp} {v : V} {d : D} {t : Ty} {b : Bool} (s : Sub G H) (h : ORep C G H v d) (e : t.has d = some b) : TyX C.K H v (.type d.py) := by
  have h := h.atH s
  cases h with
  | non => exact .base .non
  | bl b => exact .base (.bl b)
  | int i => exact .base (.int i)
  | str x hx => exact .base (.str _)
  | tup q r =>
    obtain ⟨o, _, e⟩ := q
    exact .fTuple e
  | lst q r => exact .base (.lst q)
  | dctO q r => cases t <;> simp only [Ty.has] at e <;> cases e
  | scr q => cases t <;> simp only [Ty.has] at e <;> cases e
  | fn q => cases t <;> simp only [Ty.has] at e <;> cases e
  | obj q r => cases t <;> simp only [Ty.has] at e <;> cases e
variable {a b c e : Expr} {es : List Expr} {ca cb cc : E} {cs : Es} {Φ : Fns} {fl : Nat → List Bool} {W : WX} {pos p p2 : Pos}
theorem pe_isi {t : Ty} (hg : Gl X "isinstance") (hm : X.mg "isinstance" = none) (hs : isStar a = false) (ha : PE X a (rdE (cn X T) Φ fl W ca)) (hg2 : Gl X t.py) (hm2 : X.mg t.py = none) :
    PE X (.Call (.Name "isinstance" p) [a, .Name t.py p2] [] pos) (rdE (cn X T) Φ fl W (.op (.isi t) (.cons ca .nil))) := by
  have hb : PE X (.Name t.py p2) (tC (.ty t.py)) := by
    cases t <;> exact pe_bltn hg2 hm2 (by decide +kernel) rfl (by decide +kernel) (by decide +kernel)
  have hpa : PA X [a, .Name t.py p2] _ := pa_cons ha (pa_cons hb pa_nil) (star_one hs)
  refine PE.imp (pe_callB call_isi hg hm (by decide +kernel) hpa (by decide) (by decide) (star_one hs) rfl) fun σ H Q h => rdE.imp (rdOs_cons (rd_op h)) fun x H1 h1 => ?_
  obtain ⟨A, F, G, st, d, z, rel, h2, hz, ok⟩ := OpE.one (rdOs_nil h1)
  have hz : Op.isi1 t d = some z := hz
  unfold Op.isi1 at hz
  split at hz
  · rename_i k hk
    rw [bout_eq hz] at ok
    exact ⟨x, .ty t.py, .type d.py, .type t.py, k, rfl, .ty _, h2.ty rel.subG hk, kit_ty (isi_kit t d k hk), ok.pure rel (.bl _)⟩
  · cases hz
theorem pe_andE {rest : List Expr} (ha : PE X a (rdE (cn X T) Φ fl W ca)) (hb : PE X (.BoolOp .And (b :: rest) pos) (rdE (cn X T) Φ fl W cb)) : PE X (.BoolOp .And (a :: b :: rest) pos) (rdE (cn X T) Φ fl W (.and ca cb)) :=
  PE.imp (pe_and ha hb) fun σ H Q h => by
    obtain ⟨A, F, G, st, rel, h⟩ := h
    refine ⟨A, F, G, st, rel, endG.bind h fun r st1 v G1 H1 _ s1 rel1 p1 h1 => ?_⟩
    dsimp only at h1
    split at h1
    · exact ⟨true, Rep.bl_inv p1, by rw [if_pos rfl]; exact ⟨A, F, G1, st1, rel1, h1⟩⟩
    · exact ⟨false, Rep.bl_inv p1, by rw [if_neg Bool.false_ne_true]; exact OkE.pure h1 rel1 (.bl _)⟩
    · exact h1.elim
theorem pe_orE {rest : List Expr} (ha : PE X a (rdE (cn X T) Φ fl W ca)) (hb : PE X (.BoolOp .Or (b :: rest) pos) (rdE (cn X T) Φ fl W cb)) : PE X (.BoolOp .Or (a :: b :: rest) pos) (rdE (cn X T) Φ fl W (.or ca cb)) :=
  PE.imp (pe_or ha hb) fun σ H Q h => by
    obtain ⟨A, F, G, st, rel, h⟩ := h
    refine ⟨A, F, G, st, rel, endG.bind h fun r st1 v G1 H1 _ s1 rel1 p1 h1 => ?_⟩
    dsimp only at h1
    split at h1
    · exact ⟨false, Rep.bl_inv p1, by rw [if_neg Bool.false_ne_true]; exact ⟨A, F, G1, st1, rel1, h1⟩⟩
    · exact ⟨true, Rep.bl_inv p1, by rw [if_pos rfl]; exact OkE.pure h1 rel1 (.bl _)⟩
    · exact h1.elim
theorem pe_notE (ha : PE X a (rdE (cn X T) Φ fl W ca)) : PE X (.UnaryOp .Not a pos) (rdE (cn X T) Φ fl W (.not ca)) :=
  PE.imp (pe_not ha) fun σ H Q h => by
    obtain ⟨A, F, G, st, rel, h⟩ := h
    refine ⟨A, F, G, st, rel, endG.bind h fun r st1 v G1 H1 _ s1 rel1 p1 h1 => ?_⟩
    dsimp only at h1
    split at h1
    · exact ⟨_, Rep.bl_inv p1, OkE.pure h1 rel1 (.bl _)⟩
    · exact h1.elim
def isBl : R → Bool
  | .val (.bl _) => true
  | _ => false
/-- behind a test -/
theorem endB_of {C : Cn} {A : List Addr} {F G : Hp} {σ : L2.St} {x : Res (R × St)} {α β : Type} {P : Hp → Hp → St → α → β → Prop} {Q : β → Hp → Prop} {Q1 : Bool → Hp → Prop} {f : R × St → Res (α × St)}
    (h : endG C A F G σ W P Q (x.bind f)) (hn : ∀ r s, isBl r = false → f (r, s) = .no) (k : ∀ b st1 G1 H1, Sub G G1 → Rel C A F G1 st1 σ H1 → endG C A F G1 σ W P Q (f (.val (.bl b), st1)) → Q1 b H1) : endB C W A F G σ Q1 x := by
  cases x with
  | no => exact h
  | exc c => exact h
  | ok a =>
    obtain ⟨r, st1⟩ := a
    cases hb : isBl r with
    | false =>
      have h : endG C A F G σ W P Q (f (r, st1)) := h
      rw [hn r st1 hb] at h
      exact h.elim
    | true =>
      cases r with
      | val d =>
        cases d with
        | bl b => exact fun G' H' s1 rel1 => k b st1 G' H' s1 rel1 (endG.mono s1 h)
        | _ => exact nomatch hb
      | var i => exact nomatch hb
      | fresh d => exact nomatch hb
theorem pe_iteE (hc : PT X c (rdT (cn X T) Φ fl W cc)) (ha : PE X a (rdE (cn X T) Φ fl W ca)) (hb : PE X b (rdE (cn X T) Φ fl W cb)) : PE X (.IfExp c a b pos) (rdE (cn X T) Φ fl W (.ite cc ca cb)) :=
  PE.imp (pe_ifExp hc ha hb) fun σ H Q h => by
    obtain ⟨A, F, G, st, rel, h⟩ := h
    rw [ev] at h
    refine ⟨A, F, G, st, rel, endB_of h (fun r s hr => ?_) fun b st1 G1 H1 s1 rel1 h1 => ?_⟩
    · cases r with
      | val d => cases d <;> first | rfl | (exact nomatch hr)
      | _ => rfl
    cases b with
    | true => rw [if_pos rfl]; exact ⟨A, F, G1, st1, rel1, h1⟩
    | false => rw [if_neg Bool.false_ne_true]; exact ⟨A, F, G1, st1, rel1, h1⟩
theorem rdT.toE {C : Cn} {σ : L2.St} {H : Hp} {Q : Bool → Hp → Prop} (h : rdT C Φ fl W cc σ H Q) : rdE C Φ fl W cc σ H fun x H1 => ∃ k, x = .bl k ∧ Q k H1 := by
  obtain ⟨A, F, G, st, rel, h⟩ := h
  refine ⟨A, F, G, st, rel, ?_⟩
  cases q : ev Φ fl cc st with
  | no => rw [q] at h; exact h
  | exc c => rw [q] at h; exact h
  | ok a =>
    rw [q] at h
    obtain ⟨r, st1⟩ := a
    cases r with
    | val d =>
      cases d with
      | bl b => exact fun v G' H' s1 rel1 p1 => ⟨b, Rep.bl_inv p1, h G' H' s1 rel1⟩
      | _ => exact h.elim
    | var i => exact h.elim
    | fresh d => exact h.elim
def plainT : Expr → Bool
  | .UnaryOp .Not _ _ => false
  | .BoolOp .. => false
  | .IfExp .. => false
  | .Compare .. => false
  | _ => true
theorem plainT_eq (h : plainT e = true) (env : Env) : ∀ whole, isTrue e env whole = (do let v ← whole; standAt e.pos; holding [v] (truthy v)) := fun whole => by
  cases e with
  | UnaryOp op x p => cases op <;> first | rfl | (exact nomatch h)
  | _ => first | rfl | (exact nomatch h)
theorem pt_plain (ha : PE X e (rdE (cn X T) Φ fl W cc)) (h : plainT e = true) : PT X e (rdT (cn X T) Φ fl W cc) := PT.imp (pt_val ha (plainT_eq h X.env)) fun σ H Q h => rdT.toE h
theorem pt_cmp2 {o : Op} {op : CmpOp} {r : R2} (ho : OpR X (compareOp op) r) (hr : OpS (cn X T) o r) (ha : PE X a (rdE (cn X T) Φ fl W ca)) (hb : PE X b (rdE (cn X T) Φ fl W cb)) (hm : behindInMarks op b = false) :
    PT X (.Compare a [op] [b] pos) (rdT (cn X T) Φ fl W (.op o (.cons ca (.cons cb .nil)))) := PT.imp (pt_cmpR ho ha hb hm) fun σ H Q h => snd2 hr σ H _ (rdT.toE h)
theorem pt_isN {j : Nat} (ha : PE X a (rdE (cn X T) Φ fl W ca)) : PT X (.Compare a [.Is] [.Constant .none j p] pos) (rdT (cn X T) Φ fl W (.op .isN (.cons ca .nil))) :=
  PT.imp (pt_cmpR op_isN ha pe_non rfl) fun σ H Q h => rdE.imp (rdOs_cons (rd_op (rdT.toE h))) fun x H1 h1 => by
    obtain ⟨A, F, G, st, d, z, rel, h2, hz, ok⟩ := OpE.one (rdOs_nil h1)
    refine ⟨rfl, ?_⟩
    rw [isN_val h2 (show Op.isN1 false d = some z from hz)] at ok
    exact ok.pure rel (by simpa using Rep.bl _)
theorem pt_notN {j : Nat} (ha : PE X a (rdE (cn X T) Φ fl W ca)) : PT X (.Compare a [.IsNot] [.Constant .none j p] pos) (rdT (cn X T) Φ fl W (.op .notN (.cons ca .nil))) :=
  PT.imp (pt_cmpR op_notN ha pe_non rfl) fun σ H Q h => rdE.imp (rdOs_cons (rd_op (rdT.toE h))) fun x H1 h1 => by
    obtain ⟨A, F, G, st, d, z, rel, h2, hz, ok⟩ := OpE.one (rdOs_nil h1)
    refine ⟨rfl, ?_⟩
    rw [isN_val h2 (show Op.isN1 true d = some z from hz)] at ok
    exact ok.pure rel (by simpa using Rep.bl _)
/-- a test, then another -/
theorem endB_bind {C : Cn} {A : List Addr} {F G : Hp} {σ : L2.St} {x : Res (R × St)} {Q Q1 : Bool → Hp → Prop} {f : R × St → Res (R × St)}
    (h : endB C W A F G σ Q (x.bind f)) (hn : ∀ r s, isBl r = false → f (r, s) = .no) (k : ∀ b st1 G1 H1, Sub G G1 → Rel C A F G1 st1 σ H1 → endB C W A F G1 σ Q (f (.val (.bl b), st1)) → Q1 b H1) : endB C W A F G σ Q1 x := by
  have mono : ∀ {G G1 : Hp} {y : Res (R × St)}, Sub G G1 → endB C W A F G σ Q y → endB C W A F G1 σ Q y := fun {G G1 y} s h => by
    cases y with
    | no => exact h
    | exc c => exact XP.mono s h
    | ok a =>
      obtain ⟨r, st1⟩ := a
      cases r with
      | val d =>
        cases d with
        | bl b => exact fun G' H' s1 => h G' H' (s.trans s1)
        | _ => exact h
      | var i => exact h
      | fresh d => exact h
  cases x with
  | no => exact h
  | exc c => exact h
  | ok a =>
    obtain ⟨r, st1⟩ := a
    cases hb : isBl r with
    | false =>
      have h : endB C W A F G σ Q (f (r, st1)) := h
      rw [hn r st1 hb] at h
      exact h.elim
    | true =>
      cases r with
      | val d =>
        cases d with
        | bl b => exact fun G' H' s1 rel1 => k b st1 G' H' s1 rel1 (mono s1 h)
        | _ => exact nomatch hb
      | var i => exact nomatch hb
      | fresh d => exact nomatch hb
theorem rdT_and {C : Cn} {σ : L2.St} {H : Hp} {Q : Bool → Hp → Prop} (h : rdT C Φ fl W (.and ca cb) σ H Q) : tAnd (rdT C Φ fl W ca) (rdT C Φ fl W cb) σ H Q := by
  obtain ⟨A, F, G, st, rel, h⟩ := h
  rw [ev] at h
  refine ⟨A, F, G, st, rel, endB_bind h (fun r s hr => ?_) fun b st1 G1 H1 s1 rel1 h1 => ?_⟩
  · cases r with
    | val d => cases d <;> first | rfl | (exact nomatch hr)
    | _ => rfl
  cases b with
  | true => rw [if_pos rfl]; exact ⟨A, F, G1, st1, rel1, h1⟩
  | false => rw [if_neg Bool.false_ne_true]; exact h1 G1 H1 Sub.rfl rel1
theorem rdT_or {C : Cn} {σ : L2.St} {H : Hp} {Q : Bool → Hp → Prop} (h : rdT C Φ fl W (.or ca cb) σ H Q) : tOr (rdT C Φ fl W ca) (rdT C Φ fl W cb) σ H Q := by
  obtain ⟨A, F, G, st, rel, h⟩ := h
  rw [ev] at h
  refine ⟨A, F, G, st, rel, endB_bind h (fun r s hr => ?_) fun b st1 G1 H1 s1 rel1 h1 => ?_⟩
  · cases r with
    | val d => cases d <;> first | rfl | (exact nomatch hr)
    | _ => rfl
  cases b with
  | true => rw [if_pos rfl]; exact h1 G1 H1 Sub.rfl rel1
  | false => rw [if_neg Bool.false_ne_true]; exact ⟨A, F, G1, st1, rel1, h1⟩
theorem rdT_not {C : Cn} {σ : L2.St} {H : Hp} {Q : Bool → Hp → Prop} (h : rdT C Φ fl W (.not ca) σ H Q) : tNot (rdT C Φ fl W ca) σ H Q := by
  obtain ⟨A, F, G, st, rel, h⟩ := h
  rw [ev] at h
  refine ⟨A, F, G, st, rel, endB_bind h (fun r s hr => ?_) fun b st1 G1 H1 s1 rel1 h1 => ?_⟩
  · cases r with
    | val d => cases d <;> first | rfl | (exact nomatch hr)
    | _ => rfl
  exact h1 G1 H1 Sub.rfl rel1
theorem pw_andT {rest : List Expr} (ha : PT X a (rdT (cn X T) Φ fl W ca)) (hb : PW X (.BoolOp .And (b :: rest) pos) (rdT (cn X T) Φ fl W cb)) : PW X (.BoolOp .And (a :: b :: rest) pos) (rdT (cn X T) Φ fl W (.and ca cb)) :=
  PW.imp (pw_and ha hb) fun σ H Q h => rdT_and h
theorem pw_orT {rest : List Expr} (ha : PT X a (rdT (cn X T) Φ fl W ca)) (hb : PW X (.BoolOp .Or (b :: rest) pos) (rdT (cn X T) Φ fl W cb)) : PW X (.BoolOp .Or (a :: b :: rest) pos) (rdT (cn X T) Φ fl W (.or ca cb)) :=
  PW.imp (pw_or ha hb) fun σ H Q h => rdT_or h
theorem pt_notT (ha : PT X a (rdT (cn X T) Φ fl W ca)) : PT X (.UnaryOp .Not a pos) (rdT (cn X T) Φ fl W (.not ca)) := PT.imp (pt_not ha) fun σ H Q h => rdT_not h
/-- a chain of two comparisons -/
theorem snd_chain {o o' : Op} {r r' : R2} (hr : OpS (cn X T) o r) (hr' : OpS (cn X T) o' r') : ∀ σ H Q, rdE (cn X T) Φ fl W (.chain o o' ca cb cc) σ H Q → tChain r r' (rdE (cn X T) Φ fl W ca) (rdE (cn X T) Φ fl W cb) (rdE (cn X T) Φ fl W cc) σ H Q := fun σ H Q h => by
  obtain ⟨A, F, G, st, rel, h⟩ := h
  refine ⟨A, F, G, st, rel, endG.bind h fun r1 st1 v G1 H1 eq1 s1 rel1 p1 h1 => ?_⟩
  clear eq1; dsimp only at h1
  split at h1
  · rename_i x
    refine ⟨A, F, G1, st1, rel1, endG.bind h1 fun r2 st2 v2 G2 H2 eq2 s2 rel2 p2 h2 => ?_⟩
    clear eq2; dsimp only at h2
    split at h2
    · rename_i y
      have q1 : Rep (cn X T) G2 v x := Rep.mono s2 p1
      split at h2
      · rename_i fr hz
        refine hr σ v v2 H2 _ ⟨A, F, G2, st2, [x, y], _, rel2, ⟨.inl q1, .inl p2, trivial⟩, hz, fun w G3 H3 s3 rel3 p3 => ?_⟩
        refine ⟨false, ?_, ?_⟩
        · cases fr with
          | false => exact Rep.bl_inv p3
          | true => obtain ⟨_, _, _, _, _, o⟩ := p3; exact o.elim
        · rw [if_neg Bool.false_ne_true]; exact OkE.pure (endG.mono s3 h2) rel3 (.bl _)
      · rename_i fr hz
        refine hr σ v v2 H2 _ ⟨A, F, G2, st2, [x, y], _, rel2, ⟨.inl q1, .inl p2, trivial⟩, hz, fun w G3 H3 s3 rel3 p3 => ?_⟩
        refine ⟨true, ?_, ?_⟩
        · cases fr with
          | false => exact Rep.bl_inv p3
          | true => obtain ⟨_, _, _, _, _, o⟩ := p3; exact o.elim
        rw [if_pos rfl]
        refine ⟨A, F, G3, st2, rel3, endG.bind (endG.mono s3 h2) fun r4 st4 v4 G4 H4 eq4 s4 rel4 p4 h4 => ?_⟩
        clear eq4; dsimp only at h4
        split at h4
        · rename_i z
          split at h4
          · rename_i fr k hz
            refine hr' σ v2 v4 H4 _ ⟨A, F, G4, st4, [y, z], _, rel4, ⟨.inl (Rep.mono (s3.trans s4) p2), .inl p4, trivial⟩, hz, fun w G5 H5 s5 rel5 p5 => ?_⟩
            cases fr with
            | false => exact h4 w G5 H5 s5 rel5 p5
            | true => obtain ⟨_, _, _, _, _, o⟩ := p5; exact o.elim
          · exact h4.elim
        · exact h4.elim
      · exact h2.elim
    · exact h2.elim
  · exact h1.elim
theorem pe_chainE {o o' : Op} {op op' : CmpOp} {r r' : R2} (ho : OpR X (compareOp op) r) (ho' : OpR X (compareOp op') r') (hr : OpS (cn X T) o r) (hr' : OpS (cn X T) o' r') (ha : PE X a (rdE (cn X T) Φ fl W ca)) (hb : PE X b (rdE (cn X T) Φ fl W cb))
    (hc : PE X c (rdE (cn X T) Φ fl W cc)) (hm : lastMarks [op, op'] [b, c] = false) : PE X (.Compare a [op, op'] [b, c] pos) (rdE (cn X T) Φ fl W (.chain o o' ca cb cc)) := PE.imp (pe_chain ho ho' ha hb hc hm) (snd_chain hr hr')
theorem pt_chainT {o o' : Op} {op op' : CmpOp} {r r' : R2} (ho : OpR X (compareOp op) r) (ho' : OpR X (compareOp op') r') (hr : OpS (cn X T) o r) (hr' : OpS (cn X T) o' r') (ha : PE X a (rdE (cn X T) Φ fl W ca)) (hb : PE X b (rdE (cn X T) Φ fl W cb))
    (hc : PE X c (rdE (cn X T) Φ fl W cc)) (hm : lastMarks [op, op'] [b, c] = false) : PT X (.Compare a [op, op'] [b, c] pos) (rdT (cn X T) Φ fl W (.chain o o' ca cb cc)) := PT.imp (pt_chain ho ho' ha hb hc hm) fun σ H Q h => snd_chain hr hr' σ H _ (rdT.toE h)
end
end PV
set_option Elab.async false
set_option linter.all false
set_option maxRecDepth 100000
set_option maxHeartbeats 4000000
namespace PV
open PySem PySem.Spec PyProof.Rows L2
/-- arguments of a call: new things apart from one another -/
def AsR (C : Cn) (G : Hp) (st : St) (σ : L2.St) (H : Hp) : Hp → List R → List V → Prop
  | _, [], [] => True
  | F, .fresh d :: rs, v :: vs => ∃ p o, v = .ref p ∧ F p = none ∧ G p = none ∧ NotOwn st σ p ∧ H p = some o ∧ Own C G H p d ∧ AsR C G st σ H (upd F p o) rs vs
  | F, .val d :: rs, v :: vs => Rep C G v d ∧ AsR C G st σ H F rs vs
  | F, .var i :: rs, v :: vs => σ[i]? = some (some v) ∧ AsR C G st σ H F rs vs
  | _, _, _ => False
section
variable {C : Cn} {A : List Addr} {σ : L2.St} {H : Hp}
theorem AsR.mono {G G' : Hp} {st st' : St} (s : Sub G G') (hn : ∀ p, NotOwn st σ p → NotOwn st' σ p) : ∀ {F F' : Hp} {rs : List R} {vs : List V}, (∀ p, F p = none → F' p = none) → (∀ p o, F p = none → G p = none → NotOwn st σ p → H p = some o → G' p = none) →
    AsR C G st σ H F rs vs → AsR C G' st' σ H F' rs vs
  | _, _, [], [], _, _, _ => trivial
  | F, F', .fresh d :: rs, v :: vs, hf, hg, ⟨p, o, e, h1, h2, h3, h4, h5, h6⟩ =>
    ⟨p, o, e, hf p h1, hg p o h1 h2 h3 h4, hn p h3, h4, h5.mono s rfl, AsR.mono s hn (fun q hq => by
      by_cases z : q = p
      · subst z; rw [upd_same] at hq; cases hq
      · rw [upd_ne z] at hq ⊢; exact hf q hq) (fun q u hq => hg q u (by
      by_cases z : q = p
      · subst z; rw [upd_same] at hq; cases hq
      · rw [upd_ne z] at hq; exact hq)) h6⟩
  | _, _, .val d :: rs, v :: vs, hf, hg, ⟨h1, h2⟩ => ⟨h1.mono s, AsR.mono s hn hf hg h2⟩
  | _, _, .var i :: rs, v :: vs, hf, hg, ⟨h1, h2⟩ => ⟨h1, AsR.mono s hn hf hg h2⟩
  | _, _, [], _ :: _, _, _, h => h.elim
  | _, _, .fresh _ :: _, [], _, _, h => h.elim
  | _, _, .val _ :: _, [], _, _, h => h.elim
  | _, _, .var _ :: _, [], _, _, h => h.elim
end
section
variable (C : Cn) (Φ : Fns) (fl : Nat → List Bool) (W : WX)
def rdAs (es : Es) : TA := fun σ H Q => ∃ A F G st, Rel C A F G st σ H ∧ endG C A F G σ W (fun G H st rs vs => AsR C G st σ H F rs vs) Q (evAs Φ fl es st)
end
section
variable {C : Cn} {Φ : Fns} {fl : Nat → List Bool} {W : WX} {σ : L2.St} {H : Hp}
theorem rdAs_nil {Q : List V → Hp → Prop} (h : rdAs C Φ fl W .nil σ H Q) : Q [] H := by
  obtain ⟨A, F, G, st, rel, h⟩ := h
  exact h [] G H Sub.rfl rel trivial
theorem rdAs_cons {e : E} {es : Es} {Q : List V → Hp → Prop} (h : rdAs C Φ fl W (.cons e es) σ H Q) : rdE C Φ fl W e σ H fun x H1 => rdAs C Φ fl W es σ H1 fun xs H2 => Q (x :: xs) H2 := by
  obtain ⟨A, F, G, st, rel, h⟩ := h
  refine ⟨A, F, G, st, rel, endG.bind h fun r st1 v G1 H1 _ s1 rel1 p1 h1 => ?_⟩
  cases r with
  | val d =>
    refine ⟨A, F, G1, st1, rel1, endG.bind h1 fun rs st3 vs G3 H3 _ s3 rel3 p3 h3 => ?_⟩
    exact h3 (v :: vs) G3 H3 Sub.rfl rel3 ⟨Rep.mono s3 p1, p3⟩
  | var i =>
    refine ⟨A, F, G1, st1, rel1, endG.bind h1 fun rs st3 vs G3 H3 _ s3 rel3 p3 h3 => ?_⟩
    exact h3 (v :: vs) G3 H3 Sub.rfl rel3 ⟨p1, p3⟩
  | fresh d =>
    obtain ⟨p, rfl, f1, g1, n1, o1⟩ := p1
    obtain ⟨u, hu⟩ := o1.some
    have relA := rel1.aside hu g1 n1
    refine ⟨A, upd F p u, G1, st1, relA, ?_⟩
    cases q : evAs Φ fl es st1 with
    | no => simp only [q, Res.bind] at h1; exact h1
    | exc c =>
      simp only [q, Res.bind] at h1
      obtain ⟨x, ex, hx⟩ := h1
      exact ⟨x, ex, fun σ' G' H' s1 s2 s3 s4 => hx σ' G' H' s1 (fun a o e => s2 a o (by rw [upd_ne (ne_of_none e f1)]; exact e)) s3 fun a o e => by
        have := s4 a o e
        by_cases z : a = p
        · subst z; exact f1
        · rw [upd_ne z] at this; exact this⟩
    | ok y =>
      obtain ⟨rs, st3⟩ := y
      simp only [q, Res.bind] at h1
      intro vs G3 H3 s3 rel3 p3
      obtain ⟨relB, b1, b2, b3⟩ := Rel.again f1 rel3
      refine h1 (.ref p :: vs) G3 H3 s3 relB ⟨p, u, rfl, f1, b2, b3, b1, o1.mono s3 (b1.trans hu.symm), p3⟩
end
/-- the arguments as they are taken -/
def ArI (C : Cn) (G : Hp) (st : St) (σ : L2.St) (H : Hp) : Hp → List Ar → List (Option Nat) → List V → Prop
  | _, [], [], [] => True
  | F, .val d :: as, none :: ws, v :: vs => Rep C G v d ∧ ArI C G st σ H F as ws vs
  | F, .own d :: as, none :: ws, v :: vs => ∃ p o, v = .ref p ∧ F p = none ∧ G p = none ∧ NotOwn st σ p ∧ H p = some o ∧ Own C G H p d ∧ ArI C G st σ H (upd F p o) as ws vs
  | F, .ref d :: as, some i :: ws, v :: vs => (∃ t, slot st i = .own t d) ∧ σ[i]? = some (some v) ∧ some i ∉ ws ∧ ArI C G st σ H F as ws vs
  | _, _, _, _ => False
theorem ofMapO {α β : Type} {x : Option α} {f : α → β} {y : β} (h : x.map f = some y) : ∃ a, x = some a ∧ f a = y := Option.map_eq_some_iff.mp h
section
variable {C : Cn} {A : List Addr} {σ : L2.St} {H : Hp}
theorem args_ok : ∀ {rs : List R} {vs : List V} {fl : List Bool} {st : St} {as : List Ar} {ws : List (Option Nat)} {st2 : St} {F G : Hp}, Rel C A F G st σ H → AsR C G st σ H F rs vs → args fl rs st = some (as, ws, st2) →
    ∃ G2, Sub G G2 ∧ Rel C A F G2 st2 σ H ∧ ArI C G2 st2 σ H F as ws vs
  | [], [], fl, st, as, ws, st2, F, G, rel, h, e => by
    simp only [args] at e
    cases e
    exact ⟨G, Sub.rfl, rel, trivial⟩
  | [], _ :: _, _, _, _, _, _, _, _, _, h, _ => h.elim
  | r :: rs, [], _, _, _, _, _, _, _, _, h, _ => by cases r <;> exact h.elim
  | r :: rs, v :: vs, [], st, as, ws, st2, F, G, rel, h, e => by simp only [args] at e; cases e
  | .val d :: rs, v :: vs, f :: fl, st, as, ws, st2, F, G, rel, ⟨h1, h2⟩, e => by
    simp only [args] at e
    obtain ⟨⟨as', ws', st'⟩, e1, e2⟩ := ofMapO e
    cases e2
    obtain ⟨G2, s2, rel2, a2⟩ := args_ok rel h2 e1
    exact ⟨G2, s2, rel2, h1.mono s2, a2⟩
  | .fresh d :: rs, v :: vs, f :: fl, st, as, ws, st2, F, G, rel, ⟨p, o, e0, h1, h2, h3, h4, h5, h6⟩, e => by
    simp only [args] at e
    obtain ⟨⟨as', ws', st'⟩, e1, e2⟩ := ofMapO e
    cases e2
    cases f with
    | true =>
      obtain ⟨G2, s2, rel2, a2⟩ := args_ok (rel.aside h4 h2 h3) h6 e1
      obtain ⟨relB, b1, b2, b3⟩ := Rel.again h1 rel2
      exact ⟨G2, s2, relB, p, o, e0, h1, b2, b3, b1, h5.mono s2 rfl, a2⟩
    | false =>
      have s1 : Sub G (upd G p o) := Sub.upd h2
      have h6' : AsR C (upd G p o) st σ H F rs vs := AsR.mono s1 (fun _ q => q) (fun q hq => by
        by_cases z : q = p
        · subst z; exact h1
        · rw [upd_ne z] at hq; exact hq) (fun q u hq hg _ _ => by
        have z : q ≠ p := fun z => by subst z; rw [upd_same] at hq; cases hq
        rw [upd_ne z]; exact hg) h6
      obtain ⟨G2, s2, rel2, a2⟩ := args_ok (rel.freeze h4 h2 h1 h3) h6' e1
      exact ⟨G2, s1.trans s2, rel2, by rw [e0]; exact (h5.rep h4 h2).mono s2, a2⟩
  | .var i :: rs, v :: vs, f :: fl, st, as, ws, st2, F, G, rel, ⟨h1, h2⟩, e => by
    simp only [args] at e
    cases q : slot st i with
    | none => rw [q] at e; cases e
    | val d =>
      rw [q] at e
      obtain ⟨⟨as', ws', st'⟩, e1, e2⟩ := ofMapO e
      cases e2
      obtain ⟨v', k1, k2⟩ := rel.val i d q
      rw [h1] at k1; cases k1
      obtain ⟨G2, s2, rel2, a2⟩ := args_ok rel h2 e1
      exact ⟨G2, s2, rel2, k2.mono s2, a2⟩
    | own t d =>
      rw [q] at e
      cases f with
      | true =>
        simp only [if_true] at e
        obtain ⟨⟨as', ws', st'⟩, e1, e2⟩ := Option.bind_eq_some_iff.mp e
        dsimp only at e2
        split at e2
        · cases e2
        · rename_i hc
          split at e2
          · rename_i t' d' q'
            cases e2
            obtain ⟨G2, s2, rel2, a2⟩ := args_ok rel h2 e1
            exact ⟨G2, s2, rel2, ⟨_, q'⟩, h1, fun z => hc (by simpa using z), a2⟩
          · cases e2
      | false =>
        simp only [Bool.false_eq_true, if_false] at e
        obtain ⟨⟨as', ws', st'⟩, e1, e2⟩ := ofMapO e
        cases e2
        obtain ⟨p, u, k1, k2, k3, k4, k5⟩ := rel.keep q
        rw [h1] at k1; cases k1
        have s1 : Sub G (upd G p u) := Sub.upd k3
        have h2' : AsR C (upd G p u) (st.set i (.val d)) σ H F rs vs := AsR.mono s1 (fun y hy j t1 d1 z => by
          rw [slot_set] at z
          split at z
          · cases z
          · exact hy j t1 d1 z) (fun _ h => h) (fun y u' _ hg hy _ => by
          have z : y ≠ p := fun z => by subst z; exact hy i t d q h1
          rw [upd_ne z]; exact hg) h2
        obtain ⟨G2, s2, rel2, a2⟩ := args_ok k4 h2' e1
        exact ⟨G2, s1.trans s2, rel2, k5.mono s2, a2⟩
end
def adr : V → Addr
  | .ref p => p
  | _ => 0
section
variable {C : Cn} {A : List Addr} {G : Hp} {st : St} {σ : L2.St} {H : Hp}
theorem ArI.len : ∀ {F : Hp} {as : List Ar} {ws : List (Option Nat)} {vs : List V}, ArI C G st σ H F as ws vs → as.length = vs.length ∧ ws.length = vs.length
  | _, [], [], [], _ => ⟨rfl, rfl⟩
  | _, .val d :: as, none :: ws, v :: vs, ⟨_, h⟩ => by obtain ⟨h1, h2⟩ := ArI.len h; simp [h1, h2]
  | _, .own d :: as, none :: ws, v :: vs, ⟨_, _, _, _, _, _, _, _, h⟩ => by obtain ⟨h1, h2⟩ := ArI.len h; simp [h1, h2]
  | _, .ref d :: as, some i :: ws, v :: vs, ⟨_, _, _, h⟩ => by obtain ⟨h1, h2⟩ := ArI.len h; simp [h1, h2]
theorem ArI.val : ∀ {F : Hp} {as : List Ar} {ws : List (Option Nat)} {vs : List V} {j : Nat} {d : D}, ArI C G st σ H F as ws vs → as[j]? = some (.val d) → ∃ v, vs[j]? = some v ∧ Rep C G v d
  | _, [], [], [], _, _, _, e => by simp at e
  | _, .val d :: as, none :: ws, v :: vs, 0, _, ⟨h, _⟩, e => by simp at e; subst e; exact ⟨v, rfl, h⟩
  | _, .val d :: as, none :: ws, v :: vs, j + 1, d', ⟨_, h⟩, e => by simpa using ArI.val (j := j) (d := d') h (by simpa using e)
  | _, .own d :: as, none :: ws, v :: vs, 0, _, _, e => by simp at e
  | _, .own d :: as, none :: ws, v :: vs, j + 1, d', ⟨_, _, _, _, _, _, _, _, h⟩, e => by simpa using ArI.val (j := j) (d := d') h (by simpa using e)
  | _, .ref d :: as, some i :: ws, v :: vs, 0, _, _, e => by simp at e
  | _, .ref d :: as, some i :: ws, v :: vs, j + 1, d', ⟨_, _, _, h⟩, e => by simpa using ArI.val (j := j) (d := d') h (by simpa using e)
/-- F grows along the arguments -/
theorem ArI.own : ∀ {F : Hp} {as : List Ar} {ws : List (Option Nat)} {vs : List V} {j : Nat} {d : D}, ArI C G st σ H F as ws vs → as[j]? = some (.own d) → ∃ p, vs[j]? = some (.ref p) ∧ F p = none ∧ G p = none ∧ NotOwn st σ p ∧ Own C G H p d
  | _, [], [], [], _, _, _, e => by simp at e
  | _, .val d :: as, none :: ws, v :: vs, 0, _, _, e => by simp at e
  | _, .val d :: as, none :: ws, v :: vs, j + 1, d', ⟨_, h⟩, e => by simpa using ArI.own (j := j) (d := d') h (by simpa using e)
  | _, .own d :: as, none :: ws, v :: vs, 0, _, ⟨p, o, e0, h1, h2, h3, h4, h5, _⟩, e => by simp at e; subst e; exact ⟨p, by simp [e0], h1, h2, h3, h5⟩
  | F, .own d :: as, none :: ws, v :: vs, j + 1, d', ⟨p, o, e0, f1, _, _, _, _, h⟩, e => by
    obtain ⟨q, h1, h2, h3, h4, h5⟩ := ArI.own (j := j) (d := d') h (by simpa using e)
    refine ⟨q, by simpa using h1, ?_, h3, h4, h5⟩
    by_cases z : q = p
    · subst z; exact f1
    · rw [upd_ne z] at h2; exact h2
  | _, .ref d :: as, some i :: ws, v :: vs, 0, _, _, e => by simp at e
  | _, .ref d :: as, some i :: ws, v :: vs, j + 1, d', ⟨_, _, _, h⟩, e => by simpa using ArI.own (j := j) (d := d') h (by simpa using e)
theorem ArI.ref : ∀ {F : Hp} {as : List Ar} {ws : List (Option Nat)} {vs : List V} {j : Nat} {d : D}, ArI C G st σ H F as ws vs → as[j]? = some (.ref d) → ∃ i t v, ws[j]? = some (some i) ∧ slot st i = .own t d ∧ σ[i]? = some (some v) ∧ vs[j]? = some v
  | _, [], [], [], _, _, _, e => by simp at e
  | _, .val d :: as, none :: ws, v :: vs, 0, _, _, e => by simp at e
  | _, .val d :: as, none :: ws, v :: vs, j + 1, d', ⟨_, h⟩, e => by simpa using ArI.ref (j := j) (d := d') h (by simpa using e)
  | _, .own d :: as, none :: ws, v :: vs, 0, _, _, e => by simp at e
  | _, .own d :: as, none :: ws, v :: vs, j + 1, d', ⟨_, _, _, _, _, _, _, _, h⟩, e => by simpa using ArI.ref (j := j) (d := d') h (by simpa using e)
  | _, .ref d :: as, some i :: ws, v :: vs, 0, _, ⟨⟨t, h⟩, h2, _, _⟩, e => by simp at e; subst e; exact ⟨i, t, v, rfl, h, h2, rfl⟩
  | _, .ref d :: as, some i :: ws, v :: vs, j + 1, d', ⟨_, _, _, h⟩, e => by simpa using ArI.ref (j := j) (d := d') h (by simpa using e)
theorem ArI.ws : ∀ {F : Hp} {as : List Ar} {ws : List (Option Nat)} {vs : List V} {j i : Nat}, ArI C G st σ H F as ws vs → ws[j]? = some (some i) → ∃ d, as[j]? = some (.ref d)
  | _, [], [], [], _, _, _, e => by simp at e
  | _, .val d :: as, none :: ws, v :: vs, 0, _, _, e => by simp at e
  | _, .val d :: as, none :: ws, v :: vs, j + 1, i, ⟨_, h⟩, e => by simpa using ArI.ws (j := j) (i := i) h (by simpa using e)
  | _, .own d :: as, none :: ws, v :: vs, 0, _, _, e => by simp at e
  | _, .own d :: as, none :: ws, v :: vs, j + 1, i, ⟨_, _, _, _, _, _, _, _, h⟩, e => by simpa using ArI.ws (j := j) (i := i) h (by simpa using e)
  | _, .ref d :: as, some i :: ws, v :: vs, 0, _, _, e => ⟨d, rfl⟩
  | _, .ref d :: as, some i :: ws, v :: vs, j + 1, i', ⟨_, _, _, h⟩, e => by simpa using ArI.ws (j := j) (i := i') h (by simpa using e)
/-- no own list is given twice -/
theorem ArI.nd : ∀ {F : Hp} {as : List Ar} {ws : List (Option Nat)} {vs : List V} {j k i : Nat}, ArI C G st σ H F as ws vs → ws[j]? = some (some i) → ws[k]? = some (some i) → j = k
  | _, [], [], [], _, _, _, _, e, _ => by simp at e
  | _, .val d :: as, none :: ws, v :: vs, 0, _, _, _, e, _ => by simp at e
  | _, .val d :: as, none :: ws, v :: vs, j + 1, 0, _, _, _, e => by simp at e
  | _, .val d :: as, none :: ws, v :: vs, j + 1, k + 1, i, ⟨_, h⟩, e, e' => by rw [ArI.nd (j := j) (k := k) (i := i) h (by simpa using e) (by simpa using e')]
  | _, .own d :: as, none :: ws, v :: vs, 0, _, _, _, e, _ => by simp at e
  | _, .own d :: as, none :: ws, v :: vs, j + 1, 0, _, _, _, e => by simp at e
  | _, .own d :: as, none :: ws, v :: vs, j + 1, k + 1, i, ⟨_, _, _, _, _, _, _, _, h⟩, e, e' => by rw [ArI.nd (j := j) (k := k) (i := i) h (by simpa using e) (by simpa using e')]
  | _, .ref d :: as, some i :: ws, v :: vs, 0, 0, _, _, _, _ => rfl
  | _, .ref d :: as, some i :: ws, v :: vs, 0, k + 1, _, ⟨_, _, h, _⟩, e, e' => by
    simp at e; subst e
    exact absurd (List.mem_of_getElem? (show ws[k]? = _ by simpa using e')) h
  | _, .ref d :: as, some i :: ws, v :: vs, j + 1, 0, _, ⟨_, _, h, _⟩, e, e' => by
    simp at e'; subst e'
    exact absurd (List.mem_of_getElem? (show ws[j]? = _ by simpa using e)) h
  | _, .ref d :: as, some i' :: ws, v :: vs, j + 1, k + 1, i, ⟨_, _, _, h⟩, e, e' => by rw [ArI.nd (j := j) (k := k) (i := i) h (by simpa using e) (by simpa using e')]
/-- two new things are apart -/
theorem ArI.apart : ∀ {F : Hp} {as : List Ar} {ws : List (Option Nat)} {vs : List V} {j k : Nat} {d e : D} {p : Addr}, ArI C G st σ H F as ws vs → as[j]? = some (.own d) → as[k]? = some (.own e) → vs[j]? = some (.ref p) → vs[k]? = some (.ref p) → j = k
  | _, [], [], [], _, _, _, _, _, _, e, _, _, _ => by simp at e
  | _, .val d :: as, none :: ws, v :: vs, 0, _, _, _, _, _, e, _, _, _ => by simp at e
  | _, .val d :: as, none :: ws, v :: vs, j + 1, 0, _, _, _, _, _, e, _, _ => by simp at e
  | _, .val d :: as, none :: ws, v :: vs, j + 1, k + 1, _, _, p, ⟨_, h⟩, e1, e2, e3, e4 => by rw [ArI.apart (j := j) (k := k) (p := p) h (by simpa using e1) (by simpa using e2) (by simpa using e3) (by simpa using e4)]
  | _, .ref d :: as, some i :: ws, v :: vs, 0, _, _, _, _, _, e, _, _, _ => by simp at e
  | _, .ref d :: as, some i :: ws, v :: vs, j + 1, 0, _, _, _, _, _, e, _, _ => by simp at e
  | _, .ref d :: as, some i :: ws, v :: vs, j + 1, k + 1, _, _, p, ⟨_, _, _, h⟩, e1, e2, e3, e4 => by rw [ArI.apart (j := j) (k := k) (p := p) h (by simpa using e1) (by simpa using e2) (by simpa using e3) (by simpa using e4)]
  | _, .own d :: as, none :: ws, v :: vs, 0, 0, _, _, _, _, _, _, _, _ => rfl
  | _, .own d :: as, none :: ws, v :: vs, 0, k + 1, _, _, p, ⟨q, o, e0, _, _, _, _, _, h⟩, _, e2, e3, e4 => by
    obtain ⟨q', h1, h2, _⟩ := ArI.own (j := k) h (by simpa using e2)
    rw [show vs[k]? = some (.ref p) by simpa using e4] at h1
    cases h1
    simp at e3
    rw [e0] at e3
    cases e3
    rw [upd_same] at h2; cases h2
  | _, .own d :: as, none :: ws, v :: vs, j + 1, 0, _, _, p, ⟨q, o, e0, _, _, _, _, _, h⟩, e1, _, e3, e4 => by
    obtain ⟨q', h1, h2, _⟩ := ArI.own (j := j) h (by simpa using e1)
    rw [show vs[j]? = some (.ref p) by simpa using e3] at h1
    cases h1
    simp at e4
    rw [e0] at e4
    cases e4
    rw [upd_same] at h2; cases h2
  | _, .own d :: as, none :: ws, v :: vs, j + 1, k + 1, _, _, p, ⟨_, _, _, _, _, _, _, _, h⟩, e1, e2, e3, e4 => by rw [ArI.apart (j := j) (k := k) (p := p) h (by simpa using e1) (by simpa using e2) (by simpa using e3) (by simpa using e4)]
end
/-- the callee's slots at its start -/
theorem start_len (k : Nat) : ∀ (as : List Ar), (start k as).length = as.length := fun as => by
  induction as generalizing k with
  | nil => rfl
  | cons a as ih => cases a <;> simp [start, ih]
theorem start_at : ∀ (as : List Ar) (k j : Nat), slot (start k as) j = (match as[j]? with | some (.val d) => .val d | some (.ref d) => .own (some (k + j)) d | some (.own d) => .own none d | none => .none)
  | [], k, j => by simp [start, slot]
  | a :: as, k, 0 => by cases a <;> simp [start, slot]
  | a :: as, k, j + 1 => by
    have ih := start_at as (k + 1) j
    have e : slot (start k (a :: as)) (j + 1) = slot (start (k + 1) as) j := by cases a <;> simp [start, slot]
    rw [e, ih]
    have : k + 1 + j = k + (j + 1) := by omega
    simp only [List.getElem?_cons_succ, this]
open Classical in
/-- what the caller owns besides -/
noncomputable def others (F : Hp) (st : St) (σ : L2.St) (H : Hp) (ws : List (Option Nat)) : Hp := fun a =>
  if ∃ i t d, slot st i = .own t d ∧ σ[i]? = some (some (.ref a)) ∧ some i ∉ ws then H a else F a
theorem slot_get {os : List Sl} {j : Nat} {s : Sl} (h : os[j]? = some s) : slot os j = s := by unfold slot; rw [List.getD_eq_getElem?_getD, h]; rfl
section
variable {C : Cn} {A : List Addr} {F G : Hp} {st : St} {σ : L2.St} {H : Hp} {as : List Ar} {ws : List (Option Nat)} {vs : List V}
theorem others_in {a : Addr} {i : Nat} {t : Option Nat} {d : D} (e : slot st i = .own t d) (h : σ[i]? = some (some (.ref a))) (n : some i ∉ ws) : others F st σ H ws a = H a := by
  unfold others
  rw [if_pos ⟨i, t, d, e, h, n⟩]
theorem others_out {a : Addr} (h : ¬ ∃ i t d, slot st i = .own t d ∧ σ[i]? = some (some (.ref a)) ∧ some i ∉ ws) : others F st σ H ws a = F a := by
  unfold others
  rw [if_neg h]
theorem others_notOwn {a : Addr} (h : NotOwn st σ a) : others F st σ H ws a = F a := others_out fun ⟨i, t, d, e, q, _⟩ => h i t d e q
theorem Rel.others_sub (rel : Rel C A F G st σ H) : Sub F (others F st σ H ws) := fun a o e => by
  by_cases h : ∃ i t d, slot st i = .own t d ∧ σ[i]? = some (some (.ref a)) ∧ some i ∉ ws
  · obtain ⟨i, t, d, e1, e2, _⟩ := h
    obtain ⟨p, h1, h2, _⟩ := rel.own i t d e1
    rw [e2] at h1; cases h1
    rw [h2] at e; cases e
  · rw [others_out h]; exact e
theorem Rel.callee (rel : Rel C A F G st σ H) (ar : ArI C G st σ H F as ws vs) : Rel C (vs.map adr) (others F st σ H ws) G (start 0 as) (vs.map some) H := by
  obtain ⟨l1, l2⟩ := ar.len
  have inws : ∀ {j i : Nat}, ws[j]? = some (some i) → some i ∈ ws := fun h => List.mem_of_getElem? h
  have cases_ : ∀ {j : Nat} {t : Option Nat} {d : D}, slot (start 0 as) j = .own t d → (as[j]? = some (.ref d) ∧ t = some j) ∨ (as[j]? = some (.own d) ∧ t = none) := fun {j t d} e => by
    rw [start_at] at e
    cases q : as[j]? with
    | none => rw [q] at e; cases e
    | some a =>
      rw [q] at e
      cases a with
      | val d' => cases e
      | ref d' =>
        simp only [Nat.zero_add] at e
        cases e; exact .inl ⟨rfl, rfl⟩
      | own d' => cases e; exact .inr ⟨rfl, rfl⟩
  refine ⟨by rw [start_len, List.length_map, l1], fun a o e => ?_, rel.subG, fun a o e => ?_, fun j d e => ?_, fun j t d e => ?_, fun j k t u d e p q1 q2 q3 q4 => ?_⟩
  · by_cases h : ∃ i t d, slot st i = .own t d ∧ σ[i]? = some (some (.ref a)) ∧ some i ∉ ws
    · obtain ⟨i, t, d, e1, e2, e3⟩ := h
      rw [others_in e1 e2 e3] at e; exact e
    · rw [others_out h] at e; exact rel.subR a o e
  · rw [others_out]
    · exact rel.dis a o e
    · rintro ⟨i, t, d, e1, e2, _⟩
      obtain ⟨p, h1, _, h3, _⟩ := rel.own i t d e1
      rw [e2] at h1; cases h1
      rw [h3] at e; cases e
  · rw [start_at] at e
    cases q : as[j]? with
    | none => rw [q] at e; cases e
    | some a =>
      rw [q] at e
      cases a with
      | val d' =>
        cases e
        obtain ⟨v, h1, h2⟩ := ar.val q
        exact ⟨v, by rw [List.getElem?_map, h1]; rfl, h2⟩
      | ref d' => cases e
      | own d' => cases e
  · rcases cases_ e with ⟨q, rfl⟩ | ⟨q, rfl⟩
    · obtain ⟨i, t, v, h1, h2, h3, h4⟩ := ar.ref q
      obtain ⟨p, k1, k2, k3, k4, _⟩ := rel.own i t d h2
      rw [h3] at k1; cases k1
      refine ⟨p, by rw [List.getElem?_map, h4]; rfl, ?_, k3, k4, fun m hm => ?_⟩
      · rw [others_out]
        · exact k2
        · rintro ⟨i', t', d', e1, e2, e3⟩
          have := rel.inj i i' t t' d d' p h2 e1 h3 e2
          subst this
          exact e3 (inws h1)
      · cases hm
        rw [List.getElem?_map, h4]; rfl
    · obtain ⟨p, h1, h2, h3, h4, h5⟩ := ar.own q
      exact ⟨p, by rw [List.getElem?_map, h1]; rfl, by rw [others_notOwn h4]; exact h2, h3, h5, fun m hm => nomatch hm⟩
  · have g1 : ∀ {j : Nat}, (vs.map some)[j]? = some (some (.ref p)) → vs[j]? = some (.ref p) := fun {j} h => by
      rw [List.getElem?_map] at h
      cases z : vs[j]? with
      | none => rw [z] at h; cases h
      | some v => rw [z] at h; cases h; rfl
    have q3 := g1 q3
    have q4 := g1 q4
    rcases cases_ q1 with ⟨r1, _⟩ | ⟨r1, _⟩
    · obtain ⟨i, t1, v1, h1, h2, h3, h4⟩ := ar.ref r1
      rw [q3] at h4; cases h4
      rcases cases_ q2 with ⟨r2, _⟩ | ⟨r2, _⟩
      · obtain ⟨i', t2, v2, k1, k2, k3, k4⟩ := ar.ref r2
        rw [q4] at k4; cases k4
        have := rel.inj i i' _ _ _ _ p h2 k2 h3 k3
        subst this
        exact ar.nd h1 k1
      · obtain ⟨p', k1, _, _, k4, _⟩ := ar.own r2
        rw [q4] at k1; cases k1
        exact absurd h3 (k4 i _ _ h2)
    · obtain ⟨p1, h1, _, _, h4, _⟩ := ar.own r1
      rw [q3] at h1; cases h1
      rcases cases_ q2 with ⟨r2, _⟩ | ⟨r2, _⟩
      · obtain ⟨i', t2, v2, k1, k2, k3, k4⟩ := ar.ref r2
        rw [q4] at k4; cases k4
        exact absurd k3 (h4 i' _ _ k2)
      · exact ar.apart r1 r2 q3 q4
theorem outs_spec : ∀ {ws : List (Option Nat)} {os : List Sl} {st st3 : St} {k : Nat}, (∀ (j j' i : Nat), ws[j]? = some (some i) → ws[j']? = some (some i) → j = j') → outs k ws os st = some st3 →
    st3.length = st.length ∧ (∀ i, some i ∉ ws → slot st3 i = slot st i) ∧ ∀ (j i : Nat), ws[j]? = some (some i) → ∃ t d d', slot st i = .own t d ∧ os[j]? = some (Sl.own (some (k + j)) d') ∧ slot st3 i = .own t d'
  | [], os, st, st3, k, _, e => by
    simp only [outs] at e
    cases e
    exact ⟨rfl, fun _ _ => rfl, fun j i h => by simp at h⟩
  | none :: ws, [], st, st3, k, _, e => by simp only [outs] at e; cases e
  | none :: ws, o :: os, st, st3, k, nd, e => by
    simp only [outs] at e
    obtain ⟨h1, h2, h3⟩ := outs_spec (fun j j' i e1 e2 => by have := nd (j + 1) (j' + 1) i (by simpa using e1) (by simpa using e2); omega) e
    refine ⟨h1, fun i hi => h2 i fun z => hi (List.mem_cons_of_mem _ z), fun j i hj => ?_⟩
    cases j with
    | zero => simp at hj
    | succ j =>
      obtain ⟨t, d, d', a, b, c⟩ := h3 j i (by simpa using hj)
      exact ⟨t, d, d', a, by simpa [Nat.add_assoc, Nat.add_comm 1 j] using b, c⟩
  | some i0 :: ws, [], st, st3, k, _, e => by simp only [outs] at e; cases e
  | some i0 :: ws, .none :: os, st, st3, k, _, e => by simp only [outs] at e; cases e
  | some i0 :: ws, .val _ :: os, st, st3, k, _, e => by simp only [outs] at e; cases e
  | some i0 :: ws, .own none _ :: os, st, st3, k, _, e => by simp only [outs] at e; cases e
  | some i0 :: ws, .own (some k') d1 :: os, st, st3, k, nd, e => by
    simp only [outs] at e
    split at e
    · rename_i hk
      have hk : k' = k := by simpa using hk
      subst hk
      split at e
      · rename_i t0 d0 q0
        have hl : i0 < st.length := slot_lt (by rw [q0]; intro z; cases z)
        have n0 : ∀ j, ws[j]? ≠ some (some i0) := fun j z => by
          have := nd 0 (j + 1) i0 (by simp) (by simpa using z)
          omega
        have n1 : some i0 ∉ ws := fun z => by
          obtain ⟨j, hj, e⟩ := List.getElem_of_mem z
          exact n0 j (by rw [List.getElem?_eq_getElem hj, e])
        obtain ⟨h1, h2, h3⟩ := outs_spec (fun j j' i e1 e2 => by have := nd (j + 1) (j' + 1) i (by simpa using e1) (by simpa using e2); omega) e
        refine ⟨by simpa using h1, fun i hi => ?_, fun j i hj => ?_⟩
        · rw [h2 i fun z => hi (List.mem_cons_of_mem _ z), slot_set_ne fun z => hi (by rw [z]; exact List.mem_cons_self)]
        · cases j with
          | zero =>
            simp at hj
            subst hj
            refine ⟨t0, d0, d1, q0, by simp, ?_⟩
            rw [h2 i0 n1, slot_set_same hl]
          | succ j =>
            obtain ⟨t, d, d', a, b, c⟩ := h3 j i (by simpa using hj)
            have ne : i0 ≠ i := fun z => by subst z; exact n0 j (by simpa using hj)
            rw [slot_set_ne ne] at a
            exact ⟨t, d, d', a, by simpa [Nat.add_assoc, Nat.add_comm 1 j] using b, c⟩
      · cases e
    · cases e
/-- behind the call -/
theorem Rel.back (rel : Rel C A F G st σ H) (ar : ArI C G st σ H F as ws vs) {G' H' : Hp} {os : List Sl} {σ' : L2.St} {st3 : St} (s : Sub G G') (rc : Rel C (vs.map adr) (others F st σ H ws) G' os σ' H') (e : outs 0 ws os st = some st3) :
    Rel C A F G' st3 σ H' ∧ ∀ r v, (∀ i, r ≠ .var i) → RR C (others F st σ H ws) G' os σ' H' r v → RR C F G' st3 σ H' r v := by
  obtain ⟨l, k1, k2⟩ := outs_spec (fun j j' i => ar.nd) e
  -- a slot behind the call
  have sl : ∀ {i : Nat} {t : Option Nat} {d : D}, slot st3 i = .own t d → ∃ p d0, slot st i = .own t d0 ∧ σ[i]? = some (some (.ref p)) ∧ F p = none ∧ G' p = none ∧ Own C G' H' p d ∧ (∀ k, t = some k → A[k]? = some p) := fun {i t d} q => by
    by_cases hi : some i ∈ ws
    · obtain ⟨j, hj, ej⟩ := List.getElem_of_mem hi
      have wj : ws[j]? = some (some i) := by rw [List.getElem?_eq_getElem hj, ej]
      obtain ⟨t0, d0, d', a1, a2, a3⟩ := k2 j i wj
      rw [a3] at q; cases q
      obtain ⟨p, b1, b2, b3, b4, b5⟩ := rel.own i _ d0 a1
      rw [Nat.zero_add] at a2
      obtain ⟨p', c1, c2, c3, c4, c5⟩ := rc.own j _ _ (slot_get a2)
      obtain ⟨dr, er⟩ := ar.ws wj
      obtain ⟨i2, t2, v2, g1, g2, g3, g4⟩ := ar.ref er
      rw [wj] at g1; cases g1
      rw [b1] at g3; cases g3
      have c5 := c5 j rfl
      rw [List.getElem?_map, g4] at c5
      have ep : p = p' := by simpa [adr] using c5
      subst ep
      exact ⟨p, d0, a1, b1, b2, c3, c4, b5⟩
    · rw [k1 i hi] at q
      obtain ⟨p, b1, b2, b3, b4, b5⟩ := rel.own i t d q
      obtain ⟨u, hu⟩ := b4.some
      have ea : others F st σ H ws p = some u := by rw [others_in q b1 hi]; exact hu
      have eH : H' p = some u := rc.subR p u ea
      refine ⟨p, d, q, b1, b2, ?_, b4.mono s (eH.trans hu.symm), b5⟩
      cases g : G' p with
      | none => rfl
      | some x => have := rc.dis p x g; rw [ea] at this; cases this
  refine ⟨⟨l.trans rel.len, rel.others_sub.trans rc.subR, rc.subG, fun a o g => ?_, fun i d q => ?_, fun i t d q => ?_, fun i j t u d e' p q1 q2 q3 q4 => ?_⟩, fun r v nr h => ?_⟩
  · exact rel.others_sub.none (rc.dis a o g)
  · by_cases hi : some i ∈ ws
    · obtain ⟨j, hj, ej⟩ := List.getElem_of_mem hi
      obtain ⟨t0, d0, d', a1, a2, a3⟩ := k2 j i (by rw [List.getElem?_eq_getElem hj, ej])
      rw [a3] at q; cases q
    · rw [k1 i hi] at q
      obtain ⟨v, h1, h2⟩ := rel.val i d q
      exact ⟨v, h1, h2.mono s⟩
  · obtain ⟨p, d0, a1, a2, a3, a4, a5, a6⟩ := sl q
    exact ⟨p, a2, a3, a4, a5, a6⟩
  · obtain ⟨_, _, a1, _⟩ := sl q1
    obtain ⟨_, _, a2, _⟩ := sl q2
    exact rel.inj i j _ _ _ _ p a1 a2 q3 q4
  · cases r with
    | val d => exact h
    | var i => exact absurd rfl (nr i)
    | fresh d =>
      obtain ⟨p, e1, e2, e3, e4, e5⟩ := h
      refine ⟨p, e1, rel.others_sub.none e2, e3, fun i t d0 q z => ?_, e5⟩
      by_cases hi : some i ∈ ws
      · obtain ⟨j, hj, ej⟩ := List.getElem_of_mem hi
        have wj : ws[j]? = some (some i) := by rw [List.getElem?_eq_getElem hj, ej]
        obtain ⟨t1, d1, d', a1, a2, a3⟩ := k2 j i wj
        rw [Nat.zero_add] at a2
        obtain ⟨p', c1, c2, c3, c4, c5⟩ := rc.own j _ _ (slot_get a2)
        obtain ⟨dr, er⟩ := ar.ws wj
        obtain ⟨i2, t2, v2, g1, g2, g3, g4⟩ := ar.ref er
        rw [wj] at g1; cases g1
        rw [z] at g3; cases g3
        have c5 := c5 j rfl
        rw [List.getElem?_map, g4] at c5
        have ep : p = p' := by simpa [adr] using c5
        subst ep
        exact e4 j _ _ (slot_get a2) c1
      · rw [k1 i hi] at q
        rw [others_in q z hi] at e2
        obtain ⟨q', b1, _, _, b4, _⟩ := rel.own i t d0 q
        rw [z] at b1; cases b1
        obtain ⟨u, hu⟩ := b4.some
        rw [hu] at e2; cases e2
end
def endF (C : Cn) (A : List Addr) (F G : Hp) (Q : VK) (E : XK) : Res (Ret × List Sl) → Prop
  | .ok (r, os) => ∀ v G' H' σ', Sub G G' → Rel C A F G' os σ' H' → RR C F G' os σ' H' (retR r) v → Q v H'
  | .exc c => ∃ x, C.xa c = some x ∧ ∀ G' H', Sub G G' → Sub F H' → Sub G' H' → (∀ a o, G' a = some o → F a = none) → E (.ref x) none H'
  | .no => False
def spF (C : Cn) (Φ : Fns) (f np : Nat) : Sp := fun vs H Q E => vs.length = np ∧ ∃ A F G as, Rel C A F G (start 0 as) (vs.map some) H ∧ endF C A F G Q E (Φ f as)
/-- the def f is called by the name x -/
structure CallOk (X : Cx) (T : Tab) (Φ : Fns) (k f np : Nat) (x : Str) : Prop where
  ok : ∃ (a : Addr) (fd : FuncData) (ps : List Str), X.mg x = some (.ref a) ∧ PySem.W.keepIn X.K (.ref a) = true ∧ Binds X.K fd ps [] ∧ FnOk X.prog X.w X.K X.mg X.base (L2.CX X.prog X.w) k a fd ps (spF (cn X T) Φ f np)
section
variable {X : Cx} {T : Tab} {Φ : Fns} {fl : Nat → List Bool} {W : WX} {e : Expr} {es : List Expr} {c : E} {cs : Es} {pos p : Pos}
theorem pa_as0 : PA X [] (rdAs (cn X T) Φ fl W .nil) := PA.imp pa_nil fun _ _ _ h => rdAs_nil h
theorem pa_as (ha : PE X e (rdE (cn X T) Φ fl W c)) (hr : PA X es (rdAs (cn X T) Φ fl W cs)) (hs : isStar e = false) : PA X (e :: es) (rdAs (cn X T) Φ fl W (.cons c cs)) :=
  PA.imp (pa_cons ha hr (star_one hs)) fun _ _ _ h => rdAs_cons h
theorem pe_callE {f np k : Nat} {x : Str} (hc : CallOk X T Φ k f np x) (hr : Room k X.A) (hg : Gl X x) (tk : Takes X W) (hnp : ∀ as, (∃ y, Φ f as = .ok y) ∨ (∃ c, Φ f as = .exc c) → as.length = np) (ha : PA X (e :: es) (rdAs (cn X T) Φ fl W cs))
    (hs : isStar e = false) (hss : (es.all fun e => !isStar e) = true) (hdb : (x == ("__debug__" : Str)) = false) : PE X (.Call (.Name x p) (e :: es) [] pos) (rdE (cn X T) Φ fl W (.call f cs)) := by
  obtain ⟨a, fd, ps, h1, h2, h3, h4⟩ := hc.ok
  refine PE.imp (pe_callS (E := WE W) h4 hr hg h1 h2 h3 (fun σ => passAt tk σ) ha hdb (star_one hs) (star_any hss)) fun σ H Q h => ?_
  obtain ⟨A, F, G, st, rel, h⟩ := h
  refine ⟨A, F, G, st, rel, endG.bind h fun rs st1 vs G1 H1 _ s1 rel1 p1 h5 => ?_⟩
  dsimp only at h5
  split at h5
  · exact h5.elim
  · rename_i ars ws st2 ea
    obtain ⟨G2, s2, rel2, ar⟩ := args_ok rel1 p1 ea
    have h5 := endG.mono s2 h5
    obtain ⟨l1, l2⟩ := ar.len
    have hlen : (∃ y, Φ f ars = .ok y) ∨ (∃ c, Φ f ars = .exc c) → vs.length = np := fun z => by rw [← l1]; exact hnp ars z
    cases q : Φ f ars with
    | no => rw [q] at h5; exact h5.elim
    | exc c =>
      rw [q] at h5
      refine ⟨hlen (.inr ⟨c, q⟩), _, _, G2, ars, rel2.callee ar, ?_⟩
      rw [q]
      obtain ⟨x, ex, hx⟩ := h5
      exact ⟨x, ex, fun G' H' t1 t2 t3 t4 => hx σ G' H' t1 (rel2.others_sub.trans t2) t3 fun a o e => rel2.others_sub.none (t4 a o e)⟩
    | ok y =>
      obtain ⟨r, os⟩ := y
      rw [q] at h5
      refine ⟨hlen (.inl ⟨_, q⟩), _, _, G2, ars, rel2.callee ar, ?_⟩
      rw [q]
      have h5 : endG (cn X T) A F G2 σ W (PE1 (cn X T) F σ) Q (match outs 0 ws os st2 with | none => .no | some st3 => .ok (retR r, st3)) := h5
      intro v G' H' σ' t1 rc rr
      cases qo : outs 0 ws os st2 with
      | none => rw [qo] at h5; exact h5.elim
      | some st3 =>
        rw [qo] at h5
        obtain ⟨k1, k2⟩ := rel2.back ar t1 rc qo
        exact h5 v G' H' t1 k1 (k2 _ v (by cases r <;> intro i z <;> cases z) rr)
end
end PV
set_option Elab.async false
set_option linter.all false
set_option maxRecDepth 100000
set_option maxHeartbeats 4000000
namespace L2
open PySem PySem.Spec PyProof.Rows
theorem meets_enumerate_newB1 {v : Value} {o : Obj} {H : Heap → Prop} (B : Begins v o H) :
    Meets (Builtin.«enumerate.__new__» ⟨[.type "enumerate", v], []⟩) (fun _ R s => H s.heap ∧
      R (.ok (.ret (.ref (s.heap.push o).objs.size))) { s with heap := (s.heap.push o).push { cls := .type "enumerate", data := .fields #[.none, .bool false, .ref s.heap.objs.size, rawInt 0, .none, .none] } }) :=
  .of_wp fun prog w A R s h => by
    obtain ⟨hp, g, d, tk, os⟩ := s; obtain ⟨h1, h⟩ := h
    have hsub := sub_enumerate
    have q1 : ∀ {A' : Around} {E : Value → Shared → Prop} {Q : Value → Shared → Prop}, Q (.ref hp.objs.size) ⟨hp.push o, g, d, tk, os⟩ → wpAny (model prog w) A' (pyIter v) Q E ⟨hp, g, d, tk, os⟩ :=
      fun q => B.iter prog w _ _ ⟨hp, g, d, tk, os⟩ _ h1 q
    wp_walk using q1
    refine wpAny_stack_any fun st => wpAny_pure ?_
    split
    · rename_i c _ _ _ _ _
      cases (c == Value.type "enumerate")
      · wp_walk using q1
        exact ⟨_, rfl, h⟩
      · wp_walk using q1
        exact ⟨_, rfl, h⟩
    · wp_walk using q1
      exact ⟨_, rfl, h⟩
theorem enum_begins1 {prog : Program} {w : World} {A : Around} {E : Value → Shared → Prop} {s : Shared} {v : Value} {o : Obj} {H : Heap → Prop} {Q : Value → Shared → Prop} (B : Begins v o H) (h1 : H s.heap)
    (h : ∀ h', IsEnum h' (s.heap.objs.size + 1) s.heap.objs.size 0 .none → h'.get? s.heap.objs.size = some o → h'.objs.size = s.heap.objs.size + 2 →
      (∀ b o, s.heap.get? b = some o → h'.get? b = some o) → Q (.ref (s.heap.objs.size + 1)) { s with heap := h' }) :
    wpAny (model prog w) A (call (.type "enumerate") [v]) Q E s := by
  refine callType_new F.called_enumerate (by decide) (F.typeCall_enumerate_1 _) (F.newCall_enumerate_1 _) (fun obj => F.args_object_init_2 obj _) F.entry_enumerate_new
    (meets_enumerate_newB1 B) ⟨h1, ?_⟩
  have hz : (s.heap.push o).objs.size = s.heap.objs.size + 1 := Heap.size_push ..
  show _ ∧ _
  rw [hz]
  have he : IsEnum ((s.heap.push o).push { cls := .type "enumerate", data := .fields #[.none, .bool false, .ref s.heap.objs.size, rawInt 0, .none, .none] }) (s.heap.objs.size + 1) s.heap.objs.size 0 .none := by
    have := Heap.get?_push_size (s.heap.push o) (o := { cls := .type "enumerate", data := .fields #[.none, .bool false, .ref s.heap.objs.size, rawInt 0, .none, .none] }) rfl
    rw [hz] at this; exact this
  refine ⟨⟨_, he, rfl⟩, h _ he (Heap.get?_push_of_some _ (Heap.get?_push_size _ B.free)) (by rw [Heap.size_push, hz]) fun b o x => Heap.get?_push_of_some _ (Heap.get?_push_of_some _ x)⟩
/-- what is walked: a list, a tuple, a text -/
inductive Src where
  | lst (a : Addr) (xs : List V)
  | tup (a : Addr) (xs : List V)
  | str (z : Str)
def Src.v : Src → V
  | .lst a _ => .ref a
  | .tup a _ => .ref a
  | .str z => .str z
def Src.vals : Src → List V
  | .lst _ xs => xs
  | .tup _ xs => xs
  | .str z => z.cps.toList.map fun c => .str ⟨#[c]⟩
def Src.At (K : PySem.W.Frag) (H : Hp) : Src → Prop
  | .lst a xs => SqL K H a xs
  | .tup a xs => SqT K H a xs
  | .str _ => True
def Src.fp : Src → List Addr
  | .lst a _ => [a]
  | .tup a _ => [a]
  | .str _ => []
def Src.iter (t : Tok) (h : Heap) (it : Addr) (i : Nat) : Src → Prop
  | .lst a _ => h.IsListIter it a i
  | .tup a _ => h.IsTupleIter it a i
  | .str z => h.IsStrIter it (strIterType z) z t i
def Src.obj (t : Tok) : Src → Obj
  | .lst a _ => { cls := .type "list_iterator", data := .fields #[.ref a, .int 0 0] }
  | .tup a _ => { cls := .type "tuple_iterator", data := .fields #[.ref a, .int 0 0] }
  | .str z => { cls := .type (strIterType z), data := .fields #[.str z t, .int 0 0] }
theorem Src.start {t : Tok} {h : Heap} {it : Addr} (s : Src) (e : h.get? it = some (s.obj t)) : s.iter t h it 0 := by
  cases s <;> exact ⟨_, e, rfl, rfl⟩
theorem Src.keep {t : Tok} {h h' : Heap} {it : Addr} {i : Nat} (s : Src) (x : s.iter t h it i) (k : ∀ o, h.get? it = some o → h'.get? it = some o) : s.iter t h' it i := by
  cases s <;> (obtain ⟨o, e, r⟩ := x; exact ⟨o, k o e, r⟩)
theorem Src.cell {t : Tok} {h : Heap} {it : Addr} {i : Nat} (s : Src) (x : s.iter t h it i) : ∃ o, h.get? it = some o ∧ ∀ v, o.data ≠ .cell v := by
  cases s <;> (obtain ⟨o, e, r, q⟩ := x; exact ⟨o, e, fun v z => by rw [q] at z; cases z⟩)
section
variable {X : Cx} {pins : List (Addr × Obj)} {σ : St} {H : Hp} {s : Shared}
theorem Src.begins (src : Src) (I : Inv X pins σ H s) (hat : src.At X.K H) {u : Value} (r : RelV src.v u) : ∃ t HH, Begins u (src.obj t) HH ∧ HH s.heap ∧ ∀ a ∈ src.fp, a < s.heap.objs.size := by
  cases src with
  | lst a xs =>
    cases r
    obtain ⟨its, rv, p, hz⟩ := I.list hat
    exact ⟨0, _, begins_list a its.toArray, p.isList, fun b hb => by simp [Src.fp] at hb; subst hb; exact p.lt⟩
  | tup a xs =>
    cases r
    obtain ⟨its, rv, p, hz⟩ := I.tuple hat
    exact ⟨0, _, begins_tuple a its.toArray, p, fun b hb => by simp [Src.fp] at hb; subst hb; exact p.lt⟩
  | str z =>
    obtain ⟨t, rfl⟩ := r
    exact ⟨t, _, begins_text z t, trivial, fun b hb => by simp [Src.fp] at hb⟩
theorem Src.draws (src : Src) (I : Inv X pins σ H s) (hat : src.At X.K H) {A : Around} (hh : A.handled = none) {it : Addr} (hne : ∀ a ∈ src.fp, a ≠ it) (t : Tok) :
    ∃ (P : Nat → Value → Prop) (St : Nat → Heap → Prop), Draws X.prog X.w A it (it :: src.fp) src.vals.length P St ∧ (∀ i, src.iter t s.heap it i → St i s.heap) ∧ (∀ i h, St i h → src.iter t h it i) ∧ ∀ i u, P i u → ∃ x, src.vals[i]? = some x ∧ RelV x u := by
  cases src with
  | lst a xs =>
    obtain ⟨its, rv, p, hz⟩ := I.list hat
    have hl : its.toArray.size = xs.length := by rw [List.size_toArray]; exact rv.length.symm
    refine ⟨_, _, hl ▸ Draws.list hh it a (hne a (by simp [Src.fp])) its.toArray, fun i x => ⟨x, p.isList⟩, fun i h x => x.1, fun i u e => ?_⟩
    have e : its[i]? = some u := by simpa using e
    have hi : i < its.length := (List.getElem?_eq_some_iff.mp e).1
    have hi2 : i < xs.length := by rw [← hl]; simpa using hi
    obtain ⟨u', e1, e2⟩ := rv.get (List.getElem?_eq_getElem hi2)
    rw [e] at e1; cases e1
    exact ⟨_, List.getElem?_eq_getElem hi2, e2⟩
  | tup a xs =>
    obtain ⟨its, rv, p, hz⟩ := I.tuple hat
    have hl : its.toArray.size = xs.length := by rw [List.size_toArray]; exact rv.length.symm
    refine ⟨_, _, hl ▸ Draws.tuple hh it a (hne a (by simp [Src.fp])) its.toArray, fun i x => ⟨x, p⟩, fun i h x => x.1, fun i u e => ?_⟩
    have e : its[i]? = some u := by simpa using e
    have hi : i < its.length := (List.getElem?_eq_some_iff.mp e).1
    have hi2 : i < xs.length := by rw [← hl]; simpa using hi
    obtain ⟨u', e1, e2⟩ := rv.get (List.getElem?_eq_getElem hi2)
    rw [e] at e1; cases e1
    exact ⟨_, List.getElem?_eq_getElem hi2, e2⟩
  | str z =>
    have hl : z.cps.size = (Src.str z).vals.length := by simp [Src.vals]
    refine ⟨_, _, hl ▸ Draws.text hh it z t, fun i x => x, fun i h x => x, fun i u e => ?_⟩
    obtain ⟨c, w, e1, e2⟩ := e
    refine ⟨.str ⟨#[c]⟩, ?_, ⟨w, e2⟩⟩
    show (z.cps.toList.map fun c => V.str ⟨#[c]⟩)[i]? = _
    rw [List.getElem?_map, Array.getElem?_toList, e1]; rfl
end
/-- enumerate(src) -/
def ItE (K : PySem.W.Frag) (src : Src) : It :=
  ⟨fun i H => src.At K H ∧ i < src.vals.length, fun i H v H' => ∃ T x, v = .ref T ∧ H T = none ∧ H' = upd H T (.tup [.int (i : Nat), x]) ∧ src.vals[i]? = some x, fun i H => src.At K H ∧ i = src.vals.length⟩
theorem turn_enumS {P : Program} {w : World} {K : PySem.W.Frag} {elts : List Expr} {kk : Nat} {tpos : Pos} (src : Src) (t : Tok) (e it : Addr) (hei : e ≠ it) (hfe : ∀ a ∈ src.fp, a ≠ e) (hfi : ∀ a ∈ src.fp, a ≠ it) :
    Turn P w K (.Tuple elts kk tpos) (ItE K src) [e, it] e (fun i h => (∃ old, IsEnum h e it (i : Int) old) ∧ src.iter t h it i) where
  mem := by simp
  obj := fun i h st b hb => by
    obtain ⟨⟨old, he⟩, hi⟩ := st
    have e' : b = e ∨ b = it := by simpa using hb
    rcases e' with z | z
    · rw [z]; exact ⟨_, he, fun v q => nomatch q⟩
    · rw [z]; exact src.cell hi
  keep := fun i h h' st k => let ⟨⟨old, he⟩, hi⟩ := st; ⟨⟨old, k e (by simp) _ he⟩, src.keep hi fun o q => k it (by simp) o q⟩
  item := by
    intro X hP hw hK hc i pins s σ H E I hf st hg
    subst hP hw hK
    obtain ⟨⟨old, he⟩, hit⟩ := st
    obtain ⟨hat, hi⟩ := hg
    obtain ⟨PP, SS, D, d1, d2, d3⟩ := src.draws I hat (A := X.A.in1) (I.ok.hd hc) hfi t
    have hel : e < s.heap.objs.size := Heap.lt_size he
    have hil : it < s.heap.objs.size := by obtain ⟨_, q, _⟩ := src.cell hit; exact Heap.lt_size q
    have W := GoesN.enumFrom (elts := elts) (x1 := kk) (pos := tpos) 0 D e hei (fun z => by
      rcases List.mem_cons.mp z with z | z
      · exact hei z
      · exact hfe e z rfl) List.mem_cons_self
    refine W.goes i s _ E hi ⟨⟨old, by rw [Int.zero_add]; exact he⟩, d1 i hit⟩ fun v h' tk y st' hk _ => ?_
    obtain ⟨T, tt, u, rfl, hT, hu, hIsT⟩ := y
    obtain ⟨x, hx, ru⟩ := d3 i u hu
    rw [Int.zero_add] at hIsT
    have new : ObjOk X.prog X.w (upd H T (.tup [.int (i : Nat), x])) h' T (.tup [.int (i : Nat), x]) :=
      ⟨by show 2 ≤ sizeLine; decide, [.int i tt, u], .cons ⟨_, rfl⟩ (.cons ru .nil), hIsT⟩
    have I1 : Inv X pins σ (upd H T (.tup [.int (i : Nat), x])) { s with heap := h', toks := tk } := I.turnedNew (ch := [e, it]) hk hf hT new
    refine ⟨.ref T, _, I1, rfl, ⟨T, x, rfl, I.hok.fresh hT, rfl, hx⟩, ⟨?_, d2 _ _ st'.2⟩, fun b hb => ?_⟩
    · obtain ⟨old', q⟩ := st'.1
      refine ⟨old', ?_⟩
      have e1 : (0 : Int) + ((i + 1 : Nat) : Int) = ((i + 1 : Nat) : Int) := by omega
      rw [e1] at q; exact q
    · have hb' : b < T := by
        have e' : b = e ∨ b = it := by simpa using hb
        rcases e' with z | z
        · rw [z]; exact Nat.lt_of_lt_of_le hel hT
        · rw [z]; exact Nat.lt_of_lt_of_le hil hT
      rw [upd_ne (Nat.ne_of_lt hb')]
      exact (hf b hb).1
  done := by
    intro X hP hw hK hc i pins s σ H E I hf st hg
    subst hP hw hK
    obtain ⟨⟨old, he⟩, hit⟩ := st
    obtain ⟨hat, hi⟩ := hg
    obtain ⟨PP, SS, D, d1, d2, d3⟩ := src.draws I hat (A := X.A.in1) (I.ok.hd hc) hfi t
    have W := GoesN.enumFrom (elts := elts) (x1 := kk) (pos := tpos) 0 D e hei (fun z => by
      rcases List.mem_cons.mp z with z | z
      · exact hei z
      · exact hfe e z rfl) List.mem_cons_self
    subst hi
    refine wpAny_mono (W.stops s (fun s1 => Inv X pins σ H s1) E ⟨⟨old, by rw [Int.zero_add]; exact he⟩, d1 _ hit⟩ fun h' tk hk _ => ?_) (fun _ _ z => z) fun _ _ z => z
    exact I.step (g' := s.gens) (d' := s.drawn) (t' := tk) (ch := [e, it]) (fun b hb => ⟨(hf b hb).2.2.2.1, (hf b hb).2.1, (hf b hb).2.2.2.2.1, (hf b hb).2.2.2.2.2⟩) (fun b o _ _ hc e _ => hk b o hc e) (fun b o _ _ hc e _ => ⟨o.slots, hk b o hc e⟩)
      (fun _ _ _ _ n => n) (fun b o hc e => ⟨o, hk b o hc e⟩) (fun _ _ e => e) (fun _ _ _ e => e) (fun b ps e => ⟨#[], by rw [e]; simp⟩) (fun m ⟨o, es, ep, ho, r⟩ => ⟨o, es, ep, hk _ o (fun z => (hf _ z).2.1 rfl) ho, r⟩)
      (fun b u q => (I.hok b u q).stay (fun c v hc r => hk c v (fun z => by
        have q0 := (hf c z).1
        rcases hc with z | z
        · rw [z] at q0; rw [q] at q0; cases q0
        · rw [z] at q0; cases q0) r) (fun _ q => q) fun _ _ q => q) I.bare
  self := fun A i s Q E st h => let ⟨⟨_, he⟩, _⟩ := st; wpAny_pyIter_enum he h
def iEnumS (K : PySem.W.Frag) (ta : TA) : TI := fun σ H R => ta σ H fun vs H1 => ∃ src : Src, vs = [src.v] ∧ src.At K H1 ∧ R (ItE K src) H1
theorem pi_enumS {X : Cx} {e : Expr} {ta : TA} {p pos tpos : Pos} {elts : List Expr} {kk : Nat} (hg : Gl X "enumerate") (hm : X.mg "enumerate" = none) (ha : PA X [e] ta) (hs : starEach [e] X.env = [(false, eval e X.env)]) :
    PI X (.Tuple elts kk tpos) (.Call (.Name "enumerate" p) [e] [] pos) (iEnumS X.K ta) := by
  refine ⟨fun pins s σ H R I h => ?_⟩
  refine Call_ (ld_blt I hg hm boot_enumerate (PyProof.Rows.callWith_type1 (thn (ha.run pos pins s σ H _ I h) fun us s1 ⟨vs, H1, I1, r1, q1⟩ => ?_) hs rfl))
  obtain ⟨src, ex, hq, q⟩ := q1
  subst ex
  obtain ⟨u, rfl, ru⟩ := Vals.one r1
  obtain ⟨t, HH, B, b1, b2⟩ := src.begins I1 hq ru
  refine enum_begins1 B b1 fun h' he hit hsz hk => wpAny_pyIter_enum he ?_
  have I2 : Inv X pins σ H1 { s1 with heap := h' } := I1.kept (t' := s1.toks) hk
  refine ⟨s1.heap.objs.size + 1, [s1.heap.objs.size + 1, s1.heap.objs.size], _, _, H1, rfl, I2,
    turn_enumS src t (s1.heap.objs.size + 1) s1.heap.objs.size (Nat.succ_ne_self _) (fun a ha => Nat.ne_of_lt (Nat.lt_succ_of_lt (b2 a ha))) (fun a ha => Nat.ne_of_lt (b2 a ha)), ⟨⟨.none, he⟩, src.start hit⟩, fun b hb => ?_, q⟩
  have e' : b = s1.heap.objs.size + 1 ∨ b = s1.heap.objs.size := by simpa using hb
  have hle : s1.heap.objs.size ≤ b := by
    rcases e' with z | z
    · rw [z]; exact Nat.le_add_right _ _
    · rw [z]; exact Nat.le_refl _
  exact I1.fpOk hle (I1.hok.fresh hle)
theorem le5 (N b : Nat) (h : b = N + 4 ∨ b = N + 2 ∨ b = N + 3 ∨ b = N ∨ b = N + 1) : b ≤ N + 4 := by omega
/-- zip(src, src2) -/
def ItZ (K : PySem.W.Frag) (src src2 : Src) : It :=
  ⟨fun i H => src.At K H ∧ src2.At K H ∧ i < min src.vals.length src2.vals.length, fun i H v H' => ∃ T x y, v = .ref T ∧ H T = none ∧ H' = upd H T (.tup [x, y]) ∧ src.vals[i]? = some x ∧ src2.vals[i]? = some y,
    fun i H => src.At K H ∧ src2.At K H ∧ i = min src.vals.length src2.vals.length⟩
theorem turn_zipS {P : Program} {w : World} {K : PySem.W.Frag} {elts : List Expr} {kk : Nat} {tpos : Pos} (src src2 : Src) (t t2 : Tok) (N : Addr) (h1 : ∀ a ∈ src.fp, a < N) (h2 : ∀ a ∈ src2.fp, a < N) :
    Turn P w K (.Tuple elts kk tpos) (ItZ K src src2) [N + 4, N + 2, N + 3, N, N + 1] (N + 4)
      (fun i h => IsZip h (N + 4) (N + 2) (N + 3) .none ∧ IsTupOf2 h (N + 2) (.ref N) (.ref (N + 1)) ∧ (∃ a1 a2, IsTupOf2 h (N + 3) a1 a2) ∧ src.iter t h N i ∧ src2.iter t2 h (N + 1) i) where
  mem := by simp
  obj := fun i h st b hb => by
    obtain ⟨z1, z2, ⟨_, _, z3⟩, z4, z5⟩ := st
    have e' : b = N + 4 ∨ b = N + 2 ∨ b = N + 3 ∨ b = N ∨ b = N + 1 := by simpa using hb
    rcases e' with z | z | z | z | z
    · rw [z]; exact ⟨_, z1, fun v q => nomatch q⟩
    · rw [z]; exact ⟨_, z2, fun v q => nomatch q⟩
    · rw [z]; exact ⟨_, z3, fun v q => nomatch q⟩
    · rw [z]; exact src.cell z4
    · rw [z]; exact src2.cell z5
  keep := fun i h h' st k => let ⟨z1, z2, ⟨a1, a2, z3⟩, z4, z5⟩ := st; ⟨k _ (by simp) _ z1, k _ (by simp) _ z2, ⟨a1, a2, k _ (by simp) _ z3⟩, src.keep z4 fun o q => k _ (by simp) o q, src2.keep z5 fun o q => k _ (by simp) o q⟩
  item := by
    intro X hP hw hK hc i pins s σ H E I hf st hg
    subst hP hw hK
    obtain ⟨z1, z2, z3, z4, z5⟩ := st
    obtain ⟨hat, hat2, hi⟩ := hg
    have lt4 : N + 4 < s.heap.objs.size := Heap.lt_size z1
    obtain ⟨PP, SS, D, d1, d2, d3⟩ := src.draws I hat (A := X.A.in1) (I.ok.hd hc) (it := N) (fun a ha => Nat.ne_of_lt (h1 a ha)) t
    obtain ⟨PP2, SS2, D2, d12, d22, d32⟩ := src2.draws I hat2 (A := X.A.in1) (I.ok.hd hc) (it := N + 1) (fun a ha => Nat.ne_of_lt (Nat.lt_succ_of_lt (h2 a ha))) t2
    have W := GoesN.zip2 (elts := elts) (x1 := kk) (pos := tpos) (zip_sep2 h1 h2) D D2
    refine W.goes i s _ E hi ⟨z1, z2, z3, d1 i z4, d12 i z5⟩ fun v h' tk y st' hk _ => ?_
    obtain ⟨T, u, u2, rfl, hT, hu, hu2, hIsT⟩ := y
    obtain ⟨x, hx, ru⟩ := d3 i u hu
    obtain ⟨x2, hx2, ru2⟩ := d32 i u2 hu2
    have new : ObjOk X.prog X.w (upd H T (.tup [x, x2])) h' T (.tup [x, x2]) := ⟨by show 2 ≤ sizeLine; decide, [u, u2], .cons ru (.cons ru2 .nil), hIsT⟩
    have I1 : Inv X pins σ (upd H T (.tup [x, x2])) { s with heap := h', toks := tk } := I.turnedNew (ch := [N + 4, N + 3, N, N + 1]) hk (fun b hb => hf b (by simp at hb ⊢; rcases hb with z | z | z | z <;> simp [z])) hT new
    refine ⟨.ref T, _, I1, rfl, ⟨T, x, x2, rfl, I.hok.fresh hT, rfl, hx, hx2⟩, ⟨st'.1, st'.2.1, st'.2.2.1, d2 _ _ st'.2.2.2.1, d22 _ _ st'.2.2.2.2⟩, fun b hb => ?_⟩
    have hb' : b ≤ N + 4 := le5 N b (by simpa using hb)
    rw [upd_ne (Nat.ne_of_lt (Nat.lt_of_le_of_lt hb' (Nat.lt_of_lt_of_le lt4 hT)))]
    exact (hf b hb).1
  done := by
    intro X hP hw hK hc i pins s σ H E I hf st hg
    subst hP hw hK
    obtain ⟨z1, z2, z3, z4, z5⟩ := st
    obtain ⟨hat, hat2, hi⟩ := hg
    obtain ⟨PP, SS, D, d1, d2, d3⟩ := src.draws I hat (A := X.A.in1) (I.ok.hd hc) (it := N) (fun a ha => Nat.ne_of_lt (h1 a ha)) t
    obtain ⟨PP2, SS2, D2, d12, d22, d32⟩ := src2.draws I hat2 (A := X.A.in1) (I.ok.hd hc) (it := N + 1) (fun a ha => Nat.ne_of_lt (Nat.lt_succ_of_lt (h2 a ha))) t2
    have W := GoesN.zip2 (elts := elts) (x1 := kk) (pos := tpos) (zip_sep2 h1 h2) D D2
    subst hi
    have hf : ∀ b ∈ [N + 4, N + 3, N, N + 1], FpOk X pins H b := fun b hb => hf b (by simp at hb ⊢; rcases hb with z | z | z | z <;> simp [z])
    refine wpAny_mono (W.stops s (fun s1 => Inv X pins σ H s1) E ⟨z1, z2, z3, d1 _ z4, d12 _ z5⟩ fun h' tk hk _ => ?_) (fun _ _ z => z) fun _ _ z => z
    exact I.step (g' := s.gens) (d' := s.drawn) (t' := tk) (ch := [N + 4, N + 3, N, N + 1]) (fun b hb => ⟨(hf b hb).2.2.2.1, (hf b hb).2.1, (hf b hb).2.2.2.2.1, (hf b hb).2.2.2.2.2⟩) (fun b o _ _ hc e _ => hk b o hc e) (fun b o _ _ hc e _ => ⟨o.slots, hk b o hc e⟩)
      (fun _ _ _ _ n => n) (fun b o hc e => ⟨o, hk b o hc e⟩) (fun _ _ e => e) (fun _ _ _ e => e) (fun b ps e => ⟨#[], by rw [e]; simp⟩) (fun m ⟨o, es, ep, ho, r⟩ => ⟨o, es, ep, hk _ o (fun z => (hf _ z).2.1 rfl) ho, r⟩)
      (fun b u q => (I.hok b u q).stay (fun c v hc r => hk c v (fun z => by
        have q0 := (hf c z).1
        rcases hc with z | z
        · rw [z] at q0; rw [q] at q0; cases q0
        · rw [z] at q0; cases q0) r) (fun _ q => q) fun _ _ q => q) I.bare
  self := fun A i s Q E st h => wpAny_pyIter_zip st.1 h
def iZipS (K : PySem.W.Frag) (ta : TA) : TI := fun σ H R => ta σ H fun vs H1 => ∃ src src2 : Src, vs = [src.v, src2.v] ∧ src.At K H1 ∧ src2.At K H1 ∧ R (ItZ K src src2) H1
theorem pi_zipS {X : Cx} {e e2 : Expr} {ta : TA} {p pos tpos : Pos} {elts : List Expr} {kk : Nat} (hg : Gl X "zip") (hm : X.mg "zip" = none) (ha : PA X [e, e2] ta)
    (hs : starEach [e, e2] X.env = (false, eval e X.env) :: starEach [e2] X.env) (hpl : (backTo pos (starEach [e2] X.env)).any (·.1) = false) :
    PI X (.Tuple elts kk tpos) (.Call (.Name "zip" p) [e, e2] [] pos) (iZipS X.K ta) := by
  refine ⟨fun pins s σ H R I h => ?_⟩
  refine Call_ (ld_blt I hg hm PyProof.Rows.boot_zip (PyProof.Rows.callWith_type1 (thn (ha.run pos pins s σ H _ I h) fun us s1 ⟨vs, H1, I1, r1, q1⟩ => ?_) hs hpl))
  obtain ⟨src, src2, ex, hq, hq2, q⟩ := q1
  subst ex
  cases r1 with
  | cons r rr =>
    obtain ⟨u2, rfl, ru2⟩ := Vals.one rr
    obtain ⟨t, HH, B, b1, b2⟩ := src.begins I1 hq r
    obtain ⟨t2, HH2, B2, c1, c2⟩ := src2.begins I1 hq2 ru2
    refine zip_begins2 B B2 b1 c1 fun h' hz hTI hTO k1 k2 hsz hk => wpAny_pyIter_zip hz ?_
    have I2 : Inv X pins σ H1 { s1 with heap := h' } := I1.kept (t' := s1.toks) hk
    refine ⟨s1.heap.objs.size + 4, _, _, _, H1, rfl, I2, turn_zipS src src2 t t2 s1.heap.objs.size b2 c2, ⟨hz, hTI, ⟨_, _, hTO⟩, src.start k1, src2.start k2⟩, fun c hcm => ?_, q⟩
    have e' : c = s1.heap.objs.size + 4 ∨ c = s1.heap.objs.size + 2 ∨ c = s1.heap.objs.size + 3 ∨ c = s1.heap.objs.size ∨ c = s1.heap.objs.size + 1 := by simpa using hcm
    have hle : s1.heap.objs.size ≤ c := by
      rcases e' with z | z | z | z | z
      · rw [z]; exact Nat.le_add_right _ _
      · rw [z]; exact Nat.le_add_right _ _
      · rw [z]; exact Nat.le_add_right _ _
      · rw [z]; exact Nat.le_refl _
      · rw [z]; exact Nat.le_add_right _ _
    exact I1.fpOk hle (I1.hok.fresh hle)
end L2
set_option Elab.async false
set_option linter.all false
set_option maxRecDepth 100000
set_option maxHeartbeats 4000000
namespace PV
open PySem PySem.Spec PyProof.Rows L2
/-- what an iterator gives -/
def Tg.isMany : Tg → Bool
  | .one _ => false
  | .many _ => true
/-- an item: m: it may be a pair that is unpacked at once -/
def RepI (C : Cn) (m : Bool) (G : Hp) (x : V) (d : D) : Prop := Rep C G x d ∨ (m = true ∧ ∃ T a b da db, x = .ref T ∧ G T = some (.tup [a, b]) ∧ d = .tup [da, db] ∧ Rep C G a da ∧ Rep C G b db)
def YR (C : Cn) (m : Bool) (G : Hp) (H : Hp) (x : V) (H' : Hp) (d : D) : Prop := (H' = H ∧ Rep C G x d) ∨ (m = true ∧ ∃ T a b da db, x = .ref T ∧ H T = none ∧ H' = upd H T (.tup [a, b]) ∧ d = .tup [da, db] ∧ Rep C G a da ∧ Rep C G b db)
def Wk (C : Cn) (m : Bool) (G : Hp) (J : L2.It) (xs : List D) : Prop := Walk J xs.length (fun H => Sub G H) (fun i H x H' => ∃ d, xs[i]? = some d ∧ YR C m G H x H' d)
theorem YR.mono {C : Cn} {m : Bool} {G G' H H' : Hp} {x : V} {d : D} (s : Sub G G') (h : YR C m G H x H' d) : YR C m G' H x H' d := by
  rcases h with ⟨h1, h2⟩ | ⟨hm, T, a, b, da, db, h1, h2, h3, h4, h5, h6⟩
  · exact .inl ⟨h1, h2.mono s⟩
  · exact .inr ⟨hm, T, a, b, da, db, h1, h2, h3, h4, h5.mono s, h6.mono s⟩
/-- the item in the heap -/
theorem YR.rel {C : Cn} {m : Bool} {A : List Addr} {F G H H' : Hp} {st : St} {σ : L2.St} {x : V} {d : D} (rel : Rel C A F G st σ H) (h : YR C m G H x H' d) : ∃ G', Sub G G' ∧ Rel C A F G' st σ H' ∧ RepI C m G' x d := by
  rcases h with ⟨rfl, h2⟩ | ⟨hm, T, a, b, da, db, rfl, h2, rfl, rfl, h5, h6⟩
  · exact ⟨G, Sub.rfl, rel, .inl h2⟩
  · have s : Sub G (upd G T (.tup [a, b])) := Sub.upd (rel.gnone h2)
    exact ⟨_, s, rel.alloc h2, .inr ⟨hm, T, a, b, da, db, rfl, upd_same, rfl, h5.mono s, h6.mono s⟩⟩
section
variable (C : Cn) (Φ : Fns) (fl : Nat → List Bool) (W : WX)
def rdI (m : Bool) (it : It) : TI := fun σ H R => ∃ A F G st, Rel C A F G st σ H ∧ endG C A F G σ W (fun G _ _ xs J => Wk C m G J xs) R (evIt Φ fl it st)
end
theorem PI.imp {X : Cx} {tg iter : Expr} {t t' : TI} (h : PI X tg iter t) (k : ∀ σ H Q, t' σ H Q → t σ H Q) : PI X tg iter t' := ⟨fun pins s σ H R I q => h.run pins s σ H R I (k σ H R q)⟩
def rAnyI (K : PySem.W.Frag) (x : V) (H1 : Hp) (R : L2.It → Hp → Prop) : Prop :=
  (∃ a, x = .ref a ∧ (∃ xs, SqL K H1 a xs) ∧ R (Itl K a) H1) ∨ (∃ a, x = .ref a ∧ (∃ xs, SqT K H1 a xs) ∧ R (Itt K a) H1) ∨ ∃ z, x = .str z ∧ R (Its z) H1
theorem pi_any {X : Cx} {tg e : Expr} {te : TE} (he : PE X e te) : PI X tg e (fun σ H R => te σ H fun x H1 => rAnyI X.K x H1 R) := by
  refine ⟨fun pins s σ H R I h => ?_⟩
  refine thn (he.run pins s σ H _ I h) fun v s1 ⟨x, H1, I1, r1, q1⟩ => ?_
  rcases q1 with ⟨a, e, ⟨xs, hq⟩, q⟩ | ⟨a, e, ⟨xs, hq⟩, q⟩ | ⟨z, e, q⟩
  · subst e
    cases r1
    obtain ⟨its, rv, p, hz⟩ := I1.list hq
    refine wpAny_pyIter_list p.isList ?_
    refine ⟨s1.heap.objs.size, [s1.heap.objs.size], _, _, H1, rfl, I1.kept (t' := s1.toks) fun b o e => Heap.get?_push_of_some _ e, turn_list a _, ⟨_, Heap.get?_push_size _ rfl, rfl, rfl⟩, fun b hb => ?_, q⟩
    have e : b = s1.heap.objs.size := by simpa using hb
    subst e
    exact I1.fpOk (Nat.le_refl _) (I1.hok.fresh (Nat.le_refl _))
  · subst e
    cases r1
    obtain ⟨its, rv, p, hz⟩ := I1.tuple hq
    refine wpAny_pyIter_tuple (show s1.heap.IsTuple a its.toArray from p) ?_
    refine ⟨s1.heap.objs.size, [s1.heap.objs.size], _, _, H1, rfl, I1.kept (t' := s1.toks) fun b o e => Heap.get?_push_of_some _ e, turn_tuple a _, ⟨_, Heap.get?_push_size _ rfl, rfl, rfl⟩, fun b hb => ?_, q⟩
    have e : b = s1.heap.objs.size := by simpa using hb
    subst e
    exact I1.fpOk (Nat.le_refl _) (I1.hok.fresh (Nat.le_refl _))
  · subst e
    obtain ⟨t, rfl⟩ := r1
    cases ha : z.cps.all (· < 128)
    · exact wpAny_pyIter_wide ha (pi_one (tk := s1.toks) I1 _ (turn_str _ z t "str_iterator" (.inr rfl)) ⟨_, Heap.get?_push_size _ rfl, rfl, rfl⟩ q)
    · exact wpAny_pyIter_ascii ha (pi_one (tk := s1.toks) I1 _ (turn_str _ z t "str_ascii_iterator" (.inl rfl)) ⟨_, Heap.get?_push_size _ rfl, rfl, rfl⟩ q)
section
variable {X : Cx} {T : Tab} {Φ : Fns} {fl : Nat → List Bool} {W : WX} {tg a b : Expr} {ca cb : E} {p pos tpos : Pos} {elts : List Expr} {kk : Nat}
/-- data walked -/
theorem wk_any {C : Cn} {m : Bool} {G H : Hp} {x : V} {d : D} {xs : List D} {R : L2.It → Hp → Prop} (s : Sub G H) (h : Rep C G x d) (e : Op.seqOf d = some xs) (k : ∀ J, Wk C m G J xs → R J H) : rAnyI C.K x H R := by
  cases h with
  | tup q r =>
    cases e
    refine .inr (.inl ⟨_, rfl, ⟨_, (TAt.sub s q).sq⟩, k _ ?_⟩)
    unfold Wk
    rw [← r.length]
    exact walk_tup.mono (fun H1 s1 => (TAt.sub s1 q).sq) fun i H1 y H2 hi s1 ⟨e1, e2⟩ => by
      obtain ⟨d, h1, h2⟩ := r.getV e2
      exact ⟨d, h1, .inl ⟨e1, h2⟩⟩
  | lst q r =>
    cases e
    refine .inl ⟨_, rfl, ⟨_, .inl (.inl (s _ _ q))⟩, k _ ?_⟩
    unfold Wk
    rw [← r.length]
    exact walk_list.mono (fun H1 s1 => .inl (.inl (s1 _ _ q))) fun i H1 y H2 hi s1 ⟨e1, e2⟩ => by
      obtain ⟨d, h1, h2⟩ := r.getV e2
      exact ⟨d, h1, .inl ⟨e1, h2⟩⟩
  | scr q =>
    cases e
    rename_i ns
    refine .inl ⟨_, rfl, ⟨_, SqL.sub s q⟩, k _ ?_⟩
    have r : Reps C G (ns.map V.int) (ns.map .int) := reps_ints ns
    unfold Wk
    rw [← r.length]
    exact walk_list.mono (fun H1 s1 => SqL.sub s1 q) fun i H1 y H2 hi s1 ⟨e1, e2⟩ => by
      obtain ⟨d, h1, h2⟩ := r.getV e2
      exact ⟨d, h1, .inl ⟨e1, h2⟩⟩
  | str z hz =>
    simp only [Op.seqOf] at e
    split at e
    · cases e
      refine .inr (.inr ⟨_, rfl, k _ ?_⟩)
      have r : Reps C G (z.map fun c => V.str ⟨#[c]⟩) (z.map fun c => .str [c]) := reps_signs z hz
      unfold Wk
      have hn : (⟨z.toArray⟩ : Str).cps.size = (z.map fun c => D.str [c]).length := by simp
      rw [← hn]
      exact walk_str.mono (fun _ _ => trivial) fun i H1 y H2 hi s1 ⟨e1, c, e2, e3⟩ => by
        subst e3
        obtain ⟨d, h1, h2⟩ := r.getV (i := i) (v := .str ⟨#[c]⟩) (by rw [List.getElem?_map]; simp at e2; rw [e2]; rfl)
        exact ⟨d, h1, .inl ⟨e1, h2⟩⟩
    · cases e
  | non => cases e
  | bl _ => cases e
  | int _ => cases e
  | dctO _ _ => cases e
  | fn _ => cases e
  | obj _ _ => cases e
theorem pi_seq {m : Bool} (ha : PE X a (rdE (cn X T) Φ fl W ca)) : PI X tg a (rdI (cn X T) Φ fl W m (.seq ca)) :=
  PI.imp (pi_any ha) fun σ H R h => by
    obtain ⟨A, F, G, st, rel, h⟩ := h
    rw [evIt] at h
    refine ⟨A, F, G, st, rel, endG.bind h fun r st1 v G1 H1 _ s1 rel1 p1 h1 => ?_⟩
    dsimp only at h1
    split at h1
    · exact h1.elim
    · rename_i d st2 hk
      obtain ⟨G2, s2, rel2, p2⟩ := RR.keep rel1 p1 hk
      have h1 := endG.mono s2 h1
      split at h1
      · rename_i xs hx
        exact wk_any rel2.subG p2 hx fun J w => h1 J G2 H1 Sub.rfl rel2 w
      · exact h1.elim
theorem rng_len : ∀ (n : Nat) (lo : Int), (rng lo n).length = n
  | 0, _ => rfl
  | n + 1, lo => by simp [rng, rng_len n]
theorem rng_get : ∀ (n : Nat) (lo : Int) (i : Nat), i < n → (rng lo n)[i]? = some (.int (lo + i))
  | 0, _, _, h => absurd h (Nat.not_lt_zero _)
  | n + 1, lo, 0, _ => by simp [rng]
  | n + 1, lo, i + 1, h => by
    simp only [rng, List.getElem?_cons_succ]
    rw [rng_get n (lo + 1) i (by omega)]
    congr 2
    omega
theorem wk_rng {C : Cn} {m : Bool} {G : Hp} {lo : Int} {n : Nat} : Wk C m G (Itr lo n) (rng lo n) := by
  unfold Wk
  rw [rng_len]
  exact walk_range.mono (fun _ _ => trivial) fun i H1 y H2 hi s1 ⟨e1, e2⟩ => ⟨_, rng_get n lo i hi, .inl ⟨e1, by rw [e2]; exact .int _⟩⟩
theorem rngOk_inv {lo hi : Int} {xs : List D} (h : rngOk lo hi = some xs) : -1000000 ≤ lo ∧ lo ≤ 1000000 ∧ -1000000 ≤ hi ∧ hi ≤ 1000000 ∧ xs = rng lo (hi - lo).toNat := by
  unfold rngOk at h
  split at h
  · rename_i hb
    simp only [Bool.and_eq_true, decide_eq_true_eq] at hb
    cases h
    exact ⟨hb.1.1.1, hb.1.1.2, hb.1.2, hb.2, rfl⟩
  · cases h
theorem pi_rng1 {m : Bool} (hg : Gl X "range") (hm : X.mg "range" = none) (ha : PE X a (rdE (cn X T) Φ fl W ca)) (hs : isStar a = false) : PI X tg (.Call (.Name "range" p) [a] [] pos) (rdI (cn X T) Φ fl W m (.rng1 ca)) :=
  PI.imp (pi_range1 hg hm (pa_cons ha pa_nil (star_one hs)) (by rw [star_one hs]; rfl)) fun σ H R h => by
    obtain ⟨A, F, G, st, rel, h⟩ := h
    rw [evIt] at h
    refine ⟨A, F, G, st, rel, endG.bind h fun r st1 v G1 H1 _ s1 rel1 p1 h1 => ?_⟩
    dsimp only at h1
    split at h1
    · split at h1
      · rename_i xs hx
        obtain ⟨_, _, b1, b2, rfl⟩ := rngOk_inv hx
        refine ⟨_, by rw [Rep.int_inv p1], by omega, by omega, ?_⟩
        rw [Int.sub_zero] at h1
        exact h1 _ G1 H1 Sub.rfl rel1 wk_rng
      · exact h1.elim
    · exact h1.elim
theorem pi_rng2 {m : Bool} (hg : Gl X "range") (hm : X.mg "range" = none) (ha : PE X a (rdE (cn X T) Φ fl W ca)) (hb : PE X b (rdE (cn X T) Φ fl W cb)) (hs : isStar a = false) (hs2 : isStar b = false) :
    PI X tg (.Call (.Name "range" p) [a, b] [] pos) (rdI (cn X T) Φ fl W m (.rng2 ca cb)) :=
  PI.imp (pi_range2 hg hm (pa_cons ha (pa_cons hb pa_nil (star_one hs2)) (star_one hs)) (by rw [star_one hs, star_one hs2]; rfl) (by rw [star_one hs2]; rfl)) fun σ H R h => by
    obtain ⟨A, F, G, st, rel, h⟩ := h
    rw [evIt] at h
    refine ⟨A, F, G, st, rel, endG.bind h fun r st1 v G1 H1 _ s1 rel1 p1 h1 => ?_⟩
    dsimp only at h1
    split at h1
    · refine ⟨A, F, G1, st1, rel1, endG.bind h1 fun r st2 v2 G2 H2 _ s2 rel2 p2 h2 => ?_⟩
      dsimp only at h2
      split at h2
      · split at h2
        · rename_i xs hx
          obtain ⟨b1, b2, b3, b4, rfl⟩ := rngOk_inv hx
          refine ⟨_, _, by rw [Rep.int_inv p1, Rep.int_inv p2], ⟨by omega, by omega, by omega, by omega⟩, ?_⟩
          exact h2 _ G2 H2 Sub.rfl rel2 wk_rng
        · exact h2.elim
      · exact h2.elim
    · exact h1.elim
/-- the source of an enumerate or zip -/
theorem src_of {C : Cn} {G : Hp} {x : V} {d : D} {xs : List D} (h : Rep C G x d) (e : Op.seqOf d = some xs) : ∃ src : Src, x = src.v ∧ (∀ H, Sub G H → src.At C.K H) ∧ Reps C G src.vals xs := by
  cases h with
  | tup q r => cases e; exact ⟨.tup _ _, rfl, fun H s => (TAt.sub s q).sq, r⟩
  | lst q r => cases e; exact ⟨.lst _ _, rfl, fun H s => .inl (.inl (s _ _ q)), r⟩
  | scr q => cases e; exact ⟨.lst _ _, rfl, fun H s => SqL.sub s q, reps_ints _⟩
  | str z hz =>
    simp only [Op.seqOf] at e
    split at e
    · cases e; exact ⟨.str _, rfl, fun _ _ => trivial, by simpa [Src.vals] using reps_signs z hz⟩
    · cases e
  | non => cases e
  | bl _ => cases e
  | int _ => cases e
  | dctO _ _ => cases e
  | fn _ => cases e
  | obj _ _ => cases e
theorem enumD_len : ∀ (xs : List D) (k : Int), (enumD k xs).length = xs.length
  | [], _ => rfl
  | x :: r, k => by simp [enumD, enumD_len r]
theorem enumD_get : ∀ (xs : List D) (k : Int) (i : Nat) (d : D), xs[i]? = some d → (enumD k xs)[i]? = some (.tup [.int (k + i), d])
  | [], _, _, _, h => by simp at h
  | x :: r, k, 0, d, h => by simp at h; subst h; simp [enumD]
  | x :: r, k, i + 1, d, h => by
    simp only [enumD, List.getElem?_cons_succ]
    rw [enumD_get r (k + 1) i d (by simpa using h)]
    have : k + 1 + (i : Int) = k + ((i + 1 : Nat) : Int) := by omega
    rw [this]
theorem wk_enum {C : Cn} {G : Hp} {src : Src} {xs : List D} (hat : ∀ H, Sub G H → src.At C.K H) (r : Reps C G src.vals xs) : Wk C true G (ItE C.K src) (enumD 0 xs) := by
  unfold Wk
  rw [enumD_len, ← r.length]
  refine ⟨fun i H hi s => ⟨hat H s, hi⟩, fun H s => ⟨hat H s, rfl⟩, fun i H x H' hi s ⟨Tt, y, e1, e2, e3, e4⟩ => ?_⟩
  obtain ⟨d, h1, h2⟩ := r.getV e4
  refine ⟨_, enumD_get xs 0 i d h1, .inr ⟨rfl, Tt, .int (i : Nat), y, .int (i : Nat), d, e1, e2, e3, by rw [Int.zero_add], .int _, h2⟩⟩
theorem pi_enumE (hg : Gl X "enumerate") (hm : X.mg "enumerate" = none) (ha : PE X a (rdE (cn X T) Φ fl W ca)) (hs : isStar a = false) : PI X (.Tuple elts kk tpos) (.Call (.Name "enumerate" p) [a] [] pos) (rdI (cn X T) Φ fl W true (.enum ca)) :=
  PI.imp (pi_enumS hg hm (pa_cons ha pa_nil (star_one hs)) (by rw [star_one hs]; rfl)) fun σ H R h => by
    obtain ⟨A, F, G, st, rel, h⟩ := h
    rw [evIt] at h
    refine ⟨A, F, G, st, rel, endG.bind h fun r st1 v G1 H1 _ s1 rel1 p1 h1 => ?_⟩
    dsimp only at h1
    split at h1
    · exact h1.elim
    · rename_i d st2 hk
      obtain ⟨G2, s2, rel2, p2⟩ := RR.keep rel1 p1 hk
      have h1 := endG.mono s2 h1
      split at h1
      · rename_i xs hx
        obtain ⟨src, rfl, hat, rp⟩ := src_of p2 hx
        exact ⟨src, rfl, hat H1 rel2.subG, h1 _ G2 H1 Sub.rfl rel2 (wk_enum hat rp)⟩
      · exact h1.elim
theorem zipD_len : ∀ (xs ys : List D), (zipD xs ys).length = min xs.length ys.length
  | [], _ => by simp [zipD]
  | _ :: _, [] => by simp [zipD]
  | x :: r, y :: s => by simp [zipD, zipD_len r s]
theorem zipD_get : ∀ (xs ys : List D) (i : Nat) (d e : D), xs[i]? = some d → ys[i]? = some e → (zipD xs ys)[i]? = some (.tup [d, e])
  | [], _, _, _, _, h, _ => by simp at h
  | _ :: _, [], _, _, _, _, h => by simp at h
  | x :: r, y :: s, 0, d, e, h, h2 => by simp at h h2; subst h h2; simp [zipD]
  | x :: r, y :: s, i + 1, d, e, h, h2 => by simpa [zipD] using zipD_get r s i d e (by simpa using h) (by simpa using h2)
theorem wk_zip {C : Cn} {G : Hp} {src src2 : Src} {xs ys : List D} (hat : ∀ H, Sub G H → src.At C.K H) (r : Reps C G src.vals xs) (hat2 : ∀ H, Sub G H → src2.At C.K H) (r2 : Reps C G src2.vals ys) : Wk C true G (ItZ C.K src src2) (zipD xs ys) := by
  unfold Wk
  rw [zipD_len, ← r.length, ← r2.length]
  refine ⟨fun i H hi s => ⟨hat H s, hat2 H s, hi⟩, fun H s => ⟨hat H s, hat2 H s, rfl⟩, fun i H x H' hi s ⟨Tt, y, y2, e1, e2, e3, e4, e5⟩ => ?_⟩
  obtain ⟨d, h1, h2⟩ := r.getV e4
  obtain ⟨e, h3, h4⟩ := r2.getV e5
  exact ⟨_, zipD_get xs ys i d e h1 h3, .inr ⟨rfl, Tt, y, y2, d, e, e1, e2, e3, rfl, h2, h4⟩⟩
theorem pi_zipE (hg : Gl X "zip") (hm : X.mg "zip" = none) (ha : PE X a (rdE (cn X T) Φ fl W ca)) (hb : PE X b (rdE (cn X T) Φ fl W cb)) (hs : isStar a = false) (hs2 : isStar b = false) :
    PI X (.Tuple elts kk tpos) (.Call (.Name "zip" p) [a, b] [] pos) (rdI (cn X T) Φ fl W true (.zip ca cb)) :=
  PI.imp (pi_zipS hg hm (pa_cons ha (pa_cons hb pa_nil (star_one hs2)) (star_one hs)) (star_one hs) (star_any (by simp [hs2]))) fun σ H R h => by
    obtain ⟨A, F, G, st, rel, h⟩ := h
    rw [evIt] at h
    refine ⟨A, F, G, st, rel, endG.bind h fun r st1 v G1 H1 _ s1 rel1 p1 h1 => ?_⟩
    dsimp only at h1
    split at h1
    · exact h1.elim
    · rename_i d st2 hk
      obtain ⟨G2, s2, rel2, p2⟩ := RR.keep rel1 p1 hk
      have h1 := endG.mono s2 h1
      refine ⟨A, F, G2, st2, rel2, endG.bind h1 fun r st3 v3 G3 H3 _ s3 rel3 p3 h3 => ?_⟩
      dsimp only at h3
      split at h3
      · exact h3.elim
      · rename_i d' st4 hk'
        obtain ⟨G4, s4, rel4, p4⟩ := RR.keep rel3 p3 hk'
        have h3 := endG.mono s4 h3
        split at h3
        · rename_i xs ys hx hy
          obtain ⟨src, rfl, hat, rp⟩ := src_of (p2.mono (s3.trans s4)) hx
          obtain ⟨src2, rfl, hat2, rp2⟩ := src_of p4 hy
          exact ⟨src, src2, rfl, hat H3 rel4.subG, hat2 H3 rel4.subG, h3 _ G4 H3 Sub.rfl rel4 (wk_zip hat rp hat2 rp2)⟩
        · exact h3.elim
end
def gNs : List Nat → TGs
  | [] => gNil
  | i :: is => gCons (gName i) (gNs is)
def rdG (K : PySem.W.Frag) : Tg → TG
  | .one i => gName i
  | .many is => gTup K is.length (gNs is)
def Tg.slots : Tg → List Nat
  | .one i => [i]
  | .many is => is
theorem tgs_ok {C : Cn} {A : List Addr} {F G H : Hp} : ∀ {is : List Nat} {ds : List D} {vs : List V} {st st1 : St} {σ : L2.St} {Q : L2.St → Hp → Prop}, Rel C A F G st σ H → Reps C G vs ds → tgs is ds st = some st1 →
    (∀ σ2, Rel C A F G st1 σ2 H → σ2.length = σ.length → (∀ j, j ∉ is → σ2[j]? = σ[j]?) → Q σ2 H) → vs.length = is.length ∧ gNs is vs σ H Q
  | [], [], _, st, st1, σ, Q, rel, .nil, e, k => by
    simp only [tgs] at e
    cases e
    exact ⟨rfl, rfl, k σ rel rfl fun _ _ => rfl⟩
  | [], _ :: _, _, _, _, _, _, _, _, e, _ => by simp only [tgs] at e; cases e
  | _ :: _, [], _, _, _, _, _, _, _, e, _ => by simp only [tgs] at e; cases e
  | i :: is, d :: ds, v :: vs, st, st1, σ, Q, rel, .cons h r, e, k => by
    simp only [tgs] at e
    split at e
    · rename_i hl
      have hl : i < st.length := Nat.le_of_ble_eq_true hl
      obtain ⟨h1, h2⟩ := tgs_ok (Q := Q) (rel.setVal h hl) r e fun σ2 r2 l2 a2 => k σ2 r2 (by simpa using l2) fun j hj => by
        rw [a2 j fun z => hj (List.mem_cons_of_mem _ z), List.getElem?_set_ne fun z => hj (by rw [z]; exact List.mem_cons_self)]
      exact ⟨by simp [h1], v, vs, rfl, h2⟩
    · cases e
theorem tg_ok {C : Cn} {A : List Addr} {F G H : Hp} {t : Tg} {st st1 : St} {σ : L2.St} {x : V} {d : D} {Q : L2.St → Hp → Prop} (rel : Rel C A F G st σ H) (h : RepI C t.isMany G x d) (e : t.set d st = some st1)
    (k : ∀ σ2, Rel C A F G st1 σ2 H → σ2.length = σ.length → (∀ j, j ∉ t.slots → σ2[j]? = σ[j]?) → Q σ2 H) : rdG C.K t x σ H Q := by
  cases t with
  | one i =>
    simp only [Tg.set] at e
    split at e
    · rename_i hl
      have hl : i < st.length := Nat.le_of_ble_eq_true hl
      cases e
      have h : Rep C G x d := by
        rcases h with h | ⟨h, _⟩
        · exact h
        · cases h
      exact k _ (rel.setVal h hl) (by simp) fun j hj => List.getElem?_set_ne fun z => hj (by simp [Tg.slots, z])
    · cases e
  | many is =>
    cases d with
    | tup ds =>
      simp only [Tg.set] at e
      rcases h with h | ⟨_, Tt, a, b, da, db, rfl, hG, hd, ra, rb⟩
      · cases h with
        | tup q r =>
          obtain ⟨h1, h2⟩ := tgs_ok rel r e k
          exact ⟨_, _, rfl, (TAt.sub rel.subG q).sq, h1, h2⟩
      · cases hd
        obtain ⟨h1, h2⟩ := tgs_ok rel (.cons ra (.cons rb .nil)) e k
        exact ⟨_, _, rfl, .inl (.inl (rel.subG _ _ hG)), h1, h2⟩
    | _ => simp only [Tg.set] at e; cases e
section
variable {X : Cx} {pos : Pos}
/-- the names of a target -/
inductive NamesAt (N : List Str) (sc : Scope) (fn : Str → Bool) : List Expr → List Nat → Prop
  | nil : NamesAt N sc fn [] []
  | cons {x : Str} {p : Pos} {i : Nat} {es : List Expr} {is : List Nat} : N[i]? = some x → Loc sc x → (fn x = true ∨ sc.names.lookup x = some .local) → NamesAt N sc fn es is → NamesAt N sc fn (.Name x p :: es) (i :: is)
theorem pgs_names (hN : X.N.Nodup) : ∀ {es : List Expr} {is : List Nat}, NamesAt X.N X.env.scope X.fn es is → PGs X es (gNs is)
  | _, _, .nil => pgs_nil
  | _, _, .cons h1 h2 h3 r => pgs_cons (pg_name hN h1 h2 h3) (pgs_names hN r) rfl
theorem names_each {N : List Str} {sc : Scope} {fn : Str → Bool} (env : Env) : ∀ {es : List Expr} {is : List Nat}, NamesAt N sc fn es is → (assignEach es env).length = is.length ∧ (assignEach es env).findIdx? (·.1) = none
  | _, _, .nil => ⟨rfl, rfl⟩
  | _, _, .cons _ _ _ r => by
    obtain ⟨h1, h2⟩ := names_each env r
    exact ⟨by show (_ :: assignEach _ env).length = _; simp [h1], by show (_ :: assignEach _ env).findIdx? _ = none; rw [List.findIdx?_cons]; simp [h2]⟩
theorem pg_many {k : Nat} {es : List Expr} {is : List Nat} (hc : X.calm = true) (hN : X.N.Nodup) (h : NamesAt X.N X.env.scope X.fn es is) : PG X (.Tuple es k pos) (rdG X.K (.many is)) :=
  pg_tup hc (pgs_names hN h) (names_each X.env h).1 (names_each X.env h).2
theorem pg_oneE {i : Nat} {x : Str} (hN : X.N.Nodup) (hi : X.N[i]? = some x) (hx : Loc X.env.scope x) (hf : X.fn x = true ∨ X.env.scope.names.lookup x = some .local) : PG X (.Name x pos) (rdG X.K (.one i)) := pg_name hN hi hx hf
end
end PV
set_option Elab.async false
set_option linter.all false
set_option maxRecDepth 100000
set_option maxHeartbeats 4000000
namespace PV
open PySem PySem.Spec PyProof.Rows L2
theorem wipe_len (st : St) : ∀ vs : List Nat, (wipe st vs).length = st.length
  | [] => rfl
  | v :: vs => by simp [wipe, wipe_len st vs]
theorem slot_wipe (st : St) : ∀ (vs : List Nat) (i : Nat), slot (wipe st vs) i = if i ∈ vs then .none else slot st i
  | [], i => by simp [wipe]
  | v :: vs, i => by
    simp only [wipe]
    rw [slot_set, slot_wipe st vs i]
    by_cases h : v = i
    · subst h
      by_cases hl : v < (wipe st vs).length
      · simp [hl]
      · have e : slot st v = .none := by
          unfold slot
          rw [List.getD_eq_getElem?_getD, List.getElem?_eq_none (by rw [wipe_len] at hl; omega)]; rfl
        simp [hl, e]
    · simp [h, Ne.symm h]
theorem σwipe_ne (σ : L2.St) : ∀ {vs : List Nat} {i : Nat}, i ∉ vs → (L2.wipe σ vs)[i]? = σ[i]?
  | [], _, _ => rfl
  | v :: vs, i, h => by
    simp only [List.mem_cons, not_or] at h
    unfold L2.wipe
    rw [List.getElem?_set_ne (Ne.symm h.1)]
    exact σwipe_ne σ h.2
theorem σwipe_in (σ : L2.St) : ∀ {vs : List Nat} {i : Nat}, i ∈ vs → i < σ.length → (L2.wipe σ vs)[i]? = some none
  | v :: vs, i, h, hl => by
    unfold L2.wipe
    by_cases e : v = i
    · subst e; rw [List.getElem?_set_self (by rw [wipe_length]; exact hl)]
    · rw [List.getElem?_set_ne e]
      rcases List.mem_cons.mp h with z | z
      · exact absurd z.symm e
      · exact σwipe_in σ z hl
theorem σwipe_eq {σ σ2 : L2.St} {vs : List Nat} (hl : σ2.length = σ.length) (h : ∀ j, j ∉ vs → σ2[j]? = σ[j]?) : L2.wipe σ2 vs = L2.wipe σ vs := by
  refine List.ext_getElem? fun j => ?_
  by_cases hj : j ∈ vs
  · by_cases hz : j < σ.length
    · rw [σwipe_in σ2 hj (by omega), σwipe_in σ hj hz]
    · rw [List.getElem?_eq_none (by rw [wipe_length]; omega), List.getElem?_eq_none (by rw [wipe_length]; omega)]
  · rw [σwipe_ne σ2 hj, σwipe_ne σ hj, h j hj]
theorem back_len (old st : St) : ∀ vs : List Nat, (back old st vs).length = st.length
  | [] => rfl
  | v :: vs => by simp [back, back_len old st vs]
theorem slot_back (old st : St) (hl : old.length = st.length) : ∀ (vs : List Nat) (i : Nat), slot (back old st vs) i = if i ∈ vs then slot old i else slot st i
  | [], i => by simp [back]
  | v :: vs, i => by
    simp only [back]
    rw [slot_set, slot_back old st hl vs i]
    by_cases h : v = i
    · subst h
      by_cases hz : v < (back old st vs).length
      · simp [hz]
      · have e : slot old v = .none := by
          unfold slot
          rw [List.getD_eq_getElem?_getD, List.getElem?_eq_none (by rw [back_len] at hz; omega)]; rfl
        have e2 : slot st v = .none := by
          unfold slot
          rw [List.getD_eq_getElem?_getD, List.getElem?_eq_none (by rw [back_len] at hz; omega)]; rfl
        simp [hz, e, e2]
    · simp [h, Ne.symm h]
section
variable {C : Cn} {A : List Addr} {F G H : Hp} {st : St} {σ : L2.St}
theorem Rel.wipe (rel : Rel C A F G st σ H) (vs : List Nat) : Rel C A F G (PV.wipe st vs) (L2.wipe σ vs) H := by
  have f : ∀ {i s}, slot (PV.wipe st vs) i = s → s ≠ .none → i ∉ vs ∧ slot st i = s := fun {i s} e n => by
    rw [slot_wipe] at e
    split at e
    · exact absurd e.symm n
    · rename_i h; exact ⟨h, e⟩
  refine ⟨by rw [wipe_len, wipe_length, rel.len], rel.subR, rel.subG, rel.dis, fun i d e => ?_, fun i t d e => ?_, fun i j t u d e' p q1 q2 q3 q4 => ?_⟩
  · obtain ⟨h1, h2⟩ := f e (by intro z; cases z)
    rw [σwipe_ne σ h1]; exact rel.val i d h2
  · obtain ⟨h1, h2⟩ := f e (by intro z; cases z)
    rw [σwipe_ne σ h1]; exact rel.own i t d h2
  · obtain ⟨h1, h2⟩ := f q1 (by intro z; cases z)
    obtain ⟨h3, h4⟩ := f q2 (by intro z; cases z)
    rw [σwipe_ne σ h1] at q3
    rw [σwipe_ne σ h3] at q4
    exact rel.inj i j t u d e' p h2 h4 q3 q4
/-- the names of the block as they were -/
theorem Rel.restore {G' H' : Hp} {st2 : St} {vs : List Nat} (rel : Rel C A F G st σ H) (hn : noOwn st vs = true) (s : Sub G G') (r2 : Rel C A F G' st2 (L2.wipe σ vs) H') : Rel C A F G' (PV.back st st2 vs) σ H' := by
  have hl : st.length = st2.length := by rw [rel.len, r2.len, wipe_length]
  have f : ∀ {i t d}, slot (PV.back st st2 vs) i = .own t d → i ∉ vs ∧ slot st2 i = .own t d := fun {i t d} e => by
    rw [slot_back st st2 hl] at e
    split at e
    · rename_i h
      have q := List.all_eq_true.mp hn i h
      rw [e] at q; cases q
    · rename_i h; exact ⟨h, e⟩
  refine ⟨by rw [back_len, ← hl, rel.len], r2.subR, r2.subG, r2.dis, fun i d e => ?_, fun i t d e => ?_, fun i j t u d e' p q1 q2 q3 q4 => ?_⟩
  · rw [slot_back st st2 hl] at e
    split at e
    · obtain ⟨v, h1, h2⟩ := rel.val i d e
      exact ⟨v, h1, h2.mono s⟩
    · rename_i h
      obtain ⟨v, h1, h2⟩ := r2.val i d e
      rw [σwipe_ne σ h] at h1
      exact ⟨v, h1, h2⟩
  · obtain ⟨h1, h2⟩ := f e
    obtain ⟨p, k1, k2⟩ := r2.own i t d h2
    rw [σwipe_ne σ h1] at k1
    exact ⟨p, k1, k2⟩
  · obtain ⟨h1, h2⟩ := f q1
    obtain ⟨h3, h4⟩ := f q2
    exact r2.inj i j t u d e' p h2 h4 (by rw [σwipe_ne σ h1]; exact q3) (by rw [σwipe_ne σ h3]; exact q4)
/-- a thing put aside is changed -/
theorem Rel.reput {p : Addr} {o o' : HO} (rel : Rel C A (upd F p o) G st σ H) : Rel C A (upd F p o') G st σ (upd H p o') := by
  have g : G p = none := by
    cases e : G p with
    | none => rfl
    | some x => have := rel.dis p x e; rw [upd_same] at this; cases this
  refine ⟨rel.len, fun a x e => ?_, rel.subG.updR g, fun a x e => ?_, rel.val, fun i t d e => ?_, rel.inj⟩
  · by_cases h : a = p
    · subst h; rw [upd_same] at e ⊢; exact e
    · rw [upd_ne h] at e ⊢; exact rel.subR a x (by rw [upd_ne h]; exact e)
  · have q := rel.dis a x e
    by_cases h : a = p
    · subst h; rw [g] at e; cases e
    · rw [upd_ne h] at q ⊢; exact q
  · obtain ⟨q, h1, h2, h3, h4, h5⟩ := rel.own i t d e
    have ne : q ≠ p := fun z => by subst z; rw [upd_same] at h2; cases h2
    rw [upd_ne ne] at h2
    exact ⟨q, h1, by rw [upd_ne ne]; exact h2, h3, h4.mono Sub.rfl (upd_ne ne), h5⟩
end
abbrev WF : WX := fun _ _ _ _ => False
theorem drop_cons {α : Type} {xs : List α} {i : Nat} {d : α} (h : xs[i]? = some d) : xs.drop i = d :: xs.drop (i + 1) := by
  obtain ⟨h1, h2⟩ := List.getElem?_eq_some_iff.mp h
  rw [List.drop_eq_getElem_cons h1, h2]
section
variable {X : Cx} {T : Tab} {Φ : Fns} {fl : Nat → List Bool} {W : WX} {elt tg iter tg1 iter1 : Expr} {ifs ifs1 : List Expr} {scope : Scope} {own : List (Str × Nat)} {pos : Pos} {t t1 : Tg} {it it1 : It} {cc ce : E}
/-- the body of a comprehension -/
def cbody (Φ : Fns) (fl : Nat → List Bool) (vs : List Nat) (cc ce : E) : St → Res (Option D × St) := fun s => (ev Φ fl cc s).bind fun (r, s1) => match r with
  | .val (.bl true) => (ev Φ fl ce s1).bind fun (r, s2) => (match r.keep s2 with
    | some (d, s3) => .ok (some d, wipe s3 vs)
    | none => .no)
  | .val (.bl false) => .ok (none, wipe s1 vs)
  | _ => .no
theorem cbody_ok {vs : List Nat} {s : St} {o : Option D} {s' : St} (h : cbody Φ fl vs cc ce s = .ok (o, s')) : ∃ b s1, ev Φ fl cc s = .ok (.val (.bl b), s1) ∧
    ((b = true ∧ ∃ r s2 d s3, ev Φ fl ce s1 = .ok (r, s2) ∧ r.keep s2 = some (d, s3) ∧ o = some d ∧ s' = wipe s3 vs) ∨ (b = false ∧ o = none ∧ s' = wipe s1 vs)) := by
  unfold cbody at h
  cases q : ev Φ fl cc s with
  | no => rw [q] at h; cases h
  | exc c => rw [q] at h; cases h
  | ok y =>
    obtain ⟨r, s1⟩ := y
    rw [q] at h
    simp only [Res.bind] at h
    split at h
    · refine ⟨true, s1, rfl, .inl ⟨rfl, ?_⟩⟩
      cases q2 : ev Φ fl ce s1 with
      | no => rw [q2] at h; cases h
      | exc c => rw [q2] at h; cases h
      | ok z =>
        obtain ⟨r2, s2⟩ := z
        rw [q2] at h
        simp only [Res.bind] at h
        split at h
        · rename_i d s3 hk
          cases h
          exact ⟨r2, s2, d, s3, rfl, hk, rfl, rfl⟩
        · cases h
    · cases h
      exact ⟨false, s1, rfl, .inr ⟨rfl, rfl, rfl⟩⟩
    · cases h
theorem turns_cons {body : St → Res (Option D × St)} {d : D} {xs rest : List D} {st st2 : St} (h : turns t body (d :: xs) st = .ok (rest, st2)) :
    ∃ st1 o s2 rest', t.set d st = some st1 ∧ body st1 = .ok (o, s2) ∧ turns t body xs s2 = .ok (rest', st2) ∧ rest = (match o with | some x => x :: rest' | none => rest') := by
  simp only [turns] at h
  split at h
  · cases h
  · rename_i st1 e1
    cases q : body st1 with
    | no => rw [q] at h; cases h
    | exc c => rw [q] at h; cases h
    | ok y =>
      obtain ⟨o, s2⟩ := y
      rw [q] at h
      simp only [Res.bind] at h
      cases q2 : turns t body xs s2 with
      | no => rw [q2] at h; cases h
      | exc c => rw [q2] at h; cases h
      | ok z =>
        obtain ⟨rest', s3⟩ := z
        rw [q2] at h
        cases h
        exact ⟨st1, o, s2, rest', e1, q, q2, rfl⟩
/-- one turn: the target is set, the test and the element are reckoned, the list grows -/
theorem turn_ok {C : Cn} {A : List Addr} {F G0 : Hp} {vs : List Nat} {σ : L2.St} {Dp : Addr} {acc : List V} {dn ds : List D} {x : V} {d : D} {H H' : Hp} {sti st2 : St} {xs rest : List D} {Nx : Hp → Prop} (htv : ∀ i ∈ t.slots, i ∈ vs) (hsz : ds.length ≤ sizeLine)
    (rel : Rel C A (upd F Dp (.lst acc)) G0 sti (L2.wipe σ vs) H) (ra : Reps C G0 acc dn) (y : YR C t.isMany G0 H x H' d) (ht : turns t (cbody Φ fl vs cc ce) (d :: xs) sti = .ok (rest, st2)) (hds : dn ++ rest = ds)
    (k : ∀ G1 s1 acc1 dn1 rest1 H1, Sub G0 G1 → Rel C A (upd F Dp (.lst acc1)) G1 s1 (L2.wipe σ vs) H1 → Reps C G1 acc1 dn1 → turns t (cbody Φ fl vs cc ce) xs s1 = .ok (rest1, st2) → dn1 ++ rest1 = ds → Nx H1) :
    rdG C.K t x (L2.wipe σ vs) H' fun σ2 H2 => L2.wipe σ2 vs = L2.wipe σ vs ∧ rdT C Φ fl WF cc σ2 H2 fun b H3 =>
      if b = true then rdE C Φ fl WF ce σ2 H3 fun y H4 => ∃ acc, H4 Dp = some (.lst acc) ∧ acc.length < sizeLine ∧ Nx (upd H4 Dp (.lst (acc ++ [y]))) else Nx H3 := by
  obtain ⟨G1, s1, rel1, rx⟩ := YR.rel rel y
  obtain ⟨stt, o, s2, rest', e1, e2, e3, e4⟩ := turns_cons ht
  obtain ⟨b, sc, ec, hb⟩ := cbody_ok e2
  refine tg_ok rel1 rx e1 fun σ2 rel2 hl ha => ?_
  have hw : L2.wipe σ2 vs = L2.wipe σ vs := by
    refine σwipe_eq (by rw [hl, wipe_length]) fun j hj => ?_
    rw [ha j fun z => hj (htv j z), σwipe_ne σ hj]
  refine ⟨hw, A, _, G1, stt, rel2, ?_⟩
  rw [ec]
  intro G3 H3 t3 rel3
  rcases hb with ⟨rfl, r, s4, d', s5, ee, ek, rfl, rfl⟩ | ⟨rfl, rfl, rfl⟩
  · rw [if_pos rfl]
    refine ⟨A, _, G3, sc, rel3, ?_⟩
    rw [ee]
    intro v G4 H4 t4 rel4 p4
    obtain ⟨G5, t5, rel5, p5⟩ := RR.keep rel4 p4 ek
    have sAll : Sub G0 G5 := s1.trans (t3.trans (t4.trans t5))
    have hacc : acc.length = dn.length := ra.length
    have hlen : dn.length < ds.length := by
      rw [← hds, e4, List.length_append, List.length_cons]; omega
    refine ⟨acc, rel5.subR Dp _ upd_same, by omega, ?_⟩
    refine k G5 (wipe s5 vs) (acc ++ [v]) (dn ++ [d']) rest' _ sAll ?_ ((ra.mono sAll).append (.cons p5 .nil)) e3 ?_
    · have := (rel5.reput (o' := .lst (acc ++ [v]))).wipe vs
      rw [hw] at this
      exact this
    · rw [← hds, e4]; simp
  · rw [if_neg Bool.false_ne_true]
    have sAll : Sub G0 G3 := s1.trans t3
    refine k G3 (wipe sc vs) acc dn rest' H3 sAll ?_ (ra.mono sAll) e3 (by rw [← hds, e4])
    have := rel3.wipe vs
    rw [hw] at this
    exact this
theorem snd_comp (htv : ∀ i ∈ t.slots, i ∈ own.map (·.2)) : ∀ σ H Q, rdE (cn X T) Φ fl W (.comp (own.map (·.2)) t it cc ce) σ H Q → tLc (rdI (cn X T) Φ fl W t.isMany it) (rdG X.K t) (rdT (cn X T) Φ fl WF cc) (rdE (cn X T) Φ fl WF ce) (own.map (·.2)) σ H Q :=
  fun σ H Q h => by
    obtain ⟨A, F, G, st, rel, h⟩ := h
    rw [ev] at h
    refine ⟨A, F, G, st, rel, endG.bind h fun xs st1 J G1 H1 _ s1 rel1 wk h1 => fun Dp hD => ?_⟩
    dsimp only at h1
    split at h1
    · rename_i hno
      have h1 : endG (cn X T) A F G1 σ W (PE1 (cn X T) F σ) Q ((turns t (cbody Φ fl (own.map (·.2)) cc ce) xs (wipe st1 (own.map (·.2)))).calm.bind fun (ds, st2) => if Nat.ble ds.length sizeL then .ok (.fresh (.lst ds), back st1 st2 (own.map (·.2))) else .no) := h1
      cases q : turns t (cbody Φ fl (own.map (·.2)) cc ce) xs (wipe st1 (own.map (·.2))) with
      | no => rw [q] at h1; exact h1.elim
      | exc c => rw [q] at h1; exact h1.elim
      | ok z =>
        obtain ⟨ds, st2⟩ := z
        rw [q] at h1
        simp only [Res.calm, Res.bind] at h1
        split at h1
        · rename_i hz
          have hsz : ds.length ≤ sizeLine := by rw [← sizeL_eq]; exact Nat.le_of_ble_eq_true hz
          have f0 : F Dp = none := rel1.rnone hD
          refine lc_it wk (fun i H => ∃ Gi sti acc dn rest, Sub G1 Gi ∧ Rel (cn X T) A (upd F Dp (.lst acc)) Gi sti (L2.wipe σ (own.map (·.2))) H ∧ Reps (cn X T) Gi acc dn ∧ turns t (cbody Φ fl (own.map (·.2)) cc ce) (xs.drop i) sti = .ok (rest, st2) ∧ dn ++ rest = ds)
            ?_ ?_ ?_ ?_
          · exact ⟨G1, _, [], [], ds, Sub.rfl, ((rel1.allocF hD).aside upd_same (rel1.gnone hD) (rel1.notOwn hD)).wipe _, .nil, by simpa using q, rfl⟩
          · rintro i H2 hi ⟨Gi, sti, acc, dn, rest, a1, a2, a3, a4, a5⟩
            exact a1.trans a2.subG
          · rintro i x H2 H3 hi ⟨Gi, sti, acc, dn, rest, a1, a2, a3, a4, a5⟩ ⟨d, hd, y⟩
            rw [drop_cons hd] at a4
            exact turn_ok htv hsz a2 a3 (y.mono a1) a4 a5 fun G4 s4 acc4 dn4 rest4 H4 b1 b2 b3 b4 b5 => ⟨G4, s4, acc4, dn4, rest4, a1.trans b1, b2, b3, b4, b5⟩
          · rintro H2 ⟨Gi, sti, acc, dn, rest, a1, a2, a3, a4, a5⟩
            rw [List.drop_length] at a4
            cases a4
            rw [List.append_nil] at a5
            subst a5
            obtain ⟨r1, r2, r3, r4⟩ := Rel.again f0 a2
            have rb := rel1.restore hno a1 r1
            refine h1 (.ref Dp) Gi H2 a1 rb ⟨Dp, rfl, f0, r3, fun i t0 d0 e z => ?_, acc, r2, a3⟩
            have hl : st1.length = st2.length := by rw [rel1.len, r1.len, wipe_length]
            rw [slot_back st1 st2 hl] at e
            split at e
            · rename_i hin
              have qn := List.all_eq_true.mp hno i hin
              rw [e] at qn; cases qn
            · rename_i hin
              exact r4 i t0 d0 e (by rw [σwipe_ne σ hin]; exact z)
        · exact h1.elim
    · exact h1.elim
theorem pe_comp (hc : X.calm = true) (hN : X.N.Nodup) (hi : PI X tg iter (rdI (cn X T) Φ fl W t.isMany it)) (ok : BlkOk X.N X.env.scope scope own) (htv : ∀ i ∈ t.slots, i ∈ own.map (·.2))
    (hg : ∀ (s : Shared) (H : Hp) (C : Addr) (cl : List (Str × Addr)) (fp : List Addr), PG (X.blk s H scope (compEnvC scope cl C X.env) fp) tg (rdG X.K t))
    (ht : ∀ (s : Shared) (H : Hp) (C : Addr) (cl : List (Str × Addr)) (fp : List Addr), PTs (X.blk s H scope (compEnvC scope cl C X.env) fp) ifs (rdT (cn X T) Φ fl WF cc))
    (he : ∀ (s : Shared) (H : Hp) (C : Addr) (cl : List (Str × Addr)) (fp : List Addr), PE (X.blk s H scope (compEnvC scope cl C X.env) fp) elt (rdE (cn X T) Φ fl WF ce)) (hs : ∀ x, foldedSetIterable iter X.env x = pure x) :
    PE X (.ListComp elt [⟨tg, iter, ifs, 0⟩] scope pos) (rdE (cn X T) Φ fl W (.comp (own.map (·.2)) t it cc ce)) :=
  PE.imp (pe_lc hc hN hi ok hg ht he hs) (snd_comp htv)
def cbody2 (Φ : Fns) (fl : Nat → List Bool) (vs vs1 : List Nat) (t1 : Tg) (it1 : It) (cc ce : E) : St → Res (List D × St) := fun s => (evIt Φ fl it1 s).bind fun (ys, s0) => (turns t1 (cbody Φ fl vs1 cc ce) ys (wipe s0 vs1)).bind fun (ds, s9) => .ok (ds, wipe s9 vs)
theorem turns2_cons {body : St → Res (List D × St)} {d : D} {xs rest : List D} {st st2 : St} (h : turns2 t body (d :: xs) st = .ok (rest, st2)) :
    ∃ st1 o s2 rest', t.set d st = some st1 ∧ body st1 = .ok (o, s2) ∧ turns2 t body xs s2 = .ok (rest', st2) ∧ rest = o ++ rest' := by
  simp only [turns2] at h
  split at h
  · cases h
  · rename_i st1 e1
    cases q : body st1 with
    | no => rw [q] at h; cases h
    | exc c => rw [q] at h; cases h
    | ok y =>
      obtain ⟨o, s2⟩ := y
      rw [q] at h
      simp only [Res.bind] at h
      cases q2 : turns2 t body xs s2 with
      | no => rw [q2] at h; cases h
      | exc c => rw [q2] at h; cases h
      | ok z =>
        obtain ⟨rest', s3⟩ := z
        rw [q2] at h
        cases h
        exact ⟨st1, o, s2, rest', e1, q, q2, rfl⟩
theorem snd_comp2 {vs1 : List Nat} (hv1 : ∀ i ∈ vs1, i ∈ own.map (·.2)) (htv : ∀ i ∈ t.slots, i ∈ own.map (·.2)) (htv1 : ∀ i ∈ t1.slots, i ∈ vs1) : ∀ σ H Q, rdE (cn X T) Φ fl W (.comp2 (own.map (·.2)) vs1 t it t1 it1 cc ce) σ H Q → tLc2 (rdI (cn X T) Φ fl W t.isMany it) (rdG X.K t) tYes (rdI (cn X T) Φ fl WF t1.isMany it1) (rdG X.K t1) (rdT (cn X T) Φ fl WF cc) (rdE (cn X T) Φ fl WF ce) (own.map (·.2)) vs1 σ H Q :=
  fun σ H Q h => by
    obtain ⟨A, F, G, st, rel, h⟩ := h
    rw [ev] at h
    refine ⟨A, F, G, st, rel, endG.bind h fun xs st1 J G1 H1 _ s1 rel1 wk h1 => fun Dp hD => ?_⟩
    dsimp only at h1
    split at h1
    · rename_i hno
      have h1 : endG (cn X T) A F G1 σ W (PE1 (cn X T) F σ) Q ((turns2 t (cbody2 Φ fl (own.map (·.2)) vs1 t1 it1 cc ce) xs (wipe st1 (own.map (·.2)))).calm.bind fun (ds, st2) => if Nat.ble ds.length sizeL then .ok (.fresh (.lst ds), back st1 st2 (own.map (·.2))) else .no) := h1
      cases q : turns2 t (cbody2 Φ fl (own.map (·.2)) vs1 t1 it1 cc ce) xs (wipe st1 (own.map (·.2))) with
      | no => rw [q] at h1; exact h1.elim
      | exc c => rw [q] at h1; exact h1.elim
      | ok z =>
        obtain ⟨ds, st2⟩ := z
        rw [q] at h1
        simp only [Res.calm, Res.bind] at h1
        split at h1
        · rename_i hz
          have hsz : ds.length ≤ sizeLine := by rw [← sizeL_eq]; exact Nat.le_of_ble_eq_true hz
          have f0 : F Dp = none := rel1.rnone hD
          let Pv : Nat → Hp → Prop := fun i H => ∃ Gi sti acc dn rest, Sub G1 Gi ∧ Rel (cn X T) A (upd F Dp (.lst acc)) Gi sti (L2.wipe σ (own.map (·.2))) H ∧ Reps (cn X T) Gi acc dn ∧ turns2 t (cbody2 Φ fl (own.map (·.2)) vs1 t1 it1 cc ce) (xs.drop i) sti = .ok (rest, st2) ∧ dn ++ rest = ds
          refine ⟨fun i m H => m = xs.length - i ∧ i ≤ xs.length ∧ Pv i H, ⟨xs.length, by simp, Nat.zero_le _, ?_⟩, ?_⟩
          · exact ⟨G1, _, [], [], ds, Sub.rfl, ((rel1.allocF hD).aside upd_same (rel1.gnone hD) (rel1.notOwn hD)).wipe _, .nil, by simpa using q, rfl⟩
          rintro i m H2 ⟨rfl, hi, Gi, sti, acc, dn, rest, a1, a2, a3, a4, a5⟩
          by_cases hlt : i < xs.length
          · refine .inr ⟨wk.goes i H2 hlt (a1.trans a2.subG), Pv (i + 1), fun H' p' => ⟨xs.length - (i + 1), by omega, rfl, hlt, p'⟩, fun x H' hy => ?_⟩
            obtain ⟨d, hd, y⟩ := wk.yields i H2 x H' hlt (a1.trans a2.subG) hy
            rw [drop_cons hd] at a4
            obtain ⟨stt, oX, s2, rest', e1, e2, e3, e4⟩ := turns2_cons a4
            obtain ⟨G3, g3, rel3, rx⟩ := YR.rel a2 (y.mono a1)
            refine tg_ok rel3 rx e1 fun σ2 rel4 hl ha => ?_
            have hw : L2.wipe σ2 (own.map (·.2)) = L2.wipe σ (own.map (·.2)) := by
              refine σwipe_eq (by rw [hl, wipe_length]) fun j hj => ?_
              rw [ha j fun z => hj (htv j z), σwipe_ne σ hj]
            refine ⟨hw, ?_⟩
            unfold tYes
            dsimp only
            rw [if_pos rfl]
            unfold cbody2 at e2
            refine ⟨A, _, G3, stt, rel4, ?_⟩
            cases qi : evIt Φ fl it1 stt with
            | no => rw [qi] at e2; cases e2
            | exc c => rw [qi] at e2; cases e2
            | ok z1 =>
              obtain ⟨ys, s0⟩ := z1
              rw [qi] at e2
              simp only [Res.bind] at e2
              cases qt : turns t1 (cbody Φ fl vs1 cc ce) ys (wipe s0 vs1) with
              | no => rw [qt] at e2; cases e2
              | exc c => rw [qt] at e2; cases e2
              | ok z2 =>
                obtain ⟨o, s9⟩ := z2
                rw [qt] at e2
                cases e2
                dsimp only at e3 e4
                intro J1 G5 H5 g5 rel5 wk1
                have sA : Sub Gi G5 := g3.trans g5
                let Pv1 : Nat → Hp → Prop := fun j H => ∃ Gj stj acc1 dn1 rest1, Sub G5 Gj ∧ Rel (cn X T) A (upd F Dp (.lst acc1)) Gj stj (L2.wipe σ2 vs1) H ∧ Reps (cn X T) Gj acc1 dn1 ∧ turns t1 (cbody Φ fl vs1 cc ce) (ys.drop j) stj = .ok (rest1, s9) ∧ dn1 ++ rest1 = dn ++ o
                have hso : (dn ++ o).length ≤ sizeLine := by
                  have : (dn ++ o).length ≤ ds.length := by rw [← a5, e4]; simp
                  omega
                refine ⟨fun j k H => k = ys.length - j ∧ j ≤ ys.length ∧ Pv1 j H, ⟨ys.length, by simp, Nat.zero_le _, G5, _, acc, dn, o, Sub.rfl, rel5.wipe vs1, a3.mono sA, by simpa using qt, rfl⟩, ?_⟩
                rintro j k H6 ⟨rfl, hj, Gj, stj, acc1, dn1, rest1, b1, b2, b3, b4, b5⟩
                by_cases hlj : j < ys.length
                · refine .inr ⟨wk1.goes j H6 hlj (b1.trans b2.subG), Pv1 (j + 1), fun H' p' => ⟨ys.length - (j + 1), by omega, rfl, hlj, p'⟩, fun x1 H7 hy1 => ?_⟩
                  obtain ⟨d1, hd1, y1⟩ := wk1.yields j H6 x1 H7 hlj (b1.trans b2.subG) hy1
                  rw [drop_cons hd1] at b4
                  exact turn_ok htv1 hso b2 b3 (y1.mono b1) b4 b5 fun G8 s8 acc8 dn8 rest8 H8 c1 c2 c3 c4 c5 => ⟨G8, s8, acc8, dn8, rest8, b1.trans c1, c2, c3, c4, c5⟩
                · have ej : j = ys.length := by omega
                  subst ej
                  refine .inl ⟨wk1.stops H6 (b1.trans b2.subG), ?_⟩
                  rw [List.drop_length] at b4
                  cases b4
                  rw [List.append_nil] at b5
                  subst b5
                  refine ⟨Gj, wipe s9 (own.map (·.2)), acc1, dn ++ o, rest', a1.trans (sA.trans b1), ?_, b3, e3, by rw [← a5, e4]; simp⟩
                  have hw2 : L2.wipe (L2.wipe σ2 vs1) (own.map (·.2)) = L2.wipe σ (own.map (·.2)) := by
                    rw [← hw]
                    exact σwipe_eq (wipe_length _ _) fun j hj => σwipe_ne σ2 fun z => hj (hv1 j z)
                  have := b2.wipe (own.map (·.2))
                  rw [hw2] at this
                  exact this
          · have ei : i = xs.length := by omega
            subst ei
            refine .inl ⟨wk.stops H2 (a1.trans a2.subG), ?_⟩
            rw [List.drop_length] at a4
            cases a4
            rw [List.append_nil] at a5
            subst a5
            obtain ⟨r1, r2, r3, r4⟩ := Rel.again f0 a2
            have rb := rel1.restore hno a1 r1
            refine h1 (.ref Dp) Gi H2 a1 rb ⟨Dp, rfl, f0, r3, fun i t0 d0 e z => ?_, acc, r2, a3⟩
            have hl : st1.length = st2.length := by rw [rel1.len, r1.len, wipe_length]
            rw [slot_back st1 st2 hl] at e
            split at e
            · rename_i hin
              have qn := List.all_eq_true.mp hno i hin
              rw [e] at qn; cases qn
            · rename_i hin
              exact r4 i t0 d0 e (by rw [σwipe_ne σ hin]; exact z)
        · exact h1.elim
    · exact h1.elim
theorem pe_comp2 {vs1 : List Nat} (hc : X.calm = true) (hN : X.N.Nodup) (hi : PI X tg iter (rdI (cn X T) Φ fl W t.isMany it)) (ok : BlkOk X.N X.env.scope scope own) (hv1 : ∀ i ∈ vs1, i ∈ own.map (·.2)) (htv : ∀ i ∈ t.slots, i ∈ own.map (·.2)) (htv1 : ∀ i ∈ t1.slots, i ∈ vs1)
    (hg : ∀ (s : Shared) (H : Hp) (C : Addr) (cl : List (Str × Addr)) (fp : List Addr), PG (X.blk s H scope (compEnvC scope cl C X.env) fp) tg (rdG X.K t))
    (hi1 : ∀ (s : Shared) (H : Hp) (C : Addr) (cl : List (Str × Addr)) (fp : List Addr), PI (X.blk s H scope (compEnvC scope cl C X.env) fp) tg1 iter1 (rdI (cn X T) Φ fl WF t1.isMany it1))
    (hg1 : ∀ (s : Shared) (H : Hp) (C : Addr) (cl : List (Str × Addr)) (fp : List Addr), PG (X.blk s H scope (compEnvC scope cl C X.env) fp) tg1 (rdG X.K t1))
    (ht1 : ∀ (s : Shared) (H : Hp) (C : Addr) (cl : List (Str × Addr)) (fp : List Addr), PTs (X.blk s H scope (compEnvC scope cl C X.env) fp) ifs1 (rdT (cn X T) Φ fl WF cc))
    (he : ∀ (s : Shared) (H : Hp) (C : Addr) (cl : List (Str × Addr)) (fp : List Addr), PE (X.blk s H scope (compEnvC scope cl C X.env) fp) elt (rdE (cn X T) Φ fl WF ce)) (hs : ∀ x, foldedSetIterable iter X.env x = pure x) (hs1 : ∀ env x, foldedSetIterable iter1 env x = pure x) :
    PE X (.ListComp elt [⟨tg, iter, [], 0⟩, ⟨tg1, iter1, ifs1, 0⟩] scope pos) (rdE (cn X T) Φ fl W (.comp2 (own.map (·.2)) vs1 t it t1 it1 cc ce)) :=
  PE.imp (pe_lc2 hc hN hi ok hv1 hg (fun _ _ _ _ _ => pts_nil) hi1 hg1 ht1 he hs hs1) (snd_comp2 hv1 htv htv1)
end
end PV
set_option Elab.async false
set_option linter.all false
set_option maxRecDepth 100000
set_option maxHeartbeats 4000000
namespace PV
open PySem PySem.Spec PyProof.Rows L2
section
variable {X : Cx} {T : Tab} {Φ : Fns} {fl : Nat → List Bool} {W : WX} {a e : Expr} {ca c : E} {i : Nat} {x : Str} {p apos cpos : Pos}
theorem Rel.ownL {C : Cn} {A : List Addr} {F G H : Hp} {st : St} {σ : L2.St} {i : Nat} {t : Option Nat} {xs : List D} (rel : Rel C A F G st σ H) (q : slot st i = .own t (.lst xs)) : ∃ p vs, σ[i]? = some (some (.ref p)) ∧ H p = some (.lst vs) ∧ Reps C G vs xs := by
  obtain ⟨p, h1, _, _, ⟨vs, h2, h3⟩, _⟩ := rel.own i t _ q
  exact ⟨p, vs, h1, h2, h3⟩
theorem few_one {e : Expr} {env : Env} {pos : Pos} (h : isStar e = false) : ((backTo pos (starEach [e] env)).all (fun x => !x.1) && (backToKw pos (keywordEach [] env)).all (fun x => x.1.isSome)
      && decide ([e].length + ([] : List Keyword).length + (if ([] : List Keyword).isEmpty then 0 else 1) < 30)) = true := by
  rw [star_one h]; rfl
theorem pe_appE (hN : X.N[i]? = some x) (hv : Vis X.env.scope x) (hd : (x == ("__debug__" : Str)) = false) (hcd : (x == ("__classdict__" : Str)) = false) (he : PE X e (rdE (cn X T) Φ fl W c)) (hs : isStar e = false) (hline : (apos.endLine == cpos.line) = true) :
    PE X (.Call (.Attribute (.Name x p) "append" apos) [e] [] cpos) (rdE (cn X T) Φ fl W (.app i c)) :=
  PE.imp (pe_bm PySem.F.plainAttrs_list PySem.F.slot_list_append PySem.F.type_list_append mt_append (pe_var hN hv hd hcd) (pa_cons he pa_nil (star_one hs)) rfl (few_one hs) hline (star_one hs) rfl) fun σ H Q h => by
    obtain ⟨A, F, G, st, rel, h⟩ := h
    rw [ev] at h
    split at h
    · rename_i t0 xs0 q0
      obtain ⟨p, vs, h1, h2, h3⟩ := rel.ownL q0
      refine ⟨_, h1, .inl ⟨rfl, vs, .inl (.inl h2)⟩, A, F, G, st, rel, endG.bind h fun r st1 v G1 H1 _ s1 rel1 p1 h4 => ?_⟩
      dsimp only at h4
      split at h4
      · exact h4.elim
      · rename_i d st2 hk
        obtain ⟨G2, s2, rel2, p2⟩ := RR.keep rel1 p1 hk
        have h4 := endG.mono s2 h4
        split at h4
        · rename_i t xs q
          split at h4
          · rename_i hz
            obtain ⟨p', vs', g1, g2, g3⟩ := rel2.ownL q
            rw [h1] at g1; cases g1
            have hz : xs.length < sizeLine := by rw [← sizeL_eq]; exact Nat.le_of_ble_eq_true hz
            refine ⟨p, vs', v, rfl, rfl, g2, by rw [g3.length]; exact hz, ?_⟩
            exact h4 .non G2 _ Sub.rfl (rel2.write q h1 ⟨_, upd_same, g3.append (.cons p2 .nil)⟩) .non
          · exact h4.elim
        · exact h4.elim
    · exact h.elim
theorem pe_extE (hN : X.N[i]? = some x) (hv : Vis X.env.scope x) (hd : (x == ("__debug__" : Str)) = false) (hcd : (x == ("__classdict__" : Str)) = false) (he : PE X e (rdE (cn X T) Φ fl W c)) (hs : isStar e = false) (hline : (apos.endLine == cpos.line) = true) :
    PE X (.Call (.Attribute (.Name x p) "extend" apos) [e] [] cpos) (rdE (cn X T) Φ fl W (.ext i c)) :=
  PE.imp (pe_bm PySem.F.plainAttrs_list PySem.F.slot_list_extend PySem.F.type_list_extend mt_extend (pe_var hN hv hd hcd) (pa_cons he pa_nil (star_one hs)) rfl (few_one hs) hline (star_one hs) rfl) fun σ H Q h => by
    obtain ⟨A, F, G, st, rel, h⟩ := h
    rw [ev] at h
    split at h
    · rename_i t0 xs0 q0
      obtain ⟨p, vs, h1, h2, h3⟩ := rel.ownL q0
      refine ⟨_, h1, .inl ⟨rfl, vs, .inl (.inl h2)⟩, A, F, G, st, rel, endG.bind h fun r st1 v G1 H1 _ s1 rel1 p1 h4 => ?_⟩
      dsimp only at h4
      split at h4
      · rename_i ds st2 hk
        obtain ⟨G2, s2, rel2, p2⟩ := RR.keep rel1 p1 hk
        have h4 := endG.mono s2 h4
        split at h4
        · rename_i t xs q
          split at h4
          · rename_i hz
            obtain ⟨p', vs', g1, g2, g3⟩ := rel2.ownL q
            rw [h1] at g1; cases g1
            have hz : xs.length + ds.length ≤ sizeLine := by rw [← sizeL_eq]; exact Nat.le_of_ble_eq_true hz
            cases p2 with
            | lst q2 r2 =>
              refine ⟨p, _, vs', _, rfl, rfl, g2, rel2.subG _ _ q2, by rw [g3.length, r2.length]; exact hz, ?_⟩
              exact h4 .non G2 _ Sub.rfl (rel2.write q h1 ⟨_, upd_same, g3.append r2⟩) .non
          · exact h4.elim
        · exact h4.elim
      · exact h4.elim
    · exact h.elim
theorem pe_popE (hN : X.N[i]? = some x) (hv : Vis X.env.scope x) (hd : (x == ("__debug__" : Str)) = false) (hcd : (x == ("__classdict__" : Str)) = false) (hline : (apos.endLine == cpos.line) = true) :
    PE X (.Call (.Attribute (.Name x p) "pop" apos) [] [] cpos) (rdE (cn X T) Φ fl W (.pop i)) :=
  PE.imp (pe_bm0 PySem.F.plainAttrs_list PySem.F.slot_list_pop PySem.F.type_list_pop mt_pop (pe_var hN hv hd hcd) rfl hline) fun σ H Q h => by
    obtain ⟨A, F, G, st, rel, h⟩ := h
    rw [ev] at h
    split at h
    · rename_i t0 xs q0
      obtain ⟨p, vs, h1, h2, h3⟩ := rel.ownL q0
      split at h
      · rename_i d hd
        rw [List.getLast?_eq_getElem?] at hd
        obtain ⟨v, g1, g2⟩ := h3.get hd
        refine ⟨_, h1, .inl ⟨rfl, vs, .inl (.inl h2)⟩, p, vs, v, rfl, rfl, h2, by rw [h3.length]; exact g1, ?_⟩
        exact h v G _ Sub.rfl (rel.write q0 h1 ⟨_, upd_same, h3.dropLast⟩) g2
      · exact h.elim
    · exact h.elim
theorem pe_popAtE (hN : X.N[i]? = some x) (hv : Vis X.env.scope x) (hd : (x == ("__debug__" : Str)) = false) (hcd : (x == ("__classdict__" : Str)) = false) (he : PE X e (rdE (cn X T) Φ fl W c)) (hs : isStar e = false) (hline : (apos.endLine == cpos.line) = true) :
    PE X (.Call (.Attribute (.Name x p) "pop" apos) [e] [] cpos) (rdE (cn X T) Φ fl W (.popAt i c)) :=
  PE.imp (pe_bm PySem.F.plainAttrs_list PySem.F.slot_list_pop PySem.F.type_list_pop mt_popAt (pe_var hN hv hd hcd) (pa_cons he pa_nil (star_one hs)) rfl (few_one hs) hline (star_one hs) rfl) fun σ H Q h => by
    obtain ⟨A, F, G, st, rel, h⟩ := h
    rw [ev] at h
    split at h
    · rename_i t0 xs0 q0
      obtain ⟨p, vs, h1, h2, h3⟩ := rel.ownL q0
      refine ⟨_, h1, .inl ⟨rfl, vs, .inl (.inl h2)⟩, A, F, G, st, rel, endG.bind h fun r st1 v G1 H1 _ s1 rel1 p1 h4 => ?_⟩
      dsimp only at h4
      split at h4
      · rename_i k _
        split at h4
        · rename_i t xs q
          split at h4
          · rename_i hz
            rw [Bool.and_eq_true, Bool.and_eq_true, decide_eq_true_eq, decide_eq_true_eq] at hz
            split at h4
            · rename_i d hd
              obtain ⟨p', vs', g1, g2, g3⟩ := rel1.ownL q
              rw [h1] at g1; cases g1
              obtain ⟨v', k1, k2⟩ := g3.get hd
              have hl : vs'.length = xs.length := g3.length
              have hsz : xs.length ≤ 16777216 := Nat.le_of_ble_eq_true hz.2
              refine ⟨p, vs', k, k.toNat, v', rfl, by rw [Rep.int_inv p1], g2, by omega, by omega, seqIndex_of hz.1.1 (by omega), k1, ?_⟩
              exact h4 v' G1 _ Sub.rfl (rel1.write q h1 ⟨_, upd_same, g3.eraseIdx k.toNat⟩) k2
            · exact h4.elim
          · exact h4.elim
        · exact h4.elim
      · exact h4.elim
    · exact h.elim
end
end PV
set_option Elab.async false
set_option linter.all false
set_option maxRecDepth 100000
set_option maxHeartbeats 4000000
namespace PV
open PySem PySem.Spec PyProof.Rows L2
def endS (C : Cn) (A : List Addr) (F G : Hp) (W : WX) (D : Ends) : Res (Fl × St) → Prop
  | .ok (.next, st) => ∀ σ' G' H', Sub G G' → Rel C A F G' st σ' H' → D.nx σ' H'
  | .ok (.ret r, st) => ∀ v σ' G' H', Sub G G' → Rel C A F G' st σ' H' → RR C F G' st σ' H' (retR r) v → D.rt v H'
  | .exc c => XP C F G W c
  | .no => False
section
variable (C : Cn) (Φ : Fns) (fl : Nat → List Bool) (W : WX)
def rdS (s : S) : TS := fun D σ H => ∃ A F G st, Rel C A F G st σ H ∧ endS C A F G W D (ex Φ fl s st)
def rdSs (s : Ss) : TS := fun D σ H => ∃ A F G st, Rel C A F G st σ H ∧ endS C A F G W D (exs Φ fl s st)
end
section
variable {C : Cn} {A : List Addr} {F G G1 : Hp} {W : WX} {D D1 : Ends} {x : Res (Fl × St)} {σ : L2.St} {H : Hp}
theorem endS.mono (s : Sub G G1) (h : endS C A F G W D x) : endS C A F G1 W D x := by
  cases x with
  | ok a =>
    obtain ⟨f, st⟩ := a
    cases f with
    | next => exact fun σ' G' H' s1 r => h σ' G' H' (s.trans s1) r
    | ret r => exact fun v σ' G' H' s1 r p => h v σ' G' H' (s.trans s1) r p
  | exc c => exact XP.mono s h
  | no => exact h
/-- an expression, then the rest -/
theorem endG.toS {α β : Type} {P : Hp → Hp → St → α → β → Prop} {Q : β → Hp → Prop} {x : Res (α × St)} {f : α × St → Res (Fl × St)} (h : endS C A F G W D (x.bind f))
    (k : ∀ a st1 b G1 H1, x = .ok (a, st1) → Sub G G1 → Rel C A F G1 st1 σ H1 → P G1 H1 st1 a b → endS C A F G1 W D (f (a, st1)) → Q b H1) : endG C A F G σ W P Q x := by
  cases x with
  | ok a => exact fun b G' H' s1 r p => k a.1 a.2 b G' H' _root_.rfl s1 r p (endS.mono s1 h)
  | exc c => exact h
  | no => exact h
theorem endB.toS {Q : Bool → Hp → Prop} {x : Res (R × St)} {f : R × St → Res (Fl × St)} (h : endS C A F G W D (x.bind f)) (hf : ∀ r st1, x = .ok (r, st1) → (∀ b, r ≠ .val (.bl b)) → f (r, st1) = .no)
    (k : ∀ b st1 G1 H1, x = .ok (.val (.bl b), st1) → Sub G G1 → Rel C A F G1 st1 σ H1 → endS C A F G1 W D (f (.val (.bl b), st1)) → Q b H1) : endB C W A F G σ Q x := by
  cases x with
  | ok a =>
    obtain ⟨r, st1⟩ := a
    by_cases hb : ∃ b, r = .val (.bl b)
    · obtain ⟨b, rfl⟩ := hb
      exact fun G' H' s1 r => k b st1 G' H' rfl s1 r (endS.mono s1 h)
    · have h : endS C A F G W D (f (r, st1)) := h
      rw [hf r st1 rfl fun b z => hb ⟨b, z⟩] at h
      exact h.elim
  | exc c => exact h
  | no => exact h
end
section
variable {X : Cx} {T : Tab} {Φ : Fns} {fl : Nat → List Bool} {W : WX} {st : Stmt} {rest : List Stmt} {s : S} {r : Ss} {e c : Expr} {ce cc : E} {pos : Pos}
theorem pss_nilE : PSs X [] (rdSs (cn X T) Φ fl W .nil) := PSs.imp pss_nil fun D σ H h => by
  obtain ⟨A, F, G, st, rel, h⟩ := h
  exact h σ G H Sub.rfl rel
theorem pss_consE (h1 : PS X st (rdS (cn X T) Φ fl W s)) (h2 : PSs X rest (rdSs (cn X T) Φ fl W r)) : PSs X (st :: rest) (rdSs (cn X T) Φ fl W (.cons s r)) := PSs.imp (pss_cons h1 h2) fun D σ H h => by
  obtain ⟨A, F, G, st, rel, h⟩ := h
  rw [exs] at h
  refine ⟨A, F, G, st, rel, ?_⟩
  cases q : ex Φ fl s st with
  | no => rw [q] at h; exact h
  | exc c => rw [q] at h; exact h
  | ok z =>
    obtain ⟨f, st1⟩ := z
    rw [q] at h
    cases f with
    | next => exact fun σ' G' H' s1 r1 => ⟨A, F, G', st1, r1, endS.mono s1 h⟩
    | ret v => exact h
theorem pss_skip (h1 : PS X st tNext) (h2 : PSs X rest (rdSs (cn X T) Φ fl W r)) : PSs X (st :: rest) (rdSs (cn X T) Φ fl W r) := PSs.imp (pss_cons h1 h2) fun D σ H h => h
theorem ps_exprE (he : PE X e (rdE (cn X T) Φ fl W ce)) (hs : swapsWith e none pos.line X.env = pure false) : PS X (.Expr e pos) (rdS (cn X T) Φ fl W (.ex ce)) := PS.imp (ps_expr he hs) fun D σ H h => by
  obtain ⟨A, F, G, st, rel, h⟩ := h
  rw [ex] at h
  exact ⟨A, F, G, st, rel, endG.toS h fun r st1 v G1 H1 _ s1 rel1 p1 h1 => h1 σ G1 H1 Sub.rfl rel1⟩
theorem ret_ok {C : Cn} {A : List Addr} {F G : Hp} {st st2 : St} {σ : L2.St} {H : Hp} {r : R} {r2 : Ret} {v : V} (rel : Rel C A F G st σ H) (h : RR C F G st σ H r v) (e : retOf st r = some (r2, st2)) : ∃ G2, Sub G G2 ∧ Rel C A F G2 st2 σ H ∧ RR C F G2 st2 σ H (retR r2) v := by
  cases r with
  | val d => cases e; exact ⟨G, Sub.rfl, rel, h⟩
  | fresh d => cases e; exact ⟨G, Sub.rfl, rel, h⟩
  | var i =>
    have h : σ[i]? = some (some v) := h
    cases q : slot st i with
    | none => simp only [retOf, q] at e; cases e
    | val d =>
      simp only [retOf, q] at e; cases e
      obtain ⟨v', h1, h2⟩ := rel.val i _ q
      rw [h] at h1; cases h1
      exact ⟨G, Sub.rfl, rel, h2⟩
    | own t d =>
      cases t with
      | none =>
        simp only [retOf, q] at e; cases e
        obtain ⟨p, h1, h2, h3, h4, _⟩ := rel.own i _ _ q
        rw [h] at h1; cases h1
        refine ⟨G, Sub.rfl, rel.drop i, p, rfl, h2, h3, fun j t' d' e' z => ?_, h4⟩
        rw [slot_set] at e'
        split at e'
        · cases e'
        · rename_i hn
          have := rel.inj i j _ _ _ _ p q e' h z
          exact hn ⟨this, slot_lt (by rw [q]; intro z; cases z)⟩
      | some k =>
        simp only [retOf, q] at e; cases e
        obtain ⟨p, u, h1, h2, h3, h4, h5⟩ := rel.keep q
        rw [h] at h1; cases h1
        exact ⟨_, Sub.upd h3, h4, h5⟩
theorem ps_retE (he : PE X e (rdE (cn X T) Φ fl W ce)) : PS X (.Return (some e) pos) (rdS (cn X T) Φ fl W (.ret ce)) := PS.imp (ps_ret he) fun D σ H h => by
  obtain ⟨A, F, G, st, rel, h⟩ := h
  rw [ex] at h
  refine ⟨A, F, G, st, rel, endG.toS h fun r st1 v G1 H1 _ s1 rel1 p1 h1 => ?_⟩
  dsimp only at h1
  split at h1
  · rename_i r2 st2 hr
    obtain ⟨G2, s2, rel2, p2⟩ := ret_ok rel1 p1 hr
    exact h1 v σ G2 H1 s2 rel2 p2
  · exact h1.elim
theorem ps_retNE : PS X (.Return none pos) (rdS (cn X T) Φ fl W (.ret (.c .non))) := PS.imp ps_retN fun D σ H h => by
  obtain ⟨A, F, G, st, rel, h⟩ := h
  rw [ex, ev] at h
  exact h .non σ G H Sub.rfl rel .non
theorem ps_iteE {a b : List Stmt} {ca cb : Ss} (hc : PT X c (rdT (cn X T) Φ fl W cc)) (ha : PSs X a (rdSs (cn X T) Φ fl W ca)) (hb : PSs X b (rdSs (cn X T) Φ fl W cb)) : PS X (.If c a b pos) (rdS (cn X T) Φ fl W (.ite cc ca cb)) :=
  PS.imp (ps_if hc ha hb) fun D σ H h => by
    obtain ⟨A, F, G, st, rel, h⟩ := h
    rw [ex] at h
    refine ⟨A, F, G, st, rel, endB.toS h (fun r st1 _ hn => ?_) fun b st1 G1 H1 _ s1 rel1 h1 => ?_⟩
    · dsimp only
      split
      · exact absurd rfl (hn true)
      · exact absurd rfl (hn false)
      · rfl
    · cases b with
      | true => exact ⟨A, F, G1, st1, rel1, h1⟩
      | false => exact ⟨A, F, G1, st1, rel1, h1⟩
/-- a name takes a result -/
theorem bind_ok {C : Cn} {A : List Addr} {F G : Hp} {st st2 : St} {σ : L2.St} {H : Hp} {r : R} {i : Nat} {m : Bool} {v : V} (rel : Rel C A F G st σ H) (h : RR C F G st σ H r v) (e : bindS i m r st = some st2) : ∃ G2, Sub G G2 ∧ Rel C A F G2 st2 (σ.set i (some v)) H := by
  unfold bindS at e
  split at e
  · rename_i hl
    have hl : i < st.length := Nat.le_of_ble_eq_true hl
    split at e
    · cases e
      obtain ⟨p, rfl, h1, h2, h3, h4⟩ := h
      exact ⟨G, Sub.rfl, rel.setOwn h4 h2 h1 h3 hl⟩
    · split at e
      · rename_i d st1 hk
        cases e
        obtain ⟨G2, s2, rel2, p2⟩ := RR.keep rel h hk
        exact ⟨G2, s2, rel2.setVal p2 (by rw [rel2.len, ← rel.len]; exact hl)⟩
      · cases e
  · cases e
theorem snd_set {i : Nat} {m : Bool} {te : TE} (ht : ∀ σ H Q, rdE (cn X T) Φ fl W ce σ H Q → te σ H Q) : ∀ D σ H, rdS (cn X T) Φ fl W (.set i m ce) D σ H → tAsg te (gName i) D σ H := fun D σ H h => by
  refine ht σ H _ ?_
  obtain ⟨A, F, G, st, rel, h⟩ := h
  rw [ex] at h
  refine ⟨A, F, G, st, rel, endG.toS h fun r st1 v G1 H1 _ s1 rel1 p1 h1 => ?_⟩
  dsimp only at h1
  split at h1
  · rename_i st2 hb
    obtain ⟨G2, s2, rel2⟩ := bind_ok rel1 p1 hb
    exact h1 _ G2 H1 s2 rel2
  · exact h1.elim
theorem ps_setE {i : Nat} {x : Str} {p : Pos} {m : Bool} (hN : X.N.Nodup) (hi : X.N[i]? = some x) (hx : Loc X.env.scope x) (he : PE X e (rdE (cn X T) Φ fl W ce)) (hs : swapsWith e (some (.Name x p)) pos.line X.env = pure false) (hf : X.fn x = true ∨ X.env.scope.names.lookup x = some .local) :
    PS X (.Assign [.Name x p] e pos) (rdS (cn X T) Φ fl W (.set i m ce)) := PS.imp (ps_set hN hi hx he hs hf) (snd_set fun _ _ _ h => h)
theorem ps_unpackE {es : List Expr} {k : Nat} {is : List Nat} {p : Pos} (hc : X.calm = true) (hN : X.N.Nodup) (he : PE X e (rdE (cn X T) Φ fl W ce)) (hn : NamesAt X.N X.env.scope X.fn es is) (hs : swapsWithSole [.Tuple es k p] e pos.line X.env = pure false) (hw : swappedStores [.Tuple es k p] e X.env = pure none) :
    PS X (.Assign [.Tuple es k p] e pos) (rdS (cn X T) Φ fl W (.unpack is ce)) := PS.imp (ps_asg he (pg_many hc hN hn) hs hw rfl) fun D σ H h => by
  obtain ⟨A, F, G, st, rel, h⟩ := h
  rw [ex] at h
  refine ⟨A, F, G, st, rel, endG.toS h fun r st1 v G1 H1 _ s1 rel1 p1 h1 => ?_⟩
  dsimp only at h1
  split at h1
  · rename_i ds st2 hk
    obtain ⟨G2, s2, rel2, p2⟩ := RR.keep rel1 p1 hk
    have h1 := endS.mono s2 h1
    split at h1
    · rename_i st3 ht
      exact tg_ok (t := .many is) rel2 (.inl p2) ht fun σ2 r2 _ _ => h1 σ2 G2 H1 Sub.rfl r2
    · exact h1.elim
  · exact h1.elim
theorem ps_setItemE {i : Nat} {x : Str} {p spos : Pos} {k : Expr} {ck : E} (hu : X.A.units + 65 < cLine) (hN : X.N[i]? = some x) (hv : Vis X.env.scope x) (hd : (x == ("__debug__" : Str)) = false) (hcd : (x == ("__classdict__" : Str)) = false) (he : PE X e (rdE (cn X T) Φ fl W ce)) (hk : PE X k (rdE (cn X T) Φ fl W ck))
    (ha : ∀ v, assign (.Subscript (.Name x p) k spos) X.env v = (do
      let ov ← holding [v] (eval (.Name x p) X.env)
      let iv ← holding [v, ov] (eval k X.env)
      standAt spos
      holding [v, ov, iv] (setItem ov iv v)
      release [v, ov, iv] [])) (hs : swapsWithSole [.Subscript (.Name x p) k spos] e pos.line X.env = pure false) (hw : swappedStores [.Subscript (.Name x p) k spos] e X.env = pure none) :
    PS X (.Assign [.Subscript (.Name x p) k spos] e pos) (rdS (cn X T) Φ fl W (.setItem i ck ce)) := PS.imp (ps_asg he (pg_sub (pe_var hN hv hd hcd) hk (PSet.or set_list (set_dO (by omega))) ha) hs hw rfl) fun D σ H h => by
  obtain ⟨A, F, G, st, rel, h⟩ := h
  rw [ex] at h
  refine ⟨A, F, G, st, rel, endG.toS h fun r st1 v G1 H1 _ s1 rel1 p1 h1 => ?_⟩
  dsimp only at h1
  split at h1
  · exact h1.elim
  · rename_i d st2 hk
    obtain ⟨G2, s2, rel2, p2⟩ := RR.keep rel1 p1 hk
    have h1 := endS.mono s2 h1
    split at h1
    · rename_i hz
      obtain ⟨u, hs4⟩ : ∃ u, σ[i]? = some (some u) := by
        cases q : slot st2 i with
        | none => rw [q] at hz; cases hz
        | val d => obtain ⟨u, hu, _⟩ := rel2.val i _ q; exact ⟨u, hu⟩
        | own t d => obtain ⟨u, hu, _⟩ := rel2.own i _ _ q; exact ⟨_, hu⟩
      refine ⟨u, hs4, A, F, G2, st2, rel2, endG.toS h1 fun r st3 w G3 H3 _ s3 rel3 p3 h3 => ?_⟩
      dsimp only at h3
      split at h3
      · exact h3.elim
      · rename_i kd st4 hk4
        obtain ⟨G4, s4, rel4, p4⟩ := RR.keep rel3 p3 hk4
        have h3 := endS.mono s4 h3
        split at h3
        · rename_i t xs q
          split at h3
          · rename_i j _
            split at h3
            · rename_i n hn
              obtain ⟨p', vs', g1, g2, g3⟩ := rel4.ownL q
              rw [hs4] at g1; cases g1
              refine .inl ⟨p', vs', _, n, rfl, Rep.int_inv p4, g2, by rw [g3.length]; exact hn, ?_⟩
              exact h3 σ G4 _ Sub.rfl (rel4.write q hs4 ⟨_, upd_same, g3.set (p2.mono (s3.trans s4)) n⟩)
            · exact h3.elim
          · exact h3.elim
        · rename_i t kvs q
          split at h3
          · rename_i hkz
            rw [Bool.and_eq_true] at hkz
            obtain ⟨p', g1, _, _, ⟨kv, g2, g3⟩, _⟩ := rel4.own i t _ q
            rw [hs4] at g1; cases g1
            obtain ⟨k, b, rfl, rfl, tb, ub⟩ := p4.key hkz.1
            have hz : kvs.length < sizeLine := by rw [← sizeL_eq]; exact Nat.le_of_ble_eq_true hkz.2
            refine .inr ⟨p', b, kv, k, rfl, rfl, g2, g3.keysAt rel4.subG, tat_rd (TAt.sub rel4.subG tb), by rw [g3.length]; exact hz, ?_⟩
            exact h3 σ G4 _ Sub.rfl (rel4.write q hs4 ⟨_, upd_same, RepO.put tb ub (p2.mono (s3.trans s4)) g3⟩)
          · exact h3.elim
        · exact h3.elim
    · exact h1.elim
theorem ps_raiseE {x m : Str} {C : Addr} {bmB : List Value} {B newId initId : String} {k j : Nat} {p p2 pos' : Pos} (hc : X.calm = true) (tk : Takes X W) (Fx : ExcBaseFacts B newId initId bmB) (q : PySem.W.excIn X.K C bmB newId = true) (gC : X.mg x = some (.ref C)) (kC : PySem.W.keepIn X.K (.ref C) = true) (r : Raises X (.ref C)) (hg : Gl X x) (hdb : (x == ("__debug__" : Str)) = false) (hx : T.xa k = some C) :
    PS X (.Raise (some (.Call (.Name x p) [.Constant (.str m) j p2] [] pos')) none pos) (rdS (cn X T) Φ fl W (.raise k)) := PS.imp (ps_raise hc tk (pmk_own Fx q gC kC r hg hdb)) fun D σ H h => by
  obtain ⟨A, F, G, st, rel, h⟩ := h
  rw [ex] at h
  obtain ⟨y, e, h⟩ := h
  have e : T.xa k = some y := e
  rw [hx] at e; cases e
  exact h σ G H Sub.rfl rel.subR rel.subG rel.dis
theorem ps_whileE' {body : List Stmt} {cb : Ss} (hp : PassesOwn (model X.prog X.w) X.A X.env X.xe) (hc : PT X c (rdT (cn X T) Φ fl W cc)) (hb : PSs X body (rdSs (cn X T) Φ fl W cb)) : PS X (.While c body [] pos) (rdS (cn X T) Φ fl W (.while cc cb)) :=
  PS.imp (ps_while hp hc hb) fun D σ H h => by
    obtain ⟨A, F, G, st, rel, h⟩ := h
    rw [ex] at h
    refine ⟨fun m σ H => ∃ G st, Rel (cn X T) A F G st σ H ∧ endS (cn X T) A F G W D (whileN (ev Φ fl cc) (exs Φ fl cb) m st), ⟨wfuel, G, st, rel, h⟩, ?_⟩
    rintro m σ H ⟨G, st, rel, h⟩
    cases m with
    | zero => exact h.elim
    | succ n =>
      rw [whileN] at h
      refine ⟨A, F, G, st, rel, endB.toS h (fun r st1 _ hn => ?_) fun b st1 G1 H1 _ s1 rel1 h1 => ?_⟩
      · dsimp only
        split
        · exact absurd rfl (hn true)
        · exact absurd rfl (hn false)
        · rfl
      · cases b with
        | false => rw [if_neg (by decide)]; exact h1 σ G1 H1 Sub.rfl rel1
        | true =>
          rw [if_pos rfl]
          refine ⟨fun σ' H' => ∃ G st, Rel (cn X T) A F G st σ' H' ∧ endS (cn X T) A F G W D (whileN (ev Φ fl cc) (exs Φ fl cb) n st), fun σ' H' z => ⟨n, Nat.lt_succ_self n, z⟩, A, F, G1, st1, rel1, ?_⟩
          have h1 : endS (cn X T) A F G1 W D ((exs Φ fl cb st1).bind fun (f, st2) => match f with | .next => whileN (ev Φ fl cc) (exs Φ fl cb) n st2 | .ret r => .ok (.ret r, st2)) := h1
          cases q : exs Φ fl cb st1 with
          | no => rw [q] at h1; exact h1
          | exc c => rw [q] at h1; exact h1
          | ok z =>
            obtain ⟨f, st2⟩ := z
            rw [q] at h1
            cases f with
            | next => exact fun σ' G' H' s1 r1 => ⟨G', st2, r1, endS.mono s1 h1⟩
            | ret v => exact h1
theorem ps_forE' {tg iter : Expr} {t : Tg} {it : It} {body : List Stmt} {cb : Ss} (hp : PassesOwn (model X.prog X.w) X.A X.env X.xe) (hc : X.calm = true) (hi : PI X tg iter (rdI (cn X T) Φ fl W t.isMany it)) (hg : PG X tg (rdG X.K t)) (hb : PSs X body (rdSs (cn X T) Φ fl W cb)) (hs : ∀ x, foldedSetIterable iter X.env x = pure x) :
    PS X (.For tg iter body [] pos) (rdS (cn X T) Φ fl W (.for t it cb)) :=
  PS.imp (ps_for hp hc hi hg hb hs) fun D σ H h => by
    obtain ⟨A, F, G, st, rel, h⟩ := h
    rw [ex] at h
    refine ⟨A, F, G, st, rel, endG.toS h fun xs st1 J G1 H1 _ s1 rel1 wk h1 => ?_⟩
    dsimp only at h1
    let Pv : Nat → L2.St → Hp → Prop := fun i σ H => ∃ G st, Sub G1 G ∧ Rel (cn X T) A F G st σ H ∧ endS (cn X T) A F G W D (loop t (exs Φ fl cb) (xs.drop i) st)
    refine ⟨fun i m σ H => m = xs.length - i ∧ i ≤ xs.length ∧ Pv i σ H, ⟨xs.length, by simp, Nat.zero_le _, G1, st1, Sub.rfl, rel1, h1⟩, ?_⟩
    rintro i m σ2 H2 ⟨rfl, hi, G2, st2, a1, a2, a3⟩
    by_cases hlt : i < xs.length
    · refine .inr ⟨wk.goes i H2 hlt (a1.trans a2.subG), Pv (i + 1), fun σ' H' p' => ⟨xs.length - (i + 1), by omega, rfl, hlt, p'⟩, fun x H' hy => ?_⟩
      obtain ⟨d, hd, y⟩ := wk.yields i H2 x H' hlt (a1.trans a2.subG) hy
      rw [drop_cons hd, loop] at a3
      obtain ⟨G3, g3, rel3, rx⟩ := YR.rel a2 (y.mono a1)
      split at a3
      · exact a3.elim
      · rename_i stt e1
        refine tg_ok rel3 rx e1 fun σ3 rel4 _ _ => ⟨A, F, G3, stt, rel4, ?_⟩
        have a3 := endS.mono g3 a3
        cases q : exs Φ fl cb stt with
        | no => rw [q] at a3; exact a3
        | exc c => rw [q] at a3; exact a3
        | ok z =>
          obtain ⟨f, st5⟩ := z
          rw [q] at a3
          cases f with
          | next => exact fun σ' G' H' s1 r1 => ⟨G', st5, a1.trans (g3.trans s1), r1, endS.mono s1 a3⟩
          | ret v => exact a3
    · have ei : i = xs.length := by omega
      subst ei
      rw [List.drop_length, loop] at a3
      exact .inl ⟨wk.stops H2 (a1.trans a2.subG), a3 σ2 G2 H2 Sub.rfl a2⟩
end
end PV
set_option Elab.async false
set_option linter.all false
set_option maxRecDepth 100000
set_option maxHeartbeats 4000000
namespace PV
open PySem PySem.Spec PyProof.Rows L2
def R.plain : R → Bool
  | .var _ => false
  | _ => true
section
variable {C : Cn} {A : List Addr} {H : Hp}
theorem AsR.move {G G' : Hp} {st st' : St} {σ σ' : L2.St} (s : Sub G G') : ∀ {F F' : Hp} {rs : List R} {vs : List V}, (∀ p, F p = none → NotOwn st σ p → NotOwn st' σ' p) → (∀ p, F p = none → F' p = none) → (∀ p, F p = none → G p = none → G' p = none) →
    rs.all R.plain = true → AsR C G st σ H F rs vs → AsR C G' st' σ' H F' rs vs
  | _, _, [], [], _, _, _, _, _ => trivial
  | F, F', .fresh d :: rs, v :: vs, hn, hf, hg, hv, ⟨p, o, e, h1, h2, h3, h4, h5, h6⟩ =>
    ⟨p, o, e, hf p h1, hg p h1 h2, hn p h1 h3, h4, h5.mono s rfl, AsR.move s (fun q hq => hn q (by
      by_cases z : q = p
      · subst z; rw [upd_same] at hq; cases hq
      · rw [upd_ne z] at hq; exact hq)) (fun q hq => by
      by_cases z : q = p
      · subst z; rw [upd_same] at hq; cases hq
      · rw [upd_ne z] at hq ⊢; exact hf q hq) (fun q hq => hg q (by
      by_cases z : q = p
      · subst z; rw [upd_same] at hq; cases hq
      · rw [upd_ne z] at hq; exact hq)) (by simpa [R.plain] using hv) h6⟩
  | _, _, .val d :: rs, v :: vs, hn, hf, hg, hv, ⟨h1, h2⟩ => ⟨h1.mono s, AsR.move s hn hf hg (by simpa [R.plain] using hv) h2⟩
  | _, _, .var i :: rs, v :: vs, hn, hf, hg, hv, ⟨h1, h2⟩ => by simp [R.plain] at hv
  | _, _, [], _ :: _, _, _, _, _, h => h.elim
  | _, _, .fresh _ :: _, [], _, _, _, _, h => h.elim
  | _, _, .val _ :: _, [], _, _, _, _, h => h.elim
  | _, _, .var _ :: _, [], _, _, _, _, h => h.elim
def sets : L2.St → List (Nat × Bool) → List V → L2.St
  | σ, (i, _) :: is, v :: vs => sets (σ.set i (some v)) is vs
  | σ, _, _ => σ
theorem NotOwn.setVal {st : St} {σ : L2.St} {p : Addr} {i : Nat} {d : D} {v : V} (hl : i < st.length) (h : NotOwn st σ p) : NotOwn (st.set i (.val d)) (σ.set i (some v)) p := fun j t e q z => by
  by_cases hj : i = j
  · subst hj; rw [slot_set_same hl] at q; cases q
  · rw [slot_set_ne hj] at q
    rw [List.getElem?_set_ne hj] at z
    exact h j t e q z
theorem NotOwn.setOwn {st : St} {σ : L2.St} {p q : Addr} {i : Nat} {d : D} (hl : i < st.length) (hs : st.length = σ.length) (ne : p ≠ q) (h : NotOwn st σ p) : NotOwn (st.set i (.own none d)) (σ.set i (some (.ref q))) p := fun j t e k z => by
  by_cases hj : i = j
  · subst hj
    rw [List.getElem?_set_self (by omega)] at z
    cases z; exact ne rfl
  · rw [slot_set_ne hj] at k
    rw [List.getElem?_set_ne hj] at z
    exact h j t e k z
theorem binds_ok : ∀ {is : List (Nat × Bool)} {rs : List R} {vs : List V} {F G : Hp} {st st2 : St} {σ : L2.St}, Rel C A F G st σ H → AsR C G st σ H F rs vs → rs.all R.plain = true → bindSs is rs st = some st2 → vs.length = is.length ∧ ∃ G2, Sub G G2 ∧ Rel C A F G2 st2 (sets σ is vs) H
  | [], [], [], F, G, st, st2, σ, rel, _, _, e => by cases e; exact ⟨rfl, G, Sub.rfl, rel⟩
  | [], [], _ :: _, _, _, _, _, _, _, h, _, _ => h.elim
  | [], _ :: _, _, _, _, _, _, _, _, _, _, e => by simp only [bindSs] at e; cases e
  | (i, m) :: is, [], _, _, _, _, _, _, _, _, _, e => by simp only [bindSs] at e; cases e
  | (i, m) :: is, r :: rs, [], _, _, _, _, _, _, h, _, _ => by cases r <;> exact h.elim
  | (i, m) :: is, r :: rs, v :: vs, F, G, st, st2, σ, rel, h, hv, e => by
    simp only [bindSs] at e
    split at e
    · rename_i st1 hb
      have hl : i < st.length := by
        unfold bindS at hb
        split at hb
        · rename_i hl; exact Nat.le_of_ble_eq_true hl
        · cases hb
      cases r with
      | var j => simp [R.plain] at hv
      | val d =>
        obtain ⟨h1, h2⟩ := h
        have hb : some (st.set i (.val d)) = some st1 := by
          rw [← hb]; unfold bindS; rw [if_pos (by show Nat.ble (i + 1) st.length = true; exact Nat.ble_eq_true_of_le hl)]; rfl
        cases hb
        obtain ⟨l, G2, s2, rel2⟩ := binds_ok (rel.setVal h1 hl) (AsR.move Sub.rfl (fun p _ n => n.setVal hl) (fun _ h => h) (fun _ _ h => h) (by simpa [R.plain] using hv) h2) (by simpa [R.plain] using hv) e
        exact ⟨by simp [l], G2, s2, rel2⟩
      | fresh d =>
        obtain ⟨p, o, rfl, h1, h2, h3, h4, h5, h6⟩ := h
        have hne : ∀ q, upd F p o q = none → q ≠ p ∧ F q = none := fun q hq => by
          by_cases z : q = p
          · subst z; rw [upd_same] at hq; cases hq
          · rw [upd_ne z] at hq; exact ⟨z, hq⟩
        cases m with
        | true =>
          have hb : some (st.set i (.own none d)) = some st1 := by
            rw [← hb]; unfold bindS; rw [if_pos (by show Nat.ble (i + 1) st.length = true; exact Nat.ble_eq_true_of_le hl)]
          cases hb
          obtain ⟨l, G2, s2, rel2⟩ := binds_ok (rel.setOwn h5 h2 h1 h3 hl) (AsR.move Sub.rfl (fun q hq n => n.setOwn hl rel.len (hne q hq).1) (fun q hq => (hne q hq).2) (fun _ _ h => h) (by simpa [R.plain] using hv) h6) (by simpa [R.plain] using hv) e
          exact ⟨by simp [l], G2, s2, rel2⟩
        | false =>
          have hb : some (st.set i (.val d)) = some st1 := by
            rw [← hb]; unfold bindS; rw [if_pos (by show Nat.ble (i + 1) st.length = true; exact Nat.ble_eq_true_of_le hl)]; rfl
          cases hb
          obtain ⟨l, G2, s2, rel2⟩ := binds_ok ((rel.freeze h4 h2 h1 h3).setVal (h5.rep h4 h2) hl) (AsR.move (Sub.upd h2) (fun q hq n => n.setVal hl) (fun q hq => (hne q hq).2) (fun q hq g => by rw [upd_ne (hne q hq).1]; exact g) (by simpa [R.plain] using hv) h6) (by simpa [R.plain] using hv) e
          exact ⟨by simp [l], G2, (Sub.upd h2).trans s2, rel2⟩
    · cases e
end
section
variable {C : Cn} {Φ : Fns} {fl : Nat → List Bool} {W : WX} {σ : L2.St} {H : Hp}
def rdPs (C : Cn) (Φ : Fns) (fl : Nat → List Bool) (W : WX) (es : Es) : TA := fun σ H Q => ∃ A F G st, Rel C A F G st σ H ∧ endG C A F G σ W (fun G H st rs vs => AsR C G st σ H F rs vs ∧ rs.all R.plain = true) Q (evPs Φ fl es st)
theorem rdPs_nil {Q : List V → Hp → Prop} (h : rdPs C Φ fl W .nil σ H Q) : Q [] H := by
  obtain ⟨A, F, G, st, rel, h⟩ := h
  exact h [] G H Sub.rfl rel ⟨trivial, rfl⟩
theorem keepV_ok {A : List Addr} {F G : Hp} {st st2 : St} {r r2 : R} {v : V} (rel : Rel C A F G st σ H) (h : RR C F G st σ H r v) (e : keepV st r = some (r2, st2)) : ∃ G2, Sub G G2 ∧ Rel C A F G2 st2 σ H ∧ RR C F G2 st2 σ H r2 v ∧ r2.plain = true := by
  cases r with
  | val d => cases e; exact ⟨G, Sub.rfl, rel, h, rfl⟩
  | fresh d => cases e; exact ⟨G, Sub.rfl, rel, h, rfl⟩
  | var i =>
    simp only [keepV] at e
    split at e
    · rename_i d st1 hk
      cases e
      obtain ⟨G2, s2, rel2, p2⟩ := RR.keep rel h hk
      exact ⟨G2, s2, rel2, p2, rfl⟩
    · cases e
theorem rdPs_cons {e : E} {es : Es} {Q : List V → Hp → Prop} (h : rdPs C Φ fl W (.cons e es) σ H Q) : rdE C Φ fl W e σ H fun x H1 => rdPs C Φ fl W es σ H1 fun xs H2 => Q (x :: xs) H2 := by
  obtain ⟨A, F, G, st, rel, h⟩ := h
  refine ⟨A, F, G, st, rel, endG.bind h fun r0 st0 v G0 H1 _ s0 rel0 p0 h0 => ?_⟩
  dsimp only at h0
  split at h0
  · exact h0.elim
  · rename_i r st1 hk
    obtain ⟨G1, s1, rel1, p1, pl⟩ := keepV_ok rel0 p0 hk
    have h1 := endG.mono s1 h0
    cases r with
    | val d =>
      refine ⟨A, F, G1, st1, rel1, endG.bind h1 fun rs st3 vs G3 H3 _ s3 rel3 p3 h3 => ?_⟩
      exact h3 (v :: vs) G3 H3 Sub.rfl rel3 ⟨⟨Rep.mono s3 p1, p3.1⟩, by simpa [R.plain] using p3.2⟩
    | var i => cases pl
    | fresh d =>
      obtain ⟨p, rfl, f1, g1, n1, o1⟩ := p1
      obtain ⟨u, hu⟩ := o1.some
      have relA := rel1.aside hu g1 n1
      refine ⟨A, upd F p u, G1, st1, relA, ?_⟩
      cases q : evPs Φ fl es st1 with
      | no => simp only [q, Res.bind] at h1; exact h1
      | exc c =>
        simp only [q, Res.bind] at h1
        obtain ⟨x, ex, hx⟩ := h1
        exact ⟨x, ex, fun σ' G' H' s1 s2 s3 s4 => hx σ' G' H' s1 (fun a o e => s2 a o (by rw [upd_ne (ne_of_none e f1)]; exact e)) s3 fun a o e => by
          have := s4 a o e
          by_cases z : a = p
          · subst z; exact f1
          · rw [upd_ne z] at this; exact this⟩
      | ok y =>
        obtain ⟨rs, st3⟩ := y
        simp only [q, Res.bind] at h1
        intro vs G3 H3 s3 rel3 p3
        obtain ⟨relB, b1, b2, b3⟩ := Rel.again f1 rel3
        refine h1 (.ref p :: vs) G3 H3 s3 relB ⟨⟨p, u, rfl, f1, b2, b3, b1, o1.mono s3 (b1.trans hu.symm), p3.1⟩, by simpa [R.plain] using p3.2⟩
end
section
variable {X : Cx} {T : Tab} {Φ : Fns} {fl : Nat → List Bool} {W : WX} {a b c : Expr} {ca cb cc : E} {es : List Expr} {cs : Es} {i j l : Nat} {x y z : Str} {mi mj ml : Bool} {px py pz pt pos : Pos} {kt k2 : Nat} {pt2 : Pos}
theorem pa_ps0 : PA X [] (rdPs (cn X T) Φ fl W .nil) := PA.imp pa_nil fun _ _ _ h => rdPs_nil h
theorem pa_ps (ha : PE X a (rdE (cn X T) Φ fl W ca)) (hr : PA X es (rdPs (cn X T) Φ fl W cs)) (hs : isStar a = false) : PA X (a :: es) (rdPs (cn X T) Φ fl W (.cons ca cs)) :=
  PA.imp (pa_cons ha hr (star_one hs)) fun _ _ _ h => rdPs_cons h
theorem snd_par {is : List (Nat × Bool)} {D : Ends} {σ : L2.St} {H : Hp} (h : rdS (cn X T) Φ fl W (.par is cs) D σ H) : rdPs (cn X T) Φ fl W cs σ H fun vs H1 => vs.length = is.length ∧ D.nx (sets σ is vs) H1 := by
  obtain ⟨A, F, G, st, rel, h⟩ := h
  rw [ex] at h
  refine ⟨A, F, G, st, rel, endG.toS h fun rs st1 vs G1 H1 _ s1 rel1 p1 h1 => ?_⟩
  dsimp only at h1
  split at h1
  · rename_i st2 hb
    obtain ⟨l, G2, s2, rel2⟩ := binds_ok rel1 p1.1 p1.2 hb
    exact ⟨l, h1 _ G2 H1 s2 rel2⟩
  · exact h1.elim
theorem rdPs.imp {C : Cn} {σ : L2.St} {H : Hp} {Q Q' : List V → Hp → Prop} (h : rdPs C Φ fl W cs σ H Q) (k : ∀ v H, Q v H → Q' v H) : rdPs C Φ fl W cs σ H Q' := by
  obtain ⟨A, F, G, st, rel, h⟩ := h
  exact ⟨A, F, G, st, rel, endG.imp k h⟩
/-- the same, with an object more -/
theorem snd_parU {is : List (Nat × Bool)} {D : Ends} {σ : L2.St} {H : Hp} (h : rdS (cn X T) Φ fl W (.par is cs) D σ H) : rdPs (cn X T) Φ fl W cs σ H fun vs H1 => vs.length = is.length ∧ ∀ p o, H1 p = none → D.nx (sets σ is vs) (upd H1 p o) := by
  obtain ⟨A, F, G, st, rel, h⟩ := h
  rw [ex] at h
  refine ⟨A, F, G, st, rel, endG.toS h fun rs st1 vs G1 H1 _ s1 rel1 p1 h1 => ?_⟩
  dsimp only at h1
  split at h1
  · rename_i st2 hb
    obtain ⟨l, G2, s2, rel2⟩ := binds_ok rel1 p1.1 p1.2 hb
    exact ⟨l, fun p o hp => h1 _ G2 (upd H1 p o) s2 (rel2.allocF hp)⟩
  · exact h1.elim
theorem gNs_sets : ∀ {is : List Nat} {vs : List V} {σ : L2.St} {H : Hp} {Q : L2.St → Hp → Prop}, vs.length = is.length → Q (sets σ (is.map fun i => (i, true)) vs) H → gNs is vs σ H Q
  | [], [], _, _, _, _, h => ⟨rfl, h⟩
  | i :: is, v :: vs, σ, H, Q, l, h => ⟨v, vs, rfl, gNs_sets (by simpa using l) h⟩
  | [], _ :: _, _, _, _, l, _ => by simp at l
  | _ :: _, [], _, _, _, l, _ => by simp at l
theorem ps_parE (hc : X.calm = true) (hN : X.N.Nodup) (hi : X.N[i]? = some x) (hj : X.N[j]? = some y) (hij : i ≠ j)
    (hx : X.env.scope.names.lookup x = some .local) (hy : X.env.scope.names.lookup y = some .local) (ha : PA X [a, b] (rdPs (cn X T) Φ fl W cs))
    (hw : swappedStores [.Tuple [.Name x px, .Name y py] kt pt] (.Tuple [a, b] k2 pt2) X.env = pure (some [x, y])) :
    PS X (.Assign [.Tuple [.Name x px, .Name y py] kt pt] (.Tuple [a, b] k2 pt2) pos) (rdS (cn X T) Φ fl W (.par [(i, mi), (j, mj)] cs)) :=
  PS.imp (ps_par hc hN hi hj hij hx hy ha hw rfl) fun D σ H h => rdPs.imp (snd_par h) fun vs H1 ⟨l, q⟩ => by
    match vs, l with
    | [v, w], _ => exact ⟨v, w, rfl, q⟩
theorem ps_par3E (hc : X.calm = true) (hN : X.N.Nodup) (hi : X.N[i]? = some x) (hj : X.N[j]? = some y) (hl : X.N[l]? = some z) (hij : i ≠ j) (hil : i ≠ l) (hjl : j ≠ l)
    (hx : X.env.scope.names.lookup x = some .local) (hy : X.env.scope.names.lookup y = some .local) (hz : X.env.scope.names.lookup z = some .local) (ha : PA X [a, b, c] (rdPs (cn X T) Φ fl W cs))
    (hw : swappedStores [.Tuple [.Name x px, .Name y py, .Name z pz] kt pt] (.Tuple [a, b, c] k2 pt2) X.env = pure (some [x, y, z])) :
    PS X (.Assign [.Tuple [.Name x px, .Name y py, .Name z pz] kt pt] (.Tuple [a, b, c] k2 pt2) pos) (rdS (cn X T) Φ fl W (.par [(i, mi), (j, mj), (l, ml)] cs)) :=
  PS.imp (ps_par3 hc hN hi hj hl hij hil hjl hx hy hz ha hw rfl) fun D σ H h => rdPs.imp (snd_par h) fun vs H1 ⟨l, q⟩ => by
    match vs, l with
    | [u, v, w], _ => exact ⟨u, v, w, rfl, q⟩
/-- names = values, by way of a tuple -/
theorem ps_parU {ts vs : List Expr} {is : List Nat} {p : Pos} (hc : X.calm = true) (hN : X.N.Nodup) (ha : PA X vs (rdPs (cn X T) Φ fl W cs)) (hn : NamesAt X.N X.env.scope X.fn ts is) (hz : is.length ≤ 100) (hs : swapsWithSole [.Tuple ts kt p] (.Tuple vs k2 pt2) pos.line X.env = pure false) (hw : swappedStores [.Tuple ts kt p] (.Tuple vs k2 pt2) X.env = pure none) :
    PS X (.Assign [.Tuple ts kt p] (.Tuple vs k2 pt2) pos) (rdS (cn X T) Φ fl W (.par (is.map fun i => (i, true)) cs)) :=
  PS.imp (ps_asg (pe_tupF ha) (pg_many hc hN hn) hs hw rfl) fun D σ H h => rdPs.imp (snd_parU h) fun vs H1 ⟨l, q⟩ => by
    rw [List.length_map] at l
    refine ⟨by rw [l]; exact Nat.le_trans hz (by decide), fun p o ho hp => ?_⟩
    exact ⟨p, vs, rfl, TAt.sq ⟨o, ho, upd_same⟩, l, gNs_sets l (q p _ hp)⟩
end
section
variable {X : Cx} {T : Tab} {Φ : Fns} {fl : Nat → List Bool} {W : WX} {tg iter elt tg1 iter1 : Expr} {ifs ifs1 : List Expr} {scope : Scope} {own : List (Str × Nat)} {t t1 : Tg} {it it1 : It} {cc ce : E} {i : Nat} {y : Str} {py pos spos : Pos} {m : Bool}
theorem ps_setLcE (hc : X.calm = true) (hN : X.N.Nodup) (hy : X.N[i]? = some y) (hyl : X.env.scope.names.lookup y = some .local)
    (hsw : swapsWith (.ListComp elt [⟨tg, iter, ifs, 0⟩] scope pos) (some (.Name y py)) spos.line X.env = pure true) (hi : PI X tg iter (rdI (cn X T) Φ fl W t.isMany it)) (ok : BlkOk X.N X.env.scope scope own) (htv : ∀ i ∈ t.slots, i ∈ own.map (·.2))
    (hg : ∀ (s : Shared) (H : Hp) (C : Addr) (cl : List (Str × Addr)) (fp : List Addr), PG (X.blk s H scope (compEnvC scope cl C X.env) fp) tg (rdG X.K t))
    (ht : ∀ (s : Shared) (H : Hp) (C : Addr) (cl : List (Str × Addr)) (fp : List Addr), PTs (X.blk s H scope (compEnvC scope cl C X.env) fp) ifs (rdT (cn X T) Φ fl WF cc))
    (he : ∀ (s : Shared) (H : Hp) (C : Addr) (cl : List (Str × Addr)) (fp : List Addr), PE (X.blk s H scope (compEnvC scope cl C X.env) fp) elt (rdE (cn X T) Φ fl WF ce)) (hs : ∀ x, foldedSetIterable iter X.env x = pure x) :
    PS X (.Assign [.Name y py] (.ListComp elt [⟨tg, iter, ifs, 0⟩] scope pos) spos) (rdS (cn X T) Φ fl W (.set i m (.comp (own.map (·.2)) t it cc ce))) :=
  PS.imp (ps_setLc hc hN hy hyl hsw hi ok hg ht he hs) (snd_set (snd_comp htv))
theorem ps_setLc2E {vs1 : List Nat} (hc : X.calm = true) (hN : X.N.Nodup) (hy : X.N[i]? = some y) (hyl : X.env.scope.names.lookup y = some .local)
    (hsw : swapsWith (.ListComp elt [⟨tg, iter, [], 0⟩, ⟨tg1, iter1, ifs1, 0⟩] scope pos) (some (.Name y py)) spos.line X.env = pure true) (hi : PI X tg iter (rdI (cn X T) Φ fl W t.isMany it)) (ok : BlkOk X.N X.env.scope scope own) (hv1 : ∀ i ∈ vs1, i ∈ own.map (·.2)) (htv : ∀ i ∈ t.slots, i ∈ own.map (·.2)) (htv1 : ∀ i ∈ t1.slots, i ∈ vs1)
    (hg : ∀ (s : Shared) (H : Hp) (C : Addr) (cl : List (Str × Addr)) (fp : List Addr), PG (X.blk s H scope (compEnvC scope cl C X.env) fp) tg (rdG X.K t))
    (hi1 : ∀ (s : Shared) (H : Hp) (C : Addr) (cl : List (Str × Addr)) (fp : List Addr), PI (X.blk s H scope (compEnvC scope cl C X.env) fp) tg1 iter1 (rdI (cn X T) Φ fl WF t1.isMany it1))
    (hg1 : ∀ (s : Shared) (H : Hp) (C : Addr) (cl : List (Str × Addr)) (fp : List Addr), PG (X.blk s H scope (compEnvC scope cl C X.env) fp) tg1 (rdG X.K t1))
    (ht1 : ∀ (s : Shared) (H : Hp) (C : Addr) (cl : List (Str × Addr)) (fp : List Addr), PTs (X.blk s H scope (compEnvC scope cl C X.env) fp) ifs1 (rdT (cn X T) Φ fl WF cc))
    (he : ∀ (s : Shared) (H : Hp) (C : Addr) (cl : List (Str × Addr)) (fp : List Addr), PE (X.blk s H scope (compEnvC scope cl C X.env) fp) elt (rdE (cn X T) Φ fl WF ce)) (hs : ∀ x, foldedSetIterable iter X.env x = pure x) (hs1 : ∀ env x, foldedSetIterable iter1 env x = pure x) :
    PS X (.Assign [.Name y py] (.ListComp elt [⟨tg, iter, [], 0⟩, ⟨tg1, iter1, ifs1, 0⟩] scope pos) spos) (rdS (cn X T) Φ fl W (.set i m (.comp2 (own.map (·.2)) vs1 t it t1 it1 cc ce))) :=
  PS.imp (ps_setLc2 hc hN hy hyl hsw hi ok hv1 hg (fun _ _ _ _ _ => pts_nil) hi1 hg1 ht1 he hs hs1) (snd_set (snd_comp2 hv1 htv htv1))
end
end PV
set_option Elab.async false
set_option linter.all false
set_option maxRecDepth 100000
set_option maxHeartbeats 4000000
namespace PV
open PySem PySem.Spec PyProof.Rows L2
/-- a method of one kind of data serves an operation -/
structure MtOk (X : Cx) (T : Tab) (o : Op) (kd : Nat) (name : Str) : Prop where
  ok : ∃ (ty id : String) (r : V → List V → Hp → VK → Prop), PlainAttrs ty ∧ Slot ty name id ∧ typeOf (.builtin id) = pure (.type "method_descriptor") ∧ MtR X id r ∧
    (∀ (G H : Hp) (v : V) (d : D), Sub G H → ORep (cn X T) G H v d → kind d = kd → tyF X.K ty v H) ∧
    ∀ σ x xs H Q, (∃ A F G st d ds z, Rel (cn X T) A F G st σ H ∧ ORep (cn X T) G H x d ∧ kind d = kd ∧ OReps (cn X T) G H xs ds ∧ o.run (d :: ds) = some z ∧ OkE (cn X T) A F G σ Q (outR z) st) → r x xs H Q
def superish : Expr → Bool
  | .Call (.Name _ _) [] [] _ => true
  | _ => false
theorem base_of {a : Expr} {name : Str} {env : Env} (h : superish a = false) : attributeBase a name env (eval a env) = eval a env := by
  unfold attributeBase
  split
  · rename_i id p pos
    cases h
  · rfl
section
variable {X : Cx} {T : Tab} {Φ : Fns} {fl : Nat → List Bool} {W : WX} {a e : Expr} {es : List Expr} {ca c : E} {cs : Es} {apos cpos : Pos} {name : Str} {o : Op} {kd : Nat}
/-- the reading where the receiver is of the kind -/
def rdM (C : Cn) (Φ : Fns) (fl : Nat → List Bool) (W : WX) (kd : Nat) (o : Op) (ca : E) (cs : Es) : TE := fun σ H Q => ∃ A F G st, Rel C A F G st σ H ∧ (∀ r st1 d, ev Φ fl ca st = .ok (r, st1) → r.still.look st1 = some d → kind d = kd) ∧ endG C A F G σ W (PE1 C F σ) Q (ev Φ fl (.meth o ca cs) st)
theorem pe_mth (hm : MtOk X T o kd name) (ha : PE X a (rdE (cn X T) Φ fl W ca)) (hp : PA X [e] (rdOs (cn X T) Φ fl W cs)) (hb : superish a = false) (hs : isStar e = false) (hline : (apos.endLine == cpos.line) = true) :
    PE X (.Call (.Attribute a name apos) [e] [] cpos) (rdM (cn X T) Φ fl W kd o ca cs) := by
  obtain ⟨ty, id, r, h1, h2, h3, h4, h5, h6⟩ := hm.ok
  refine PE.imp (pe_bmF h1 h2 h3 h4 ha hp (base_of hb) (few_one hs) hline (star_one hs)) fun σ H Q h => ?_
  obtain ⟨A, F, G, st, rel, hk, h⟩ := h
  rw [ev] at h
  refine ⟨A, F, G, st, rel, endG.bind h fun r0 st1 v G1 H1 e1 s1 rel1 p1 h7 => ?_⟩
  dsimp only at h7
  split at h7
  · exact h7.elim
  · rename_i d hd
    obtain ⟨G2, s2, rel2, p2⟩ := RR.still rel1 p1
    have h7 := endG.mono s2 h7
    have o2 := RR.look rel2 p2 hd
    split at h7
    case isFalse => exact h7.elim
    refine ⟨h5 G2 H1 v d rel2.subG o2 (hk r0 st1 d e1 hd), A, F, G2, st1, rel2, endG.bind h7 fun rs st3 vs G3 H3 _ s3 rel3 p3 h8 => ?_⟩
    dsimp only at h8
    split at h8
    · rename_i d2 ds hl
      split at h8
      · rename_i hkd
        split at h8
        · exact h8.elim
        · rename_i z hz
          have q := RRs.looks rel3 (rs := r0.still :: rs) (vs := v :: vs) ⟨RR.stay s3 p2, p3⟩ hl
          refine h6 σ v vs H3 Q ⟨A, F, G3, st3, d2, ds, z, rel3, q.1, ?_, q.2, hz, h8⟩
          rw [← hk r0 st1 d e1 hd]
          exact (eq_of_beq hkd).symm
      · exact h8.elim
    · exact h8.elim
/-- of several kinds -/
theorem pe_mths {ks : List Nat} {k0 : Nat} (h0 : k0 ∈ ks) (h : ∀ k ∈ ks, PE X a (rdM (cn X T) Φ fl W k o ca cs)) (hr : ∀ k, o.recv k = true → k ∈ ks) : PE X a (rdE (cn X T) Φ fl W (.meth o ca cs)) :=
  ⟨fun pins s σ H Q I h1 => by
    obtain ⟨A, F, G, st, rel, h1⟩ := h1
    by_cases q : ∃ r st1 d, ev Φ fl ca st = .ok (r, st1) ∧ r.still.look st1 = some d
    · obtain ⟨r, st1, d, e1, e2⟩ := q
      have hk : o.recv (kind d) = true := by
        rw [ev, e1] at h1
        simp only [Res.bind, e2] at h1
        split at h1
        · assumption
        · exact h1.elim
      exact (h _ (hr _ hk)).run pins s σ H Q I ⟨A, F, G, st, rel, fun r' st1' d' e1' e2' => by
        rw [e1] at e1'; cases e1'
        rw [e2] at e2'; cases e2'
        rfl, h1⟩
    · exact (h _ h0).run pins s σ H Q I ⟨A, F, G, st, rel, fun r' st1' d' e1' e2' => absurd ⟨r', st1', d', e1', e2'⟩ q, h1⟩⟩
end
theorem strs_inv {C : Cn} {G : Hp} : ∀ {vs : List V} {ds : List D} {bs : List (List Nat)}, Reps C G vs ds → strsOf ds = some bs → vs = bs.map (fun s => V.str ⟨s.toArray⟩) ∧ ∀ s ∈ bs, okS s
  | _, _, _, .nil, e => by cases e; exact ⟨rfl, fun s h => by simp at h⟩
  | _, _, bs, .cons h r, e => by
    rename_i d ds
    cases d with
    | str s =>
      simp only [strsOf] at e
      obtain ⟨bs', e1, e2⟩ := Option.map_eq_some_iff.mp e
      subst e2
      obtain ⟨k1, k2⟩ := strs_inv r e1
      obtain ⟨rfl, k3⟩ := h.str_inv
      exact ⟨by rw [k1]; rfl, fun z hz => by
        rcases List.mem_cons.mp hz with q | q
        · subst q; exact k3
        · exact k2 z q⟩
    | _ => simp [strsOf] at e
theorem joinS_eq (s : List Nat) : ∀ zs : List (List Nat), joinS s zs = TL.joinL s zs
  | [] => rfl
  | [_] => rfl
  | x :: y :: r => by unfold joinS TL.joinL; rw [joinS_eq s (y :: r)]
theorem joinS_ok {s : List Nat} (hs : okS s) : ∀ {zs : List (List Nat)}, (∀ z ∈ zs, okS z) → okS (joinS s zs)
  | [], _ => fun c h => by simp [joinS] at h
  | [x], h => h x (by simp)
  | x :: y :: r, h => fun c hc => by
    unfold joinS at hc
    rcases List.mem_append.mp hc with q | q
    · exact h x (by simp) c q
    · rcases List.mem_append.mp q with q | q
      · exact hs c q
      · exact joinS_ok hs (fun z hz => h z (by simp at hz ⊢; right; exact hz)) c q
theorem str_ext {x y : Str} (h : x.cps.toList = y.cps.toList) : x = y := by
  cases x; cases y
  have := Array.toList_inj.mp h
  simp_all
theorem join_eq (s : List Nat) (zs : List (List Nat)) : Txt.join ⟨s.toArray⟩ (zs.map fun z => (⟨z.toArray⟩ : Str)) = ⟨(joinS s zs).toArray⟩ := by
  refine str_ext ?_
  have := TL.tl_join ⟨s.toArray⟩ (zs.map fun z => (⟨z.toArray⟩ : Str))
  have e : (zs.map fun z => (⟨z.toArray⟩ : Str)).map TL.tl = zs := by
    rw [List.map_map]
    have : (TL.tl ∘ fun z : List Nat => (⟨z.toArray⟩ : Str)) = id := funext fun z => rfl
    rw [this, List.map_id]
  rw [e] at this
  rw [joinS_eq, TL.join_eq]
  exact this
theorem join_len (zs : List (List Nat)) : ((zs.map fun z => (⟨z.toArray⟩ : Str)).map (·.length)).sum = (zs.map (·.length)).sum := by
  rw [List.map_map]
  congr 1
theorem mto_join {X : Cx} {T : Tab} : MtOk X T .join 3 "join" := by
  refine ⟨"str", "str.join", _, PySem.F.plainAttrs_str, PySem.F.slot_str_join, PySem.F.type_str_join, mt_join, fun G H v d s h k => ?_, fun σ x xs H Q h => ?_⟩
  · cases d <;> cases k
    obtain ⟨rfl, _⟩ := h.str_inv
    exact .inl rfl
  · obtain ⟨A, F, G, st, d, ds, z, rel, h1, hk, h2, hz, ok⟩ := h
    cases d <;> cases hk
    rename_i s
    obtain ⟨rfl, ks⟩ := h1.str_inv
    match ds, xs, h2, hz with
    | [e], [y], h2, hz =>
      have h2 := h2.1
      have hz : Op.join2 (.str s) e = some z := hz
      have fin : ∀ {p : Addr} {vs : List V} {ds : List D}, Reps (cn X T) G vs ds → (SqL X.K H p vs ∨ SqT X.K H p vs) → Op.joinL s ds = some z → ∃ a p', ∃ ys : List Str, V.str ⟨s.toArray⟩ = .str a ∧ [V.ref p] = [.ref p'] ∧ (SqL X.K H p' (ys.map V.str) ∨ SqT X.K H p' (ys.map V.str)) ∧ (ys.map (·.length)).sum + ys.length * a.length ≤ 16777216 ∧ Q (.str (Txt.join a ys)) H := fun {p vs ds} r hp hz => by
        unfold Op.joinL at hz
        split at hz
        · rename_i zs hzs
          split at hz
          · rename_i hb
            cases hz
            obtain ⟨rfl, k2⟩ := strs_inv r hzs
            refine ⟨_, p, zs.map fun z => ⟨z.toArray⟩, rfl, rfl, by rw [List.map_map]; exact hp, ?_, ?_⟩
            · rw [join_len, List.length_map]
              exact Nat.le_of_ble_eq_true hb
            · rw [join_eq]
              exact ok.pure rel (.str _ (joinS_ok ks k2))
          · cases hz
        · cases hz
      cases e with
      | lst ds =>
        obtain ⟨p, vs, rfl, g1, r1⟩ := h2.lst_inv rel.subG
        exact fin r1 (.inl (.inl (.inl g1))) hz
      | tup ds =>
        obtain ⟨p, vs, rfl, g1, _, r1⟩ := h2.tup_inv rel.subG
        exact fin r1 (.inr g1.sq) hz
      | _ => cases hz
    | [], _, _, hz => cases hz
    | [_, _], _, _, hz => cases hz
    | _ :: _ :: _ :: _, _, _, hz => cases hz
    | [_], [], h2, _ => exact h2.elim
    | [_], _ :: _ :: _, h2, _ => exact h2.2.elim
section
variable {X : Cx} {T : Tab}
def rCountD (K : PySem.W.Frag) : V → List V → Hp → VK → Prop := fun x xs H Q => ∃ (a : Addr) (y : V) (d : PyData) (ds : List PyData), x = V.ref a ∧ xs = [y] ∧ Dp K H (V.ref a) (.list ds) ∧ Dp K H y d ∧ SeqAt.shaped (.list ds) = true ∧ SeqAt.shaped d = true ∧ Q (.int (ds.countP (fun z => PyData.eqv z d) : Nat)) H
theorem mt_countD (hu : X.A.units + 65 < cLine) : MtR X "list.count" (rCountD X.K) := by
  intro pins s σ H x xs v us Q I rx rxs h
  obtain ⟨a, y, d, ds, rfl, rfl, hl, hy, sl, sd, q⟩ := h
  cases rx
  cases rxs with
  | cons ry rt =>
    rename_i uy ut
    cases rt
    obtain ⟨bs, r1⟩ := Dp.reads I d y uy hy ry
    have hxs : PyData.canLayAll0 ds = true := SeqAt.canLay_of_shaped sl
    have hroom : X.A.units + 1 + min (PyData.depthAll ds) d.depth < cLine := room_in_shaped sd hu
    cases hl with
    | lst hs ha =>
      obtain ⟨its, rv, ⟨⟨cls, dd, data, sls⟩, n, ho, hc, hdn, hdt⟩, hlen⟩ := I.list hs
      simp only at hc hdt
      subst hc hdt
      obtain ⟨as, h4⟩ := Dp.readsAll I ds _ its ha rv
      have hmap : its.map (SeqAt.readOf s.heap) = ds := SeqAt.readsAll_map ds its as hxs h4
      refine call_meets PySem.F.slot_list_count ⟨_, ho, rfl⟩ PySem.F.entry_list_count (PySem.F.args_list_count_2 _ _)
        (SeqAt.list_countAt a its.toArray n dd sls uy (fun u => PyData.eqv (SeqAt.readOf s.heap u) d)) ⟨ho, SeqAt.items_eqAt (vs := its.toArray) (show ReadsAll s.heap its.toArray.toList ds as from h4) r1 hxs (SeqAt.canLay_of_shaped sd) hroom, ?_⟩
      refine ⟨.int _, H, I.tok _, ⟨s.toks, ?_⟩, q⟩
      have e : its.toArray.toList.countP (fun u => PyData.eqv (SeqAt.readOf s.heap u) d) = ds.countP (fun z => PyData.eqv z d) := by
        rw [← hmap, List.countP_map, List.toList_toArray]
        rfl
      rw [e]
theorem ty_list {C : Cn} {K : PySem.W.Frag} (hK : C.K = K) {G H : Hp} {v : V} {d : D} (s : Sub G H) (h : ORep C G H v d) (k : kind d = 5) : tyF K "list" v H := by
  cases d <;> cases k
  obtain ⟨p, vs, rfl, g1, r1⟩ := h.lst_inv s
  exact .inl (.inl ⟨rfl, vs, .inl (.inl g1)⟩)
theorem countP_py (d : D) (hd : sh 50 d = true) : ∀ (ds : List D), shs 50 ds = true → (toPys ds).countP (fun z => PyData.eqv z (toPy d)) = ds.countP fun y => eqD y d
  | [], _ => by simp [toPys]
  | x :: xs, h => by
    simp only [shs, Bool.and_eq_true] at h
    simp only [toPys, List.countP_cons]
    rw [eqv_py x d 50 50 h.1 hd, countP_py d hd xs h.2]
theorem mto_count (hu : X.A.units + 65 < cLine) : MtOk X T .count 5 "count" := by
  refine ⟨"list", "list.count", _, PySem.F.plainAttrs_list, PySem.F.slot_list_count, PySem.F.type_list_count, mt_countD hu, fun G H v d s h k => ty_list rfl s h k, fun σ x xs H Q h => ?_⟩
  obtain ⟨A, F, G, st, d, ds, z, rel, h1, hk, h2, hz, ok⟩ := h
  cases d <;> cases hk
  rename_i xs0
  match ds, xs, h2, hz with
  | [e], [y], h2, hz =>
    have h2 := h2.1
    have hz : Op.count2 (.lst xs0) e = some z := hz
    simp only [Op.count2] at hz
    split at hz
    · rename_i hs
      rw [Bool.and_eq_true] at hs
      cases hz
      obtain ⟨p2, q2⟩ := h1.dpL rel.subG hs.2
      obtain ⟨p1, q1⟩ := h2.dp rel.subG hs.1
      obtain ⟨p, vs, rfl, g1, r1⟩ := h1.lst_inv rel.subG
      refine ⟨p, y, _, _, rfl, rfl, p2, p1, q2, q1, ?_⟩
      rw [countP_py e hs.1 xs0 hs.2]
      exact ok.pure rel (.int _)
    · cases hz
  | [], _, _, hz => cases hz
  | [_, _], _, _, hz => cases hz
  | _ :: _ :: _ :: _, _, _, hz => cases hz
  | [_], [], h2, _ => exact h2.elim
  | [_], _ :: _ :: _, h2, _ => exact h2.2.elim
theorem findD_ok (x : D) : ∀ {xs : List D} {k n : Nat}, findD x k xs = some n → k ≤ n ∧ (∃ y, xs[n - k]? = some y ∧ eqD y x = true) ∧ ∀ m y, m < n - k → xs[m]? = some y → eqD y x = false
  | [], _, _, h => by simp [findD] at h
  | y :: r, k, n, h => by
    simp only [findD] at h
    split at h
    · rename_i e
      cases h
      exact ⟨Nat.le_refl _, ⟨y, by simp, e⟩, fun m y hm => by omega⟩
    · rename_i e
      obtain ⟨h1, ⟨y', h2, h3⟩, h4⟩ := findD_ok x h
      refine ⟨by omega, ⟨y', ?_, h3⟩, fun m z hm hz => ?_⟩
      · rw [show n - k = (n - (k + 1)) + 1 by omega]; simpa using h2
      · cases m with
        | zero => simp at hz; subst hz; simpa using e
        | succ m => exact h4 m z (by omega) (by simpa using hz)
theorem mto_index (hu : X.A.units + 65 < cLine) : MtOk X T .index 5 "index" := by
  refine ⟨"list", "list.index", _, PySem.F.plainAttrs_list, PySem.F.slot_list_index, PySem.F.type_list_index, mt_indexD hu, fun G H v d s h k => ty_list rfl s h k, fun σ x xs H Q h => ?_⟩
  obtain ⟨A, F, G, st, d, ds, z, rel, h1, hk, h2, hz, ok⟩ := h
  cases d <;> cases hk
  rename_i xs0
  match ds, xs, h2, hz with
  | [e], [y], h2, hz =>
    have h2 := h2.1
    have hz : Op.index2 (.lst xs0) e = some z := hz
    simp only [Op.index2] at hz
    split at hz
    · rename_i hs
      rw [Bool.and_eq_true] at hs
      split at hz
      · rename_i n hn
        cases hz
        obtain ⟨_, ⟨y', k1, k2⟩, k3⟩ := findD_ok e hn
        rw [Nat.sub_zero] at k1 k3
        obtain ⟨p2, q2⟩ := h1.dpL rel.subG hs.2
        obtain ⟨p1, q1⟩ := h2.dp rel.subG hs.1
        obtain ⟨p, vs, rfl, g1, r1⟩ := h1.lst_inv rel.subG
        have sm := shs_mem hs.2
        refine ⟨p, y, _, _, n, toPy y', rfl, rfl, p2, p1, q2, q1, ?_, ?_, fun m z' hm hz' => ?_, ?_⟩
        · rw [toPys_map, List.getElem?_map, k1]; rfl
        · rw [eqv_py y' e 50 50 (sm y' (List.mem_of_getElem? k1)) hs.1]; exact k2
        · rw [toPys_map, List.getElem?_map] at hz'
          obtain ⟨y'', e1, e2⟩ := Option.map_eq_some_iff.mp hz'
          subst e2
          rw [eqv_py y'' e 50 50 (sm y'' (List.mem_of_getElem? e1)) hs.1]
          exact k3 m y'' hm e1
        · exact ok.pure rel (.int _)
      · cases hz
    · cases hz
  | [], _, _, hz => cases hz
  | [_, _], _, _, hz => cases hz
  | _ :: _ :: _ :: _, _, _, hz => cases hz
  | [_], [], h2, _ => exact h2.elim
  | [_], _ :: _ :: _, h2, _ => exact h2.2.elim
theorem ty_tup {C : Cn} {K : PySem.W.Frag} (hK : C.K = K) {G H : Hp} {v : V} {d : D} (s : Sub G H) (h : ORep C G H v d) (k : kind d = 4) : tyF K "tuple" v H := by
  cases d <;> cases k
  obtain ⟨p, vs, rfl, g1, _, r1⟩ := h.tup_inv s
  exact .inr ⟨rfl, p, vs, rfl, g1⟩
theorem mto_countT (hu : X.A.units + 65 < cLine) : MtOk X T .count 4 "count" := by
  refine ⟨"tuple", "tuple.count", _, PySem.F.plainAttrs_tuple, PySem.F.slot_tuple_count, PySem.F.type_tuple_count, mt_countT hu, fun G H v d s h k => ty_tup rfl s h k, fun σ x xs H Q h => ?_⟩
  obtain ⟨A, F, G, st, d, ds, z, rel, h1, hk, h2, hz, ok⟩ := h
  cases d <;> cases hk
  rename_i xs0
  match ds, xs, h2, hz with
  | [e], [y], h2, hz =>
    have h2 := h2.1
    have hz : Op.count2 (.tup xs0) e = some z := hz
    simp only [Op.count2] at hz
    split at hz
    · rename_i hs
      rw [Bool.and_eq_true] at hs
      cases hz
      obtain ⟨p2, q2⟩ := h1.dpT rel.subG hs.2
      obtain ⟨p1, q1⟩ := h2.dp rel.subG hs.1
      obtain ⟨p, vs, rfl, g1, _, r1⟩ := h1.tup_inv rel.subG
      refine ⟨p, y, _, _, rfl, rfl, p2, p1, q2, q1, ?_⟩
      rw [countP_py e hs.1 xs0 hs.2]
      exact ok.pure rel (.int _)
    · cases hz
  | [], _, _, hz => cases hz
  | [_, _], _, _, hz => cases hz
  | _ :: _ :: _ :: _, _, _, hz => cases hz
  | [_], [], h2, _ => exact h2.elim
  | [_], _ :: _ :: _, h2, _ => exact h2.2.elim
theorem mto_indexT (hu : X.A.units + 65 < cLine) : MtOk X T .index 4 "index" := by
  refine ⟨"tuple", "tuple.index", _, PySem.F.plainAttrs_tuple, PySem.F.slot_tuple_index, PySem.F.type_tuple_index, mt_indexT hu, fun G H v d s h k => ty_tup rfl s h k, fun σ x xs H Q h => ?_⟩
  obtain ⟨A, F, G, st, d, ds, z, rel, h1, hk, h2, hz, ok⟩ := h
  cases d <;> cases hk
  rename_i xs0
  match ds, xs, h2, hz with
  | [e], [y], h2, hz =>
    have h2 := h2.1
    have hz : Op.index2 (.tup xs0) e = some z := hz
    simp only [Op.index2] at hz
    split at hz
    · rename_i hs
      rw [Bool.and_eq_true] at hs
      split at hz
      · rename_i n hn
        cases hz
        obtain ⟨_, ⟨y', k1, k2⟩, k3⟩ := findD_ok e hn
        rw [Nat.sub_zero] at k1 k3
        obtain ⟨p2, q2⟩ := h1.dpT rel.subG hs.2
        obtain ⟨p1, q1⟩ := h2.dp rel.subG hs.1
        obtain ⟨p, vs, rfl, g1, _, r1⟩ := h1.tup_inv rel.subG
        have sm := shs_mem hs.2
        refine ⟨p, y, _, _, n, toPy y', rfl, rfl, p2, p1, q2, q1, ?_, ?_, fun m z' hm hz' => ?_, ?_⟩
        · rw [toPys_map, List.getElem?_map, k1]; rfl
        · rw [eqv_py y' e 50 50 (sm y' (List.mem_of_getElem? k1)) hs.1]; exact k2
        · rw [toPys_map, List.getElem?_map] at hz'
          obtain ⟨y'', e1, e2⟩ := Option.map_eq_some_iff.mp hz'
          subst e2
          rw [eqv_py y'' e 50 50 (sm y'' (List.mem_of_getElem? e1)) hs.1]
          exact k3 m y'' hm e1
        · exact ok.pure rel (.int _)
      · cases hz
    · cases hz
  | [], _, _, hz => cases hz
  | [_, _], _, _, hz => cases hz
  | _ :: _ :: _ :: _, _, _, hz => cases hz
  | [_], [], h2, _ => exact h2.elim
  | [_], _ :: _ :: _, h2, _ => exact h2.2.elim
end
end PV
set_option Elab.async false
set_option linter.all false
set_option maxRecDepth 100000
set_option maxHeartbeats 4000000
namespace L2
open PySem PySem.Spec PyProof.Rows
section
variable {X : Cx}
def tBO (P : Program) (w : World) (r : V → List V → Hp → VK → Prop) (to : TE) (t : TA) : TE := fun σ H Q => to σ H fun x H1 => (∃ p kvs, x = .ref p ∧ H1 p = some (dO P w p kvs)) ∧ t σ H1 fun xs H2 => r x xs H2 Q
theorem pe_bmO {o e f : Expr} {to : TE} {t : TA} {name : Str} {apos cpos : Pos} {id : String} {r : V → List V → Hp → VK → Prop} (slot : Slot "dict" name id) (hty : typeOf (.builtin id) = pure (.type "method_descriptor")) (hm : MtR X id r) (ho : PE X o to) (ha : PA X [e, f] t)
    (hbase : attributeBase o name X.env (eval o X.env) = eval o X.env)
    (hfew : ((backTo cpos (starEach [e, f] X.env)).all (fun x => !x.1) && (backToKw cpos (keywordEach [] X.env)).all (fun x => x.1.isSome) && decide ([e, f].length + ([] : List Keyword).length + (if ([] : List Keyword).isEmpty then 0 else 1) < 30)) = true)
    (hline : (apos.endLine == cpos.line) = true) (hs : starEach [e, f] X.env = (false, eval e X.env) :: (false, eval f X.env) :: starEach [] X.env) : PE X (.Call (.Attribute o name apos) [e, f] [] cpos) (tBO X.prog X.w r to t) :=
  ⟨fun pins s σ H Q I h => wpAny_Call_method_late hbase hfew hline rfl (thn (ho.run pins s σ H _ I h) fun v s1 ⟨x, H1, I1, r1, ty, q1⟩ => by
    obtain ⟨p, kvs, rfl, hp⟩ := ty
    cases r1
    obtain ⟨h1, h2⟩ := o_typeIs I1 hp
    refine ⟨"dict", id, PySem.F.plainAttrs_dict, slot, hty, h1, fun a ea => by cases ea; exact h2, ?_⟩
    have hA := ha.run cpos pins s1 σ H1 _ I1 q1
    rw [hs] at hA ⊢
    exact Calls.callWith_builtin rfl (Calls.evalArgs_plain (thn hA fun us s2 ⟨vs, H2, I2, r2, q2⟩ => hm pins s2 σ H2 (.ref p) vs _ us Q I2 rfl r2 q2)))⟩
end
end L2
namespace PV
open PySem PySem.Spec PyProof.Rows L2
section
variable {X : Cx} {T : Tab} {Φ : Fns} {fl : Nat → List Bool} {W : WX} {a e f : Expr} {es : List Expr} {ca c : E} {cs : Es} {apos cpos pos : Pos}
theorem few_two {e f : Expr} {env : Env} {pos : Pos} (h : isStar e = false) (h2 : isStar f = false) : ((backTo pos (starEach [e, f] env)).all (fun x => !x.1) && (backToKw pos (keywordEach [] env)).all (fun x => x.1.isSome)
      && decide ([e, f].length + ([] : List Keyword).length + (if ([] : List Keyword).isEmpty then 0 else 1) < 30)) = true := by
  rw [star_one h, star_one h2]; rfl
theorem recv_get {k : Nat} (h : Op.dget2.recv k = true) : k = 6 := by
  unfold Op.recv at h
  split at h <;> simp_all
/-- no name: its result is no own thing -/
def noVar : E → Bool
  | .c _ => true
  | .lst _ => true
  | _ => false
theorem noVar_ok {c : E} {st st' : St} {r : R} (h : noVar c = true) (e : ev Φ fl c st = .ok (r, st')) : ∃ d, r.still = .val d := by
  unfold noVar at h
  split at h
  · rw [ev] at e; cases e; exact ⟨_, rfl⟩
  · rw [ev] at e
    rename_i es
    cases q : evVs Φ fl es st with
    | no => rw [q] at e; cases e
    | exc c => rw [q] at e; cases e
    | ok y =>
      rw [q] at e
      dsimp only [Res.bind] at e
      split at e
      · cases e; exact ⟨_, rfl⟩
      · cases e
  · cases h
theorem evOs_two {c1 c2 : E} {st st' : St} {rs : List R} (h : noVar c2 = true) (e : evOs Φ fl (.cons c1 (.cons c2 .nil)) st = .ok (rs, st')) : ∃ r d, rs = [r, .val d] := by
  rw [evOs] at e
  cases q : ev Φ fl c1 st with
  | no => rw [q] at e; cases e
  | exc c => rw [q] at e; cases e
  | ok y =>
    obtain ⟨r1, s1⟩ := y
    rw [q] at e
    dsimp only [Res.bind] at e
    rw [evOs] at e
    cases q2 : ev Φ fl c2 s1 with
    | no => rw [q2] at e; cases e
    | exc c => rw [q2] at e; cases e
    | ok y2 =>
      obtain ⟨r2, s2⟩ := y2
      rw [q2] at e
      dsimp only [Res.bind] at e
      rw [evOs] at e
      dsimp only [Res.bind] at e
      cases e
      obtain ⟨d, hd⟩ := noVar_ok h q2
      exact ⟨r1.still, d, by rw [hd]⟩
theorem pe_getE {c1 c2 : E} (hcs : cs = .cons c1 (.cons c2 .nil)) (hnv : noVar c2 = true) (hu : X.A.units + 65 < cLine) (ha : PE X a (rdE (cn X T) Φ fl W ca)) (hp : PA X [e, f] (rdOs (cn X T) Φ fl W cs)) (hb : superish a = false) (hs : isStar e = false) (hs2 : isStar f = false) (hline : (apos.endLine == cpos.line) = true) :
    PE X (.Call (.Attribute a "get" apos) [e, f] [] cpos) (rdE (cn X T) Φ fl W (.meth .dget2 ca cs)) := by
  refine PE.imp (pe_bmO PySem.F.slot_dict_get PySem.F.type_dict_get (mt_getO (by omega)) ha hp (base_of hb) (few_two hs hs2) hline (by rw [star_one hs, star_one hs2])) fun σ H Q h => ?_
  obtain ⟨A, F, G, st, rel, h⟩ := h
  rw [ev] at h
  refine ⟨A, F, G, st, rel, endG.bind h fun r0 st1 v G1 H1 e1 s1 rel1 p1 h7 => ?_⟩
  dsimp only at h7
  split at h7
  · exact h7.elim
  · rename_i d hd
    obtain ⟨G2, s2, rel2, p2⟩ := RR.still rel1 p1
    have h7 := endG.mono s2 h7
    have o2 := RR.look rel2 p2 hd
    split at h7
    case isFalse => exact h7.elim
    rename_i hk
    have hk := recv_get hk
    cases d <;> cases hk
    rename_i kvs0
    refine ⟨?_, A, F, G2, st1, rel2, endG.bind h7 fun rs st3 vs G3 H3 e3 s3 rel3 p3 h8 => ?_⟩
    · obtain ⟨p, kv, e, h, _⟩ := o2.dct rel2.subG
      exact ⟨p, kv, e, h⟩
    · dsimp only at h8
      split at h8
      · rename_i d2 ds hl
        split at h8
        · rename_i hkd
          split at h8
          · exact h8.elim
          · rename_i z hz
            have q := RRs.looks rel3 (rs := r0.still :: rs) (vs := v :: vs) ⟨RR.stay s3 p2, p3⟩ hl
            have hkd := eq_of_beq hkd
            cases d2 <;> cases hkd
            rename_i kvs
            subst hcs
            obtain ⟨r1, dv, rfl⟩ := evOs_two hnv e3
            match ds, vs, q, p3, hz with
            | [k, dd], [y, w], q, p3, hz =>
              obtain ⟨q1, q2, q3, _⟩ := q
              have hdd : dd = dv := by
                simp only [looks, R.look] at hl
                split at hl
                · rename_i e1
                  rename_i e2
                  cases hl
                  split at e1
                  · rename_i h9
                    cases e1
                    exact (List.cons.inj (Option.some.inj h9)).1.symm
                  · cases e1
                · cases hl
              subst hdd
              have p3 : Rep (cn X T) G3 w dd := p3.2.1
              have hz : (if tkey k then some (false, (dget k kvs).getD dd) else none) = some z := hz
              split at hz
              · rename_i htk
                cases hz
                obtain ⟨a, ea, hd⟩ := ORep.dg rel3.subG q1 q2 htk
                rcases hd with ⟨e1, g⟩ | ⟨u, du, e1, ru, g⟩
                · refine ⟨a, y, w, none, ea, rfl, g, ?_⟩
                  rw [e1] at h8
                  exact h8 w G3 H3 Sub.rfl rel3 p3
                · refine ⟨a, y, w, some u, ea, rfl, g, ?_⟩
                  rw [e1] at h8
                  exact h8 u G3 H3 Sub.rfl rel3 ru
              · cases hz
            | [], _, _, _, hz => cases hz
            | [_], _, _, _, hz => cases hz
            | _ :: _ :: _ :: _, _, _, _, hz => cases hz
            | [_, _], [], q, _, _ => exact q.2.elim
            | [_, _], [_], q, _, _ => exact q.2.2.elim
            | [_, _], _ :: _ :: _ :: _, q, _, _ => exact q.2.2.2.elim
        · exact h8.elim
      · exact h8.elim
/-- {} -/
theorem pe_dict0 : PE X (.Dict [] [] pos) (rdE (cn X T) Φ fl W (.dict .nil)) := PE.imp pe_dnewO fun σ H Q h => by
  obtain ⟨A, F, G, st, rel, h⟩ := h
  rw [ev, evVs] at h
  intro p hp
  exact h (.ref p) G _ Sub.rfl (rel.allocF hp) ⟨p, rfl, rel.rnone hp, rel.gnone hp, rel.notOwn hp, [], upd_same, .nil⟩
/-- dict(..) -/
theorem pairs_ok {C : Cn} {G H : Hp} (sg : Sub G H) : ∀ {vs : List V} {ds : List D} {acc kvs : List (D × D)} {ao : List Ent3}, Reps C G vs ds → pairs ds acc = some kvs → RepO C G ao acc → ∃ ps k3, vs = ps.map V.ref ∧ PrO C.K H ps k3 ∧ RepO C G (putsO ao k3) kvs
  | _, _, acc, kvs, ao, .nil, e, r => by cases e; exact ⟨[], [], rfl, .nil, r⟩
  | _, _, acc, kvs, ao, .cons (v := v) (d := d) h rs, e, r => by
    cases d with
    | tup xs =>
      match xs, h, e with
      | [ka, kb], h, e =>
        simp only [pairs] at e
        split at e
        · rename_i hk
          cases h with
          | @tup p _ _ q rr =>
            cases rr with
            | cons ra rr => cases rr with
            | cons rb rr => cases rr with
            | nil =>
              obtain ⟨k, b, rfl, rfl, tb, ub⟩ := ra.key hk
              obtain ⟨ps, k3, e1, e2, e3⟩ := pairs_ok sg rs e (RepO.put tb ub rb r)
              refine ⟨p :: ps, (k, b, _) :: k3, by rw [e1]; rfl, .cons ⟨(TAt.sub sg q).sq, tat_rd (TAt.sub sg tb)⟩ e2, e3⟩
        · cases e
      | [], _, e => simp [pairs] at e
      | [_], _, e => simp [pairs] at e
      | _ :: _ :: _ :: _, _, e => simp [pairs] at e
    | _ => simp [pairs] at e
theorem cs_dict : CallS (cn X T) .dictOf (rDictO X.prog X.w X.K) := fun σ vs H Q h => by
  obtain ⟨A, F, G, st, ds, z, rel, h1, hz, ok⟩ := h
  match ds, vs, h1, hz with
  | [d], [v], h1, hz =>
    have h1 := h1.1
    have fin : ∀ {kvs : List (D × D)} {k3 : List Ent3}, z = (true, .dct kvs) → RepO (cn X T) G (putsO [] k3) kvs → ∀ p, H p = none → Q (.ref p) (upd H p (dO X.prog X.w p (putsO [] k3))) := fun {kvs k3} ez r p hp => by
      subst ez
      exact ok (.ref p) G _ Sub.rfl (rel.allocF hp) ⟨p, rfl, rel.rnone hp, rel.gnone hp, rel.notOwn hp, _, upd_same, r⟩
    cases d with
    | lst xs =>
      have hz : (match pairs xs [] with | some kvs => some (true, D.dct kvs) | none => none) = some z := hz
      split at hz
      · rename_i kvs hp
        cases hz
        obtain ⟨a, us, rfl, g, r⟩ := h1.lst_inv rel.subG
        obtain ⟨ps, k3, e1, e2, e3⟩ := pairs_ok rel.subG r hp .nil
        subst e1
        exact ⟨a, ps, k3, rfl, .inl (.inl (.inl g)), e2, fin rfl e3⟩
      · cases hz
    | tup xs =>
      have hz : (match pairs xs [] with | some kvs => some (true, D.dct kvs) | none => none) = some z := hz
      split at hz
      · rename_i kvs hp
        cases hz
        obtain ⟨a, us, rfl, g, _, r⟩ := h1.tup_inv rel.subG
        obtain ⟨ps, k3, e1, e2, e3⟩ := pairs_ok rel.subG r hp .nil
        subst e1
        exact ⟨a, ps, k3, rfl, .inr g, e2, fin rfl e3⟩
      · cases hz
    | _ => cases hz
  | [], _, _, hz => cases hz
  | [_, _], _, _, hz => cases hz
  | [_, _, _], _, _, hz => cases hz
  | _ :: _ :: _ :: _ :: _, _, _, hz => cases hz
  | [_], [], h1, _ => exact h1.elim
  | [_], _ :: _ :: _, h1, _ => exact h1.2.elim
end
end PV
set_option Elab.async false
set_option linter.all false
set_option maxRecDepth 100000
set_option maxHeartbeats 4000000
namespace L2
open PySem PySem.Spec PyProof.Rows
theorem arm_call_sub (a b : Expr) (q : Pos) (args : List Expr) (keywords : List Keyword) (pos : Pos) (env : Env) : eval (.Call (.Subscript a b q) args keywords pos) env = (do
    callWith pos (← eval (.Subscript a b q) env) [] (backTo pos (starEach args env)) (backToKw pos (keywordEach keywords env))) := rfl
section
variable {X : Cx} {CX : CXT} {a b e : Expr} {es : List Expr} {tf : TE} {t : TA} {q pos : Pos} {E : St → XK}
/-- what the address of a def promises -/
structure DefAt (X : Cx) (CX : CXT) (f : Addr) (sp : Sp) : Prop where
  ok : ∃ k fd ps, Room k X.A ∧ FnOk X.prog X.w X.K X.mg X.base CX k f fd ps sp ∧ PySem.W.keepIn X.K (.ref f) = true ∧ Binds X.K fd ps []
theorem pe_callD (hx : ∀ σ, PassesAt CX X σ (E σ)) (hf : PE X (.Subscript a b q) tf) (ha : PA X (e :: es) t)
    (he : starEach (e :: es) X.env = (false, eval e X.env) :: starEach es X.env) (hpl : (backTo pos (starEach es X.env)).any (·.1) = false) :
    PE X (.Call (.Subscript a b q) (e :: es) [] pos) (fun σ H Q => tf σ H fun v H1 => ∃ f sp, v = .ref f ∧ DefAt X CX f sp ∧ t σ H1 fun vs H2 => sp vs H2 Q (E σ)) := by
  refine ⟨fun pins s σ H Q I h => ?_⟩
  rw [arm_call_sub]
  refine wpAny_bind (thn (hf.run pins s σ H _ I h) fun u s1 ⟨v, H1, I1, r1, f, sp, ev, ⟨k, fd, ps, hr, F, hk, hb⟩, q1⟩ => ?_)
  subst ev
  cases r1
  refine PySem.W.callWith_K (h₀ := X.base) I.ok.mod.kin hk (thn (ha.run pos pins s1 σ H1 _ I1 q1) fun us s2 ⟨vs, H2, I2, r, q⟩ => ⟨I2.kIn, ?_⟩) he hpl
  exact run_fnS F hr hb (hx σ) I2 r q
end
end L2
namespace PV
open PySem PySem.Spec PyProof.Rows L2
section
variable {X : Cx} {T : Tab} {Φ : Fns} {fl : Nat → List Bool} {W : WX} {a b e f : Expr} {es : List Expr} {ca c : E} {cs : Es} {apos cpos pos p q : Pos}
theorem pe_fnv {x : Str} {k : Nat} {ad : Addr} (hg : Gl X x) (hm : X.mg x = some (.ref ad)) (ht : T.fa k = some ad) (hd : (x == ("__debug__" : Str)) = false) : PE X (.Name x pos) (rdE (cn X T) Φ fl W (.c (.fn k))) :=
  pe_k (pe_glob hg hm (v := .ref ad) rfl hd) fun G => .fn ht
theorem pe_calldE (hfv : ∀ k ad, T.fa k = some ad → ∃ np, DefAt X (L2.CX X.prog X.w) ad (spF (cn X T) Φ k np) ∧ ∀ as, (∃ y, Φ k as = .ok y) ∨ (∃ c, Φ k as = .exc c) → as.length = np) (tk : Takes X W) (hf : PE X (.Subscript a b q) (rdE (cn X T) Φ fl W ca)) (ha : PA X (e :: es) (rdAs (cn X T) Φ fl W cs))
    (hs : isStar e = false) (hss : (es.all fun e => !isStar e) = true) : PE X (.Call (.Subscript a b q) (e :: es) [] pos) (rdE (cn X T) Φ fl W (.calld ca cs)) := by
  refine PE.imp (pe_callD (E := WE W) (fun σ => passAt tk σ) hf ha (star_one hs) (star_any hss)) fun σ H Q h => ?_
  obtain ⟨A, F, G, st, rel, h⟩ := h
  rw [ev] at h
  refine ⟨A, F, G, st, rel, endG.bind h fun r0 st0 v G0 H0 _ s0 rel0 p0 h0 => ?_⟩
  dsimp only at h0
  split at h0
  · rename_i k _
    cases p0 with
    | @fn ad _ hk =>
    obtain ⟨np, hD, hnp⟩ := hfv k ad hk
    refine ⟨ad, _, rfl, hD, A, F, G0, st0, rel0, endG.bind h0 fun rs st1 vs G1 H1 _ s1 rel1 p1 h5 => ?_⟩
    dsimp only at h5
    split at h5
    · exact h5.elim
    · rename_i ars ws st2 ea
      obtain ⟨G2, s2, rel2, ar⟩ := args_ok rel1 p1 ea
      have h5 := endG.mono s2 h5
      obtain ⟨l1, l2⟩ := ar.len
      have hlen : (∃ y, Φ k ars = .ok y) ∨ (∃ c, Φ k ars = .exc c) → vs.length = np := fun z => by rw [← l1]; exact hnp ars z
      cases q : Φ k ars with
      | no => rw [q] at h5; exact h5.elim
      | exc c =>
        rw [q] at h5
        refine ⟨hlen (.inr ⟨c, q⟩), _, _, G2, ars, rel2.callee ar, ?_⟩
        rw [q]
        obtain ⟨x, ex, hx⟩ := h5
        exact ⟨x, ex, fun G' H' t1 t2 t3 t4 => hx σ G' H' t1 (rel2.others_sub.trans t2) t3 fun a o e => rel2.others_sub.none (t4 a o e)⟩
      | ok y =>
        obtain ⟨r, os⟩ := y
        rw [q] at h5
        refine ⟨hlen (.inl ⟨_, q⟩), _, _, G2, ars, rel2.callee ar, ?_⟩
        rw [q]
        have h5 : endG (cn X T) A F G2 σ W (PE1 (cn X T) F σ) Q (match outs 0 ws os st2 with | none => .no | some st3 => .ok (retR r, st3)) := h5
        intro v G' H' σ' t1 rc rr
        cases qo : outs 0 ws os st2 with
        | none => rw [qo] at h5; exact h5.elim
        | some st3 =>
          rw [qo] at h5
          obtain ⟨k1, k2⟩ := rel2.back ar t1 rc qo
          exact h5 v G' H' t1 k1 (k2 _ v (by cases r <;> intro i z <;> cases z) rr)
  · exact h0.elim
/-- the name y is a class; the errors at the places l are of it -/
def XiOk (X : Cx) (T : Tab) (y : Str) (l : List Nat) : Prop := ∃ (v : V) (cv : Value), RelV v cv ∧ (∀ u, RelV v u → u = cv) ∧ (X.mg y = some cv ∨ (X.mg y = none ∧ bootBuiltins y = some cv ∧ y ≠ "__name__")) ∧
  ∀ k C, T.xa k = some C → ExcC X.K C ∧ PySem.W.kitOne X.K (.ref C) cv = some (l.any fun j => Nat.beq j k)
theorem pe_isxE {y : Str} {l : List Nat} {p2 : Pos} (hy : XiOk X T y l) (hg : Gl X "isinstance") (hm : X.mg "isinstance" = none) (hs : isStar a = false) (ha : PE X a (rdE (cn X T) Φ fl W ca)) (hg2 : Gl X y) (hd : (y == ("__debug__" : Str)) = false) :
    PE X (.Call (.Name "isinstance" p) [a, .Name y p2] [] pos) (rdE (cn X T) Φ fl W (.op (.isx l) (.cons ca .nil))) := by
  obtain ⟨v, cv, r1, r2, h1, h2⟩ := hy
  have hb : PE X (.Name y p2) (tC v) := by
    rcases h1 with h1 | ⟨h1, h3, h4⟩
    · exact pe_glob hg2 h1 r1 hd
    · exact pe_bltn hg2 h1 h3 r1 h4 hd
  have hpa : PA X [a, .Name y p2] _ := pa_cons ha (pa_cons hb pa_nil) (star_one hs)
  refine PE.imp (pe_callB call_isK hg hm (by decide +kernel) hpa (by decide) (by decide) (star_one hs) rfl) fun σ H Q h => rdE.imp (rdOs_cons (rd_op h)) fun x H1 h1 => ?_
  obtain ⟨A, F, G, st, d, z, rel, h3, hz, ok⟩ := OpE.one (rdOs_nil h1)
  have hz : Op.isx1 l d = some z := hz
  unfold Op.isx1 at hz
  split at hz
  · rename_i k _
    cases hz
    rcases h3 with h3 | ⟨p, _, h3⟩
    · cases h3 with
      | obj hx hq =>
        obtain ⟨h4, h5⟩ := h2 k _ hx
        exact ⟨_, _, v, cv, _, rfl, rel.subG _ _ hq, h4, r2, h5, ok.pure rel (.bl _)⟩
    · exact h3.elim
  · cases hz
/-- an exception of any class is caught by the name x -/
def TrOk (X : Cx) (T : Tab) (x : Str) (m : Nat) : Prop := ∃ c : Value, (X.mg x = some c ∨ (X.mg x = none ∧ bootBuiltins x = some c ∧ x ≠ "__name__")) ∧ (∀ k, k < m → ∃ C, T.xa k = some C) ∧ ∀ k C, T.xa k = some C → PySem.W.exmOne X.K (.ref C) c = some true
theorem slot_rep {n i j : Nat} {s : Sl} (e : slot ((List.replicate n .none).set j s) i ≠ .none) : i = j := by
  rw [slot_set] at e
  split at e
  · rename_i h; exact h.1.symm
  · exfalso; apply e
    unfold slot
    rw [List.getD_eq_getElem?_getD, List.getElem?_replicate]
    split <;> rfl
theorem Rel.onlyObj {C : Cn} {A : List Addr} {F G H : Hp} {σ : L2.St} {y k : Nat} {x ad : Addr} (s1 : Sub F H) (s2 : Sub G H) (dis : ∀ a o, G a = some o → F a = none) (hx : C.xa k = some x) (hn : H ad = none) (hy : y < σ.length) (e : σ[y]? = some (some (.ref ad))) :
    Rel C A F (upd G ad (ExH (.ref x) ad)) ((List.replicate σ.length .none).set y (.val (.obj k))) σ (upd H ad (ExH (.ref x) ad)) := by
  have g : G ad = none := s2.none hn
  have f : F ad = none := s1.none hn
  refine ⟨by simp, s1.updR f, s2.updB, fun a o q => ?_, fun i d q => ?_, fun i t d q => ?_, fun i j t u d e' p q1 => ?_⟩
  · by_cases h : a = ad
    · subst h; exact f
    · rw [upd_ne h] at q; exact dis a o q
  · have := slot_rep (by rw [q]; intro z; cases z)
    subst this
    rw [slot_set_same (by simpa using hy)] at q
    cases q
    exact ⟨_, e, .obj hx upd_same⟩
  · have := slot_rep (by rw [q]; intro z; cases z)
    subst this
    rw [slot_set_same (by simpa using hy)] at q
    cases q
  · have := slot_rep (by rw [q1]; intro z; cases z)
    subst this
    rw [slot_set_same (by simpa using hy)] at q1
    cases q1
/-- try: body except x as n: y = n -/
theorem ps_tryE {x n y : Str} {i j m : Nat} {body : List Stmt} {cb : Ss} {np p1 p2 p3 pos' : Pos} (ht : TrOk X T x m) (hst : X.stack = X.env :: X.outer) (hfr : X.env.frame = some X.env.locals) (hN : X.N.Nodup) (hi : X.N[i]? = some n) (hj : X.N[j]? = some y) (hij : i ≠ j) (hln : X.env.scope.names.lookup n = some .local) (hly : X.env.scope.names.lookup y = some .local) (hg : Gl X x) (hdb : (x == ("__debug__" : Str)) = false)
    (hnd : (n == ("__debug__" : Str)) = false) (hncd : (n == ("__classdict__" : Str)) = false)
    (hb : ∀ (W' : WX) (pn : List (Addr × Obj)) (xe : Value → Shared → Prop), Takes (X.tr pn xe) W' → PassesOwn (model X.prog X.w) X.A X.env xe → PSs (X.tr pn xe) body (rdSs (cn X T) Φ fl W' cb)) :
    PS X (.Try body [.ExceptHandler (some (.Name x np)) (some n) [.Assign [.Name y p1] (.Name n p2) p3] pos'] [] [] pos) (rdS (cn X T) Φ fl W (.tryc m cb i j)) := by
  obtain ⟨c, hc, hm, hx⟩ := ht
  refine PS.imp (ps_try_keep (i := i) (c := c) (tb := fun W' => rdSs (cn X T) Φ fl W' cb) (ts := fun ad D σ H => σ[i]? = some (some (.ref ad)) ∧ D.nx (σ.set j (some (.ref ad))) H) hst hfr hN hi hln ⟨hg, hdb, hc⟩ hb (fun ad oe pn => ?_)) fun D σ H h => ?_
  · refine PSs.imp (pss_cons (ps_set (X := X.suite ad ((ad, oe) :: pn)) (i := j) hN hj (.inl hly) (pe_var (X := X.suite ad ((ad, oe) :: pn)) (i := i) hi (.inl hln) hnd hncd) rfl (.inr hly)) pss_nil) fun D σ H h => ?_
    exact ⟨_, h.1, h.2⟩
  · obtain ⟨A, F, G, st, rel, h⟩ := h
    refine ⟨A, F, G, st, rel, ?_⟩
    rw [ex] at h
    cases q : exs Φ fl cb st with
    | no => rw [q] at h; exact h.elim
    | ok z =>
      rw [q] at h
      obtain ⟨f, s1⟩ := z
      cases f with
      | next => exact h
      | ret r => exact h
    | exc k =>
      rw [q] at h
      dsimp only at h
      split at h
      · rename_i hz
        rw [Bool.and_eq_true, Bool.and_eq_true] at hz
        have hkm : k < m := Nat.le_of_ble_eq_true hz.1.1
        have hil : i < st.length := Nat.le_of_ble_eq_true hz.1.2
        have hjl : j < st.length := Nat.le_of_ble_eq_true hz.2
        obtain ⟨C, hC⟩ := hm k hkm
        refine ⟨C, hC, fun σ' G' H' s1 s2 s3 dis hl => ⟨hx k C hC, rfl, fun ad hn => ⟨?_, fun _ => ?_⟩⟩⟩
        · rw [List.getElem?_set_self (by rw [hl, ← rel.len]; exact hil)]
        · have hlen : (((σ'.set i (some (V.ref ad))).set j (some (V.ref ad))).set i none).length = st.length := by simp [hl, rel.len]
          refine h _ (upd G' ad (ExH (.ref C) ad)) _ (s1.trans (Sub.upd (s3.none hn))) ?_
          have := Rel.onlyObj (C := cn X T) (A := A) (F := F) (G := G') (H := H') (σ := ((σ'.set i (some (V.ref ad))).set j (some (V.ref ad))).set i none) (y := j) (k := k) (x := C) (ad := ad) s2 s3 dis hC hn (by rw [hlen]; exact hjl) ?_
          · rw [hlen] at this; exact this
          · rw [List.getElem?_set_ne hij, List.getElem?_set_self (by simp [hl, ← rel.len]; exact hjl)]
      · exact h.elim
end
end PV
set_option Elab.async false
set_option linter.all false
set_option maxRecDepth 100000
set_option maxHeartbeats 4000000
namespace L2
open PySem PySem.Spec PyProof.Rows
def tTupRgF (te : St → Hp → (Int → Int → Hp → Prop) → Prop) : TE := fun σ H Q => te σ H fun a b H1 => RgOk a b ∧ NewT H1 (rgV a b) Q
theorem pe_tupRgF {X : Cx} {e : Expr} {te : St → Hp → (Int → Int → Hp → Prop) → Prop} {p pos : Pos} (hc : X.calm = true) (hg : Gl X "tuple") (hm : X.mg "tuple" = none) (he : PRg X e te) (na : starEach [e] X.env = (false, eval e X.env) :: starEach [] X.env) : PE X (.Call (.Name "tuple" p) [e] [] pos) (tTupRgF te) :=
  ⟨fun pins s σ H Q I h => Call_ (ld_blt I hg hm boot_tuple (PyProof.Rows.callWith_type1 (args_cons (thn (he pins s σ H _ I h) fun x s1 ⟨r, a, b, t, u, v, H1, ex, hr, I1, ok, q⟩ => args_nil (by
    subst ex
    obtain ⟨b1, b2, b3, b4, b5⟩ := ok
    refine call_tuple_range (n := (b - a).toNat) (I1.ok.hd hc) hr (small_one b1 b2 b3 b4) (rangeSize_nat a b) b5 fun h' tk acc hk hi => ?_
    have I2 : Inv X pins σ H1 { s1 with heap := h', toks := tk } := I1.kept hk
    have := ep_newT (t' := tk) I2 (vals_rg hi) (by rw [rgV_length, sizeLine_eq]; omega) q
    rw [Array.toArray_toList] at this
    exact this)) na) na))⟩
end L2
namespace PV
open PySem PySem.Spec PyProof.Rows L2
section
variable {X : Cx} {T : Tab} {Φ : Fns} {fl : Nat → List Bool} {W : WX} {a b : Expr} {ca cb : E} {p p2 pos pos2 : Pos}
theorem rgV_rng : ∀ (n : Nat) (lo : Int), (List.range n).map (fun i => V.int (lo + (i : Nat))) = (rng lo n).map fun d => match d with | .int i => V.int i | _ => V.non
  | 0, _ => rfl
  | n + 1, lo => by
    rw [List.range_succ_eq_map, List.map_cons, List.map_map, rng, List.map_cons, ← rgV_rng n (lo + 1)]
    congr 1
    · simp
    · refine List.map_congr_left fun i _ => ?_
      show V.int (lo + ((i + 1 : Nat) : Int)) = V.int (lo + 1 + (i : Int))
      congr 1; omega
theorem reps_rng {C : Cn} {G : Hp} : ∀ (n : Nat) (lo : Int), Reps C G ((rng lo n).map fun d => match d with | .int i => V.int i | _ => V.non) (rng lo n)
  | 0, _ => .nil
  | n + 1, lo => .cons (.int lo) (reps_rng n (lo + 1))
theorem reps_rgV {C : Cn} {G : Hp} (lo hi : Int) : Reps C G (rgV lo hi) (rng lo (hi - lo).toNat) := by
  unfold rgV
  rw [rgV_rng]
  exact reps_rng _ _
theorem rgOk_of {lo hi : Int} {xs : List D} (h : rngOk lo hi = some xs) : RgOk lo hi ∧ xs = rng lo (hi - lo).toNat := by
  obtain ⟨h1, h2, h3, h4, h5⟩ := rngOk_inv h
  exact ⟨⟨by omega, by omega, by omega, by omega, by omega⟩, h5⟩
theorem lrng_inv {t : Bool} {lo hi : D} {z : Bool × D} (h : Op.lrngD t lo hi = some z) : ∃ i j xs, lo = .int i ∧ hi = .int j ∧ rngOk i j = some xs ∧ z = (if t then (false, .tup xs) else (true, .lst xs)) := by
  unfold Op.lrngD at h
  split at h
  · rename_i i j
    split at h
    · rename_i xs hx
      cases h
      exact ⟨i, j, xs, rfl, rfl, hx, rfl⟩
    · cases h
  · cases h
theorem pe_lrng1 (hc : X.calm = true) (hg : Gl X "list") (hm : X.mg "list" = none) (hg2 : Gl X "range") (hm2 : X.mg "range" = none) (ha : PE X a (rdE (cn X T) Φ fl W ca)) (hs : isStar a = false) : PE X (.Call (.Name "list" p) [.Call (.Name "range" p2) [a] [] pos2] [] pos) (rdE (cn X T) Φ fl W (.op .lrng (.cons ca .nil))) :=
  PE.imp (pe_listRg hc hg hm (prg_1 hg2 hm2 ha (star_one hs)) (star_one rfl)) fun σ H Q h => rdE.imp (rdOs_cons (rd_op h)) fun x H1 h1 => by
    obtain ⟨A, F, G, st, d, z, rel, h1, hz, ok⟩ := (rdOs_nil h1).one
    obtain ⟨i, j, xs, e0, e1, hx, rfl⟩ := lrng_inv (t := false) (lo := .int 0) (show Op.lrngD false (.int 0) d = some z from hz)
    cases e0
    subst e1
    obtain ⟨k1, rfl⟩ := rgOk_of hx
    exact ⟨j, h1.int_inv, k1, fun u hu => ok.newL rel hu (reps_rgV 0 j)⟩
theorem pe_lrng2 (hc : X.calm = true) (hg : Gl X "list") (hm : X.mg "list" = none) (hg2 : Gl X "range") (hm2 : X.mg "range" = none) (ha : PE X a (rdE (cn X T) Φ fl W ca)) (hb : PE X b (rdE (cn X T) Φ fl W cb)) (hs : isStar a = false) (hs2 : isStar b = false) : PE X (.Call (.Name "list" p) [.Call (.Name "range" p2) [a, b] [] pos2] [] pos) (rdE (cn X T) Φ fl W (.op .lrng (.cons ca (.cons cb .nil)))) :=
  PE.imp (pe_listRg hc hg hm (prg_2 hg2 hm2 ha hb (star_one hs) (star_one hs2) (star_any (by simp [hs2]))) (star_one rfl)) fun σ H Q h => rdE.imp (rdOs_cons (rd_op h)) fun x H1 h1 => rdE.imp (rdOs_cons h1) fun y H2 h2 => by
    obtain ⟨A, F, G, st, d, e, z, rel, h1, h2, hz, ok⟩ := (rdOs_nil h2).two
    obtain ⟨i, j, xs, e0, e1, hx, rfl⟩ := lrng_inv (t := false) (show Op.lrngD false d e = some z from hz)
    subst e0 e1
    obtain ⟨k1, rfl⟩ := rgOk_of hx
    exact ⟨i, j, h1.int_inv, h2.int_inv, k1, fun u hu => ok.newL rel hu (reps_rgV i j)⟩
theorem pe_trng1 (hc : X.calm = true) (hg : Gl X "tuple") (hm : X.mg "tuple" = none) (hg2 : Gl X "range") (hm2 : X.mg "range" = none) (ha : PE X a (rdE (cn X T) Φ fl W ca)) (hs : isStar a = false) : PE X (.Call (.Name "tuple" p) [.Call (.Name "range" p2) [a] [] pos2] [] pos) (rdE (cn X T) Φ fl W (.op .trng (.cons ca .nil))) :=
  PE.imp (pe_tupRgF hc hg hm (prg_1 hg2 hm2 ha (star_one hs)) (star_one rfl)) fun σ H Q h => rdE.imp (rdOs_cons (rd_op h)) fun x H1 h1 => by
    obtain ⟨A, F, G, st, d, z, rel, h1, hz, ok⟩ := (rdOs_nil h1).one
    obtain ⟨i, j, xs, e0, e1, hx, rfl⟩ := lrng_inv (t := true) (lo := .int 0) (show Op.lrngD true (.int 0) d = some z from hz)
    cases e0
    subst e1
    obtain ⟨k1, rfl⟩ := rgOk_of hx
    exact ⟨j, h1.int_inv, k1, ok.newT rel (reps_rgV 0 j)⟩
theorem pe_trng2 (hc : X.calm = true) (hg : Gl X "tuple") (hm : X.mg "tuple" = none) (hg2 : Gl X "range") (hm2 : X.mg "range" = none) (ha : PE X a (rdE (cn X T) Φ fl W ca)) (hb : PE X b (rdE (cn X T) Φ fl W cb)) (hs : isStar a = false) (hs2 : isStar b = false) : PE X (.Call (.Name "tuple" p) [.Call (.Name "range" p2) [a, b] [] pos2] [] pos) (rdE (cn X T) Φ fl W (.op .trng (.cons ca (.cons cb .nil)))) :=
  PE.imp (pe_tupRgF hc hg hm (prg_2 hg2 hm2 ha hb (star_one hs) (star_one hs2) (star_any (by simp [hs2]))) (star_one rfl)) fun σ H Q h => rdE.imp (rdOs_cons (rd_op h)) fun x H1 h1 => rdE.imp (rdOs_cons h1) fun y H2 h2 => by
    obtain ⟨A, F, G, st, d, e, z, rel, h1, h2, hz, ok⟩ := (rdOs_nil h2).two
    obtain ⟨i, j, xs, e0, e1, hx, rfl⟩ := lrng_inv (t := true) (show Op.lrngD true d e = some z from hz)
    subst e0 e1
    obtain ⟨k1, rfl⟩ := rgOk_of hx
    exact ⟨i, j, h1.int_inv, h2.int_inv, k1, ok.newT rel (reps_rgV i j)⟩
end
end PV
set_option Elab.async false
set_option linter.all false
set_option maxRecDepth 100000
set_option maxHeartbeats 4000000
namespace L2
open PySem PySem.Spec PyProof.Rows
section
variable {X : Cx} {a : Expr} {ta : TE} {p p2 q pos : Pos}
/-- len(set(..)): a tuple of ints, a list of texts -/
def tLenSetT (K : PySem.W.Frag) (ta : TE) : TE := fun σ H Q => ta σ H fun x H1 => (∃ (l : Addr) (ns : List Int), x = .ref l ∧ SqT K H1 l (ns.map V.int) ∧ ns.length ≤ 60 ∧ ∀ L : List Int, L.Nodup → (∀ k, k ∈ L ↔ k ∈ ns) → Q (.int (L.length : Nat)) H1) ∨
  ∃ (l : Addr) (xs : List Str), x = .ref l ∧ SqL K H1 l (xs.map V.str) ∧ xs.length ≤ 1000 ∧ ∀ L : List Str, L.Nodup → (∀ k, k ∈ L ↔ k ∈ xs) → Q (.int (L.length : Nat)) H1
theorem strs_item {xs : List Str} {its : List Value} (r : Vals (xs.map V.str) its) (i : Nat) (v : Value) (h : its.toArray[i]? = some v) : ∃ k t, xs[i]? = some k ∧ v = .str k t := by
  have hi : its[i]? = some v := by simpa using h
  have hl : i < xs.length := by
    have := (List.getElem?_eq_some_iff.mp hi).1
    have := r.length
    rw [List.length_map] at this
    omega
  obtain ⟨u, hu, ru⟩ := r.get (i := i) (x := V.str xs[i]) (by rw [List.getElem?_map, List.getElem?_eq_getElem hl]; rfl)
  rw [hi] at hu; cases hu
  obtain ⟨t, rfl⟩ := ru
  exact ⟨_, t, List.getElem?_eq_getElem hl, rfl⟩
theorem pe_lenSetT (hg : Gl X "len") (hm : X.mg "len" = none) (hg2 : Gl X "set") (hm2 : X.mg "set" = none) (ha : PE X a ta) (hc : X.calm = true) (na : starEach [a] X.env = (false, eval a X.env) :: starEach [] X.env) : PE X (.Call (.Name "len" p) [.Call (.Name "set" p2) [a] [] q] [] pos) (tLenSetT X.K ta) :=
  ⟨fun pins s σ H Q I h => Call_ (ld_blt I hg hm boot_len (PyProof.Rows.callWith_builtin1 (PyProof.Rows.args_cons (Call_ (ld_blt I hg2 hm2 boot_set (PyProof.Rows.callWith_type1 (PyProof.Rows.args_cons (thn (ha.run pins s σ H _ I h) fun v s1 ⟨x, H1, I1, r1, q1⟩ => PyProof.Rows.args_nil (by
    rcases q1 with ⟨l, ns, ex, hq, hl, q1⟩ | ⟨l, xs, ex, hq, hl, q1⟩
    · subst ex
      cases r1
      obtain ⟨its, r, pl, hz⟩ := I1.tuple hq
      refine call_set_tupI ns (I1.ok.hd hc) pl (by simpa using RZ.intsAre_vals r) (by unfold scanBound; omega) fun h' tk c hR _ hk => PyProof.Rows.args_nil ?_
      obtain ⟨o, es, ep, t, ho, hex, hd, _, nd, mem, _, hf, hn, _, _⟩ := hR
      have I2 : Inv X pins σ H1 { s1 with heap := h', toks := tk } := I1.kept hk
      have hlen : (es.toList.map keyOf).length = es.size := by rw [List.length_map, Array.length_toList]
      have fin := q1 (es.toList.map keyOf) nd fun k => by rw [← mem k]; simp
      rw [hlen] at fin
      exact call_len_set ho hex hd hf (by omega) ⟨.int _, H1, I2.tok _, ⟨_, rfl⟩, fin⟩
    · subst ex
      cases r1
      obtain ⟨its, r, pl, hz⟩ := I1.list hq
      refine callX xs (I1.ok.hd hc) pl.isList (fun i v hv => strs_item r i v hv) (by have := r.length; simp at this ⊢; omega) (by unfold scanBound; omega) fun h' tk hR hk => PyProof.Rows.args_nil ?_
      obtain ⟨o, es, ep, t, ho, hex, hd, _, nd, mem, hle, hb, hf, _, _⟩ := hR
      have I2 : Inv X pins σ H1 { s1 with heap := h', toks := tk } := I1.kept hk
      have hlen : (es.toList.map kS).length = es.size := by rw [List.length_map, Array.length_toList]
      have fin := q1 (es.toList.map kS) nd mem
      rw [hlen] at fin
      exact call_len_set ho hex hd hf (by omega) ⟨.int _, H1, I2.tok _, ⟨_, rfl⟩, fin⟩)) na) na rfl))) rfl) rfl rfl))⟩
theorem boot_sortedS : bootBuiltins "sorted" = some (.builtin "sorted") := by decide +kernel
def tSortSetT (K : PySem.W.Frag) (ta : TE) : TE := fun σ H Q => ta σ H fun x H1 => (∃ (l : Addr) (ns : List Int), x = .ref l ∧ SqT K H1 l (ns.map V.int) ∧ ns.length ≤ 60 ∧ ∀ (L : List Int) (p : Addr), L.Pairwise (· < ·) → (∀ k, k ∈ L ↔ k ∈ ns) → H1 p = none → Q (.ref p) (upd H1 p (.lst (L.map V.int)))) ∨
  ∃ (l : Addr) (xs : List Str), x = .ref l ∧ SqL K H1 l (xs.map V.str) ∧ xs.length ≤ 1000 ∧ ∀ (ks : List Str) (p : Addr), ks.Nodup → (∀ k, k ∈ ks ↔ k ∈ xs) → H1 p = none → Q (.ref p) (upd H1 p (.lst ((ks.mergeSort (PySem.W.dataLe false PyData.str)).map V.str)))
theorem each_vals : ∀ {ks : List Str} {out : List Value}, PySem.W.EachIs (fun v (k : Str) => ∃ t, v = Value.str k t) out ks → Vals (ks.map V.str) out
  | [], [], _ => .nil
  | k :: ks, v :: out, .cons h r => .cons h (each_vals r)
theorem pe_sortSetT (hu : X.A.units + 65 < cLine) (hg : Gl X "sorted") (hm : X.mg "sorted" = none) (hg2 : Gl X "set") (hm2 : X.mg "set" = none) (ha : PE X a ta) (hc : X.calm = true) (na : starEach [a] X.env = (false, eval a X.env) :: starEach [] X.env) : PE X (.Call (.Name "sorted" p) [.Call (.Name "set" p2) [a] [] q] [] pos) (tSortSetT X.K ta) :=
  ⟨fun pins s σ H Q I h => Call_ (ld_blt I hg hm boot_sortedS (PyProof.Rows.callWith_builtin1 (PyProof.Rows.args_cons (Call_ (ld_blt I hg2 hm2 boot_set (PyProof.Rows.callWith_type1 (PyProof.Rows.args_cons (thn (ha.run pins s σ H _ I h) fun v s1 ⟨x, H1, I1, r1, q1⟩ => PyProof.Rows.args_nil (by
    rcases q1 with ⟨l, ns, ex, hq, hl, q1⟩ | ⟨l, xs, ex, hq, hl, q1⟩
    · subst ex
      cases r1
      obtain ⟨its, r, pl, hz⟩ := I1.tuple hq
      refine call_set_tupI ns (I1.ok.hd hc) pl (by simpa using RZ.intsAre_vals r) (by unfold scanBound; omega) fun h' tk c hR hcl hk => PyProof.Rows.args_nil ?_
      have I2 : Inv X pins σ H1 { s1 with heap := h', toks := tk } := I1.kept hk
      refine sorted_set (s := { s1 with heap := h', toks := tk }) hR (I1.ok.hd hc) (by omega) fun s' p out c2 L k2 g o hp hgt hi hs hme hln => ?_
      have hlen : (L.map V.int).length ≤ sizeLine := by rw [List.length_map, hln, sizeLine_eq]; omega
      have hn : H1 p = none := I2.hok.fresh hp
      have J : Inv X pins σ (upd H1 p (.lst (L.map V.int))) { ({ s1 with heap := h', toks := tk } : Shared) with heap := s'.heap, gens := s'.gens, drawn := s'.drawn, toks := s'.toks } :=
        I2.call (ch := []) (Un.laid k2 hp hn) (I2.hok.laid k2 hp ⟨hlen, out.toList, c2, vals_of_ints hi, hgt⟩) (by rw [g]; exact I2.bare) (fun _ z => nomatch z)
      have e : s' = { ({ s1 with heap := h', toks := tk } : Shared) with heap := s'.heap, gens := s'.gens, drawn := s'.drawn, toks := s'.toks } := by
        cases s'; cases s1; cases o; rfl
      rw [e]
      exact ⟨.ref p, _, J, rfl, q1 L p hs (fun k => by rw [hme k]; simp) hn⟩
    · subst ex
      cases r1
      obtain ⟨its, r, pl, hz⟩ := I1.list hq
      refine callX xs (I1.ok.hd hc) pl.isList (fun i v hv => strs_item r i v hv) (by have := r.length; simp at this ⊢; omega) (by unfold scanBound; omega) fun h' tk hR hk => PyProof.Rows.args_nil ?_
      have I2 : Inv X pins σ H1 { s1 with heap := h', toks := tk } := I1.kept hk
      refine sortedX (s := { s1 with heap := h', toks := tk }) hR (I1.ok.hd hc) (by omega) fun s' p out c2 ks k2 g o hp hgt hi nd hme hln => ?_
      have hlen : ((ks.mergeSort (PySem.W.dataLe false PyData.str)).map V.str).length ≤ sizeLine := by
        rw [List.length_map, (List.mergeSort_perm ks _).length_eq]
        exact fits_of_scanBound hln
      have hn : H1 p = none := I2.hok.fresh hp
      have J : Inv X pins σ (upd H1 p (.lst ((ks.mergeSort (PySem.W.dataLe false PyData.str)).map V.str))) { ({ s1 with heap := h', toks := tk } : Shared) with heap := s'.heap, gens := s'.gens, drawn := s'.drawn, toks := s'.toks } :=
        I2.call (ch := []) (Un.laid k2 hp hn) (I2.hok.laid k2 hp ⟨hlen, out, c2, each_vals hi, hgt⟩) (by rw [g]; exact I2.bare) (fun _ z => nomatch z)
      have e : s' = { ({ s1 with heap := h', toks := tk } : Shared) with heap := s'.heap, gens := s'.gens, drawn := s'.drawn, toks := s'.toks } := by
        cases s'; cases s1; cases o; rfl
      rw [e]
      exact ⟨.ref p, _, J, rfl, q1 ks p nd hme hn⟩)) na) na rfl))) rfl) rfl rfl))⟩
end
end L2
namespace PV
open PySem PySem.Spec PyProof.Rows L2
section
variable {X : Cx} {T : Tab} {Φ : Fns} {fl : Nat → List Bool} {W : WX} {a : Expr} {ca : E} {p p2 pos pos2 : Pos}
theorem txt_inj {k k' : Str} (h : k.cps.toList = k'.cps.toList) : k = k' := str_ext h
theorem txts_mem {zs : List (List Nat)} {k : Str} : k ∈ zs.map (fun s => (⟨s.toArray⟩ : Str)) ↔ k.cps.toList ∈ zs := by
  rw [List.mem_map]
  constructor
  · rintro ⟨s, hs, rfl⟩; simpa using hs
  · intro h; exact ⟨_, h, str_ext rfl⟩
theorem txts_nodup {L : List Str} (h : L.Nodup) : (L.map fun k => k.cps.toList).Nodup := by
  rw [List.nodup_iff_pairwise_ne, List.pairwise_map]
  exact h.imp fun hab z => hab (txt_inj z)
theorem txts_perm {L : List Str} {zs : List (List Nat)} (h : L.Nodup) (hm : ∀ k, k ∈ L ↔ k ∈ zs.map (fun s => (⟨s.toArray⟩ : Str))) : (L.map fun k => k.cps.toList).Perm (dedS zs) := by
  refine (List.perm_ext_iff_of_nodup (txts_nodup h) (dedS_nodup zs)).mpr fun s => ?_
  rw [dedS_mem, List.mem_map]
  constructor
  · rintro ⟨k, hk, rfl⟩; exact txts_mem.mp ((hm k).mp hk)
  · intro hs
    refine ⟨⟨s.toArray⟩, (hm _).mpr (txts_mem.mpr (by simpa using hs)), by simp⟩
theorem sort_txts {L : List Str} {zs : List (List Nat)} (h : L.Nodup) (hm : ∀ k, k ∈ L ↔ k ∈ zs.map (fun s => (⟨s.toArray⟩ : Str))) : (L.mergeSort (PySem.W.dataLe false PyData.str)).map (fun k => D.str k.cps.toList) = sortB ((dedS zs).map D.str) := by
  have al : ∀ l : List (List Nat), ∀ a ∈ l.map D.str, ∀ b ∈ l.map D.str, alD a b = true := fun l a ha b hb => by
    obtain ⟨x, _, rfl⟩ := List.mem_map.mp ha
    obtain ⟨y, _, rfl⟩ := List.mem_map.mp hb
    rw [alD]
  have sm : ∀ l : List (List Nat), ∀ a ∈ l.map D.str, sh 49 a = true := fun l a ha => by
    obtain ⟨x, _, rfl⟩ := List.mem_map.mp ha
    rw [sh]
  have e1 : (L.mergeSort (PySem.W.dataLe false PyData.str)).map (fun k => D.str k.cps.toList) = (L.map fun k => D.str k.cps.toList).mergeSort leT := by
    refine List.map_mergeSort fun a _ b _ => ?_
    rw [PySem.W.dataLe_eq]
    rfl
  have e2 : (L.map fun k => D.str k.cps.toList) = (L.map fun k => k.cps.toList).map D.str := by rw [List.map_map]; rfl
  rw [e1, e2, sortB_eq (al _) (sm _)]
  have pm : ((L.map fun k => k.cps.toList).map D.str).Perm ((dedS zs).map D.str) := (txts_perm h hm).map D.str
  refine List.Perm.eq_of_pairwise (le := fun a b => leT a b = true) (fun a b ha hb h1 h2 => ?_) (sortB_sorted (al _) (sm _)) (sortB_sorted (al _) (sm _)) (((sortB_perm _).trans pm).trans (sortB_perm _).symm)
  have m1 := (sortB_perm _).mem_iff.mp ha
  have m2 := (sortB_perm _).mem_iff.mp hb
  obtain ⟨x, _, rfl⟩ := List.mem_map.mp m1
  obtain ⟨y, _, rfl⟩ := List.mem_map.mp m2
  exact leT_anti 49 49 (by rw [sh]) (by rw [sh]) (by rw [alD]) h1 h2
theorem reps_txts {C : Cn} {G : Hp} : ∀ {L : List Str}, (∀ k ∈ L, okS k.cps.toList) → Reps C G (L.map V.str) (L.map fun k => D.str k.cps.toList)
  | [], _ => .nil
  | k :: L, h => .cons (Rep.str k.cps.toList (h k (by simp))) (reps_txts fun x hx => h x (by simp [hx]))
theorem pe_lenSetE (hg : Gl X "len") (hm : X.mg "len" = none) (hg2 : Gl X "set") (hm2 : X.mg "set" = none) (hc : X.calm = true) (ha : PE X a (rdE (cn X T) Φ fl W ca)) (hs : isStar a = false) : PE X (.Call (.Name "len" p) [.Call (.Name "set" p2) [a] [] pos2] [] pos) (rdE (cn X T) Φ fl W (.op .lenSet (.cons ca .nil))) :=
  PE.imp (pe_lenSetT hg hm hg2 hm2 ha hc (star_one hs)) fun σ H Q h => rdE.imp (rdOs_cons (rd_op h)) fun x H1 h1 => by
    obtain ⟨A, F, G, st, d, z, rel, h1, hz, ok⟩ := (rdOs_nil h1).one
    have hz : Op.lenSet1 d = some z := hz
    unfold Op.lenSet1 at hz
    split at hz
    · rename_i xs
      split at hz
      · rename_i zs hzs
        split at hz
        · rename_i hl
          cases hz
          obtain ⟨l, vs, e, g1, r⟩ := h1.lst_inv rel.subG
          obtain ⟨ev, _⟩ := strs_inv r hzs
          subst ev
          refine .inr ⟨l, zs.map fun s => ⟨s.toArray⟩, e, by rw [List.map_map]; exact .inl (.inl g1), by rw [List.length_map]; exact Nat.le_of_ble_eq_true hl, fun L hL hk => ?_⟩
          have := (txts_perm hL hk).length_eq
          rw [List.length_map] at this
          rw [this]
          exact ok.pure rel (.int _)
        · cases hz
      · cases hz
    · rename_i xs
      split at hz
      · rename_i ns hns
        split at hz
        · rename_i hl
          cases hz
          obtain ⟨l, vs, e, t1, _, r⟩ := h1.tup_inv rel.subG
          have ev := ints_inv r hns
          subst ev
          exact .inl ⟨l, ns, e, t1.sq, Nat.le_of_ble_eq_true hl, fun L hL hk => by
            rw [nodup_len hL (dedI_nodup ns) fun k => (hk k).trans (dedI_mem ns k).symm]
            exact ok.pure rel (.int _)⟩
        · cases hz
      · cases hz
    · cases hz
theorem pe_sortSetE (hu : X.A.units + 65 < cLine) (hg : Gl X "sorted") (hm : X.mg "sorted" = none) (hg2 : Gl X "set") (hm2 : X.mg "set" = none) (hc : X.calm = true) (ha : PE X a (rdE (cn X T) Φ fl W ca)) (hs : isStar a = false) : PE X (.Call (.Name "sorted" p) [.Call (.Name "set" p2) [a] [] pos2] [] pos) (rdE (cn X T) Φ fl W (.op .sortedSet (.cons ca .nil))) :=
  PE.imp (pe_sortSetT hu hg hm hg2 hm2 ha hc (star_one hs)) fun σ H Q h => rdE.imp (rdOs_cons (rd_op h)) fun x H1 h1 => by
    obtain ⟨A, F, G, st, d, z, rel, h1, hz, ok⟩ := (rdOs_nil h1).one
    have hz : Op.sortSet1 d = some z := hz
    unfold Op.sortSet1 at hz
    split at hz
    · rename_i xs
      split at hz
      · rename_i zs hzs
        split at hz
        · rename_i hl
          cases hz
          obtain ⟨l, vs, e, g1, r⟩ := h1.lst_inv rel.subG
          obtain ⟨ev, oks⟩ := strs_inv r hzs
          subst ev
          refine .inr ⟨l, zs.map fun s => ⟨s.toArray⟩, e, by rw [List.map_map]; exact .inl (.inl g1), by rw [List.length_map]; exact Nat.le_of_ble_eq_true hl, fun L u hL hk hu => ?_⟩
          refine ok.newL rel hu ?_
          rw [← sort_txts hL hk]
          refine reps_txts fun k hk2 => ?_
          have hm := (hk k).mp ((List.mergeSort_perm L _).mem_iff.mp hk2)
          exact oks _ (txts_mem.mp hm)
        · cases hz
      · cases hz
    · rename_i xs
      split at hz
      · rename_i ns hns
        split at hz
        · rename_i hl
          cases hz
          obtain ⟨l, vs, e, t1, _, r⟩ := h1.tup_inv rel.subG
          have ev := ints_inv r hns
          subst ev
          refine .inl ⟨l, ns, e, t1.sq, Nat.le_of_ble_eq_true hl, fun L u hL hk hu => ?_⟩
          have e2 : L = sortI (dedI ns) := sorted_uniq hL (sortI_le _) ((sortI_perm _).nodup_iff.mpr (dedI_nodup ns)) fun k => (hk k).trans ((dedI_mem ns k).symm.trans (sortI_perm _).mem_iff.symm)
          subst e2
          exact ok.newL rel hu (reps_ints _)
        · cases hz
      · cases hz
    · cases hz
end
theorem cnt_list (c : Nat) : ∀ s : List Nat, PyProof.Rows.cnt c s = ((s.count c : Nat) : Int)
  | [] => rfl
  | x :: r => by
    rw [PyProof.Rows.cnt_cons, cnt_list c r, List.count_cons]
    by_cases h : x = c
    · simp [h]; omega
    · simp [h]
theorem count_txt (s : List Nat) (c : Nat) : Txt.count ⟨s.toArray⟩ ⟨[c].toArray⟩ = ((s.count c : Nat) : Int) :=
  (PyProof.Rows.count_is ⟨s.toArray⟩ c).trans (cnt_list c s)
theorem mto_countS {X : Cx} {T : Tab} : MtOk X T .count 3 "count" := by
  refine ⟨"str", "str.count", _, PySem.F.plainAttrs_str, PySem.F.slot_str_count, PySem.F.type_str_count, mt_count, fun G H v d s h k => ?_, fun σ x xs H Q h => ?_⟩
  · cases d <;> cases k
    obtain ⟨rfl, _⟩ := h.str_inv
    exact .inl rfl
  · obtain ⟨A, F, G, st, d, ds, z, rel, h1, hk, h2, hz, ok⟩ := h
    cases d <;> cases hk
    rename_i s
    obtain ⟨rfl, ks⟩ := h1.str_inv
    match ds, xs, h2, hz with
    | [e], [y], h2, hz =>
      have h2 := h2.1
      have hz : Op.count2 (.str s) e = some z := hz
      cases e with
      | str y0 =>
        match y0, h2, hz with
        | [c], h2, hz =>
          cases hz
          obtain ⟨rfl, _⟩ := h2.str_inv
          refine ⟨_, _, rfl, rfl, ?_⟩
          rw [count_txt]
          exact ok.pure rel (.int _)
        | [], _, hz => cases hz
        | _ :: _ :: _, _, hz => cases hz
      | _ => cases hz
    | [], _, _, hz => cases hz
    | [_, _], _, _, hz => cases hz
    | _ :: _ :: _ :: _, _, _, hz => cases hz
    | [_], [], h2, _ => exact h2.elim
    | [_], _ :: _ :: _, h2, _ => exact h2.2.elim
end PV
set_option Elab.async false
set_option linter.all false
set_option maxRecDepth 100000
set_option maxHeartbeats 4000000
namespace PV
open PySem PySem.Spec PyProof.Rows L2
/-- a constant -/
inductive Kst : V → D → Prop
  | non : Kst .non .non
  | bl (b : Bool) : Kst (.bl b) (.bl b)
  | int (i : Int) : Kst (.int i) (.int i)
  | str (s : List Nat) : okS s → Kst (.str ⟨s.toArray⟩) (.str s)
theorem Kst.rep {C : Cn} {G : Hp} {v : V} {d : D} (h : Kst v d) : Rep C G v d := by
  cases h with
  | non => exact .non
  | bl b => exact .bl b
  | int i => exact .int i
  | str s h => exact .str s h
/-- a dict of the module -/
def DOk (X : Cx) (x : Str) (kvs : List (List Nat × D)) : Prop := ∃ d es n, X.mg x = some (.ref d) ∧ KDict X.K X.w d es n ∧
  (∀ k dv, kget k kvs = some dv → ∃ u v, PySem.W.nsIn X.K d ⟨k.toArray⟩ = some (some u) ∧ RelV v u ∧ Kst v dv) ∧ ∀ k, kget k kvs = none → PySem.W.nsIn X.K d ⟨k.toArray⟩ = some none
section
variable {X : Cx} {T : Tab} {Φ : Fns} {fl : Nat → List Bool} {W : WX} {b : Expr} {cb : E} {x : Str} {kvs : List (List Nat × D)} {p pos : Pos}
theorem pe_ggetE (hd : DOk X x kvs) (hg : Gl X x) (hdb : (x == ("__debug__" : Str)) = false) (hb : PE X b (rdE (cn X T) Φ fl W cb)) (hs : PlainIx b) : PE X (.Subscript (.Name x p) b pos) (rdE (cn X T) Φ fl W (.op (.gget kvs) (.cons cb .nil))) := by
  obtain ⟨d, es, n, h1, h2, h3, h4⟩ := hd
  refine PE.imp (pe_ix ix_kdict (pe_glob (v := .ref d) hg h1 rfl hdb) hb hs) fun σ H Q h => ?_
  refine rdE.imp (rdOs_cons (rd_op h)) fun y H1 h5 => ?_
  obtain ⟨A, F, G, st, e, z, rel, r1, hz, ok⟩ := OpE.one (rdOs_nil h5)
  have hz : Op.gget1 kvs e = some z := hz
  cases e with
  | str k =>
    obtain ⟨rfl, _⟩ := r1.str_inv
    simp only [Op.gget1] at hz
    split at hz
    · rename_i dv hk
      cases hz
      obtain ⟨u, v, k1, k2, k3⟩ := h3 k dv hk
      exact ⟨d, _, v, rfl, rfl, ⟨es, n, u, h2.at_, h2.lit, k1, k2⟩, ok.pure rel k3.rep⟩
    · cases hz
  | _ => cases hz
theorem pe_ginE {a : Expr} {ca : E} (hd : DOk X x kvs) (hg : Gl X x) (hdb : (x == ("__debug__" : Str)) = false) (ha : PE X a (rdE (cn X T) Φ fl W ca)) :
    PE X (.Compare a [.In] [.Name x p] pos) (rdE (cn X T) Φ fl W (.op (.gin kvs false) (.cons ca .nil))) ∧ PT X (.Compare a [.In] [.Name x p] pos) (rdT (cn X T) Φ fl W (.op (.gin kvs false) (.cons ca .nil))) := by
  obtain ⟨d, es, n, h1, h2, h3, h4⟩ := hd
  have key : ∀ σ H Q, rdE (cn X T) Φ fl W (.op (.gin kvs false) (.cons ca .nil)) σ H Q → rdE (cn X T) Φ fl W ca σ H fun y H1 => ∃ (z : Str) (r : Option Value), y = .str z ∧ V.ref d = .ref d ∧ PySem.W.nsIn X.K d z = some r ∧ Q (.bl r.isSome) H1 := fun σ H Q h => by
    refine rdE.imp (rdOs_cons (rd_op h)) fun y H1 h5 => ?_
    obtain ⟨A, F, G, st, e, z, rel, r1, hz, ok⟩ := OpE.one (rdOs_nil h5)
    have hz : Op.gin1 kvs false e = some z := hz
    cases e with
    | str k =>
      obtain ⟨rfl, _⟩ := r1.str_inv
      simp only [Op.gin1] at hz
      cases q : kget k kvs with
      | none =>
        rw [q] at hz; cases hz
        exact ⟨_, none, rfl, rfl, h4 k q, ok.pure rel (.bl _)⟩
      | some dv =>
        rw [q] at hz; cases hz
        obtain ⟨u, v, k1, k2, k3⟩ := h3 k dv q
        exact ⟨_, some u, rfl, rfl, k1, ok.pure rel (.bl _)⟩
    | _ => cases hz
  exact ⟨PE.imp (pe_cmpR (op_in_kd h2) ha (pe_glob (v := .ref d) hg h1 rfl hdb) rfl) fun σ H Q h => key σ H Q h, PT.imp (pt_cmpR (op_in_kd h2) ha (pe_glob (v := .ref d) hg h1 rfl hdb) rfl) fun σ H Q h => key σ H _ (rdT.toE h)⟩
theorem pe_ginNE {a : Expr} {ca : E} (hd : DOk X x kvs) (hg : Gl X x) (hdb : (x == ("__debug__" : Str)) = false) (ha : PE X a (rdE (cn X T) Φ fl W ca)) :
    PE X (.Compare a [.NotIn] [.Name x p] pos) (rdE (cn X T) Φ fl W (.op (.gin kvs true) (.cons ca .nil))) ∧ PT X (.Compare a [.NotIn] [.Name x p] pos) (rdT (cn X T) Φ fl W (.op (.gin kvs true) (.cons ca .nil))) := by
  obtain ⟨d, es, n, h1, h2, h3, h4⟩ := hd
  have key : ∀ σ H Q, rdE (cn X T) Φ fl W (.op (.gin kvs true) (.cons ca .nil)) σ H Q → rdE (cn X T) Φ fl W ca σ H fun y H1 => ∃ (z : Str) (r : Option Value), y = .str z ∧ V.ref d = .ref d ∧ PySem.W.nsIn X.K d z = some r ∧ Q (.bl (!r.isSome)) H1 := fun σ H Q h => by
    refine rdE.imp (rdOs_cons (rd_op h)) fun y H1 h5 => ?_
    obtain ⟨A, F, G, st, e, z, rel, r1, hz, ok⟩ := OpE.one (rdOs_nil h5)
    have hz : Op.gin1 kvs true e = some z := hz
    cases e with
    | str k =>
      obtain ⟨rfl, _⟩ := r1.str_inv
      simp only [Op.gin1] at hz
      cases q : kget k kvs with
      | none =>
        rw [q] at hz; cases hz
        exact ⟨_, none, rfl, rfl, h4 k q, ok.pure rel (.bl _)⟩
      | some dv =>
        rw [q] at hz; cases hz
        obtain ⟨u, v, k1, k2, k3⟩ := h3 k dv q
        exact ⟨_, some u, rfl, rfl, k1, ok.pure rel (.bl _)⟩
    | _ => cases hz
  exact ⟨PE.imp (pe_cmpR (op_notIn_kd h2) ha (pe_glob (v := .ref d) hg h1 rfl hdb) rfl) fun σ H Q h => key σ H Q h, PT.imp (pt_cmpR (op_notIn_kd h2) ha (pe_glob (v := .ref d) hg h1 rfl hdb) rfl) fun σ H Q h => key σ H _ (rdT.toE h)⟩
end
/-- the entries of a display: key, value, datum -/
abbrev Ent := List Nat × V × D
inductive Ents : List (Option Expr) → List Expr → List Ent → Prop
  | nil : Ents [] [] []
  | cons {k : Str} {j : Nat} {p : Pos} {e : Expr} {v : V} {d : D} {ks : List (Option Expr)} {vs : List Expr} {es : List Ent} : okS k.cps.toList → (∀ X : Cx, PE X e (tC v)) → Kst v d → (es.any fun q => q.1 == k.cps.toList) = false → Ents ks vs es →
    Ents (some (.Constant (.str k) j p) :: ks) (e :: vs) ((k.cps.toList, v, d) :: es)
def kvOf (es : List Ent) : List (List Nat × D) := es.map fun q => (q.1, q.2.2)
def keyOf (k : List Nat) : Key := .inr ⟨k.toArray⟩
def kvK (es : List Ent) : List (Key × V) := es.map fun q => (keyOf q.1, q.2.1)
def trE1 (es : List Ent) : List (TE × TE) := es.map fun q => (tC (.str ⟨q.1.toArray⟩), tC q.2.1)
theorem pairs_const (σ : L2.St) (H : Hp) : ∀ (es : List Ent) (Q : List (V × V) → Hp → Prop), Q ((kvK es).map fun kv => (kV kv.1, kv.2)) H → tPairs (trE1 es) σ H Q
  | [], Q, h => h
  | q :: es, Q, h => pairs_const σ H es _ h
theorem ents_pps {X : Cx} {pos : Pos} {ks : List (Option Expr)} {vs : List Expr} {es : List Ent} (h : Ents ks vs es) : PPs X pos ks vs (trE1 es) ∧ ks.all (·.isSome) = true ∧ ks.length = vs.length ∧ ks.length = es.length := by
  induction h with
  | nil => exact ⟨pps_nil, rfl, rfl, rfl⟩
  | cons h1 h2 h3 h4 h5 ih =>
    rename_i k j p e v d ks vs es
    obtain ⟨i1, i2, i3, i4⟩ := ih
    refine ⟨pps_cons ?_ (h2 X) i1, by simp [i2], by simp [i3], by simp [i4]⟩
    have e : (⟨k.cps.toList.toArray⟩ : Str) = k := str_ext rfl
    show PE X _ (tC (.str ⟨k.cps.toList.toArray⟩))
    rw [e]
    exact pe_str
theorem valV_merge {j : Key} : ∀ (more acc : List (Key × V)), more.Pairwise (fun a b => a.1 ≠ b.1) → valV (mergeK acc more) j = (valV more j).or (valV acc j)
  | [], acc, _ => by simp [mergeK, valV]
  | p :: r, acc, h => by
    obtain ⟨h1, h2⟩ := List.pairwise_cons.mp h
    have e : mergeK acc (p :: r) = mergeK (putK acc p.1 p.2) r := rfl
    rw [e, valV_merge r _ h2, valV_put]
    by_cases q : j = p.1
    · subst q
      rw [if_pos rfl, valV_pos rfl]
      have : valV r p.1 = none := by
        unfold valV
        rw [Option.map_eq_none_iff, List.find?_eq_none]
        intro z hz
        simpa using fun w => h1 z hz w.symm
      rw [this]; rfl
    · rw [if_neg q, valV_neg (fun z => q z.symm)]
theorem ents_vals {ks : List (Option Expr)} {vs : List Expr} {es : List Ent} (h : Ents ks vs es) : (kvK es).Pairwise (fun a b => a.1 ≠ b.1) ∧ ∀ k d, kget k (kvOf es) = some d → ∃ v, valV (kvK es) (keyOf k) = some v ∧ Kst v d := by
  have inj : ∀ {a b : List Nat}, keyOf a = keyOf b → a = b := fun {a b} h => by
    unfold keyOf at h
    injection h with h
    injection h with h
    simpa using congrArg Array.toList h
  induction h with
  | nil => exact ⟨.nil, fun k d h => by simp [kvOf, kget] at h⟩
  | cons h1 h2 h3 h4 h5 ih =>
    rename_i k j p e v d ks vs es
    obtain ⟨i1, i2⟩ := ih
    refine ⟨List.pairwise_cons.mpr ⟨fun b hb => ?_, i1⟩, fun k' d' hk => ?_⟩
    · obtain ⟨q, hq, rfl⟩ := List.mem_map.mp hb
      intro z
      have := inj z
      have h6 : (es.any fun q => q.1 == k.cps.toList) = true := List.any_eq_true.mpr ⟨q, hq, beq_iff_eq.mpr this.symm⟩
      rw [h4] at h6; cases h6
    · simp only [kvOf, List.map_cons, kget] at hk
      by_cases q : k.cps.toList = k'
      · subst q
        rw [if_pos (by simp)] at hk
        cases hk
        exact ⟨v, valV_pos rfl, h3⟩
      · rw [if_neg (by simpa using q)] at hk
        obtain ⟨w, k1, k2⟩ := i2 k' d' hk
        exact ⟨w, by rw [← k1]; exact valV_neg fun z => q (inj z), k2⟩
section
variable {X : Cx} {T : Tab} {Φ : Fns} {fl : Nat → List Bool} {W : WX} {b : Expr} {cb : E} {p pos : Pos} {ks : List (Option Expr)} {vs : List Expr} {es : List Ent}
theorem pe_dselE (hu : X.A.units + 65 < cLine) (he : Ents ks vs es) (h0 : ks ≠ []) (h15 : ks.length ≤ 15) (hb : PE X b (rdE (cn X T) Φ fl W cb)) (hs : PlainIx b) : PE X (.Subscript (.Dict ks vs p) b pos) (rdE (cn X T) Φ fl W (.op (.gget (kvOf es)) (.cons cb .nil))) := by
  obtain ⟨h1, h2, h3, h4⟩ := ents_pps (X := X) (pos := p) he
  obtain ⟨k1, k2⟩ := ents_vals he
  refine PE.imp (pe_dget (by omega) (pe_disp h1 h2 h3 h0 h15) hb hs) fun σ H Q h => fun D hD => ?_
  refine pairs_const σ _ es _ ⟨upd_same, kvK es, rfl, by simp [kvK]; omega, ?_⟩
  obtain ⟨A, F, G, st, rel, h⟩ := h
  have eH : upd (upd H D (.dK [])) D (.dK (mergeK [] (kvK es))) = upd H D (.dK (mergeK [] (kvK es))) := funext fun a => by
    by_cases z : a = D
    · subst z; rw [upd_same, upd_same]
    · rw [upd_ne z, upd_ne z, upd_ne z]
  rw [eH]
  have f1 := rel.rnone hD
  have g1 := rel.gnone hD
  have relA := (rel.allocF (o := .dK (mergeK [] (kvK es))) hD).aside upd_same g1 (rel.notOwn hD)
  refine ⟨A, _, G, st, relA, ?_⟩
  rw [ev] at h
  simp only [evOs] at h
  cases q : ev Φ fl cb st with
  | no => rw [q] at h; exact h.elim
  | exc c =>
    rw [q] at h
    simp only [Res.bind] at h
    obtain ⟨x, ex, hx⟩ := h
    exact ⟨x, ex, fun σ' G' H' s1 s2 s3 s4 => hx σ' G' H' s1 (fun a o e => s2 a o (by rw [upd_ne (ne_of_none e f1)]; exact e)) s3 fun a o e => by
      have := s4 a o e
      by_cases z : a = D
      · subst z; exact f1
      · rw [upd_ne z] at this; exact this⟩
  | ok y =>
    obtain ⟨r, st1⟩ := y
    rw [q] at h
    simp only [Res.bind] at h
    intro y G3 H3 s3 rel3 p3
    obtain ⟨relB, b1, b2, b3⟩ := Rel.again f1 rel3
    have p3' : RR (cn X T) F G3 st1 σ H3 r y := by
      cases r with
      | val d => exact p3
      | var i => exact p3
      | fresh d =>
        obtain ⟨q, c1, c2, c3, c4, c5⟩ := p3
        refine ⟨q, c1, ?_, c3, c4, c5⟩
        by_cases z : q = D
        · subst z; exact f1
        · rw [upd_ne z] at c2; exact c2
    obtain ⟨G4, s4, relC, p4⟩ := RR.still relB p3'
    cases hl : looks st1 [r.still] with
    | none => rw [hl] at h; exact h.elim
    | some ds =>
      rw [hl] at h
      simp only at h
      have q5 := RRs.looks relC (rs := [r.still]) (vs := [y]) ⟨p4, trivial⟩ hl
      match ds, q5, h with
      | [e], q5, h =>
        have r1 := q5.1
        cases e with
        | str k =>
          obtain ⟨rfl, _⟩ := r1.str_inv
          cases hk : kget k (kvOf es) with
          | none => simp only [Op.run, Op.run1, Op.gget1, hk] at h; exact h.elim
          | some d =>
            simp only [Op.run, Op.run1, Op.gget1, hk] at h
            obtain ⟨v, m1, m2⟩ := k2 k d hk
            have e : valV (mergeK [] (kvK es)) (keyOf k) = some v := by rw [valV_merge _ _ k1, m1]; rfl
            refine ⟨D, v, rfl, .inl ⟨_, keyOf k, .inl b1, rfl, e.symm⟩, ?_⟩
            exact h v G4 H3 (s3.trans s4) relC m2.rep
        | _ => exact h.elim
      | [], q5, _ => exact q5.elim
      | _ :: _ :: _, q5, _ => exact q5.2.elim
end
end PV
set_option Elab.async false
set_option linter.all false
set_option maxRecDepth 100000
set_option maxHeartbeats 4000000
namespace PV
open PySem PySem.Spec PyProof.Rows L2
section
variable {X : Cx} {T : Tab}
def rMinD (K : PySem.W.Frag) : List V → Hp → VK → Prop := fun xs H Q => ∃ (a : Addr) (vs : List V) (x : PyData) (ds : List PyData), xs = [V.ref a] ∧ (SqL K H a vs ∨ SqT K H a vs) ∧ DpAll K H vs (x :: ds) ∧ PySem.W.AlikeAll (x :: ds) ∧ PyData.canLayAll0 (x :: ds) = true ∧ PyData.depthAll (x :: ds) ≤ 60 ∧ ∀ (i : Nat) (v : V), vs[i]? = some v → (x :: ds)[i]? = some (PySem.W.minD x ds) → Q v H
theorem cr_minD (hc : X.calm = true) (hu : X.A.units + 65 < cLine) : CallR X (.builtin "min") (rMinD X.K) := fun pins s σ H xs us Q I r h => by
  obtain ⟨a, vs, x, ds, ex, hs, hd, hal, hlay, hdp, q⟩ := h
  subst ex
  rw [Vals.ref1 r]
  have fin : ∀ (its : List Value), Vals vs its → ∀ (as : List Addr), ReadsAll s.heap its (x :: ds) as → ∀ (i : Nat) (u : Value) (h' : Heap) (tk : Nat) (bs : List Addr), its.toArray[i]? = some u → Reads h' u (PySem.W.minD x ds) bs → (∀ b o, s.heap.get? b = some o → h'.get? b = some o) → EP X pins σ Q u { s with heap := h', toks := tk } := fun its rv as h4 i u h' tk bs hi hr hk => by
    have hi : its[i]? = some u := by simpa using hi
    have hil := (List.getElem?_eq_some_iff.mp hi).1
    have hvl := rv.length
    obtain ⟨v, hv⟩ : ∃ v, vs[i]? = some v := ⟨vs[i], List.getElem?_eq_getElem (by omega)⟩
    obtain ⟨u', hu', ru⟩ := rv.get hv
    rw [hi] at hu'; cases hu'
    obtain ⟨bs', r1, l1, m1, _⟩ := PySem.W.readsAll_at h4 i u hi
    have e : (x :: ds).getD i .none = PySem.W.minD x ds := by
      have c1 := PyData.canLay0_of_mem _ _ hlay m1
      exact PySem.SeqAt.Reads.unique _ _ u _ _ c1 (Reads.keeps hk r1) hr
    refine ⟨v, H, I.kept (t' := tk) hk, ru, q i v hv ?_⟩
    rw [← e, List.getD_eq_getElem?_getD, List.getElem?_eq_getElem l1]; rfl
  rcases hs with hs | hs
  · obtain ⟨its, rv, pl, _⟩ := I.list hs
    obtain ⟨as, h4⟩ := Dp.readsAll I (x :: ds) _ its hd rv
    exact PySem.W.min_list_data (I.ok.hd hc) pl.isList (show ReadsAll s.heap its.toArray.toList (x :: ds) as from h4) hal (by omega) (fin its rv as h4)
  · obtain ⟨its, rv, pl, _⟩ := I.tuple hs
    obtain ⟨as, h4⟩ := Dp.readsAll I (x :: ds) _ its hd rv
    exact PySem.W.min_tuple_data (I.ok.hd hc) pl (show ReadsAll s.heap its.toArray.toList (x :: ds) as from h4) hal (by omega) (fin its rv as h4)
theorem minB_mem : ∀ (x : D) (xs : List D), minB x xs ∈ x :: xs
  | x, [] => by simp [minB]
  | x, y :: r => by
    rw [minB]
    split
    · have := minB_mem y r
      exact List.mem_cons_of_mem _ this
    · have := minB_mem x r
      rcases List.mem_cons.mp this with h | h
      · rw [h]; simp
      · exact List.mem_cons_of_mem _ (List.mem_cons_of_mem _ h)
theorem minB_py : ∀ (xs : List D) (x : D), (∀ a ∈ x :: xs, ∀ b ∈ x :: xs, alD a b = true) → (∀ a ∈ x :: xs, sh 49 a = true) → PySem.W.minD (toPy x) (toPys xs) = toPy (minB x xs)
  | [], x, _, _ => by simp [PySem.W.minD, toPys, minB]
  | y :: r, x, ha, hs => by
    have e : PySem.W.minD (toPy x) (toPys (y :: r)) = PySem.W.minD (if PySem.W.dataLt (toPy y) (toPy x) then toPy y else toPy x) (toPys r) := by
      unfold PySem.W.minD
      rw [toPys, List.foldl_cons]
    rw [e, lt_py y x 49 49 (hs y (by simp)) (hs x (by simp)) (ha y (by simp) x (by simp)), minB]
    split
    · exact minB_py r y (fun a h1 b h2 => ha a (List.mem_cons_of_mem _ h1) b (List.mem_cons_of_mem _ h2)) fun a h1 => hs a (List.mem_cons_of_mem _ h1)
    · have sub : ∀ a, a ∈ x :: r → a ∈ x :: y :: r := fun a h => by
        rcases List.mem_cons.mp h with h | h
        · rw [h]; simp
        · simp [h]
      exact minB_py r x (fun a h1 b h2 => ha a (sub a h1) b (sub b h2)) fun a h1 => hs a (sub a h1)
theorem cs_min : CallS (cn X T) .min1 (rMinD X.K) := fun σ vs H Q h => by
  obtain ⟨A, F, G, st, x, d, z, rfl, rel, h1, hz, ok⟩ := h.uni (run_uni (fun _ _ => rfl) (fun _ _ _ => rfl))
  have hz : Op.min11 d = some z := hz
  have main : ∀ (l : List D) (p : Addr) (ws : List V), Op.minL l = some z → Reps (cn X T) G ws l → x = .ref p → (SqL X.K H p ws ∨ SqT X.K H p ws) → rMinD X.K [x] H Q := fun l p ws hz r1 hx hs => by
    cases l with
    | nil => cases hz
    | cons d0 ds =>
      simp only [Op.minL] at hz
      split at hz
      · rename_i hq
        cases hz
        simp only [Bool.and_eq_true, List.all_eq_true] at hq
        obtain ⟨⟨q1, q2⟩, q3⟩ := hq
        have al := alAll_ok q1
        have sm := shs_mem q3
        have hd := Reps.dp 49 (r1.mono rel.subG) q3
        refine ⟨p, ws, toPy d0, toPys ds, by rw [hx], hs, by simpa [toPys] using hd.1, ⟨fun a ha b hb => ?_, fun a ha => ?_⟩, by simpa [toPys] using hd.2, Nat.le_trans (by simpa [toPys] using depths_py 49 (d0 :: ds) q3) (by omega), fun i v hv hm => ?_⟩
        · rw [show toPy d0 :: toPys ds = (d0 :: ds).map toPy by rw [toPys_map]; rfl] at ha hb
          obtain ⟨a', k1, rfl⟩ := List.mem_map.mp ha
          obtain ⟨b', k2, rfl⟩ := List.mem_map.mp hb
          exact al_py a' b' (al a' k1 b' k2)
        · rw [show toPy d0 :: toPys ds = (d0 :: ds).map toPy by rw [toPys_map]; rfl] at ha
          obtain ⟨a', k1, rfl⟩ := List.mem_map.mp ha
          have h1 := q2 a' k1
          have h2 := sm a' k1
          clear k1 ha
          cases a' <;> first | (simp [isNotN] at h1; done) | (simp [sh] at h2; done) | simp [toPy]
        · obtain ⟨d1, k1, k2⟩ := r1.getV hv
          rw [minB_py ds d0 al sm, show toPy d0 :: toPys ds = (d0 :: ds).map toPy by rw [toPys_map]; rfl, List.getElem?_map, k1] at hm
          have e : toPy d1 = toPy (minB d0 ds) := Option.some.inj hm
          have m1 := List.mem_of_getElem? k1
          have m2 := minB_mem d0 ds
          have lay := (Rep.dp 49 k2 (sm d1 m1)).2
          have e2 : eqD d1 (minB d0 ds) = true := by
            rw [← eqv_py d1 (minB d0 ds) 49 49 (sm _ m1) (sm _ m2), ← e]
            exact PySem.SeqAt.eqv_refl _ lay
          have e3 := eqD_al d1 (minB d0 ds) (al _ m1 _ m2) e2
          rw [e3] at k2
          exact ok.pure rel k2
      · cases hz
  cases d with
  | lst l =>
    obtain ⟨p, ws, rfl, g1, r1⟩ := h1.lst_inv rel.subG
    exact main l p ws hz r1 rfl (.inl (.inl (.inl g1)))
  | tup l =>
    obtain ⟨p, ws, rfl, g1, _, r1⟩ := h1.tup_inv rel.subG
    exact main l p ws hz r1 rfl (.inr g1.sq)
  | _ => cases hz
end
end PV
set_option Elab.async false
set_option linter.all false
set_option maxRecDepth 100000
set_option maxHeartbeats 4000000
namespace PV
open PySem PySem.Spec PyProof.Rows L2
/-- what is known where a text stands -/
structure Tx where
  N : List Str
  sc : Scope
  fnc : Str → Bool
  fs : List (Str × Nat × Nat)
  bt : List Str
  xs : List (Str × Nat)
  ds : List (Str × List (List Nat × D))
  xi : List (Str × List Nat)
  tr : List (Str × Nat)
def relS (scope sc : Scope) : Scope := { scope with names := scope.names.map fun (n, k) => if (k == .free && sc.kind == .function && sc.names.lookup n == some .cell) then (n, .cell) else (n, k) }
def Tx.blk (τ : Tx) (scope : Scope) : Tx := { τ with sc := relS scope τ.sc, fnc := fun x => scope.names.lookup x == some .cell }
/-- a class of errors of the program's own -/
def XOk (X : Cx) (T : Tab) (k : Nat) (x : Str) : Prop := ∃ (C : Addr) (bmB : List Value) (B newId initId : String), ExcBaseFacts B newId initId bmB ∧ PySem.W.excIn X.K C bmB newId = true ∧ X.mg x = some (.ref C) ∧ PySem.W.keepIn X.K (.ref C) = true ∧ Raises X (.ref C) ∧ T.xa k = some C
structure Ok (X : Cx) (T : Tab) (Φ : Fns) (W : WX) (τ : Tx) : Prop where
  N : X.N = τ.N
  nd : X.N.Nodup
  sc : X.env.scope = τ.sc
  calm : X.calm = true
  un : X.A.units + 65 < cLine
  takes : Takes X W
  fn : ∀ x, τ.fnc x = true → X.fn x = true
  bt : ∀ x, τ.bt.contains x = true → X.mg x = none
  fs : ∀ x f np, τ.fs.lookup x = some (f, np) → ∃ k, Room k X.A ∧ CallOk X T Φ k f np x ∧ ∀ as, (∃ y, Φ f as = .ok y) ∨ (∃ c, Φ f as = .exc c) → as.length = np
  xs : ∀ x k, τ.xs.lookup x = some k → XOk X T k x
  ds : ∀ x kvs, τ.ds.lookup x = some kvs → DOk X x kvs
  fv : ∀ k ad, T.fa k = some ad → ∃ np, DefAt X (L2.CX X.prog X.w) ad (spF (cn X T) Φ k np) ∧ ∀ as, (∃ y, Φ k as = .ok y) ∨ (∃ c, Φ k as = .exc c) → as.length = np
  fa : ∀ x f np, τ.fs.lookup x = some (f, np) → ∃ ad, X.mg x = some (.ref ad) ∧ T.fa f = some ad
  xi : ∀ y l, τ.xi.lookup y = some l → XiOk X T y l
  tr : ∀ x m, τ.tr.lookup x = some m → TrOk X T x m
theorem Ok.blk {X : Cx} {T : Tab} {Φ : Fns} {W : WX} {τ : Tx} (o : Ok X T Φ W τ) (scope : Scope) (s : Shared) (H : Hp) (C : Addr) (cl : List (Str × Addr)) (fp : List Addr) : Ok (X.blk s H scope (compEnvC scope cl C X.env) fp) T Φ WF (τ.blk scope) :=
  ⟨o.N, o.nd, by show relabel scope X.env = relS scope τ.sc; rw [← o.sc]; rfl, o.calm, o.un, takes0, fun x h => h, o.bt, fun x f np h => by obtain ⟨k, a, ⟨b⟩, c⟩ := o.fs x f np h; exact ⟨k, a, ⟨b⟩, c⟩, o.xs, o.ds, fun k ad h => by obtain ⟨np, ⟨x⟩, h2⟩ := o.fv k ad h; exact ⟨np, ⟨x⟩, h2⟩, o.fa, o.xi, o.tr⟩
theorem Ok.tr' {X : Cx} {T : Tab} {Φ : Fns} {W W' : WX} {τ : Tx} (o : Ok X T Φ W τ) (pn : List (Addr × Obj)) (xe : Value → Shared → Prop) (tk : Takes (X.tr pn xe) W') : Ok (X.tr pn xe) T Φ W' τ :=
  ⟨o.N, o.nd, o.sc, o.calm, o.un, tk, o.fn, o.bt, fun x f np h => by obtain ⟨k, a, ⟨b⟩, c⟩ := o.fs x f np h; exact ⟨k, a, ⟨b⟩, c⟩, o.xs, o.ds, fun k ad h => by obtain ⟨np, ⟨x⟩, h2⟩ := o.fv k ad h; exact ⟨np, ⟨x⟩, h2⟩, o.fa, o.xi, o.tr⟩
/-- an expression's translation serves -/
def tst : Expr → Bool
  | .IfExp .. => false
  | _ => true
def SE (τ : Tx) (e : Expr) (c : E) : Prop := ∀ (X : Cx) (T : Tab) (Φ : Fns) (fl : Nat → List Bool) (W : WX), Ok X T Φ W τ → PE X e (rdE (cn X T) Φ fl W c) ∧ (tst e = true → PT X e (rdT (cn X T) Φ fl W c))
abbrev RE (τ : Tx) (e : Expr) := Option {c : E // SE τ e c}
theorem SE.plain {τ : Tx} {e : Expr} {c : E} (h : plainT e = true) (k : ∀ (X : Cx) (T : Tab) (Φ : Fns) (fl : Nat → List Bool) (W : WX), Ok X T Φ W τ → PE X e (rdE (cn X T) Φ fl W c)) : SE τ e c := fun X T Φ fl W o => ⟨k X T Φ fl W o, fun _ => pt_plain (k X T Φ fl W o) h⟩
def visB (sc : Scope) (x : Str) : Bool := match sc.names.lookup x with
  | some .local => true
  | some .cell => true
  | some .free => true
  | _ => false
theorem visB_ok {sc : Scope} {x : Str} (h : visB sc x = true) : Vis sc x := by
  unfold visB at h
  split at h
  · rename_i e; exact .inl e
  · rename_i e; exact .inr (.inl e)
  · rename_i e; exact .inr (.inr e)
  · cases h
def glB (sc : Scope) (x : Str) : Bool := match sc.names.lookup x with
  | some .globalImplicit => true
  | _ => false
theorem glB_ok {X : Cx} {sc : Scope} {x : Str} (e : X.env.scope = sc) (h : glB sc x = true) : Gl X x := by
  show X.env.scope.names.lookup x = _
  rw [e]
  unfold glB at h
  split at h
  · rename_i e; exact e
  · cases h
def locB (τ : Tx) (x : Str) : Bool := match τ.sc.names.lookup x with
  | some .local => true
  | some .cell => τ.fnc x
  | _ => false
theorem locB_ok {X : Cx} {T : Tab} {Φ : Fns} {W : WX} {τ : Tx} {x : Str} (o : Ok X T Φ W τ) (h : locB τ x = true) : Loc X.env.scope x ∧ (X.fn x = true ∨ X.env.scope.names.lookup x = some .local) := by
  rw [o.sc]
  unfold locB at h
  split at h
  · rename_i e; exact ⟨.inl e, .inr e⟩
  · rename_i e; exact ⟨.inr e, .inl (o.fn x h)⟩
  · cases h
def plB (sc : Scope) (x : Str) : Bool := match sc.names.lookup x with
  | some .local => true
  | _ => false
theorem plB_ok {X : Cx} {sc : Scope} {x : Str} (e : X.env.scope = sc) (h : plB sc x = true) : X.env.scope.names.lookup x = some .local := by
  rw [e]
  unfold plB at h
  split at h
  · rename_i e; exact e
  · cases h
def sameS (x y : Str) : Bool := x.cps.toList == y.cps.toList
theorem sameS_ok {x y : Str} (h : sameS x y = true) : x = y := by
  have : x.cps.toList = y.cps.toList := by simpa [sameS] using h
  cases x; cases y
  have := Array.toList_inj.mp this
  simp_all
def idxF (x : Str) : Nat → List Str → Option Nat
  | _, [] => none
  | i, y :: r => if sameS y x then some i else idxF x (i + 1) r
theorem idxF_ok {x : Str} : ∀ {N : List Str} {i j : Nat}, idxF x i N = some j → i ≤ j ∧ N[j - i]? = some x
  | [], _, _, h => by simp [idxF] at h
  | y :: r, i, j, h => by
    simp only [idxF] at h
    split at h
    · rename_i e
      cases h
      exact ⟨Nat.le_refl _, by rw [Nat.sub_self]; simp [sameS_ok e]⟩
    · obtain ⟨h1, h2⟩ := idxF_ok h
      refine ⟨by omega, ?_⟩
      rw [show j - i = (j - (i + 1)) + 1 by omega]
      simpa using h2
def idxS (N : List Str) (x : Str) : Option {i : Nat // N[i]? = some x} := match h : idxF x 0 N with
  | some i => some ⟨i, by simpa using (idxF_ok h).2⟩
  | none => none
def plainName (x : Str) : Bool := !(x == ("__debug__" : Str)) && !(x == ("__classdict__" : Str)) && !(x == ("__name__" : Str))
theorem plainName_ok {x : Str} (h : plainName x = true) : (x == ("__debug__" : Str)) = false ∧ (x == ("__classdict__" : Str)) = false ∧ x ≠ "__name__" := by
  simp only [plainName, Bool.and_eq_true, Bool.not_eq_true'] at h
  refine ⟨h.1.1, h.1.2, fun z => ?_⟩
  subst z
  exact absurd h.2 (by decide)
def BinR (op : Operator) (o : Op) : Prop := ∀ (X : Cx) (T : Tab), ∃ r, OpR X (binaryOp op) r ∧ OpS (cn X T) o r
def binR : (op : Operator) → Option {o : Op // BinR op o}
  | .Add => some ⟨.add, fun X T => ⟨_, opr_add, ops_add⟩⟩
  | .Sub => some ⟨.sub, fun X T => ⟨_, op_sub, ops_sub⟩⟩
  | .Mult => some ⟨.mul, fun X T => ⟨_, op_mulW.or (op_mulS.or (op_repA.or op_rep)), ops_mul⟩⟩
  | .FloorDiv => some ⟨.fdiv, fun X T => ⟨_, opr_fdiv, ops_fdiv⟩⟩
  | .Mod => some ⟨.mod, fun X T => ⟨_, op_modN, ops_mod⟩⟩
  | .Pow => some ⟨.pow, fun X T => ⟨_, op_pow, ops_pow⟩⟩
  | _ => none
def CmpR (op : CmpOp) (o : Op) : Prop := ∀ (X : Cx) (T : Tab), X.A.units + 65 < cLine → ∃ r, OpR X (compareOp op) r ∧ OpS (cn X T) o r
def cmpR : (op : CmpOp) → Option {o : Op // CmpR op o}
  | .Eq => some ⟨.eq, fun X T h => ⟨_, op_eqD (by omega), ops_eq⟩⟩
  | .NotEq => some ⟨.ne, fun X T h => ⟨_, op_neD (by omega), ops_ne⟩⟩
  | .Lt => some ⟨.lt, fun X T h => ⟨_, opr_lt h, ops_lt⟩⟩
  | .LtE => some ⟨.le, fun X T h => ⟨_, opr_le h, ops_le⟩⟩
  | .Gt => some ⟨.gt, fun X T h => ⟨_, opr_gt h, ops_gt⟩⟩
  | .GtE => some ⟨.ge, fun X T h => ⟨_, opr_ge h, ops_ge⟩⟩
  | .In => some ⟨.mem, fun X T h => ⟨_, opr_mem h, ops_mem⟩⟩
  | .NotIn => some ⟨.nmem, fun X T h => ⟨_, opr_nmem h, ops_nmem⟩⟩
  | .Is => some ⟨.isB, fun X T h => ⟨_, op_isBl, ops_isB⟩⟩
  | .IsNot => some ⟨.notB, fun X T h => ⟨_, op_notBl, ops_notB⟩⟩
def BtR (x : Str) (o : Op) : Prop := (∃ id, bootBuiltins x = some (.builtin id) ∧ ∀ (X : Cx) (T : Tab), X.calm = true → X.A.units + 65 < cLine → ∃ r, CallR X (.builtin id) r ∧ CallS (cn X T) o r) ∨ (∃ id, bootBuiltins x = some (.type id) ∧ ∀ (X : Cx) (T : Tab), X.calm = true → X.A.units + 65 < cLine → ∃ r, CallR X (.type id) r ∧ CallS (cn X T) o r)
def btR (x : Str) (n : Nat) : Option {o : Op // BtR x o} :=
  if h : x = "len" then (if n = 1 then some ⟨.len, by subst h; exact .inl ⟨_, by decide +kernel, fun X T hc _ => ⟨_, cr_len, cs_lenD⟩⟩⟩ else none)
  else if h : x = "tuple" then (if n = 1 then some ⟨.tupleOf, by subst h; exact .inr ⟨_, by decide +kernel, fun X T hc _ => ⟨_, call_tupF, cs_tuple⟩⟩⟩ else none)
  else if h : x = "list" then (if n = 1 then some ⟨.listOf, by subst h; exact .inr ⟨_, by decide +kernel, fun X T hc _ => ⟨_, cr_list hc, cs_list⟩⟩⟩ else none)
  else if h : x = "int" then (if n = 1 then some ⟨.intOf, by subst h; exact .inr ⟨_, by decide +kernel, fun X T hc _ => ⟨_, call_int1, cs_int⟩⟩⟩ else none)
  else if h : x = "dict" then (if n = 1 then some ⟨.dictOf, by subst h; exact .inr ⟨_, by decide +kernel, fun X T hc hu => ⟨_, call_dictO hc (by omega), cs_dict⟩⟩⟩ else none)
  else if h : x = "abs" then (if n = 1 then some ⟨.abs, by subst h; exact .inl ⟨_, by decide +kernel, fun X T hc _ => ⟨_, call_abs, cs_abs⟩⟩⟩ else none)
  else if h : x = "all" then (if n = 1 then some ⟨.all, by subst h; exact .inl ⟨_, by decide +kernel, fun X T hc _ => ⟨_, cr_all hc, cs_all⟩⟩⟩ else none)
  else if h : x = "any" then (if n = 1 then some ⟨.any, by subst h; exact .inl ⟨_, by decide +kernel, fun X T hc _ => ⟨_, cr_any hc, cs_any⟩⟩⟩ else none)
  else if h : x = "sum" then (if n = 1 then some ⟨.sum, by subst h; exact .inl ⟨_, by decide +kernel, fun X T hc _ => ⟨_, cr_sum hc, cs_sum⟩⟩⟩ else none)
  else if h : x = "max" then (if n = 1 then some ⟨.max1, by subst h; exact .inl ⟨_, by decide +kernel, fun X T hc _ => ⟨_, cr_max hc, cs_max1⟩⟩⟩ else if n = 2 then some ⟨.max2, by subst h; exact .inl ⟨_, by decide +kernel, fun X T hc _ => ⟨_, call_max2 hc, cs_max2⟩⟩⟩ else none)
  else if h : x = "sorted" then (if n = 1 then some ⟨.sortedOf, by subst h; exact .inl ⟨_, by decide +kernel, fun X T hc hu => ⟨_, cr_sortedA hc hu, cs_sorted⟩⟩⟩ else none)
  else if h : x = "min" then (if n = 1 then some ⟨.min1, by subst h; exact .inl ⟨_, by decide +kernel, fun X T hc hu => ⟨_, cr_minD hc hu, cs_min⟩⟩⟩ else if n = 2 then some ⟨.min2, by subst h; exact .inl ⟨_, by decide +kernel, fun X T hc _ => ⟨_, call_min2 hc, cs_min2⟩⟩⟩ else none)
  else none
def tyOf (x : Str) : Option {t : Ty // x = t.py} :=
  if h : x = "int" then some ⟨.int, h⟩ else if h : x = "bool" then some ⟨.bool, h⟩ else if h : x = "str" then some ⟨.str, h⟩
  else if h : x = "tuple" then some ⟨.tuple, h⟩ else if h : x = "list" then some ⟨.list, h⟩ else if h : x = "dict" then some ⟨.dict, h⟩ else none
end PV
set_option Elab.async false
set_option linter.all false
set_option maxRecDepth 100000
set_option maxHeartbeats 4000000
namespace PV
open PySem PySem.Spec PyProof.Rows L2
section
variable {τ : Tx}
/-- several expressions -/
def SEs (τ : Tx) (es : List Expr) (cs : Es) : Prop := (es.all fun e => !isStar e) = true ∧ ∀ (X : Cx) (T : Tab) (Φ : Fns) (fl : Nat → List Bool) (W : WX), Ok X T Φ W τ → PA X es (rdOs (cn X T) Φ fl W cs) ∧ PA X es (rdVs (cn X T) Φ fl W cs) ∧ PA X es (rdAs (cn X T) Φ fl W cs) ∧ PA X es (rdPs (cn X T) Φ fl W cs)
theorem SEs.nil : SEs τ [] .nil := ⟨rfl, fun X T Φ fl W o => ⟨pa_os0, pa_vs0, pa_as0, pa_ps0⟩⟩
theorem SEs.cons {e : Expr} {es : List Expr} {c : E} {cs : Es} (h : SE τ e c) (hs : SEs τ es cs) (n : isStar e = false) : SEs τ (e :: es) (.cons c cs) := ⟨by simp [n, hs.1], fun X T Φ fl W o => by
  obtain ⟨h1, h2, h3, h4⟩ := hs.2 X T Φ fl W o
  have h0 := (h X T Φ fl W o).1
  exact ⟨pa_os h0 h1 n, pa_vs h0 h2 n, pa_as h0 h3 n, pa_ps h0 h4 n⟩⟩
def trEs (rec : (e : Expr) → RE τ e) : (es : List Expr) → Option {cs : Es // SEs τ es cs}
  | [] => some ⟨.nil, .nil⟩
  | e :: es => if n : isStar e = false then (match rec e with
    | some ⟨c, h⟩ => (match trEs rec es with
      | some ⟨cs, hs⟩ => some ⟨.cons c cs, .cons h hs n⟩
      | none => none)
    | none => none) else none
def SW (τ : Tx) (e : Expr) (c : E) : Prop := ∀ (X : Cx) (T : Tab) (Φ : Fns) (fl : Nat → List Bool) (W : WX), Ok X T Φ W τ → PE X e (rdE (cn X T) Φ fl W c) ∧ PW X e (rdT (cn X T) Φ fl W c)
theorem SW.se {e : Expr} {c : E} (h : SW τ e c) : SE τ e c := fun X T Φ fl W o => ⟨(h X T Φ fl W o).1, fun _ => (h X T Φ fl W o).2.pt⟩
def trAnd (rec : (e : Expr) → RE τ e) (p : Pos) : (es : List Expr) → Option {c : E // SW τ (.BoolOp .And es p) c}
  | [] => none
  | [a] => if n : tst a = true then (match rec a with
    | some ⟨c, h⟩ => some ⟨c, fun X T Φ fl W o => ⟨pe_one (h X T Φ fl W o).1, pw_and1 ((h X T Φ fl W o).2 n)⟩⟩
    | none => none) else none
  | a :: b :: r => if n : tst a = true then (match rec a with
    | some ⟨c, h⟩ => (match trAnd rec p (b :: r) with
      | some ⟨d, h2⟩ => some ⟨.and c d, fun X T Φ fl W o => ⟨pe_andE (h X T Φ fl W o).1 (h2 X T Φ fl W o).1, pw_andT ((h X T Φ fl W o).2 n) (h2 X T Φ fl W o).2⟩⟩
      | none => none)
    | none => none) else none
def trOr (rec : (e : Expr) → RE τ e) (p : Pos) : (es : List Expr) → Option {c : E // SW τ (.BoolOp .Or es p) c}
  | [] => none
  | [a] => if n : tst a = true then (match rec a with
    | some ⟨c, h⟩ => some ⟨c, fun X T Φ fl W o => ⟨pe_one (h X T Φ fl W o).1, pw_or1 ((h X T Φ fl W o).2 n)⟩⟩
    | none => none) else none
  | a :: b :: r => if n : tst a = true then (match rec a with
    | some ⟨c, h⟩ => (match trOr rec p (b :: r) with
      | some ⟨d, h2⟩ => some ⟨.or c d, fun X T Φ fl W o => ⟨pe_orE (h X T Φ fl W o).1 (h2 X T Φ fl W o).1, pw_orT ((h X T Φ fl W o).2 n) (h2 X T Φ fl W o).2⟩⟩
      | none => none)
    | none => none) else none
def okB (x : Str) : Bool := x.cps.toList.all fun c => Nat.blt c 0x110000
theorem okB_ok {x : Str} (h : okB x = true) : okS x.cps.toList := fun c hc => by
  have := List.all_eq_true.mp h c hc
  exact Nat.le_of_ble_eq_true this
def trConst (k : Const) (j : Nat) (p : Pos) : RE τ (.Constant k j p) := match k with
  | .none => some ⟨.c .non, .plain rfl fun X T Φ fl W o => pe_k pe_non fun G => .non⟩
  | .bool b => some ⟨.c (.bl b), .plain rfl fun X T Φ fl W o => pe_k pe_bl fun G => .bl b⟩
  | .int i => some ⟨.c (.int i), .plain rfl fun X T Φ fl W o => pe_k pe_int fun G => .int i⟩
  | .str x => if h : okB x = true then some ⟨.c (.str x.cps.toList), .plain rfl fun X T Φ fl W o => pe_k pe_str fun G => .str x.cps.toList (okB_ok h)⟩ else none
  | _ => none
/-- the name of a def -/
def trFnv (x : Str) (p : Pos) : RE τ (.Name x p) :=
  if g : glB τ.sc x = true ∧ plainName x = true then (match hf : τ.fs.lookup x with
    | some (f, np) => some ⟨.c (.fn f), .plain rfl fun X T Φ fl W k => by
      obtain ⟨ad, h1, h2⟩ := k.fa x f np hf
      exact pe_fnv (glB_ok k.sc g.1) h1 h2 (plainName_ok g.2).1⟩
    | none => none) else none
def trName (x : Str) (p : Pos) : RE τ (.Name x p) :=
  if h : visB τ.sc x = true then (if n : plainName x = true then (match idxS τ.N x with
    | some ⟨i, hi⟩ => some ⟨.v i, .plain rfl fun X T Φ fl W o => pe_v (by rw [o.N]; exact hi) (by rw [o.sc]; exact visB_ok h) (plainName_ok n).1 (plainName_ok n).2.1⟩
    | none => none) else none) else trFnv x p
def trBin (rec : (e : Expr) → RE τ e) (a : Expr) (op : Operator) (b : Expr) (p : Pos) : RE τ (.BinOp a op b p) := match binR op with
  | some ⟨o, ho⟩ => (match rec a, rec b with
    | some ⟨ca, ha⟩, some ⟨cb, hb⟩ => some ⟨.op o (.cons ca (.cons cb .nil)), .plain rfl fun X T Φ fl W k => by
      obtain ⟨r, h1, h2⟩ := ho X T
      exact pe_bin h1 h2 (ha X T Φ fl W k).1 (hb X T Φ fl W k).1⟩
    | _, _ => none)
  | none => none
def trCmp (rec : (e : Expr) → RE τ e) (a : Expr) (op : CmpOp) (b : Expr) (p : Pos) : RE τ (.Compare a [op] [b] p) :=
  if n : behindInMarks op b = false then (match cmpR op with
    | some ⟨o, ho⟩ => (match rec a, rec b with
      | some ⟨ca, ha⟩, some ⟨cb, hb⟩ => some ⟨.op o (.cons ca (.cons cb .nil)), fun X T Φ fl W k => by
        obtain ⟨r, h1, h2⟩ := ho X T k.un
        exact ⟨pe_cmp1 h1 h2 (ha X T Φ fl W k).1 (hb X T Φ fl W k).1 n, fun _ => pt_cmp2 h1 h2 (ha X T Φ fl W k).1 (hb X T Φ fl W k).1 n⟩⟩
      | _, _ => none)
    | none => none) else none
def trGin (rec : (e : Expr) → RE τ e) (a : Expr) (x : Str) (q p : Pos) : RE τ (.Compare a [.In] [.Name x q] p) :=
  if g : glB τ.sc x = true ∧ plainName x = true then (match hk : τ.ds.lookup x with
    | some kvs => (match rec a with
      | some ⟨ca, ha⟩ => some ⟨.op (.gin kvs false) (.cons ca .nil), fun X T Φ fl W k => ⟨(pe_ginE (k.ds x kvs hk) (glB_ok k.sc g.1) (plainName_ok g.2).1 (ha X T Φ fl W k).1).1, fun _ => (pe_ginE (k.ds x kvs hk) (glB_ok k.sc g.1) (plainName_ok g.2).1 (ha X T Φ fl W k).1).2⟩⟩
      | none => none)
    | none => none) else none
def trGinN (rec : (e : Expr) → RE τ e) (a : Expr) (x : Str) (q p : Pos) : RE τ (.Compare a [.NotIn] [.Name x q] p) :=
  if g : glB τ.sc x = true ∧ plainName x = true then (match hk : τ.ds.lookup x with
    | some kvs => (match rec a with
      | some ⟨ca, ha⟩ => some ⟨.op (.gin kvs true) (.cons ca .nil), fun X T Φ fl W k => ⟨(pe_ginNE (k.ds x kvs hk) (glB_ok k.sc g.1) (plainName_ok g.2).1 (ha X T Φ fl W k).1).1, fun _ => (pe_ginNE (k.ds x kvs hk) (glB_ok k.sc g.1) (plainName_ok g.2).1 (ha X T Φ fl W k).1).2⟩⟩
      | none => none)
    | none => none) else none
def trCmps (rec : (e : Expr) → RE τ e) (a : Expr) (ops : List CmpOp) (bs : List Expr) (p : Pos) : RE τ (.Compare a ops bs p) := match ops, bs with
  | [.Is], [.Constant .none j q] => (match rec a with
    | some ⟨ca, ha⟩ => some ⟨.op .isN (.cons ca .nil), fun X T Φ fl W k => ⟨pe_isN (ha X T Φ fl W k).1, fun _ => pt_isN (ha X T Φ fl W k).1⟩⟩
    | none => none)
  | [.IsNot], [.Constant .none j q] => (match rec a with
    | some ⟨ca, ha⟩ => some ⟨.op .notN (.cons ca .nil), fun X T Φ fl W k => ⟨pe_notN (ha X T Φ fl W k).1, fun _ => pt_notN (ha X T Φ fl W k).1⟩⟩
    | none => none)
  | [.In], [.Name x q] => (match trGin rec a x q p with
    | some c => some c
    | none => trCmp rec a .In (.Name x q) p)
  | [.NotIn], [.Name x q] => (match trGinN rec a x q p with
    | some c => some c
    | none => trCmp rec a .NotIn (.Name x q) p)
  | [op], [b] => trCmp rec a op b p
  | [op, op'], [b, c] => if n : lastMarks [op, op'] [b, c] = false then (match cmpR op, cmpR op' with
    | some ⟨o, ho⟩, some ⟨o', ho'⟩ => (match rec a, rec b, rec c with
      | some ⟨ca, ha⟩, some ⟨cb, hb⟩, some ⟨cc, hc⟩ => some ⟨.chain o o' ca cb cc, fun X T Φ fl W k => by
        obtain ⟨r, h1, h2⟩ := ho X T k.un
        obtain ⟨r', h1', h2'⟩ := ho' X T k.un
        exact ⟨pe_chainE h1 h1' h2 h2' (ha X T Φ fl W k).1 (hb X T Φ fl W k).1 (hc X T Φ fl W k).1 n, fun _ => pt_chainT h1 h1' h2 h2' (ha X T Φ fl W k).1 (hb X T Φ fl W k).1 (hc X T Φ fl W k).1 n⟩⟩
      | _, _, _ => none)
    | _, _ => none) else none
  | _, _ => none
def trUn (rec : (e : Expr) → RE τ e) (op : UnaryOp) (a : Expr) (p : Pos) : RE τ (.UnaryOp op a p) := match op with
  | .USub => (match rec a with
    | some ⟨ca, ha⟩ => some ⟨.op .neg (.cons ca .nil), .plain rfl fun X T Φ fl W k => pe_neg (ha X T Φ fl W k).1⟩
    | none => none)
  | .Not => if n : tst a = true then (match rec a with
    | some ⟨ca, ha⟩ => some ⟨.not ca, fun X T Φ fl W k => ⟨pe_notE (ha X T Φ fl W k).1, fun _ => pt_notT ((ha X T Φ fl W k).2 n)⟩⟩
    | none => none) else none
  | _ => none
def isSlice : Expr → Bool
  | .Slice .. => true
  | _ => false
theorem plainIx_of {b : Expr} (h : isSlice b = false) : PlainIx b := fun o i => by
  cases b <;> first | rfl | (exact nomatch h)
/-- the entries of a display of constants -/
def constOf (e : Expr) : Option {q : V × D // (∀ X : Cx, PE X e (tC q.1)) ∧ Kst q.1 q.2} := match e with
  | .Constant .none j p => some ⟨(.non, .non), fun X => pe_non, .non⟩
  | .Constant (.bool b) j p => some ⟨(.bl b, .bl b), fun X => pe_bl, .bl b⟩
  | .Constant (.int i) j p => some ⟨(.int i, .int i), fun X => pe_int, .int i⟩
  | .Constant (.str x) j p => if h : okB x = true then some ⟨(.str x, .str x.cps.toList), fun X => pe_str, by
      have e : x = ⟨x.cps.toList.toArray⟩ := str_ext rfl
      have := Kst.str x.cps.toList (okB_ok h)
      rw [← e] at this
      exact this⟩ else none
  | .UnaryOp .USub (.Constant (.int i) j p) q => some ⟨(.int (-i), .int (-i)), fun X => PE.imp (pe_un un_neg pe_int) fun σ H Q h => ⟨i, rfl, h⟩, .int (-i)⟩
  | _ => none
def entsOf : (ks : List (Option Expr)) → (vs : List Expr) → Option {es : List Ent // Ents ks vs es}
  | [], [] => some ⟨[], .nil⟩
  | some (.Constant (.str k) j p) :: ks, e :: vs => (match constOf e, entsOf ks vs with
    | some ⟨(v, d), h⟩, some ⟨es, hs⟩ => if g : okB k = true ∧ (es.any fun q => q.1 == k.cps.toList) = false then some ⟨(k.cps.toList, v, d) :: es, .cons (okB_ok g.1) h.1 h.2 g.2 hs⟩ else none
    | _, _ => none)
  | _, _ => none
/-- a constant dict with a subscript -/
def trGet (rec : (e : Expr) → RE τ e) (a b : Expr) (p : Pos) (n : isSlice b = false) : RE τ (.Subscript a b p) := match a with
  | .Name x q => if g : glB τ.sc x = true ∧ plainName x = true then (match hk : τ.ds.lookup x with
    | some kvs => (match rec b with
      | some ⟨cb, hb⟩ => some ⟨.op (.gget kvs) (.cons cb .nil), .plain rfl fun X T Φ fl W k => pe_ggetE (k.ds x kvs hk) (glB_ok k.sc g.1) (plainName_ok g.2).1 (hb X T Φ fl W k).1 (plainIx_of n)⟩
      | none => none)
    | none => none) else none
  | .Dict ks vs q => if g : ks.length ≤ 15 ∧ ks.length ≠ 0 then (match entsOf ks vs, rec b with
    | some ⟨es, he⟩, some ⟨cb, hb⟩ => some ⟨.op (.gget (kvOf es)) (.cons cb .nil), .plain rfl fun X T Φ fl W k => pe_dselE k.un he (fun z => g.2 (by rw [z]; rfl)) g.1 (hb X T Φ fl W k).1 (plainIx_of n)⟩
    | _, _ => none) else none
  | _ => none
def trSub (rec : (e : Expr) → RE τ e) (a b : Expr) (p : Pos) : RE τ (.Subscript a b p) := match b with
  | .Slice lo hi none q => (match rec a with
    | some ⟨ca, ha⟩ => (match lo, hi with
      | none, none => some ⟨.slc ca false (.c .non) false (.c .non), .plain rfl fun X T Φ fl W k => pe_slc (ha X T Φ fl W k).1 po_n po_n⟩
      | some l, none => (match rec l with
        | some ⟨cl, hl⟩ => some ⟨.slc ca true cl false (.c .non), .plain rfl fun X T Φ fl W k => pe_slc (ha X T Φ fl W k).1 (po_e (hl X T Φ fl W k).1) po_n⟩
        | none => none)
      | none, some u => (match rec u with
        | some ⟨cu, hu⟩ => some ⟨.slc ca false (.c .non) true cu, .plain rfl fun X T Φ fl W k => pe_slc (ha X T Φ fl W k).1 po_n (po_e (hu X T Φ fl W k).1)⟩
        | none => none)
      | some l, some u => (match rec l, rec u with
        | some ⟨cl, hl⟩, some ⟨cu, hu⟩ => some ⟨.slc ca true cl true cu, .plain rfl fun X T Φ fl W k => pe_slc (ha X T Φ fl W k).1 (po_e (hl X T Φ fl W k).1) (po_e (hu X T Φ fl W k).1)⟩
        | _, _ => none))
    | none => none)
  | b => if n : isSlice b = false then (match trGet rec a b p n with
    | some c => some c
    | none => (match rec a, rec b with
      | some ⟨ca, ha⟩, some ⟨cb, hb⟩ => some ⟨.op .idx (.cons ca (.cons cb .nil)), .plain rfl fun X T Φ fl W k => pe_sub1 (ix_all k.un) ops_idxD (ha X T Φ fl W k).1 (hb X T Φ fl W k).1 (plainIx_of n)⟩
      | _, _ => none)) else none
def trIte (rec : (e : Expr) → RE τ e) (c a b : Expr) (p : Pos) : RE τ (.IfExp c a b p) := if n : tst c = true then (match rec c, rec a, rec b with
  | some ⟨cc, hc⟩, some ⟨ca, ha⟩, some ⟨cb, hb⟩ => some ⟨.ite cc ca cb, fun X T Φ fl W k => ⟨pe_iteE ((hc X T Φ fl W k).2 n) (ha X T Φ fl W k).1 (hb X T Φ fl W k).1, fun z => nomatch z⟩⟩
  | _, _, _ => none) else none
def trTup (rec : (e : Expr) → RE τ e) (es : List Expr) (k : Nat) (p : Pos) : RE τ (.Tuple es k p) := match trEs rec es with
  | some ⟨cs, h⟩ => some ⟨.tup cs, .plain rfl fun X T Φ fl W k => pe_t (h.2 X T Φ fl W k).2.1⟩
  | none => none
def trLst (rec : (e : Expr) → RE τ e) (es : List Expr) (p : Pos) : RE τ (.List es p) := match trEs rec es with
  | some ⟨cs, h⟩ => some ⟨.lst cs, .plain rfl fun X T Φ fl W k => pe_l (h.2 X T Φ fl W k).2.1⟩
  | none => none
theorem star_of {e : Expr} {es : List Expr} (h : ((e :: es).all fun e => !isStar e) = true) : isStar e = false ∧ (es.all fun e => !isStar e) = true := by
  rw [List.all_cons, Bool.and_eq_true] at h
  exact ⟨by simpa using h.1, h.2⟩
def trCallN (rec : (e : Expr) → RE τ e) (x : Str) (q : Pos) (as : List Expr) (p : Pos) : RE τ (.Call (.Name x q) as [] p) :=
  if g : glB τ.sc x = true then (if n : plainName x = true then (match as with
    | [] => none
    | e :: es =>
      match hf : τ.fs.lookup x with
      | some (f, np) => (match trEs rec (e :: es) with
        | some ⟨cs, hs⟩ => some ⟨.call f cs, .plain rfl fun X T Φ fl W k => by
          obtain ⟨m, h1, h2, h3⟩ := k.fs x f np hf
          exact pe_callE h2 h1 (glB_ok k.sc g) k.takes h3 (hs.2 X T Φ fl W k).2.2.1 (star_of hs.1).1 (star_of hs.1).2 (plainName_ok n).1⟩
        | none => none)
      | none => if b : τ.bt.contains x = true then
          (match btR x (e :: es).length with
          | some ⟨o, ho⟩ => (match trEs rec (e :: es) with
            | some ⟨cs, hs⟩ => some ⟨.op o cs, .plain rfl fun X T Φ fl W k => by
              rcases ho with ⟨id, h1, h2⟩ | ⟨id, h1, h2⟩
              · obtain ⟨r, h3, h4⟩ := h2 X T k.calm k.un
                exact pe_cb h3 h4 (glB_ok k.sc g) (k.bt x b) h1 (hs.2 X T Φ fl W k).1 (star_of hs.1).1 (star_of hs.1).2 (plainName_ok n).2.2 (plainName_ok n).1
              · obtain ⟨r, h3, h4⟩ := h2 X T k.calm k.un
                exact pe_ct h3 h4 (glB_ok k.sc g) (k.bt x b) h1 (hs.2 X T Φ fl W k).1 (star_of hs.1).1 (star_of hs.1).2 (plainName_ok n).2.2 (plainName_ok n).1⟩
            | none => none)
          | none => none) else none) else none) else none
/-- list(range(..)), tuple(range(..)) -/
def trLr (rec : (e : Expr) → RE τ e) (x : Str) (q : Pos) (q2 : Pos) (as : List Expr) (p2 p : Pos) : RE τ (.Call (.Name x q) [.Call (.Name "range" q2) as [] p2] [] p) :=
  if g : glB τ.sc "range" = true ∧ τ.bt.contains "range" = true then
    (if hx : x = "list" then (if g2 : glB τ.sc "list" = true ∧ τ.bt.contains "list" = true then (match as with
      | [a] => if n : isStar a = false then (match rec a with
        | some ⟨ca, ha⟩ => some ⟨.op .lrng (.cons ca .nil), .plain rfl fun X T Φ fl W k => by
          subst hx
          exact pe_lrng1 k.calm (glB_ok k.sc g2.1) (k.bt _ g2.2) (glB_ok k.sc g.1) (k.bt _ g.2) (ha X T Φ fl W k).1 n⟩
        | none => none) else none
      | [a, b] => if n : isStar a = false ∧ isStar b = false then (match rec a, rec b with
        | some ⟨ca, ha⟩, some ⟨cb, hb⟩ => some ⟨.op .lrng (.cons ca (.cons cb .nil)), .plain rfl fun X T Φ fl W k => by
          subst hx
          exact pe_lrng2 k.calm (glB_ok k.sc g2.1) (k.bt _ g2.2) (glB_ok k.sc g.1) (k.bt _ g.2) (ha X T Φ fl W k).1 (hb X T Φ fl W k).1 n.1 n.2⟩
        | _, _ => none) else none
      | _ => none) else none)
    else if hx : x = "tuple" then (if g2 : glB τ.sc "tuple" = true ∧ τ.bt.contains "tuple" = true then (match as with
      | [a] => if n : isStar a = false then (match rec a with
        | some ⟨ca, ha⟩ => some ⟨.op .trng (.cons ca .nil), .plain rfl fun X T Φ fl W k => by
          subst hx
          exact pe_trng1 k.calm (glB_ok k.sc g2.1) (k.bt _ g2.2) (glB_ok k.sc g.1) (k.bt _ g.2) (ha X T Φ fl W k).1 n⟩
        | none => none) else none
      | [a, b] => if n : isStar a = false ∧ isStar b = false then (match rec a, rec b with
        | some ⟨ca, ha⟩, some ⟨cb, hb⟩ => some ⟨.op .trng (.cons ca (.cons cb .nil)), .plain rfl fun X T Φ fl W k => by
          subst hx
          exact pe_trng2 k.calm (glB_ok k.sc g2.1) (k.bt _ g2.2) (glB_ok k.sc g.1) (k.bt _ g.2) (ha X T Φ fl W k).1 (hb X T Φ fl W k).1 n.1 n.2⟩
        | _, _ => none) else none
      | _ => none) else none)
    else none) else none
/-- len(set(..)), sorted(set(..)) -/
def trSt (rec : (e : Expr) → RE τ e) (x : Str) (q : Pos) (q2 : Pos) (as : List Expr) (p2 p : Pos) : RE τ (.Call (.Name x q) [.Call (.Name "set" q2) as [] p2] [] p) :=
  if g : glB τ.sc "set" = true ∧ τ.bt.contains "set" = true then (match as with
    | [a] => if n : isStar a = false then (match rec a with
      | some ⟨ca, ha⟩ => (if hx : x = "len" then (if g2 : glB τ.sc "len" = true ∧ τ.bt.contains "len" = true then some ⟨.op .lenSet (.cons ca .nil), .plain rfl fun X T Φ fl W k => by
          subst hx
          exact pe_lenSetE (glB_ok k.sc g2.1) (k.bt _ g2.2) (glB_ok k.sc g.1) (k.bt _ g.2) k.calm (ha X T Φ fl W k).1 n⟩ else none)
        else if hx : x = "sorted" then (if g2 : glB τ.sc "sorted" = true ∧ τ.bt.contains "sorted" = true then some ⟨.op .sortedSet (.cons ca .nil), .plain rfl fun X T Φ fl W k => by
          subst hx
          exact pe_sortSetE k.un (glB_ok k.sc g2.1) (k.bt _ g2.2) (glB_ok k.sc g.1) (k.bt _ g.2) k.calm (ha X T Φ fl W k).1 n⟩ else none)
        else none)
      | none => none) else none
    | _ => none) else none
def trIsi (rec : (e : Expr) → RE τ e) (q : Pos) (a : Expr) (y : Str) (q2 : Pos) (p : Pos) : RE τ (.Call (.Name "isinstance" q) [a, .Name y q2] [] p) :=
  if g : glB τ.sc "isinstance" = true ∧ glB τ.sc y = true ∧ τ.bt.contains "isinstance" = true ∧ τ.bt.contains y = true ∧ isStar a = false then (match tyOf y with
    | some ⟨t, ht⟩ => (match rec a with
      | some ⟨ca, ha⟩ => some ⟨.op (.isi t) (.cons ca .nil), .plain rfl fun X T Φ fl W k => by
        subst ht
        exact pe_isi (glB_ok k.sc g.1) (k.bt _ g.2.2.1) g.2.2.2.2 (ha X T Φ fl W k).1 (glB_ok k.sc g.2.1) (k.bt _ g.2.2.2.1)⟩
      | none => none)
    | none => none) else none
/-- isinstance(e, C), C a class of errors -/
def trIsx (rec : (e : Expr) → RE τ e) (q : Pos) (a : Expr) (y : Str) (q2 : Pos) (p : Pos) : RE τ (.Call (.Name "isinstance" q) [a, .Name y q2] [] p) :=
  if g : glB τ.sc "isinstance" = true ∧ glB τ.sc y = true ∧ τ.bt.contains "isinstance" = true ∧ plainName y = true ∧ isStar a = false then (match hy : τ.xi.lookup y with
    | some l => (match rec a with
      | some ⟨ca, ha⟩ => some ⟨.op (.isx l) (.cons ca .nil), .plain rfl fun X T Φ fl W k =>
        pe_isxE (k.xi y l hy) (glB_ok k.sc g.1) (k.bt _ g.2.2.1) g.2.2.2.2 (ha X T Φ fl W k).1 (glB_ok k.sc g.2.1) (plainName_ok g.2.2.2.1).1⟩
      | none => none)
    | none => none) else none
def trMeth (rec : (e : Expr) → RE τ e) (x : Str) (q : Pos) (m : Str) (ap : Pos) (as : List Expr) (p : Pos) : RE τ (.Call (.Attribute (.Name x q) m ap) as [] p) :=
  if g : visB τ.sc x = true ∧ plainName x = true ∧ (ap.endLine == p.line) = true then (match idxS τ.N x with
    | some ⟨i, hi⟩ => (match as with
      | [] => if e : m = "pop" then some ⟨.pop i, .plain rfl fun X T Φ fl W k => by
          subst e
          exact pe_popE (by rw [k.N]; exact hi) (by rw [k.sc]; exact visB_ok g.1) (plainName_ok g.2.1).1 (plainName_ok g.2.1).2.1 g.2.2⟩ else none
      | [a] => if n : isStar a = false then (match rec a with
        | some ⟨ca, ha⟩ =>
          if e : m = "append" then some ⟨.app i ca, .plain rfl fun X T Φ fl W k => by
            subst e
            exact pe_appE (by rw [k.N]; exact hi) (by rw [k.sc]; exact visB_ok g.1) (plainName_ok g.2.1).1 (plainName_ok g.2.1).2.1 (ha X T Φ fl W k).1 n g.2.2⟩
          else if e : m = "extend" then some ⟨.ext i ca, .plain rfl fun X T Φ fl W k => by
            subst e
            exact pe_extE (by rw [k.N]; exact hi) (by rw [k.sc]; exact visB_ok g.1) (plainName_ok g.2.1).1 (plainName_ok g.2.1).2.1 (ha X T Φ fl W k).1 n g.2.2⟩
          else if e : m = "pop" then some ⟨.popAt i ca, .plain rfl fun X T Φ fl W k => by
            subst e
            exact pe_popAtE (by rw [k.N]; exact hi) (by rw [k.sc]; exact visB_ok g.1) (plainName_ok g.2.1).1 (plainName_ok g.2.1).2.1 (ha X T Φ fl W k).1 n g.2.2⟩
          else none
        | none => none) else none
      | _ => none)
    | none => none) else none
/-- the methods that only read -/
def MthR (m : Str) (o : Op) : Prop := ∃ (k0 : Nat) (ks : List Nat), k0 ∈ ks ∧ (∀ (X : Cx) (T : Tab), X.A.units + 65 < cLine → ∀ k ∈ ks, MtOk X T o k m) ∧ ∀ k, o.recv k = true → k ∈ ks
theorem recv_join {k : Nat} (h : Op.join.recv k = true) : k ∈ [3] := by
  unfold Op.recv at h
  split at h <;> simp_all
theorem recv_count {k : Nat} (h : Op.count.recv k = true) : k ∈ [5, 4, 3] := by
  unfold Op.recv at h
  split at h <;> simp_all
theorem recv_index {k : Nat} (h : Op.index.recv k = true) : k ∈ [5, 4] := by
  unfold Op.recv at h
  split at h <;> simp_all
def mthR (m : Str) : Option {o : Op // MthR m o} :=
  if h : m = "join" then some ⟨.join, 3, [3], by simp, fun X T _ k hk => by subst h; simp at hk; subst hk; exact mto_join, fun k hk => recv_join hk⟩
  else if h : m = "count" then some ⟨.count, 5, [5, 4, 3], by simp, fun X T hu k hk => by subst h; simp at hk; rcases hk with rfl | rfl | rfl; exact mto_count hu; exact mto_countT hu; exact mto_countS, fun k hk => recv_count hk⟩
  else if h : m = "index" then some ⟨.index, 5, [5, 4], by simp, fun X T hu k hk => by subst h; simp at hk; rcases hk with rfl | rfl; exact mto_index hu; exact mto_indexT hu, fun k hk => recv_index hk⟩
  else none
def trMth (rec : (e : Expr) → RE τ e) (a : Expr) (m : Str) (ap : Pos) (as : List Expr) (p : Pos) : RE τ (.Call (.Attribute a m ap) as [] p) := match as with
  | [e] => if g : superish a = false ∧ isStar e = false ∧ (ap.endLine == p.line) = true then (match mthR m with
    | some ⟨o, ho⟩ => (match rec a, trEs rec [e] with
      | some ⟨ca, ha⟩, some ⟨cs, hs⟩ => some ⟨.meth o ca cs, .plain rfl fun X T Φ fl W k => by
        obtain ⟨k0, ks, h0, h1, h2⟩ := ho
        exact pe_mths h0 (fun kd hk => pe_mth (h1 X T k.un kd hk) (ha X T Φ fl W k).1 (hs.2 X T Φ fl W k).1 g.1 g.2.1 g.2.2) h2⟩
      | _, _ => none)
    | none => none) else none
  | [e, f] => if g : superish a = false ∧ isStar e = false ∧ isStar f = false ∧ (ap.endLine == p.line) = true then (if hm : m = "get" then (match rec a, trEs rec [e, f] with
    | some ⟨ca, ha⟩, some ⟨.cons c1 (.cons c2 .nil), hs⟩ => if hv : noVar c2 = true then some ⟨.meth .dget2 ca (.cons c1 (.cons c2 .nil)), .plain rfl fun X T Φ fl W k => by
        subst hm
        exact pe_getE rfl hv k.un (ha X T Φ fl W k).1 (hs.2 X T Φ fl W k).1 g.1 g.2.1 g.2.2.1 g.2.2.2⟩ else none
    | _, _ => none) else none) else none
  | _ => none
/-- (..)[..](..) -/
def trCalld (rec : (e : Expr) → RE τ e) (a b : Expr) (q : Pos) (as : List Expr) (p : Pos) : RE τ (.Call (.Subscript a b q) as [] p) := match as with
  | [] => none
  | e :: es => (match rec (.Subscript a b q), trEs rec (e :: es) with
    | some ⟨ca, ha⟩, some ⟨cs, hs⟩ => some ⟨.calld ca cs, .plain rfl fun X T Φ fl W k => pe_calldE k.fv k.takes (ha X T Φ fl W k).1 (hs.2 X T Φ fl W k).2.2.1 (star_of hs.1).1 (star_of hs.1).2⟩
    | _, _ => none)
def isTupT : Expr → Bool
  | .Tuple .. => true
  | _ => false
def SG (τ : Tx) (tg : Expr) (t : Tg) : Prop := t.isMany = isTupT tg ∧ ∀ (X : Cx) (T : Tab) (Φ : Fns) (W : WX), Ok X T Φ W τ → PG X tg (rdG X.K t)
def SNs (τ : Tx) (es : List Expr) (is : List Nat) : Prop := ∀ (X : Cx) (T : Tab) (Φ : Fns) (W : WX), Ok X T Φ W τ → NamesAt X.N X.env.scope X.fn es is
def trNames (τ : Tx) : (es : List Expr) → Option {is : List Nat // SNs τ es is}
  | [] => some ⟨[], fun _ _ _ _ _ => .nil⟩
  | .Name x p :: es => if h : locB τ x = true then (match idxS τ.N x, trNames τ es with
    | some ⟨i, hi⟩, some ⟨is, hs⟩ => some ⟨i :: is, fun X T Φ W o => .cons (by rw [o.N]; exact hi) (locB_ok o h).1 (locB_ok o h).2 (hs X T Φ W o)⟩
    | _, _ => none) else none
  | _ => none
def trG (τ : Tx) (tg : Expr) : Option {t : Tg // SG τ tg t} := match tg with
  | .Name x p => if h : locB τ x = true then (match idxS τ.N x with
    | some ⟨i, hi⟩ => some ⟨.one i, rfl, fun X T Φ W o => pg_oneE o.nd (by rw [o.N]; exact hi) (locB_ok o h).1 (locB_ok o h).2⟩
    | none => none) else none
  | .Tuple es k p => (match trNames τ es with
    | some ⟨is, hs⟩ => some ⟨.many is, rfl, fun X T Φ W o => pg_many o.calm o.nd (hs X T Φ W o)⟩
    | none => none)
  | _ => none
def SI (τ : Tx) (tg iter : Expr) (it : It) : Prop := ∀ (X : Cx) (T : Tab) (Φ : Fns) (fl : Nat → List Bool) (W : WX), Ok X T Φ W τ → PI X tg iter (rdI (cn X T) Φ fl W (isTupT tg) it)
def trSeq (rec : (e : Expr) → RE τ e) (tg e : Expr) : Option {it : It // SI τ tg e it} := match rec e with
  | some ⟨c, h⟩ => some ⟨.seq c, fun X T Φ fl W o => pi_seq (h X T Φ fl W o).1⟩
  | none => none
def trRng (rec : (e : Expr) → RE τ e) (tg : Expr) (q : Pos) (as : List Expr) (p : Pos) : Option {it : It // SI τ tg (.Call (.Name "range" q) as [] p) it} :=
  if g : glB τ.sc "range" = true ∧ τ.bt.contains "range" = true then (match as with
    | [a] => if n : isStar a = false then (match rec a with
      | some ⟨ca, ha⟩ => some ⟨.rng1 ca, fun X T Φ fl W o => pi_rng1 (glB_ok o.sc g.1) (o.bt _ g.2) (ha X T Φ fl W o).1 n⟩
      | none => none) else none
    | [a, b] => if n : isStar a = false ∧ isStar b = false then (match rec a, rec b with
      | some ⟨ca, ha⟩, some ⟨cb, hb⟩ => some ⟨.rng2 ca cb, fun X T Φ fl W o => pi_rng2 (glB_ok o.sc g.1) (o.bt _ g.2) (ha X T Φ fl W o).1 (hb X T Φ fl W o).1 n.1 n.2⟩
      | _, _ => none) else none
    | _ => none) else none
def trEnum (rec : (e : Expr) → RE τ e) (elts : List Expr) (kk : Nat) (tp : Pos) (q : Pos) (as : List Expr) (p : Pos) : Option {it : It // SI τ (.Tuple elts kk tp) (.Call (.Name "enumerate" q) as [] p) it} :=
  if g : glB τ.sc "enumerate" = true ∧ τ.bt.contains "enumerate" = true then (match as with
    | [a] => if n : isStar a = false then (match rec a with
      | some ⟨ca, ha⟩ => some ⟨.enum ca, fun X T Φ fl W o => pi_enumE (glB_ok o.sc g.1) (o.bt _ g.2) (ha X T Φ fl W o).1 n⟩
      | none => none) else none
    | _ => none) else none
def trZip (rec : (e : Expr) → RE τ e) (elts : List Expr) (kk : Nat) (tp : Pos) (q : Pos) (as : List Expr) (p : Pos) : Option {it : It // SI τ (.Tuple elts kk tp) (.Call (.Name "zip" q) as [] p) it} :=
  if g : glB τ.sc "zip" = true ∧ τ.bt.contains "zip" = true then (match as with
    | [a, b] => if n : isStar a = false ∧ isStar b = false then (match rec a, rec b with
      | some ⟨ca, ha⟩, some ⟨cb, hb⟩ => some ⟨.zip ca cb, fun X T Φ fl W o => pi_zipE (glB_ok o.sc g.1) (o.bt _ g.2) (ha X T Φ fl W o).1 (hb X T Φ fl W o).1 n.1 n.2⟩
      | _, _ => none) else none
    | _ => none) else none
def trI (rec : (e : Expr) → RE τ e) (tg iter : Expr) : Option {it : It // SI τ tg iter it} := match iter with
  | .Call (.Name x q) as [] p =>
    if e : x = "range" then (match trRng rec tg q as p with
      | some ⟨it, h⟩ => some ⟨it, by subst e; exact h⟩
      | none => none)
    else if e : x = "enumerate" then (match tg with
      | .Tuple elts kk tp => (match trEnum rec elts kk tp q as p with
        | some ⟨it, h⟩ => some ⟨it, by subst e; exact h⟩
        | none => none)
      | _ => none)
    else if e : x = "zip" then (match tg with
      | .Tuple elts kk tp => (match trZip rec elts kk tp q as p with
        | some ⟨it, h⟩ => some ⟨it, by subst e; exact h⟩
        | none => none)
      | _ => none)
    else trSeq rec tg (.Call (.Name x q) as [] p)
  | iter => trSeq rec tg iter
end
end PV
set_option Elab.async false
set_option linter.all false
set_option maxRecDepth 100000
set_option maxHeartbeats 4000000
namespace PV
open PySem PySem.Spec PyProof.Rows L2
def blkOwn (N : List Str) : List (Str × NameKind) → List (Str × Nat)
  | [] => []
  | (y, k) :: r => match k with
    | .local => (match idxF y 0 N with | some i => (y, i) :: blkOwn N r | none => blkOwn N r)
    | .cell => (match idxF y 0 N with | some i => (y, i) :: blkOwn N r | none => blkOwn N r)
    | _ => blkOwn N r
theorem idxF_none {x : Str} : ∀ {N : List Str} {i : Nat}, idxF x i N = none → x ∉ N
  | [], _, _ => by simp
  | y :: r, i, h => by
    simp only [idxF] at h
    split at h
    · cases h
    · rename_i n
      intro z
      rcases List.mem_cons.mp z with e | e
      · subst e; exact n (by simp [sameS])
      · exact idxF_none h e
theorem blkOwn_ix {N : List Str} : ∀ {l : List (Str × NameKind)} {p : Str × Nat}, p ∈ blkOwn N l → N[p.2]? = some p.1
  | [], _, h => by simp [blkOwn] at h
  | (y, k) :: r, p, h => by
    have aux : ∀ {p}, p ∈ (match idxF y 0 N with | some i => (y, i) :: blkOwn N r | none => blkOwn N r) → N[p.2]? = some p.1 := fun {p} h => by
      split at h
      · rename_i i hi
        rcases List.mem_cons.mp h with e | e
        · subst e; simpa using (idxF_ok hi).2
        · exact blkOwn_ix e
      · exact blkOwn_ix h
    unfold blkOwn at h
    cases k with
    | «local» => exact aux h
    | cell => exact aux h
    | free => exact blkOwn_ix h
    | globalExplicit => exact blkOwn_ix h
    | globalImplicit => exact blkOwn_ix h
theorem blkOwn_own {N : List Str} : ∀ {l : List (Str × NameKind)} {y : Str × NameKind}, y ∈ l → y.2 = .local ∨ y.2 = .cell → y.1 ∈ (blkOwn N l).map (·.1) ∨ y.1 ∉ N
  | (z, k) :: r, y, h, hk => by
    have aux : y ∈ (z, k) :: r → k = .local ∨ k = .cell ∨ y ∈ r → y.1 ∈ List.map (fun x : Str × Nat => x.1) (match idxF z 0 N with | some i => (z, i) :: blkOwn N r | none => blkOwn N r) ∨ y.1 ∉ N := fun h _ => by
      rcases List.mem_cons.mp h with e | e
      · subst e
        cases q : idxF z 0 N with
        | some i => exact .inl (by simp)
        | none => exact .inr (idxF_none q)
      · rcases blkOwn_own e hk with z1 | z1
        · refine .inl ?_
          split
          · exact List.mem_cons_of_mem _ z1
          · exact z1
        · exact .inr z1
    unfold blkOwn
    cases k with
    | «local» => exact aux h (.inl rfl)
    | cell => exact aux h (.inr (.inl rfl))
    | free =>
      rcases List.mem_cons.mp h with e | e
      · subst e; rcases hk with hk | hk <;> cases hk
      · exact blkOwn_own e hk
    | globalExplicit =>
      rcases List.mem_cons.mp h with e | e
      · subst e; rcases hk with hk | hk <;> cases hk
      · exact blkOwn_own e hk
    | globalImplicit =>
      rcases List.mem_cons.mp h with e | e
      · subst e; rcases hk with hk | hk <;> cases hk
      · exact blkOwn_own e hk
def kindEq : Option NameKind → NameKind → Bool
  | some .local, .local => true
  | some .cell, .cell => true
  | some .free, .free => true
  | some .globalExplicit, .globalExplicit => true
  | some .globalImplicit, .globalImplicit => true
  | _, _ => false
theorem kindEq_ok {a : Option NameKind} {b : NameKind} (h : kindEq a b = true) : a = some b := by
  unfold kindEq at h
  split at h <;> first | rfl | cases h
def isFun : ScopeKind → Bool
  | .function => true
  | _ => false
def blkC (sc scope : Scope) : Bool := isFun scope.kind && scope.names.all fun y => kindEq (scope.names.lookup y.1) y.2 && (match y.2 with
  | .free => kindEq (sc.names.lookup y.1) .cell || kindEq (sc.names.lookup y.1) .free
  | _ => true)
theorem blkC_ok {N : List Str} {sc scope : Scope} (h : blkC sc scope = true) : BlkOk N sc scope (blkOwn N scope.names) := by
  simp only [blkC, Bool.and_eq_true, List.all_eq_true] at h
  obtain ⟨h1, h2⟩ := h
  refine ⟨?_, fun y hy => kindEq_ok (h2 y hy).1, fun p hp => blkOwn_ix hp, fun y hy e => ?_, fun y hy e => blkOwn_own hy e⟩
  · cases q : scope.kind with
    | function => rfl
    | _ => rw [q] at h1; cases h1
  · have := (h2 y hy).2
    rw [e] at this
    simp only [Bool.or_eq_true] at this
    rcases this with z | z
    · exact .inl (kindEq_ok z)
    · exact .inr (kindEq_ok z)
def isSet : Expr → Bool
  | .Set .. => true
  | _ => false
theorem foldedSet_of {e : Expr} (h : isSet e = false) (env : Env) (x : Value) : foldedSetIterable e env x = pure x := by
  cases e <;> first | rfl | (exact nomatch h)
section
variable {τ : Tx}
/-- the tests of a comprehension -/
def SIfs (τ : Tx) (ifs : List Expr) (c : E) : Prop := ∀ (X : Cx) (T : Tab) (Φ : Fns) (fl : Nat → List Bool) (W : WX), Ok X T Φ W τ → PTs X ifs (rdT (cn X T) Φ fl W c)
def trIfs (rec : (e : Expr) → RE τ e) : (ifs : List Expr) → Option {c : E // SIfs τ ifs c}
  | [] => some ⟨.c (.bl true), fun X T Φ fl W o => ⟨fun pins s σ H Q I h => pts_nil.run pins s σ H Q I (by
    obtain ⟨A, F, G, st, rel, h⟩ := h
    exact h G H Sub.rfl rel)⟩⟩
  | [e] => if n : tst e = true then (match rec e with
    | some ⟨c, h⟩ => some ⟨c, fun X T Φ fl W o => pts_one ((h X T Φ fl W o).2 n)⟩
    | none => none) else none
  | _ => none
def slotsIn (t : Tg) (own : List Nat) : Bool := t.slots.all fun i => own.any fun j => Nat.beq j i
theorem slotsIn_ok {t : Tg} {own : List Nat} (h : slotsIn t own = true) : ∀ i ∈ t.slots, i ∈ own := fun i hi => by
  have := List.all_eq_true.mp h i hi
  obtain ⟨j, h1, h2⟩ := List.any_eq_true.mp this
  rw [← Nat.eq_of_beq_eq_true h2]; exact h1
/-- what is known of a comprehension with one for: kept apart, for both uses -/
structure C1 (τ : Tx) (elt tg iter : Expr) (ifs : List Expr) (scope : Scope) (t : Tg) (it : It) (cc ce : E) : Prop where
  hi : SI τ tg iter it
  ok : BlkOk τ.N τ.sc scope (blkOwn τ.N scope.names)
  tv : ∀ i ∈ t.slots, i ∈ (blkOwn τ.N scope.names).map (·.2)
  hg : SG (τ.blk scope) tg t
  ht : SIfs (τ.blk scope) ifs cc
  he : SE (τ.blk scope) elt ce
  hs : isSet iter = false
def trC1 (rec : (τ : Tx) → (e : Expr) → RE τ e) (elt tg iter : Expr) (ifs : List Expr) (scope : Scope) : Option {q : Tg × It × E × E // C1 τ elt tg iter ifs scope q.1 q.2.1 q.2.2.1 q.2.2.2} :=
  if h1 : blkC τ.sc scope = true then (if h2 : isSet iter = false then (match trI (rec τ) tg iter, trG (τ.blk scope) tg with
    | some ⟨it, hi⟩, some ⟨t, hg⟩ => if h3 : slotsIn t ((blkOwn τ.N scope.names).map (·.2)) = true then (match trIfs (rec (τ.blk scope)) ifs, rec (τ.blk scope) elt with
      | some ⟨cc, ht⟩, some ⟨ce, he⟩ => some ⟨(t, it, cc, ce), ⟨hi, blkC_ok h1, slotsIn_ok h3, hg, ht, he, h2⟩⟩
      | _, _ => none) else none
    | _, _ => none) else none) else none
theorem C1.se {elt tg iter : Expr} {ifs : List Expr} {scope : Scope} {t : Tg} {it : It} {cc ce : E} {p : Pos} (c : C1 τ elt tg iter ifs scope t it cc ce) : SE τ (.ListComp elt [⟨tg, iter, ifs, 0⟩] scope p) (.comp ((blkOwn τ.N scope.names).map (·.2)) t it cc ce) :=
  .plain rfl fun X T Φ fl W o => pe_comp o.calm o.nd (by rw [c.hg.1]; exact c.hi X T Φ fl W o) (by rw [o.N, o.sc]; exact c.ok) c.tv (fun s H C cl fp => c.hg.2 _ T Φ WF (o.blk scope s H C cl fp)) (fun s H C cl fp => c.ht _ T Φ fl WF (o.blk scope s H C cl fp)) (fun s H C cl fp => (c.he _ T Φ fl WF (o.blk scope s H C cl fp)).1) (fun x => foldedSet_of c.hs X.env x)
structure C2 (τ : Tx) (elt tg iter tg1 iter1 : Expr) (ifs1 : List Expr) (scope : Scope) (t : Tg) (it : It) (t1 : Tg) (it1 : It) (cc ce : E) : Prop where
  hi : SI τ tg iter it
  ok : BlkOk τ.N τ.sc scope (blkOwn τ.N scope.names)
  tv : ∀ i ∈ t.slots, i ∈ (blkOwn τ.N scope.names).map (·.2)
  tv1 : ∀ i ∈ t1.slots, i ∈ (blkOwn τ.N scope.names).map (·.2)
  hg : SG (τ.blk scope) tg t
  hi1 : SI (τ.blk scope) tg1 iter1 it1
  hg1 : SG (τ.blk scope) tg1 t1
  ht1 : SIfs (τ.blk scope) ifs1 cc
  he : SE (τ.blk scope) elt ce
  hs : isSet iter = false
  hs1 : isSet iter1 = false
def trC2 (rec : (τ : Tx) → (e : Expr) → RE τ e) (elt tg iter tg1 iter1 : Expr) (ifs1 : List Expr) (scope : Scope) : Option {q : Tg × It × Tg × It × E × E // C2 τ elt tg iter tg1 iter1 ifs1 scope q.1 q.2.1 q.2.2.1 q.2.2.2.1 q.2.2.2.2.1 q.2.2.2.2.2} :=
  if h1 : blkC τ.sc scope = true then (if h2 : isSet iter = false ∧ isSet iter1 = false then (match trI (rec τ) tg iter, trG (τ.blk scope) tg, trI (rec (τ.blk scope)) tg1 iter1, trG (τ.blk scope) tg1 with
    | some ⟨it, hi⟩, some ⟨t, hg⟩, some ⟨it1, hi1⟩, some ⟨t1, hg1⟩ => if h3 : slotsIn t ((blkOwn τ.N scope.names).map (·.2)) = true ∧ slotsIn t1 ((blkOwn τ.N scope.names).map (·.2)) = true then (match trIfs (rec (τ.blk scope)) ifs1, rec (τ.blk scope) elt with
      | some ⟨cc, ht⟩, some ⟨ce, he⟩ => some ⟨(t, it, t1, it1, cc, ce), ⟨hi, blkC_ok h1, slotsIn_ok h3.1, slotsIn_ok h3.2, hg, hi1, hg1, ht, he, h2.1, h2.2⟩⟩
      | _, _ => none) else none
    | _, _, _, _ => none) else none) else none
theorem C2.se {elt tg iter tg1 iter1 : Expr} {ifs1 : List Expr} {scope : Scope} {t t1 : Tg} {it it1 : It} {cc ce : E} {p : Pos} (c : C2 τ elt tg iter tg1 iter1 ifs1 scope t it t1 it1 cc ce) : SE τ (.ListComp elt [⟨tg, iter, [], 0⟩, ⟨tg1, iter1, ifs1, 0⟩] scope p) (.comp2 ((blkOwn τ.N scope.names).map (·.2)) t1.slots t it t1 it1 cc ce) :=
  .plain rfl fun X T Φ fl W o => pe_comp2 o.calm o.nd (by rw [c.hg.1]; exact c.hi X T Φ fl W o) (by rw [o.N, o.sc]; exact c.ok) c.tv1 c.tv (fun i h => h) (fun s H C cl fp => c.hg.2 _ T Φ WF (o.blk scope s H C cl fp)) (fun s H C cl fp => by rw [c.hg1.1]; exact c.hi1 _ T Φ fl WF (o.blk scope s H C cl fp)) (fun s H C cl fp => c.hg1.2 _ T Φ WF (o.blk scope s H C cl fp)) (fun s H C cl fp => c.ht1 _ T Φ fl WF (o.blk scope s H C cl fp)) (fun s H C cl fp => (c.he _ T Φ fl WF (o.blk scope s H C cl fp)).1) (fun x => foldedSet_of c.hs X.env x) (fun env x => foldedSet_of c.hs1 env x)
def trLc (rec : (τ : Tx) → (e : Expr) → RE τ e) (elt : Expr) (gs : List Comprehension) (scope : Scope) (p : Pos) : RE τ (.ListComp elt gs scope p) := match gs with
  | [⟨tg, iter, ifs, .ofNat 0⟩] => (match trC1 rec elt tg iter ifs scope with
    | some ⟨(t, it, cc, ce), h⟩ => some ⟨.comp ((blkOwn τ.N scope.names).map (·.2)) t it cc ce, h.se⟩
    | none => none)
  | [⟨tg, iter, [], .ofNat 0⟩, ⟨tg1, iter1, ifs1, .ofNat 0⟩] => (match trC2 rec elt tg iter tg1 iter1 ifs1 scope with
    | some ⟨(t, it, t1, it1, cc, ce), h⟩ => some ⟨.comp2 ((blkOwn τ.N scope.names).map (·.2)) t1.slots t it t1 it1 cc ce, h.se⟩
    | none => none)
  | _ => none
def stepE (rec : (τ : Tx) → (e : Expr) → RE τ e) (τ : Tx) (e : Expr) : RE τ e := match e with
  | .Constant k j p => trConst k j p
  | .Name x p => trName x p
  | .BinOp a op b p => trBin (rec τ) a op b p
  | .UnaryOp op a p => trUn (rec τ) op a p
  | .Compare a ops bs p => trCmps (rec τ) a ops bs p
  | .BoolOp .And es p => (match trAnd (rec τ) p es with
    | some ⟨c, h⟩ => some ⟨c, h.se⟩
    | none => none)
  | .BoolOp .Or es p => (match trOr (rec τ) p es with
    | some ⟨c, h⟩ => some ⟨c, h.se⟩
    | none => none)
  | .IfExp c a b p => trIte (rec τ) c a b p
  | .Subscript a b p => trSub (rec τ) a b p
  | .Tuple es k p => trTup (rec τ) es k p
  | .List es p => trLst (rec τ) es p
  | .ListComp elt gs scope p => trLc rec elt gs scope p
  | .Dict [] [] p => some ⟨.dict .nil, .plain rfl fun X T Φ fl W k => pe_dict0⟩
  | .Call (.Subscript a b q) as [] p => trCalld (rec τ) a b q as p
  | .Call (.Name x q) as [] p => (match as with
    | [a, .Name y q2] => if h : x = "isinstance" then (match trIsi (rec τ) q a y q2 p with
      | some ⟨c, hc⟩ => some ⟨c, by subst h; exact hc⟩
      | none => (match trIsx (rec τ) q a y q2 p with
        | some ⟨c, hc⟩ => some ⟨c, by subst h; exact hc⟩
        | none => none)) else trCallN (rec τ) x q [a, .Name y q2] p
    | [.Call (.Name y q2) bs [] p2] => if h : y = "range" then (match trLr (rec τ) x q q2 bs p2 p with
      | some ⟨c, hc⟩ => some ⟨c, by subst h; exact hc⟩
      | none => none) else if h : y = "set" then (match trSt (rec τ) x q q2 bs p2 p with
      | some ⟨c, hc⟩ => some ⟨c, by subst h; exact hc⟩
      | none => none) else trCallN (rec τ) x q [.Call (.Name y q2) bs [] p2] p
    | as => trCallN (rec τ) x q as p)
  | .Call (.Attribute (.Name x q) m ap) as [] p => (match trMeth (rec τ) x q m ap as p with
    | some c => some c
    | none => trMth (rec τ) (.Name x q) m ap as p)
  | .Call (.Attribute a m ap) as [] p => trMth (rec τ) a m ap as p
  | _ => none
def trE : Nat → (τ : Tx) → (e : Expr) → RE τ e
  | 0, _, _ => none
  | n + 1, τ, e => match stepE (trE n) τ e with
    | some c => some c
    | none => some ⟨.stop, fun X T Φ fl W o => ⟨⟨fun pins s σ H Q I h => by obtain ⟨A, F, G, st, rel, h⟩ := h; rw [ev] at h; exact h.elim⟩, fun _ => ⟨fun pins s σ H Q I h => by obtain ⟨A, F, G, st, rel, h⟩ := h; rw [ev] at h; exact h.elim⟩⟩⟩
end
end PV
set_option Elab.async false
set_option linter.all false
set_option maxRecDepth 100000
set_option maxHeartbeats 4000000
namespace PV
open PySem PySem.Spec PyProof.Rows L2
def isComp : Expr → Bool
  | .ListComp .. => true
  | .SetComp .. => true
  | .DictComp .. => true
  | _ => false
theorem swaps_no {e : Expr} (h : isComp e = false) (t : Option Expr) (l : Nat) (env : Env) : swapsWith e t l env = pure false := by
  cases e <;> first | rfl | (exact nomatch h)
theorem swaps_tup {e : Expr} {es : List Expr} {k : Nat} {p : Pos} (l : Nat) (env : Env) : swapsWithSole [.Tuple es k p] e l env = pure false := by
  cases e <;> rfl
theorem swaps_sub {e o i : Expr} {p : Pos} (l : Nat) (env : Env) : swapsWithSole [.Subscript o i p] e l env = pure false := by
  cases e <;> rfl
def blkKind (sc : Scope) : ScopeKind := if sc.kind.isAnnotationScope then .function else sc.kind
def swB (sc : Scope) (t : Str) (tp vp : Pos) (scope : Scope) : Bool := blkKind sc == .function && sc.names.lookup t == some .local && tp.line == vp.line && !(scope.names.any fun (n, k) => n == t && (k == .local || k == .cell))
theorem swaps_lc {env : Env} {sc : Scope} (h : env.scope = sc) (elt : Expr) (gs : List Comprehension) (scope : Scope) (p : Pos) (t : Str) (tp : Pos) (l : Nat) : swapsWith (.ListComp elt gs scope p) (some (.Name t tp)) l env = pure (swB sc t tp p scope) := by
  subst h; rfl
def isTupE : Expr → Bool
  | .Tuple .. => true
  | _ => false
theorem stores_no {e : Expr} (h : isTupE e = false) (es : List Expr) (k : Nat) (p : Pos) (env : Env) : swappedStores [.Tuple es k p] e env = pure none := by
  cases e <;> first | rfl | (exact nomatch h)
theorem stores_sub {e o i : Expr} {p : Pos} (env : Env) : swappedStores [.Subscript o i p] e env = pure none := by
  cases e <;> rfl
def starredP : Expr → Bool
  | .Starred .. => true
  | _ => false
def swNames (sc : Scope) (ts : List Expr) : List Str := ts.filterMap fun
    | .Name id pos => if sc.names.lookup id == some .local && pos.line == (ts.head?.map (·.pos.line)).getD 0 then some id else none
    | _ => none
def swK (sc : Scope) (ts vs : List Expr) : Option (Option (List Str)) :=
  if (!(ts.length == 2 || ts.length == 3) || vs.length != ts.length || blkKind sc != .function) = true then some none
  else if (vs.any starredP) = true then some none
  else if ((swNames sc ts).length != ts.length || (swNames sc ts).eraseDups.length != (swNames sc ts).length) = true then some none
  else if (vs.all (foldedForSure 8)) = true then some none
  else if (vs.all (constantsAlone 8)) = true then none else some (some (swNames sc ts))
theorem assign_sub {o k : Expr} {p : Pos} (h : isSlice k = false) (env : Env) (v : Value) : assign (.Subscript o k p) env v = (do
      let ov ← holding [v] (eval o env)
      let iv ← holding [v, ov] (eval k env)
      standAt p
      holding [v, ov, iv] (setItem ov iv v)
      release [v, ov, iv] []) := by
  cases k <;> first | rfl | (exact nomatch h)
theorem stores_tup {ts vs : List Expr} {k k2 : Nat} {p p2 : Pos} {env : Env} {sc : Scope} (e : env.scope = sc) {r : Option (List Str)} (h : swK sc ts vs = some r) : swappedStores [.Tuple ts k p] (.Tuple vs k2 p2) env = pure r := by
  subst e
  unfold swK at h
  unfold swappedStores
  dsimp only
  have e1 : env.blockKind = blkKind env.scope := rfl
  rw [e1]
  split at h
  · rename_i h1; cases h; rw [if_pos h1]
  · rename_i h1
    rw [if_neg h1]
    split at h
    · rename_i h2; cases h; exact if_pos h2
    · rename_i h2
      refine (if_neg h2).trans ?_
      split at h
      · rename_i h3; cases h; exact if_pos h3
      · rename_i h3
        refine (if_neg h3).trans ?_
        split at h
        · rename_i h4; cases h; exact if_pos h4
        · rename_i h4
          refine (if_neg h4).trans ?_
          split at h
          · cases h
          · rename_i h5
            cases h
            exact if_neg h5
/-- where a body stands -/
structure Pw (X : Cx) : Prop where
  po : PassesOwn (model X.prog X.w) X.A X.env X.xe
  st : X.stack = X.env :: X.outer
  fr : X.env.frame = some X.env.locals
section
variable {τ : Tx}
def SS (τ : Tx) (st : Stmt) (s : S) : Prop := ∀ (X : Cx) (T : Tab) (Φ : Fns) (fl : Nat → List Bool) (W : WX), Ok X T Φ W τ → Pw X → PS X st (rdS (cn X T) Φ fl W s)
def SSs (τ : Tx) (sts : List Stmt) (s : Ss) : Prop := ∀ (X : Cx) (T : Tab) (Φ : Fns) (fl : Nat → List Bool) (W : WX), Ok X T Φ W τ → Pw X → PSs X sts (rdSs (cn X T) Φ fl W s)
abbrev RS (τ : Tx) (st : Stmt) := Option {s : S // SS τ st s}
abbrev RSs (τ : Tx) (sts : List Stmt) := Option {s : Ss // SSs τ sts s}
/-- name = value -/
def trSet (re : (τ : Tx) → (e : Expr) → RE τ e) (x : Str) (q : Pos) (e : Expr) (p : Pos) : RS τ (.Assign [.Name x q] e p) :=
  if h : locB τ x = true then (match idxS τ.N x with
    | some ⟨i, hi⟩ => (match e with
      | .ListComp elt gs scope vp => if b : swB τ.sc x q vp scope = true then
          (if pl : plB τ.sc x = true then (match gs with
            | [⟨tg, iter, ifs, .ofNat 0⟩] => (match trC1 re elt tg iter ifs scope with
              | some ⟨(t, it, cc, ce), c⟩ => some ⟨.set i true (.comp ((blkOwn τ.N scope.names).map (·.2)) t it cc ce), fun X T Φ fl W o _ =>
                ps_setLcE o.calm o.nd (by rw [o.N]; exact hi) (plB_ok o.sc pl) (by rw [swaps_lc o.sc, b]) (by rw [c.hg.1]; exact c.hi X T Φ fl W o) (by rw [o.N, o.sc]; exact c.ok) c.tv (fun s H C cl fp => c.hg.2 _ T Φ WF (o.blk scope s H C cl fp)) (fun s H C cl fp => c.ht _ T Φ fl WF (o.blk scope s H C cl fp)) (fun s H C cl fp => (c.he _ T Φ fl WF (o.blk scope s H C cl fp)).1) (fun x => foldedSet_of c.hs X.env x)⟩
              | none => none)
            | [⟨tg, iter, [], .ofNat 0⟩, ⟨tg1, iter1, ifs1, .ofNat 0⟩] => (match trC2 re elt tg iter tg1 iter1 ifs1 scope with
              | some ⟨(t, it, t1, it1, cc, ce), c⟩ => some ⟨.set i true (.comp2 ((blkOwn τ.N scope.names).map (·.2)) t1.slots t it t1 it1 cc ce), fun X T Φ fl W o _ =>
                ps_setLc2E o.calm o.nd (by rw [o.N]; exact hi) (plB_ok o.sc pl) (by rw [swaps_lc o.sc, b]) (by rw [c.hg.1]; exact c.hi X T Φ fl W o) (by rw [o.N, o.sc]; exact c.ok) c.tv1 c.tv (fun i h => h) (fun s H C cl fp => c.hg.2 _ T Φ WF (o.blk scope s H C cl fp)) (fun s H C cl fp => by rw [c.hg1.1]; exact c.hi1 _ T Φ fl WF (o.blk scope s H C cl fp)) (fun s H C cl fp => c.hg1.2 _ T Φ WF (o.blk scope s H C cl fp)) (fun s H C cl fp => c.ht1 _ T Φ fl WF (o.blk scope s H C cl fp)) (fun s H C cl fp => (c.he _ T Φ fl WF (o.blk scope s H C cl fp)).1) (fun x => foldedSet_of c.hs X.env x) (fun env x => foldedSet_of c.hs1 env x)⟩
              | none => none)
            | _ => none) else none)
        else (match re τ (.ListComp elt gs scope vp) with
          | some ⟨c, hc⟩ => some ⟨.set i true c, fun X T Φ fl W o _ => ps_setE o.nd (by rw [o.N]; exact hi) (locB_ok o h).1 (hc X T Φ fl W o).1 (by rw [swaps_lc o.sc]; simp only [Bool.not_eq_true] at b; rw [b]) (locB_ok o h).2⟩
          | none => none)
      | e => if n : isComp e = false then (match re τ e with
        | some ⟨c, hc⟩ => some ⟨.set i true c, fun X T Φ fl W o _ => ps_setE o.nd (by rw [o.N]; exact hi) (locB_ok o h).1 (hc X T Φ fl W o).1 (swaps_no n _ _ _) (locB_ok o h).2⟩
        | none => none) else none)
    | none => none) else none
def isLstE : Expr → Bool
  | .List .. => true
  | _ => false
/-- names = values -/
def trPar (re : (τ : Tx) → (e : Expr) → RE τ e) (ts : List Expr) (k : Nat) (q : Pos) (vs : List Expr) (k2 : Nat) (q2 : Pos) (p : Pos) : RS τ (.Assign [.Tuple ts k q] (.Tuple vs k2 q2) p) :=
  match hk : swK τ.sc ts vs with
  | none => none
  | some none => if vs.any isLstE then (match trNames τ ts, trEs (re τ) vs with
    | some ⟨is, hs⟩, some ⟨cs, hcs⟩ => if hz : is.length ≤ 100 then some ⟨.par (is.map fun i => (i, true)) cs, fun X T Φ fl W o _ => ps_parU o.calm o.nd (hcs.2 X T Φ fl W o).2.2.2 (hs X T Φ W o) hz (swaps_tup _ _) (stores_tup o.sc hk)⟩ else none
    | _, _ => none) else (match trNames τ ts, re τ (.Tuple vs k2 q2) with
    | some ⟨is, hs⟩, some ⟨c, hc⟩ => some ⟨.unpack is c, fun X T Φ fl W o _ => ps_unpackE o.calm o.nd (hc X T Φ fl W o).1 (hs X T Φ W o) (swaps_tup _ _) (stores_tup o.sc hk)⟩
    | _, _ => none)
  | some (some ns) => (match ts, vs with
    | [.Name x px, .Name y py], [a, b] => if g : ns = [x, y] ∧ plB τ.sc x = true ∧ plB τ.sc y = true then (match idxS τ.N x, idxS τ.N y, trEs (re τ) [a, b] with
      | some ⟨i, hi⟩, some ⟨j, hj⟩, some ⟨cs, hcs⟩ => if hij : i ≠ j then some ⟨.par [(i, true), (j, true)] cs, fun X T Φ fl W o _ =>
          ps_parE o.calm o.nd (by rw [o.N]; exact hi) (by rw [o.N]; exact hj) hij (plB_ok o.sc g.2.1) (plB_ok o.sc g.2.2) (hcs.2 X T Φ fl W o).2.2.2 (by rw [stores_tup o.sc hk, g.1])⟩ else none
      | _, _, _ => none) else none
    | [.Name x px, .Name y py, .Name z pz], [a, b, c] => if g : ns = [x, y, z] ∧ plB τ.sc x = true ∧ plB τ.sc y = true ∧ plB τ.sc z = true then (match idxS τ.N x, idxS τ.N y, idxS τ.N z, trEs (re τ) [a, b, c] with
      | some ⟨i, hi⟩, some ⟨j, hj⟩, some ⟨l, hl⟩, some ⟨cs, hcs⟩ => if hij : i ≠ j ∧ i ≠ l ∧ j ≠ l then some ⟨.par [(i, true), (j, true), (l, true)] cs, fun X T Φ fl W o _ =>
          ps_par3E o.calm o.nd (by rw [o.N]; exact hi) (by rw [o.N]; exact hj) (by rw [o.N]; exact hl) hij.1 hij.2.1 hij.2.2 (plB_ok o.sc g.2.1) (plB_ok o.sc g.2.2.1) (plB_ok o.sc g.2.2.2) (hcs.2 X T Φ fl W o).2.2.2 (by rw [stores_tup o.sc hk, g.1])⟩ else none
      | _, _, _, _ => none) else none
    | _, _ => none)
def trUnpack (re : (τ : Tx) → (e : Expr) → RE τ e) (ts : List Expr) (k : Nat) (q : Pos) (e : Expr) (p : Pos) : RS τ (.Assign [.Tuple ts k q] e p) :=
  if n : isTupE e = false then (match trNames τ ts, re τ e with
    | some ⟨is, hs⟩, some ⟨c, hc⟩ => some ⟨.unpack is c, fun X T Φ fl W o _ => ps_unpackE o.calm o.nd (hc X T Φ fl W o).1 (hs X T Φ W o) (swaps_tup _ _) (stores_no n _ _ _ _)⟩
    | _, _ => none) else none
def trItem (re : (τ : Tx) → (e : Expr) → RE τ e) (x : Str) (q : Pos) (k : Expr) (sp : Pos) (e : Expr) (p : Pos) : RS τ (.Assign [.Subscript (.Name x q) k sp] e p) :=
  if g : visB τ.sc x = true ∧ plainName x = true ∧ isSlice k = false then (match idxS τ.N x, re τ k, re τ e with
    | some ⟨i, hi⟩, some ⟨ck, hk⟩, some ⟨c, hc⟩ => some ⟨.setItem i ck c, fun X T Φ fl W o _ =>
      ps_setItemE o.un (by rw [o.N]; exact hi) (by rw [o.sc]; exact visB_ok g.1) (plainName_ok g.2.1).1 (plainName_ok g.2.1).2.1 (hc X T Φ fl W o).1 (hk X T Φ fl W o).1 (assign_sub g.2.2 _) (swaps_sub _ _) (stores_sub _)⟩
    | _, _, _ => none) else none
def trAsg (re : (τ : Tx) → (e : Expr) → RE τ e) (tg e : Expr) (p : Pos) : RS τ (.Assign [tg] e p) := match tg with
  | .Name x q => trSet re x q e p
  | .Tuple ts k q => (match e with
    | .Tuple vs k2 q2 => trPar re ts k q vs k2 q2 p
    | e => trUnpack re ts k q e p)
  | .Subscript (.Name x q) k sp => trItem re x q k sp e p
  | _ => none
def trRaise (e : Expr) (p : Pos) : RS τ (.Raise (some e) none p) := match e with
  | .Call (.Name x q) [.Constant (.str m) j q2] [] p2 => if g : glB τ.sc x = true ∧ plainName x = true then (match hx : τ.xs.lookup x with
    | some k => some ⟨.raise k, fun X T Φ fl W o _ => by
      obtain ⟨C, bmB, B, newId, initId, h1, h2, h3, h4, h5, h6⟩ := o.xs x k hx
      exact ps_raiseE o.calm o.takes h1 h2 h3 h4 h5 (glB_ok o.sc g.1) (plainName_ok g.2).1 h6⟩
    | none => none) else none
  | _ => none
def isDoc : Stmt → Bool
  | .Expr (.Constant (.str _) _ _) _ => true
  | .Pass _ => true
  | _ => false
theorem doc_ok {X : Cx} {st : Stmt} (h : isDoc st = true) : PS X st tNext := by
  unfold isDoc at h
  split at h
  · exact ps_doc
  · exact ps_pass
  · cases h
def trBlock (rs : (st : Stmt) → RS τ st) : (sts : List Stmt) → RSs τ sts
  | [] => some ⟨.nil, fun X T Φ fl W o _ => pss_nilE⟩
  | st :: r => if d : isDoc st = true then (match trBlock rs r with
    | some ⟨ss, hs⟩ => some ⟨ss, fun X T Φ fl W o hp => pss_skip (doc_ok d) (hs X T Φ fl W o hp)⟩
    | none => none)
    else (match rs st with
    | some ⟨s, h⟩ => (match trBlock rs r with
      | some ⟨ss, hs⟩ => some ⟨.cons s ss, fun X T Φ fl W o hp => pss_consE (h X T Φ fl W o hp) (hs X T Φ fl W o hp)⟩
      | none => none)
    | none => none)
/-- try: .. except x as n: y = n -/
def trTry (rs : (st : Stmt) → RS τ st) (body : List Stmt) (x : Str) (np : Pos) (n y : Str) (p1 : Pos) (m : Str) (p2 p3 hp pos : Pos) : RS τ (.Try body [.ExceptHandler (some (.Name x np)) (some n) [.Assign [.Name y p1] (.Name m p2) p3] hp] [] [] pos) :=
  if g : glB τ.sc x = true ∧ plainName x = true ∧ plainName n = true ∧ plB τ.sc n = true ∧ plB τ.sc y = true ∧ m = n then (match hx : τ.tr.lookup x, idxS τ.N n, idxS τ.N y, trBlock rs body with
    | some k, some ⟨i, hi⟩, some ⟨j, hj⟩, some ⟨b, hb⟩ => if hij : i ≠ j then some ⟨.tryc k b i j, fun X T Φ fl W o hp => by
        obtain ⟨g1, g2, g3, g4, g5, rfl⟩ := g
        exact ps_tryE (o.tr x k hx) hp.st hp.fr o.nd (by rw [o.N]; exact hi) (by rw [o.N]; exact hj) hij (plB_ok o.sc g4) (plB_ok o.sc g5) (glB_ok o.sc g1) (plainName_ok g2).1 (plainName_ok g3).1 (plainName_ok g3).2.1 fun W' pn xe tk po => hb (X.tr pn xe) T Φ fl W' (o.tr' pn xe tk) ⟨po, hp.st, hp.fr⟩⟩ else none
    | _, _, _, _ => none) else none
def stepS (re : (τ : Tx) → (e : Expr) → RE τ e) (rs : (st : Stmt) → RS τ st) (st : Stmt) : RS τ st := match st with
  | .Assign [tg] e p => trAsg re tg e p
  | .Expr e p => if n : isComp e = false then (match re τ e with
    | some ⟨c, h⟩ => some ⟨.ex c, fun X T Φ fl W o _ => ps_exprE (h X T Φ fl W o).1 (swaps_no n _ _ _)⟩
    | none => none) else none
  | .Return (some e) p => (match re τ e with
    | some ⟨c, h⟩ => some ⟨.ret c, fun X T Φ fl W o _ => ps_retE (h X T Φ fl W o).1⟩
    | none => none)
  | .Return none p => some ⟨.ret (.c .non), fun X T Φ fl W o _ => ps_retNE⟩
  | .If c a b p => if n : tst c = true then (match re τ c, trBlock rs a, trBlock rs b with
    | some ⟨cc, hc⟩, some ⟨ca, ha⟩, some ⟨cb, hb⟩ => some ⟨.ite cc ca cb, fun X T Φ fl W o hp => ps_iteE ((hc X T Φ fl W o).2 n) (ha X T Φ fl W o hp) (hb X T Φ fl W o hp)⟩
    | _, _, _ => none) else none
  | .While c a [] p => if n : tst c = true then (match re τ c, trBlock rs a with
    | some ⟨cc, hc⟩, some ⟨ca, ha⟩ => some ⟨.while cc ca, fun X T Φ fl W o hp => ps_whileE' hp.po ((hc X T Φ fl W o).2 n) (ha X T Φ fl W o hp)⟩
    | _, _ => none) else none
  | .For tg iter a [] p => if n : isSet iter = false then (match trI (re τ) tg iter, trG τ tg, trBlock rs a with
    | some ⟨it, hi⟩, some ⟨t, hg⟩, some ⟨ca, ha⟩ => some ⟨.for t it ca, fun X T Φ fl W o hp => ps_forE' hp.po o.calm (by rw [hg.1]; exact hi X T Φ fl W o) (hg.2 X T Φ W o) (ha X T Φ fl W o hp) (fun x => foldedSet_of n X.env x)⟩
    | _, _, _ => none) else none
  | .Raise (some e) none p => trRaise e p
  | .Try body [.ExceptHandler (some (.Name x np)) (some n) [.Assign [.Name y p1] (.Name m p2) p3] hp] [] [] pos => trTry rs body x np n y p1 m p2 p3 hp pos
  | _ => none
def trS : Nat → (st : Stmt) → RS τ st
  | 0, _ => none
  | n + 1, st => match stepS (trE 40) (trS n) st with
    | some c => some c
    | none => some ⟨.stop, fun X T Φ fl W o _ => ⟨fun pins s σ H D I h => by obtain ⟨A, F, G, st, rel, h⟩ := h; rw [ex] at h; exact h.elim⟩⟩
end
end PV
set_option Elab.async false
set_option linter.all false
set_option maxRecDepth 100000
set_option maxHeartbeats 4000000
namespace PV
open PySem PySem.Spec PyProof.Rows L2
def kids : Expr → List Expr
  | .BinOp a _ b _ => [a, b]
  | .UnaryOp _ a _ => [a]
  | .BoolOp _ es _ => es
  | .Compare a _ bs _ => a :: bs
  | .Call f as _ _ => f :: as
  | .IfExp c a b _ => [c, a, b]
  | .Subscript a b _ => [a, b]
  | .Slice a b c _ => a.toList ++ b.toList ++ c.toList
  | .Tuple es _ _ => es
  | .List es _ => es
  | .Attribute o _ _ => [o]
  | .ListComp e gs _ _ => e :: gs.flatMap fun g => g.target :: g.iter :: g.ifs
  | _ => []
def ownN (sc : Scope) : List Str := sc.names.filterMap fun (n, k) => match k with
  | .local => some n
  | .cell => some n
  | _ => none
def compN : Nat → Expr → List Str
  | 0, _ => []
  | n + 1, e => (match e with
    | .ListComp _ _ sc _ => ownN sc
    | _ => []) ++ (kids e).flatMap (compN n)
def kidsS : Stmt → List Expr × List Stmt
  | .Assign ts e _ => (e :: ts, [])
  | .Expr e _ => ([e], [])
  | .Return (some e) _ => ([e], [])
  | .If c a b _ => ([c], a ++ b)
  | .While c a b _ => ([c], a ++ b)
  | .For t i a b _ => ([t, i], a ++ b)
  | .Try b _ _ _ _ => ([], b)
  | _ => ([], [])
def compS : Nat → Stmt → List Str
  | 0, _ => []
  | n + 1, s => (kidsS s).1.flatMap (compN 40) ++ (kidsS s).2.flatMap (compS n)
def addN : List Str → List Str → List Str
  | acc, [] => acc
  | acc, x :: r => if (acc.any fun y => sameS y x) || sameS x ".0" then addN acc r else addN (acc ++ [x]) r
def slotsOf (ps : List Str) (sc : Scope) (body : List Stmt) : List Str := addN (addN ps (ownN sc)) (body.flatMap (compS 40))
/-- a def of the program -/
structure Df where
  name : Str
  ps : List Str
  N : List Str
  body : List Stmt
  scope : Scope
/-- what is known of the program's names -/
structure Nf where
  bt : List Str
  xs : List (Str × Nat)
  cd : List (Str × List (List Nat × D))
  xi : List (Str × List Nat)
  tr : List (Str × Nat)
def Df.tx (d : Df) (fs : List (Str × Nat × Nat)) (nf : Nf) : Tx := ⟨d.N, d.scope, fun _ => true, fs, nf.bt, nf.xs, nf.cd, nf.xi, nf.tr⟩
def fsOf : Nat → List Df → List (Str × Nat × Nat)
  | _, [] => []
  | k, d :: r => (d.name, k, d.ps.length) :: fsOf (k + 1) r
end PV
set_option Elab.async false
set_option linter.all false
set_option maxRecDepth 100000
set_option maxHeartbeats 4000000
namespace PV
open PySem PySem.Spec PyProof.Rows L2
section
variable {C : Cn} {A : List Addr} {F G H : Hp} {st : St} {σ : L2.St}
theorem slot_app {st : St} {n i : Nat} : slot (st ++ List.replicate n .none) i = slot st i := by
  unfold slot
  rw [List.getD_eq_getElem?_getD, List.getD_eq_getElem?_getD]
  by_cases h : i < st.length
  · rw [List.getElem?_append_left h]
  · rw [List.getElem?_append_right (by omega), List.getElem?_eq_none (l := st) (by omega), List.getElem?_replicate]
    split <;> rfl
theorem Rel.more (r : Rel C A F G st σ H) (n : Nat) : Rel C A F G (st ++ List.replicate n .none) (σ ++ List.replicate n none) H := by
  have up : ∀ {i : Nat} {v : Option V}, σ[i]? = some v → (σ ++ List.replicate n none)[i]? = some v := fun {i v} h => by
    rw [List.getElem?_append_left (List.getElem?_eq_some_iff.mp h).1]; exact h
  refine ⟨by simp [r.len], r.subR, r.subG, r.dis, fun i d q => ?_, fun i t d q => ?_, fun i j t u d e p q1 q2 q3 q4 => ?_⟩
  · rw [slot_app] at q
    obtain ⟨v, h1, h2⟩ := r.val i d q
    exact ⟨v, up h1, h2⟩
  · rw [slot_app] at q
    obtain ⟨p, h1, h2⟩ := r.own i t d q
    exact ⟨p, up h1, h2⟩
  · rw [slot_app] at q1 q2
    obtain ⟨p1, h1, _⟩ := r.own i t d q1
    obtain ⟨p2, h2, _⟩ := r.own j u e q2
    have e1 := up h1; rw [q3] at e1; cases e1
    have e2 := up h2; rw [q4] at e2; cases e2
    exact r.inj i j t u d e p q1 q2 h1 h2
theorem slot_take {st : St} {n i : Nat} {s : Sl} (h : slot (st.take n) i = s) (hs : s ≠ .none) : slot st i = s ∧ i < n := by
  unfold slot at h ⊢
  rw [List.getD_eq_getElem?_getD] at h ⊢
  by_cases hi : i < n
  · rw [List.getElem?_take_of_lt hi] at h
    exact ⟨h, hi⟩
  · rw [List.getElem?_eq_none (by rw [List.length_take]; omega)] at h
    exact absurd h.symm hs
theorem Rel.take (r : Rel C A F G st σ H) (n : Nat) : Rel C A F G (st.take n) (σ.take n) H := by
  refine ⟨by simp [r.len], r.subR, r.subG, r.dis, fun i d q => ?_, fun i t d q => ?_, fun i j t u d e p q1 q2 q3 q4 => ?_⟩
  · obtain ⟨h1, hi⟩ := slot_take q (by intro z; cases z)
    rw [List.getElem?_take_of_lt hi]
    exact r.val i d h1
  · obtain ⟨h1, hi⟩ := slot_take q (by intro z; cases z)
    rw [List.getElem?_take_of_lt hi]
    exact r.own i t d h1
  · obtain ⟨h1, hi⟩ := slot_take q1 (by intro z; cases z)
    obtain ⟨h2, hj⟩ := slot_take q2 (by intro z; cases z)
    rw [List.getElem?_take_of_lt hi] at q3
    rw [List.getElem?_take_of_lt hj] at q4
    exact r.inj i j t u d e p h1 h2 q3 q4
theorem NotOwn.take {p : Addr} (n : Nat) (h : NotOwn st σ p) : NotOwn (st.take n) (σ.take n) p := fun i t d q z => by
  obtain ⟨h1, hi⟩ := slot_take q (by intro z; cases z)
  rw [List.getElem?_take_of_lt hi] at z
  exact h i t d h1 z
theorem end_of {Q : VK} {E : XK} {np : Nat} {x : Res (Fl × St)} (h : endF C A F G Q E (x.bind fun y => .ok (finish np y))) : endS C A F G (fun cls d _ H' => E cls d H') { nx := fun _ H' => Q .non H', rt := Q } x := by
  cases x with
  | no => exact h
  | exc c =>
    obtain ⟨y, e, h⟩ := h
    exact ⟨y, e, fun σ' G' H' => h G' H'⟩
  | ok y =>
    obtain ⟨f, st1⟩ := y
    cases f with
    | next => exact fun σ' G' H' s r => h .non G' H' (σ'.take np) s (r.take np) .non
    | ret v =>
      refine fun u σ' G' H' s r p => h u G' H' (σ'.take np) s (r.take np) ?_
      cases v with
      | val d => exact p
      | fresh d =>
        obtain ⟨q, h1, h2, h3, h4, h5⟩ := p
        exact ⟨q, h1, h2, h3, h4.take np, h5⟩
end
def nodupS : List Str → Bool
  | [] => true
  | x :: r => !(r.any fun y => sameS y x) && nodupS r
theorem nodupS_ok : ∀ {l : List Str}, nodupS l = true → l.Nodup
  | [], _ => .nil
  | x :: r, h => by
    simp only [nodupS, Bool.and_eq_true, Bool.not_eq_true'] at h
    refine List.nodup_cons.mpr ⟨fun z => ?_, nodupS_ok h.2⟩
    have : (r.any fun y => sameS y x) = true := List.any_eq_true.mpr ⟨x, z, show sameS x x = true by simp [sameS]⟩
    rw [this] at h
    cases h.1
def sameL : List Str → List Str → Bool
  | [], [] => true
  | x :: r, y :: s => sameS x y && sameL r s
  | _, _ => false
theorem sameL_ok : ∀ {a b : List Str}, sameL a b = true → a = b
  | [], [], _ => rfl
  | x :: r, y :: s, h => by
    simp only [sameL, Bool.and_eq_true] at h
    rw [sameS_ok h.1, sameL_ok h.2]
  | [], _ :: _, h => by cases h
  | _ :: _, [], h => by cases h
def fscB (d : Df) : Bool := isFun d.scope.kind && !d.scope.isCoroutine && !d.scope.isGenerator && nodupS d.N && sameL (d.N.take d.ps.length) d.ps && (d.ps.all fun x => kindEq (d.scope.names.lookup x) .local || kindEq (d.scope.names.lookup x) .cell) && d.scope.names.all fun y => !(kindEq (some y.2) .free)
theorem fscB_ok {d : Df} (h : fscB d = true) : FnScope d.N d.ps d.scope := by
  simp only [fscB, Bool.and_eq_true, Bool.not_eq_true', List.all_eq_true, Bool.or_eq_true] at h
  obtain ⟨⟨⟨⟨⟨⟨h1, h2⟩, h3⟩, h4⟩, h5⟩, h6⟩, h7⟩ := h
  refine ⟨?_, h2, h3, nodupS_ok h4, sameL_ok h5, fun x hx => ?_, fun y hy z => ?_⟩
  · cases q : d.scope.kind with
    | function => rfl
    | _ => rw [q] at h1; cases h1
  · rcases h6 x hx with z | z
    · exact .inl (kindEq_ok z)
    · exact .inr (kindEq_ok z)
  · have := h7 y hy
    rw [z] at this
    cases this
def trFn (τ : Tx) (body : List Stmt) : RSs τ body := trBlock (trS 30) body
/-- a def as the evaluator has it -/
def fnOf (nf : Nf) (fs : List (Str × Nat × Nat)) (d : Df) : Option Fn :=
  if fscB d then (match trFn (d.tx fs nf) d.body with
    | some ⟨b, _⟩ => some ⟨d.ps.length, d.N.length, b⟩
    | none => none) else none
def tabOf (nf : Nf) (dfs : List Df) (k : Nat) : Option Fn := match dfs[k]? with
  | some d => fnOf nf (fsOf 0 dfs) d
  | none => none
/-- what stands in the program -/
structure Wd (w : World) (K : PySem.W.Frag) (mg : Str → Option Value) (T : Tab) (nf : Nf) (dfs : List Df) : Prop where
  df : ∀ (k : Nat) (d : Df), dfs[k]? = some d → ∃ a fd args, FunD K d.name d.name args d.body d.scope [] [] a fd ∧ mg d.name = some (.ref a) ∧ PySem.W.keepIn K (.ref a) = true ∧ Binds K fd d.ps []
  bt : ∀ x, nf.bt.contains x = true → mg x = none
  xs : ∀ x k, nf.xs.lookup x = some k → ∃ (C : Addr) (bmB : List Value) (B newId initId : String), ExcBaseFacts B newId initId bmB ∧ PySem.W.excIn K C bmB newId = true ∧ mg x = some (.ref C) ∧ PySem.W.keepIn K (.ref C) = true ∧ PySem.W.subIn K (.ref C) (.type "BaseException") = some true ∧ PySem.W.typeIn K (.ref C) = some (.type "type") ∧ T.xa k = some C
  fa : ∀ k ad, T.fa k = some ad ↔ ∃ d, dfs[k]? = some d ∧ mg d.name = some (.ref ad)
  xi : ∀ y l, nf.xi.lookup y = some l → ∃ (v : V) (cv : Value), RelV v cv ∧ (∀ u, RelV v u → u = cv) ∧ (mg y = some cv ∨ (mg y = none ∧ bootBuiltins y = some cv ∧ y ≠ "__name__")) ∧ ∀ k C, T.xa k = some C → ExcC K C ∧ PySem.W.kitOne K (.ref C) cv = some (l.any fun j => Nat.beq j k)
  tr : ∀ x m, nf.tr.lookup x = some m → ∃ c : Value, (mg x = some c ∨ (mg x = none ∧ bootBuiltins x = some c ∧ x ≠ "__name__")) ∧ (∀ k, k < m → ∃ C, T.xa k = some C) ∧ ∀ k C, T.xa k = some C → PySem.W.exmOne K (.ref C) c = some true
  ds : ∀ x kvs, nf.cd.lookup x = some kvs → ∃ d es n, mg x = some (.ref d) ∧ KDict K w d es n ∧
    (∀ k dv, kget k kvs = some dv → ∃ u v, PySem.W.nsIn K d ⟨k.toArray⟩ = some (some u) ∧ RelV v u ∧ Kst v dv) ∧ ∀ k, kget k kvs = none → PySem.W.nsIn K d ⟨k.toArray⟩ = some none
theorem fsOf_ok {x : Str} {f np : Nat} : ∀ {dfs : List Df} {k : Nat}, (fsOf k dfs).lookup x = some (f, np) → ∃ d, dfs[f - k]? = some d ∧ k ≤ f ∧ d.name = x ∧ np = d.ps.length
  | [], _, h => by simp [fsOf] at h
  | d :: r, k, h => by
    simp only [fsOf, List.lookup_cons] at h
    split at h
    · rename_i e
      cases h
      exact ⟨d, by simp, Nat.le_refl _, (eq_of_beq e).symm, rfl⟩
    · obtain ⟨d', h1, h2, h3, h4⟩ := fsOf_ok h
      refine ⟨d', ?_, by omega, h3, h4⟩
      rw [show f - k = (f - (k + 1)) + 1 by omega]
      simpa using h1
theorem at_len {fl : Nat → List Bool} {tab : Nat → Option Fn} {f : Nat} {fn : Fn} (h : tab f = some fn) : ∀ (n : Nat) (as : List Ar), (∃ y, Fns.at fl tab n f as = .ok y) ∨ (∃ c, Fns.at fl tab n f as = .exc c) → as.length = fn.np
  | 0, as, z => by rcases z with ⟨_, z⟩ | ⟨_, z⟩ <;> cases z
  | n + 1, as, z => by
    simp only [Fns.at, h, runFn] at z
    split at z
    · rename_i e; exact eq_of_beq e
    · rcases z with ⟨_, z⟩ | ⟨_, z⟩ <;> cases z
section
variable {P : Program} {w : World} {K : PySem.W.Frag} {mg : Str → Option Value} {base : Heap} {T : Tab} {nf : Nf} {dfs : List Df} {fl : Nat → List Bool}
abbrev cnW (P : Program) (w : World) (K : PySem.W.Frag) (mg : Str → Option Value) (base : Heap) (T : Tab) : Cn := ⟨P, w, K, mg, base, T.fa, T.xa⟩
theorem at_np {f : Nat} {d' : Df} (h1 : dfs[f]? = some d') (n : Nat) (as : List Ar) (z : (∃ y, Fns.at fl (tabOf nf dfs) n f as = .ok y) ∨ (∃ c, Fns.at fl (tabOf nf dfs) n f as = .exc c)) : as.length = d'.ps.length := by
  by_cases hg : ∃ fn, tabOf nf dfs f = some fn
  · obtain ⟨fn', hfn'⟩ := hg
    have e := at_len hfn' n as z
    rw [e]
    unfold tabOf at hfn'
    rw [h1] at hfn'
    simp only [fnOf] at hfn'
    split at hfn'
    · split at hfn'
      · cases hfn'; rfl
      · cases hfn'
    · cases hfn'
  · have e : ∀ m, Fns.at fl (tabOf nf dfs) m f as = .no := fun m => by
      cases m with
      | zero => rfl
      | succ m =>
        cases q : tabOf nf dfs f with
        | some fn => exact absurd ⟨fn, q⟩ hg
        | none => simp only [Fns.at, q]
    rw [e n] at z
    rcases z with ⟨_, z⟩ | ⟨_, z⟩ <;> cases z
theorem fn_ok (wd : Wd w K mg T nf dfs) : ∀ (n k : Nat) (d : Df) (a : Addr) (fd : FuncData) (args : Arguments), dfs[k]? = some d → FunD K d.name d.name args d.body d.scope [] [] a fd →
    FnOk P w K mg base (L2.CX P w) n a fd d.ps (spF (cnW P w K mg base T) (Fns.at fl (tabOf nf dfs) n) k d.ps.length)
  | 0, k, d, a, fd, args, hd, F => ⟨fun vs H Q E h => h.1, fun A outer s H as us vs Q E _ _ _ _ h => by
      obtain ⟨_, A, F, G, as, rel, h⟩ := h
      exact h.elim⟩
  | n + 1, k, d, a, fd, args, hd, F => by
    by_cases hg : ∃ fn, tabOf nf dfs k = some fn
    case neg =>
      refine ⟨fun vs H Q E h => h.1, fun A outer s H as us vs Q E _ _ _ _ h => ?_⟩
      obtain ⟨_, A, F, G, as, rel, h⟩ := h
      cases q : tabOf nf dfs k with
      | some fn => exact absurd ⟨fn, q⟩ hg
      | none => simp only [Fns.at, q] at h; exact h.elim
    case pos =>
    obtain ⟨fn, hfn⟩ := hg
    have hfn' := hfn
    unfold tabOf at hfn
    rw [hd] at hfn
    simp only [fnOf] at hfn
    split at hfn
    · rename_i hb
      split at hfn
      · rename_i b hS htr
        cases hfn
        have S := fscB_ok hb
        refine F.ok S (fun vs H Q E h => h.1) fun cdv A outer s H vs Q E hr h => ?_
        refine ⟨rdSs (cnW P w K mg base T) (Fns.at fl (tabOf nf dfs) n) fl (fun cls d _ H' => E cls d H') b, ?_, ?_⟩
        · let X := cxOf (L2.CX P w) P w K mg base d.N d.name d.scope a cdv A outer s H E
          have ok : Ok X T (Fns.at fl (tabOf nf dfs) n) (fun cls d _ H' => E cls d H') (d.tx (fsOf 0 dfs) nf) := by
            refine ⟨rfl, S.nd, rfl, rfl, ?_, takes_of rfl rfl rfl rfl, fun _ _ => rfl, wd.bt, fun x f np hx => ?_, fun x k hx => ?_, wd.ds, fun k ad hk => ?_, fun x f np hx => ?_, wd.xi, wd.tr⟩
            · have := hr.un
              show (A.deeper (envOfC d.name d.scope s.heap.objs.size a cdv)).units + 65 < cLine
              omega
            · obtain ⟨d', h1, _, h3, h4⟩ := fsOf_ok hx
              rw [Nat.sub_zero] at h1
              obtain ⟨a', fd', args', h5, h6, h7, h8⟩ := wd.df f d' h1
              subst h3
              subst h4
              exact ⟨n, hr, ⟨⟨a', fd', d'.ps, h6, h7, h8, fn_ok wd n f d' a' fd' args' h1 h5⟩⟩, at_np h1 n⟩
            · obtain ⟨C, bmB, B, newId, initId, h1, h2, h3, h4, h5, h6, h7⟩ := wd.xs x k hx
              exact ⟨C, bmB, B, newId, initId, h1, h2, h3, h4, raises_own h5 h6, h7⟩
            · obtain ⟨d', h1, h2⟩ := (wd.fa k ad).mp hk
              obtain ⟨a', fd', args', h5, h6, h7, h8⟩ := wd.df k d' h1
              have e : a' = ad := by rw [h2] at h6; cases h6; rfl
              subst e
              exact ⟨d'.ps.length, ⟨⟨n, fd', d'.ps, hr, fn_ok wd n k d' a' fd' args' h1 h5, h7, h8⟩⟩, at_np h1 n⟩
            · obtain ⟨d', h1, _, h3, h4⟩ := fsOf_ok hx
              rw [Nat.sub_zero] at h1
              obtain ⟨a', fd', args', h5, h6, h7, h8⟩ := wd.df f d' h1
              subst h3
              exact ⟨a', h6, (wd.fa f a').mpr ⟨d', h1, h6⟩⟩
          exact hS X T (Fns.at fl (tabOf nf dfs) n) fl (fun cls d _ H' => E cls d H') ok ⟨passes_of rfl, rfl, rfl⟩
        · obtain ⟨hl, A', F', G', as, rel, h⟩ := h
          have hla : as.length = d.ps.length := by
            have := rel.len
            rw [start_len, List.length_map] at this
            omega
          have e : Fns.at fl (tabOf nf dfs) (n + 1) k as = runFn fl (Fns.at fl (tabOf nf dfs) n) ⟨d.ps.length, d.N.length, b⟩ as := by
            simp only [Fns.at, hfn']
          rw [e, runFn, if_pos (by simp [hla])] at h
          have e2 : L2.start d.N vs = vs.map some ++ List.replicate (d.N.length - d.ps.length) none := by
            unfold L2.start; rw [hl]
          rw [e2]
          exact ⟨A', F', G', _, rel.more _, end_of h⟩
      · cases hfn
    · cases hfn
/-- without what may leave it -/
theorem FnOk.calm0 {k : Nat} {f : Addr} {fd : FuncData} {ps : List Str} {sp : Sp} (F : FnOk P w K mg base (L2.CX P w) k f fd ps sp) : FnOk P w K mg base L2.CX0 k f fd ps (fun vs H Q _ => sp vs H Q L2.E0) :=
  ⟨fun vs H Q E h => F.len vs H Q _ h, fun A outer s H args us vs Q E hr he hb hv hs => codeAny_mono (F.run A outer s H args us vs Q L2.E0 hr he hb hv hs) fun r s' h => by
    cases r with
    | ok f => cases f <;> exact h
    | error e =>
      obtain ⟨_, _, _, _, _, _, _, _, _, _, _, _, z⟩ := h
      exact z.elim⟩
/-- the law's promise -/
def spLaw (K : PySem.W.Frag) : Sp := fun vs H Q _ => ∃ (a : Addr) (ns : List Int), vs = [.ref a] ∧ ns.length ≤ 63 ∧ SqL K H a (ns.map V.int) ∧ ∀ H', Q (.bl true) H'
theorem law_says {C : Cn} {Φ : Fns} {k : Nat} {H : Hp} {Q : VK} {a : Addr} {ns : List Int} {os : List Sl} (hS : SqL C.K H a (ns.map V.int)) (hr : Φ k [.val (.scr ns)] = .ok (.val (.bl true), os)) (hQ : ∀ H', Q (.bl true) H') : spF C Φ k 1 [.ref a] H Q L2.E0 := by
  refine ⟨rfl, [], fun _ => none, H, [.val (.scr ns)], ?_, ?_⟩
  · refine ⟨rfl, (fun _ _ z => by cases z), Sub.rfl, fun _ _ _ => rfl, fun i d q => ?_, fun i t d q => ?_, fun i j t u d e p q => ?_⟩
    · match i, q with
      | 0, q => cases q; exact ⟨_, rfl, .scr hS⟩
      | i + 1, q => cases q
    · match i, q with
      | 0, q => cases q
      | i + 1, q => cases q
    · match i, q with
      | 0, q => cases q
      | i + 1, q => cases q
  · rw [hr]
    exact fun v G' H' σ' _ _ p => by rw [Rep.bl_inv p]; exact hQ H'
end
end PV
set_option Elab.async false
set_option linter.all false
set_option maxRecDepth 100000
set_option maxHeartbeats 4000000
namespace PV
open PySem PySem.Spec PyProof.Rows L2
def isDef : Stmt → Bool
  | .FunctionDef .. => true
  | _ => false
def mkD : Stmt → He.DefD
  | .FunctionDef name args b _ _ _ scope _ _ _ => ⟨(name, none), name, name, args, b, scope, [], []⟩
  | _ => ⟨("", none), "", "", ⟨[], [], none, [], [], none, []⟩, [], ⟨.function, [], false, false, []⟩, [], []⟩
def fnsOf (body : List Stmt) : List He.DefD := (body.filter isDef).map mkD
def dfD (d : He.DefD) : Df := let ps := d.params.args.map (·.arg); ⟨d.name, ps, slotsOf ps d.scope d.body, d.body, d.scope⟩
theorem mkD_ok (st : Stmt) : (mkD st).at_ = ((mkD st).name, none) ∧ (mkD st).qual = (mkD st).name ∧ (mkD st).dfl = [] ∧ (mkD st).kwd = [] := by
  cases st <;> exact ⟨rfl, rfl, rfl, rfl⟩
abbrev Cds := List (Str × List (List Nat × D))
def faOf (fn : List He.DefD) (nf : Nf) : List He.Fa := (fn.map fun d => He.Fa.glo d.name) ++ (nf.bt.map He.Fa.free ++ ((nf.xs.map fun p => He.Fa.glo p.1) ++ ((nf.xs.map fun p => He.Fa.exc p.1) ++ nf.cd.map fun p => He.Fa.glo p.1)))
def tsOf (cd : Cds) : List He.Tab := cd.map fun p => (fun K => He.ga K p.1, p.2.map fun q => (⟨q.1.toArray⟩ : Str))
def constB : D → Value → Bool
  | .int i, .int j _ => decide (i = j)
  | .str s, .str x _ => decide (x = ⟨s.toArray⟩) && s.all fun c => Nat.blt c 0x110000
  | _, _ => false
theorem constB_ok {d : D} {u : Value} (h : constB d u = true) : ∃ v, RelV v u ∧ Kst v d := by
  unfold constB at h
  split at h
  · rename_i i j t
    have e := of_decide_eq_true h
    subst e
    exact ⟨.int i, ⟨t, rfl⟩, .int i⟩
  · rename_i s x t
    rw [Bool.and_eq_true] at h
    have e := of_decide_eq_true h.1
    subst e
    exact ⟨.str ⟨s.toArray⟩, ⟨t, rfl⟩, .str s fun c hc => Nat.le_of_ble_eq_true (List.all_eq_true.mp h.2 c hc)⟩
  · cases h
/-- the class of a name -/
def clsV (nf : Nf) (K : PySem.W.Frag) (y : Str) : Option Value := if (nf.xs.any fun p => sameS p.1 y) = true then some (.ref (He.ga K y)) else if (nf.bt.contains y && !sameS y "__name__") = true then bootBuiltins y else none
def isBlt (o : Option (Option Value)) (n : String) : Bool := match o with
  | some (some (.builtin s)) => decide (s = n)
  | _ => false
theorem isBlt_ok {o : Option (Option Value)} {n : String} (h : isBlt o n = true) : o = some (some (.builtin n)) := by
  unfold isBlt at h
  split at h
  · rw [of_decide_eq_true h]
  · cases h
def isNo : Option (Option Value) → Bool
  | some none => true
  | _ => false
theorem isNo_ok {o : Option (Option Value)} (h : isNo o = true) : o = some none := by
  unfold isNo at h
  split at h
  · rfl
  · cases h
def isTt : Option Bool → Bool
  | some true => true
  | _ => false
theorem isTt_ok {o : Option Bool} (h : isTt o = true) : o = some true := by
  unfold isTt at h
  split at h
  · rfl
  · cases h
def excB (K : PySem.W.Frag) (D : Addr) : Bool := isBlt (PySem.W.findIn K (.ref D) "__getattribute__") "BaseException.__getattribute__" && isNo (PySem.W.findIn K (.ref D) "__getattr__") && isTt (PySem.W.subIn K (.ref D) (.type "BaseException")) && PySem.W.hasDictIn K D
  && isBlt (PySem.W.findIn K (.ref D) "__class__") "object.__class__" && isBlt (PySem.W.specialIn K (.builtin "object.__class__") "__get__") "getset_descriptor.__get__" && isTt (PySem.W.takesIn K (.builtin "object.__class__")) && isTt (PySem.W.mroIn K D (.type "object"))
theorem excB_ok {K : PySem.W.Frag} {D : Addr} (h : excB K D = true) : ExcC K D := by
  simp only [excB, Bool.and_eq_true] at h
  obtain ⟨⟨⟨⟨⟨⟨⟨h1, h2⟩, h3⟩, h4⟩, h5⟩, h6⟩, h7⟩, h8⟩ := h
  exact ⟨isBlt_ok h1, isNo_ok h2, isTt_ok h3, h4, isBlt_ok h5, isBlt_ok h6, isTt_ok h7, isTt_ok h8⟩
def okCV : Value → Bool
  | .ref _ => true
  | .type _ => true
  | _ => false
theorem okCV_ok {u : Value} (h : okCV u = true) : ∃ v, RelV v u ∧ ∀ u', RelV v u' → u' = u := by
  unfold okCV at h
  split at h
  · rename_i a; exact ⟨.ref a, rfl, fun u' r => r⟩
  · rename_i n; exact ⟨.ty n, rfl, fun u' r => r⟩
  · cases h
def sameB : Option Bool → Bool → Bool
  | some a, b => a == b
  | none, _ => false
theorem sameB_ok {o : Option Bool} {b : Bool} (h : sameB o b = true) : o = some b := by
  unfold sameB at h
  split at h
  · rw [eq_of_beq h]
  · cases h
def xiB (nf : Nf) (K : PySem.W.Frag) : Bool := (nf.xi.isEmpty || nf.xs.all fun q => excB K (He.ga K q.1)) && nf.xi.all fun p => match clsV nf K p.1 with
  | some cv => okCV cv && nf.xs.all fun q => sameB (PySem.W.kitOne K (.ref (He.ga K q.1)) cv) (p.2.any fun j => Nat.beq j q.2)
  | none => false
def trB (nf : Nf) (K : PySem.W.Frag) : Bool := nf.tr.all fun p => (match clsV nf K p.1 with
  | some c => nf.xs.all fun q => isTt (PySem.W.exmOne K (.ref (He.ga K q.1)) c)
  | none => false) && (List.range p.2).all fun k => nf.xs.any fun q => q.2 == k
def cdB (cd : Cds) (K : PySem.W.Frag) : Bool := cd.all fun p => p.2.all fun q => match PySem.W.nsIn K (He.ga K p.1) ⟨q.1.toArray⟩ with
  | some (some u) => constB q.2 u
  | _ => false
def exOf (nf : Nf) (K : PySem.W.Frag) : Bool := cdB nf.cd K && (xiB nf K && trB nf K)
theorem kget_mem {k : List Nat} {d : D} : ∀ {kvs : List (List Nat × D)}, kget k kvs = some d → (k, d) ∈ kvs
  | [], h => by simp [kget] at h
  | (a, b) :: r, h => by
    simp only [kget] at h
    split at h
    · rename_i e; cases h; rw [← eq_of_beq e]; exact List.mem_cons_self
    · exact List.mem_cons_of_mem _ (kget_mem h)
theorem kget_none {k : List Nat} : ∀ {kvs : List (List Nat × D)}, kget k kvs = none → ∀ q ∈ kvs, q.1 ≠ k
  | [], _, q, hq => by simp at hq
  | (a, b) :: r, h, q, hq => by
    simp only [kget] at h
    split at h
    · cases h
    · rename_i e
      rcases List.mem_cons.mp hq with z | z
      · subst z; simpa using e
      · exact kget_none h q z
theorem keys_none {P : Params} {name : Str} : ∀ {l : List DictEntry} {ks : List Str}, l.map He.keyOf = He.keysIn P ks → name ∉ ks → l.find? (·.key.isStr name) = none ∧ l.any (·.refKey) = false
  | [], _, _, _ => ⟨rfl, rfl⟩
  | e :: r, [], h, _ => by cases h
  | e :: r, k :: ks, h, hn => by
    have h1 : He.keyOf e :: r.map He.keyOf = some (k, PyData.keyHash P k) :: He.keysIn P ks := h
    injection h1 with h2 h3
    obtain ⟨i1, i2⟩ := keys_none h3 fun z => hn (List.mem_cons_of_mem _ z)
    unfold He.keyOf at h2
    split at h2
    · rename_i x t q
      have h4 := Option.some.inj h2
      obtain ⟨h5, h6⟩ := Prod.mk.inj h4
      have ne : x ≠ name := fun z => hn (by rw [← z, h5]; exact List.mem_cons_self)
      refine ⟨?_, ?_⟩
      · rw [List.find?_cons]
        have : e.key.isStr name = false := by rw [q]; simpa [Value.isStr] using ne
        rw [this]; exact i1
      · rw [List.any_cons, i2, Bool.or_false]
        unfold DictEntry.refKey
        rw [q]
    · cases h2
theorem dic_none {K : PySem.W.Frag} {P : Params} {a : Addr} {ks : List Str} {name : Str} (h : He.dicW K a = some (He.keysIn P ks)) (hn : name ∉ ks) : PySem.W.nsIn K a name = some none := by
  unfold He.dicW at h
  unfold PySem.W.nsIn
  split at h
  · rename_i c es n sl q
    rw [q]
    split at h
    · obtain ⟨h1, h2⟩ := keys_none (Option.some.inj h) hn
      simp only [h1, h2]
      rfl
    · cases h
  · cases h
/-- the parameters are bound in their order -/
def Bn (d : He.DefD) : Prop := ∀ (kV doc pm : Value) (an : Option Addr) (cdv ct : Value) (us : List Value), us.length = (dfD d).ps.length → bindArgs (PySem.W.fnOf d.name d.qual d.params d.body d.scope .none kV doc pm an cdv ct) ⟨us, []⟩ = pure ((dfD d).ps.zip us)
section
variable {w : World} {K : PySem.W.Frag} {h hb : Heap} {mg : Str → Option Value} {fn : List He.DefD} {nf : Nf} {tf : List He.Defn}
def faT (K : PySem.W.Frag) (fn : List He.DefD) (k : Nat) : Option Addr := match fn[k]? with
  | some d => some (He.ga K d.name)
  | none => none
def xaOf (K : PySem.W.Frag) (xs : List (Str × Nat)) (k : Nat) : Option Addr := match xs.find? fun p => p.2 == k with
  | some p => some (He.ga K p.1)
  | none => none
theorem wd_of {body : List Stmt} (X : K.In h) (G : h.Ns mainGlobals mg) (hfn : fn = fnsOf body) (c : He.SaysX (faOf fn nf) fn (tsOf nf.cd) tf (exOf nf) w hb K) (hbn : ∀ d ∈ fn, Bn d) (hxs : ∀ p ∈ nf.xs, ∀ q ∈ nf.xs, p.2 = q.2 → p = q) :
    Wd w K mg ⟨faT K fn, xaOf K nf.xs⟩ nf (fn.map dfD) := by
  have fac : ∀ f ∈ faOf fn nf, f.ok K = true := fun f hf => by
    obtain ⟨i, hi, e⟩ := List.mem_iff_getElem.mp hf
    exact c.t.d.fact i (f := f) (by rw [List.getElem?_eq_getElem hi, e])
  have hex := c.more
  rw [exOf, Bool.and_eq_true, Bool.and_eq_true] at hex
  have glo : ∀ d ∈ fn, mg d.name = some (.ref (He.ga K d.name)) := fun d hm => He.glo_ok X G (fac (.glo d.name) (List.mem_append_left _ (List.mem_map.mpr ⟨d, hm, rfl⟩)))
  have gloX : ∀ p ∈ nf.xs, mg p.1 = some (.ref (He.ga K p.1)) := fun p hm => He.glo_ok X G (fac (.glo p.1) (List.mem_append_right _ (List.mem_append_right _ (List.mem_append_left _ (List.mem_map.mpr ⟨p, hm, rfl⟩)))))
  have clsOk : ∀ y cv, clsV nf K y = some cv → mg y = some cv ∨ (mg y = none ∧ bootBuiltins y = some cv ∧ y ≠ "__name__") := fun y cv h => by
    unfold clsV at h
    split at h
    · rename_i ha
      cases h
      obtain ⟨p, hp, e⟩ := List.any_eq_true.mp ha
      rw [← sameS_ok e]
      exact .inl (gloX p hp)
    · split at h
      · rename_i hb
        rw [Bool.and_eq_true, Bool.not_eq_true'] at hb
        have hm : y ∈ nf.bt := by simpa using hb.1
        refine .inr ⟨He.free_ok X G (fac (.free y) (List.mem_append_right _ (List.mem_append_left _ (List.mem_map.mpr ⟨y, hm, rfl⟩)))), h, fun z => ?_⟩
        subst z
        exact absurd hb.2 (by simp [sameS])
      · cases h
  have xaInv : ∀ k C, xaOf K nf.xs k = some C → ∃ p ∈ nf.xs, p.2 = k ∧ C = He.ga K p.1 := fun k C h => by
    unfold xaOf at h
    split at h
    · rename_i p hp
      cases h
      exact ⟨p, List.mem_of_find?_eq_some hp, by simpa using List.find?_some hp, rfl⟩
    · cases h
  have xaTot : ∀ k, (nf.xs.any fun q => q.2 == k) = true → ∃ C, xaOf K nf.xs k = some C := fun k h => by
    unfold xaOf
    cases q : nf.xs.find? fun p => p.2 == k with
    | some p => exact ⟨_, rfl⟩
    | none =>
      obtain ⟨p, hp, e⟩ := List.any_eq_true.mp h
      exact absurd e (List.find?_eq_none.mp q p hp)
  refine ⟨fun k d hk => ?_, fun x hx => ?_, fun x k hx => ?_, fun k ad => ⟨fun h => ?_, fun h => ?_⟩, fun y l hy => ?_, fun x m hx => ?_, fun x kvs hx => ?_⟩
  · rw [List.getElem?_map] at hk
    obtain ⟨d', h1, rfl⟩ := Option.map_eq_some_iff.mp hk
    obtain ⟨fd, F⟩ := c.t.d.def_ k (d := d') h1
    have hm : d' ∈ fn := List.mem_of_getElem? h1
    obtain ⟨st, hst⟩ : ∃ st, d' = mkD st := by
      rw [hfn] at hm
      obtain ⟨st, _, e⟩ := List.mem_map.mp hm
      exact ⟨st, e.symm⟩
    obtain ⟨e1, e2, e3, e4⟩ := mkD_ok st
    rw [← hst] at e1 e2 e3 e4
    have q1 : d'.dvs K = [] := by unfold He.DefD.dvs; rw [e3]; rfl
    have q2 : d'.kws K = [] := by unfold He.DefD.kws; rw [e4]; rfl
    have q3 : He.fAd K d'.at_ = He.ga K d'.name := by rw [e1]; rfl
    rw [q1, q2, q3] at F
    have bb := F.bindsN (hbn d' hm)
    rw [e2] at F
    exact ⟨_, fd, _, F, He.glo_ok X G (fac (.glo d'.name) (List.mem_append_left _ (List.mem_map.mpr ⟨d', hm, rfl⟩))), F.kp, bb⟩
  · have hx : x ∈ nf.bt := by simpa using hx
    exact He.free_ok X G (fac (.free x) (List.mem_append_right _ (List.mem_append_left _ (List.mem_map.mpr ⟨x, hx, rfl⟩))))
  · have hm : (x, k) ∈ nf.xs := PySem.mem_of_lookup hx
    obtain ⟨c1, c2, c3, c4⟩ := He.exc_ok (fac (.exc x) (List.mem_append_right _ (List.mem_append_right _ (List.mem_append_right _ (List.mem_append_left _ (List.mem_map.mpr ⟨(x, k), hm, rfl⟩))))))
    refine ⟨He.ga K x, He.veBase, "ValueError", "ValueError.__new__", "ValueError.__init__", PySem.F.excBase_ValueError, c1, He.glo_ok X G (fac (.glo x) (List.mem_append_right _ (List.mem_append_right _ (List.mem_append_left _ (List.mem_map.mpr ⟨(x, k), hm, rfl⟩))))), c2, c3, c4, ?_⟩
    show xaOf K nf.xs k = _
    unfold xaOf
    have hf : ∃ p, nf.xs.find? (fun p => p.2 == k) = some p := by
      cases q : nf.xs.find? fun p => p.2 == k with
      | some p => exact ⟨p, rfl⟩
      | none => exact absurd (List.find?_eq_none.mp q _ hm) (by simp)
    obtain ⟨p, hp⟩ := hf
    rw [hp]
    have e := hxs p (List.mem_of_find?_eq_some hp) (x, k) hm (by simpa using List.find?_some hp)
    rw [e]
  · have h : faT K fn k = some ad := h
    unfold faT at h
    split at h
    · rename_i d hd
      cases h
      exact ⟨dfD d, by rw [List.getElem?_map, hd]; rfl, glo d (List.mem_of_getElem? hd)⟩
    · cases h
  · obtain ⟨d, h1, h2⟩ := h
    rw [List.getElem?_map] at h1
    obtain ⟨d', h3, rfl⟩ := Option.map_eq_some_iff.mp h1
    have h4 := glo d' (List.mem_of_getElem? h3)
    have h2 : mg d'.name = some (.ref ad) := h2
    rw [h2] at h4
    cases h4
    show faT K fn k = _
    unfold faT
    rw [h3]
  · have hm : (y, l) ∈ nf.xi := PySem.mem_of_lookup hy
    have hB := hex.2.1
    rw [xiB, Bool.and_eq_true] at hB
    have h1 := List.all_eq_true.mp hB.2 (y, l) hm
    dsimp only at h1
    split at h1
    · rename_i cv hcv
      rw [Bool.and_eq_true] at h1
      obtain ⟨v, r1, r2⟩ := okCV_ok h1.1
      refine ⟨v, cv, r1, r2, clsOk y cv hcv, fun k C hC => ?_⟩
      obtain ⟨p, hp, e1, e2⟩ := xaInv k C hC
      subst e2
      refine ⟨?_, ?_⟩
      · have := hB.1
        rw [Bool.or_eq_true] at this
        rcases this with z | z
        · rw [List.isEmpty_iff] at z; rw [z] at hm; cases hm
        · exact excB_ok (List.all_eq_true.mp z p hp)
      · rw [← e1]
        exact sameB_ok (List.all_eq_true.mp h1.2 p hp)
    · cases h1
  · have hm : (x, m) ∈ nf.tr := PySem.mem_of_lookup hx
    have h1 := List.all_eq_true.mp hex.2.2 (x, m) hm
    dsimp only at h1
    rw [Bool.and_eq_true] at h1
    obtain ⟨h1, h2⟩ := h1
    split at h1
    · rename_i cv hcv
      refine ⟨cv, clsOk x cv hcv, fun k hk => xaTot k (List.all_eq_true.mp h2 k (List.mem_range.mpr hk)), fun k C hC => ?_⟩
      obtain ⟨p, hp, e1, e2⟩ := xaInv k C hC
      subst e2
      exact isTt_ok (List.all_eq_true.mp h1 p hp)
    · cases h1
  · have hm : (x, kvs) ∈ nf.cd := PySem.mem_of_lookup hx
    obtain ⟨i, hi, e⟩ := List.mem_iff_getElem.mp hm
    have ht : (tsOf nf.cd)[i]? = some (fun K => He.ga K x, kvs.map fun q => (⟨q.1.toArray⟩ : Str)) := by
      unfold tsOf
      rw [List.getElem?_map, List.getElem?_eq_getElem hi, e]; rfl
    obtain ⟨es, n, kd⟩ := c.t.tab i ht
    have hd : He.dicW K (He.ga K x) = some (He.keysIn w.params (kvs.map fun q => (⟨q.1.toArray⟩ : Str))) := by
      have e : (tsOf nf.cd).map (fun t => He.dicW K (t.1 K)) = (tsOf nf.cd).map fun t => some (He.keysIn w.params t.2) := congrArg (fun z : He.AlT => z.2) c.t
      have e2 : ((tsOf nf.cd).map fun t => He.dicW K (t.1 K))[i]? = ((tsOf nf.cd).map fun t => some (He.keysIn w.params t.2))[i]? := by rw [e]
      rw [List.getElem?_map, List.getElem?_map, ht] at e2
      exact Option.some.inj e2
    refine ⟨_, es, n, He.glo_ok X G (fac (.glo x) (List.mem_append_right _ (List.mem_append_right _ (List.mem_append_right _ (List.mem_append_right _ (List.mem_map.mpr ⟨(x, kvs), hm, rfl⟩)))))), kd, fun k dv hk => ?_, fun k hk => dic_none hd fun z => ?_⟩
    · have := List.all_eq_true.mp (List.all_eq_true.mp hex.1 (x, kvs) hm) (k, dv) (kget_mem hk)
      dsimp only at this
      split at this
      · rename_i u hu
        obtain ⟨v, r1, r2⟩ := constB_ok this
        exact ⟨u, v, hu, r1, r2⟩
      · cases this
    · obtain ⟨q, hq, e⟩ := List.mem_map.mp z
      refine kget_none hk q hq ?_
      injection e with e
      simpa using congrArg Array.toList e
theorem law_fn {body : List Stmt} {k : Nat} {d : He.DefD} {x : Str} (X : K.In h) (G : h.Ns mainGlobals mg) (hfn : fn = fnsOf body) (c : He.SaysX (faOf fn nf) fn (tsOf nf.cd) tf (exOf nf) w hb K) (hbn : ∀ d ∈ fn, Bn d) (hk : fn[k]? = some d) (hx : (dfD d).ps = [x]) :
    ∃ a fd, mg d.name = some (.ref a) ∧ FunD K d.name d.name d.params d.body d.scope [] [] a fd ∧ ∀ (s : Shared) (v : Value), BindsTo s fd ⟨[v], []⟩ [(x, v)] := by
  have fac : ∀ f ∈ faOf fn nf, f.ok K = true := fun f hf => by
    obtain ⟨i, hi, e⟩ := List.mem_iff_getElem.mp hf
    exact c.t.d.fact i (f := f) (by rw [List.getElem?_eq_getElem hi, e])
  obtain ⟨fd, F⟩ := c.t.d.def_ k (d := d) hk
  have hm : d ∈ fn := List.mem_of_getElem? hk
  obtain ⟨st, hst⟩ : ∃ st, d = mkD st := by
    rw [hfn] at hm
    obtain ⟨st, _, e⟩ := List.mem_map.mp hm
    exact ⟨st, e.symm⟩
  obtain ⟨e1, e2, e3, e4⟩ := mkD_ok st
  rw [← hst] at e1 e2 e3 e4
  have q1 : d.dvs K = [] := by unfold He.DefD.dvs; rw [e3]; rfl
  have q2 : d.kws K = [] := by unfold He.DefD.kws; rw [e4]; rfl
  have q3 : He.fAd K d.at_ = He.ga K d.name := by rw [e1]; rfl
  rw [q1, q2, q3] at F
  have bb := fun s us hl => F.bindsA (ps := (dfD d).ps) (hbn d hm) s us hl
  rw [e2] at F
  refine ⟨_, fd, He.glo_ok X G (fac (.glo d.name) (List.mem_append_left _ (List.mem_map.mpr ⟨d, hm, rfl⟩))), F, fun s v => ?_⟩
  have := bb s [v] (by rw [hx]; rfl)
  rw [hx] at this
  exact this
theorem len1 {us : List Value} (h : us.length = 1) : ∃ a, us = [a] := by
  match us, h with
  | [a], _ => exact ⟨a, rfl⟩
theorem len2 {us : List Value} (h : us.length = 2) : ∃ a b, us = [a, b] := by
  match us, h with
  | [a, b], _ => exact ⟨a, b, rfl⟩
theorem len3 {us : List Value} (h : us.length = 3) : ∃ a b c, us = [a, b, c] := by
  match us, h with
  | [a, b, c], _ => exact ⟨a, b, c, rfl⟩
theorem len4 {us : List Value} (h : us.length = 4) : ∃ a b c d, us = [a, b, c, d] := by
  match us, h with
  | [a, b, c, d], _ => exact ⟨a, b, c, d, rfl⟩
/-- the list of the proofs of Bn -/
def Bns : List He.DefD → Prop
  | [] => True
  | d :: r => Bn d ∧ Bns r
theorem Bns.mem : ∀ {l : List He.DefD}, Bns l → ∀ d ∈ l, Bn d
  | [], _, d, h => by simp at h
  | e :: r, b, d, h => by
    rcases List.mem_cons.mp h with z | z
    · subst z; exact b.1
    · exact Bns.mem b.2 d z
end
end PV
set_option Elab.async false
set_option linter.all false
set_option maxRecDepth 100000
set_option maxHeartbeats 4000000
namespace PV
def Rle {α : Type} (x y : Res α) : Prop := x = .no ∨ x = y
theorem rle_refl {α : Type} (x : Res α) : Rle x x := .inr rfl
theorem rle_no {α : Type} {y : Res α} : Rle .no y := .inl rfl
theorem rle_bind {α β : Type} {x y : Res α} {f g : α → Res β} (h : Rle x y) (hf : ∀ a, Rle (f a) (g a)) : Rle (x.bind f) (y.bind g) := by
  rcases h with rfl | rfl
  · exact rle_no
  · cases x with
    | ok a => exact hf a
    | exc c => exact rle_refl _
    | no => exact rle_no
theorem rle_calm {α : Type} {x y : Res α} (h : Rle x y) : Rle x.calm y.calm := by
  rcases h with rfl | rfl
  · exact rle_no
  · exact rle_refl _
theorem rle_turns {t : Tg} {b c : St → Res (Option D × St)} (h : ∀ s, Rle (b s) (c s)) : ∀ (xs : List D) (st : St), Rle (turns t b xs st) (turns t c xs st)
  | [], _ => rle_refl _
  | x :: xs, st => by
    rw [turns, turns]
    cases t.set x st with
    | none => exact rle_no
    | some s => exact rle_bind (h s) fun ⟨o, s2⟩ => rle_bind (rle_turns h xs s2) fun _ => rle_refl _
theorem rle_turns2 {t : Tg} {b c : St → Res (List D × St)} (h : ∀ s, Rle (b s) (c s)) : ∀ (xs : List D) (st : St), Rle (turns2 t b xs st) (turns2 t c xs st)
  | [], _ => rle_refl _
  | x :: xs, st => by
    rw [turns2, turns2]
    cases t.set x st with
    | none => exact rle_no
    | some s => exact rle_bind (h s) fun ⟨o, s2⟩ => rle_bind (rle_turns2 h xs s2) fun _ => rle_refl _
theorem rle_loop {t : Tg} {b c : St → Res (Fl × St)} (h : ∀ s, Rle (b s) (c s)) : ∀ (xs : List D) (st : St), Rle (loop t b xs st) (loop t c xs st)
  | [], _ => rle_refl _
  | x :: xs, st => by
    rw [loop, loop]
    cases t.set x st with
    | none => exact rle_no
    | some s =>
      refine rle_bind (h s) fun ⟨f, s2⟩ => ?_
      cases f with
      | next => exact rle_loop h xs s2
      | ret r => exact rle_refl _
theorem rle_while {a a' : St → Res (R × St)} {b c : St → Res (Fl × St)} (ha : ∀ s, Rle (a s) (a' s)) (h : ∀ s, Rle (b s) (c s)) : ∀ (n : Nat) (st : St), Rle (whileN a b n st) (whileN a' c n st)
  | 0, _ => rle_refl _
  | n + 1, st => by
    rw [whileN, whileN]
    refine rle_bind (ha st) fun ⟨r, s1⟩ => ?_
    dsimp only
    split
    · refine rle_bind (h _) fun ⟨f, s2⟩ => ?_
      cases f with
      | next => exact rle_while ha h n s2
      | ret r => exact rle_refl _
    · exact rle_refl _
    · exact rle_no
theorem rle_part {b : Bool} {st : St} {x y : Res (R × St)} (h : Rle x y) : Rle (part b st x) (part b st y) := by
  unfold part
  cases b with
  | false => exact rle_refl _
  | true => exact rle_bind h fun _ => rle_refl _
section
variable {Φ Ψ : Fns} {fl : Nat → List Bool}
mutual
theorem m_ev (H : ∀ f as, Rle (Φ f as) (Ψ f as)) : ∀ (e : E) (st : St), Rle (ev Φ fl e st) (ev Ψ fl e st)
  | .c d, st => by rw [ev, ev]; exact rle_refl _
  | .v i, st => by rw [ev, ev]; exact rle_refl _
  | .op o as, st => by rw [ev, ev]; exact rle_bind (m_os H as st) fun _ => rle_refl _
  | .meth o e as, st => by
    rw [ev, ev]
    refine rle_bind (m_ev H e st) fun ⟨r, s1⟩ => ?_
    dsimp only
    split
    · exact rle_no
    · split
      · exact rle_bind (m_os H as s1) fun _ => rle_refl _
      · exact rle_no
  | .slc a hl lo hh hi, st => by
    rw [ev, ev]
    exact rle_bind (m_ev H a st) fun ⟨r, s1⟩ => rle_bind (rle_part (m_ev H lo s1)) fun ⟨l, s2⟩ => rle_bind (rle_part (m_ev H hi s2)) fun _ => rle_refl _
  | .and a b, st => by
    rw [ev, ev]
    refine rle_bind (m_ev H a st) fun ⟨r, s1⟩ => ?_
    dsimp only
    split
    · exact m_ev H b s1
    · exact rle_refl _
    · exact rle_no
  | .or a b, st => by
    rw [ev, ev]
    refine rle_bind (m_ev H a st) fun ⟨r, s1⟩ => ?_
    dsimp only
    split
    · exact m_ev H b s1
    · exact rle_refl _
    · exact rle_no
  | .not a, st => by rw [ev, ev]; exact rle_bind (m_ev H a st) fun _ => rle_refl _
  | .ite c a b, st => by
    rw [ev, ev]
    refine rle_bind (m_ev H c st) fun ⟨r, s1⟩ => ?_
    dsimp only
    split
    · exact m_ev H a s1
    · exact m_ev H b s1
    · exact rle_no
  | .chain o o' a b c, st => by
    rw [ev, ev]
    refine rle_bind (m_ev H a st) fun ⟨r, s1⟩ => ?_
    dsimp only
    split
    · refine rle_bind (m_ev H b s1) fun ⟨r, s2⟩ => ?_
      dsimp only
      split
      · split
        · exact rle_refl _
        · exact rle_bind (m_ev H c s2) fun _ => rle_refl _
        · exact rle_no
      · exact rle_no
    · exact rle_no
  | .tup es, st => by rw [ev, ev]; exact rle_bind (m_vs H es st) fun _ => rle_refl _
  | .lst es, st => by rw [ev, ev]; exact rle_bind (m_vs H es st) fun _ => rle_refl _
  | .dict es, st => by rw [ev, ev]; exact rle_bind (m_vs H es st) fun _ => rle_refl _
  | .call f as, st => by
    rw [ev, ev]
    refine rle_bind (m_as H as st) fun ⟨rs, s1⟩ => ?_
    dsimp only
    split
    · exact rle_no
    · exact rle_bind (H _ _) fun _ => rle_refl _
  | .calld e as, st => by
    rw [ev, ev]
    refine rle_bind (m_ev H e st) fun ⟨r, s0⟩ => ?_
    dsimp only
    split
    · refine rle_bind (m_as H as s0) fun ⟨rs, s1⟩ => ?_
      dsimp only
      split
      · exact rle_no
      · exact rle_bind (H _ _) fun _ => rle_refl _
    · exact rle_no
  | .comp vs t it cond elt, st => by
    rw [ev, ev]
    refine rle_bind (m_it H it st) fun ⟨xs, s1⟩ => ?_
    dsimp only
    split
    · refine rle_bind (rle_calm (rle_turns (fun s => ?_) _ _)) fun _ => rle_refl _
      refine rle_bind (m_ev H cond s) fun ⟨r, s2⟩ => ?_
      dsimp only
      split
      · exact rle_bind (m_ev H elt s2) fun _ => rle_refl _
      · exact rle_refl _
      · exact rle_no
    · exact rle_no
  | .comp2 vs vs1 t it t2 it2 cond elt, st => by
    rw [ev, ev]
    refine rle_bind (m_it H it st) fun ⟨xs, s1⟩ => ?_
    dsimp only
    split
    · refine rle_bind (rle_calm (rle_turns2 (fun s => ?_) _ _)) fun _ => rle_refl _
      refine rle_bind (m_it H it2 s) fun ⟨ys, s0⟩ => ?_
      refine rle_bind (rle_turns (fun s => ?_) _ _) fun _ => rle_refl _
      refine rle_bind (m_ev H cond s) fun ⟨r, s2⟩ => ?_
      dsimp only
      split
      · exact rle_bind (m_ev H elt s2) fun _ => rle_refl _
      · exact rle_refl _
      · exact rle_no
    · exact rle_no
  | .app i e, st => by
    rw [ev, ev]
    split
    · exact rle_bind (m_ev H e st) fun _ => rle_refl _
    · exact rle_no
  | .ext i e, st => by
    rw [ev, ev]
    split
    · exact rle_bind (m_ev H e st) fun _ => rle_refl _
    · exact rle_no
  | .pop i, st => by rw [ev, ev]; exact rle_refl _
  | .popAt i e, st => by
    rw [ev, ev]
    split
    · exact rle_bind (m_ev H e st) fun _ => rle_refl _
    · exact rle_no
  | .stop, st => by rw [ev, ev]; exact rle_refl _
theorem m_os (H : ∀ f as, Rle (Φ f as) (Ψ f as)) : ∀ (e : Es) (st : St), Rle (evOs Φ fl e st) (evOs Ψ fl e st)
  | .nil, st => by rw [evOs, evOs]; exact rle_refl _
  | .cons e es, st => by rw [evOs, evOs]; exact rle_bind (m_ev H e st) fun ⟨r, s1⟩ => rle_bind (m_os H es s1) fun _ => rle_refl _
theorem m_vs (H : ∀ f as, Rle (Φ f as) (Ψ f as)) : ∀ (e : Es) (st : St), Rle (evVs Φ fl e st) (evVs Ψ fl e st)
  | .nil, st => by rw [evVs, evVs]; exact rle_refl _
  | .cons e es, st => by
    rw [evVs, evVs]
    refine rle_bind (m_ev H e st) fun ⟨r, s1⟩ => ?_
    dsimp only
    split
    · exact rle_no
    · exact rle_bind (m_vs H es _) fun _ => rle_refl _
theorem m_as (H : ∀ f as, Rle (Φ f as) (Ψ f as)) : ∀ (e : Es) (st : St), Rle (evAs Φ fl e st) (evAs Ψ fl e st)
  | .nil, st => by rw [evAs, evAs]; exact rle_refl _
  | .cons e es, st => by rw [evAs, evAs]; exact rle_bind (m_ev H e st) fun ⟨r, s1⟩ => rle_bind (m_as H es s1) fun _ => rle_refl _
theorem m_it (H : ∀ f as, Rle (Φ f as) (Ψ f as)) : ∀ (e : It) (st : St), Rle (evIt Φ fl e st) (evIt Ψ fl e st)
  | .seq e, st => by rw [evIt, evIt]; exact rle_bind (m_ev H e st) fun _ => rle_refl _
  | .rng1 e, st => by rw [evIt, evIt]; exact rle_bind (m_ev H e st) fun _ => rle_refl _
  | .rng2 a b, st => by
    rw [evIt, evIt]
    refine rle_bind (m_ev H a st) fun ⟨r, s1⟩ => ?_
    dsimp only
    split
    · exact rle_bind (m_ev H b _) fun _ => rle_refl _
    · exact rle_no
  | .enum e, st => by rw [evIt, evIt]; exact rle_bind (m_ev H e st) fun _ => rle_refl _
  | .zip a b, st => by
    rw [evIt, evIt]
    refine rle_bind (m_ev H a st) fun ⟨r, s1⟩ => ?_
    dsimp only
    split
    · exact rle_no
    · exact rle_bind (m_ev H b _) fun _ => rle_refl _
end
theorem m_ps (H : ∀ f as, Rle (Φ f as) (Ψ f as)) : ∀ (e : Es) (st : St), Rle (evPs Φ fl e st) (evPs Ψ fl e st)
  | .nil, st => by rw [evPs, evPs]; exact rle_refl _
  | .cons e es, st => by
    rw [evPs, evPs]
    refine rle_bind (m_ev H e st) fun ⟨r, s1⟩ => ?_
    dsimp only
    split
    · exact rle_no
    · exact rle_bind (m_ps H es _) fun _ => rle_refl _
mutual
theorem m_ex (H : ∀ f as, Rle (Φ f as) (Ψ f as)) : ∀ (s : S) (st : St), Rle (ex Φ fl s st) (ex Ψ fl s st)
  | .set i m e, st => by rw [ex, ex]; exact rle_bind (m_ev H e st) fun _ => rle_refl _
  | .unpack is e, st => by rw [ex, ex]; exact rle_bind (m_ev H e st) fun _ => rle_refl _
  | .par is es, st => by rw [ex, ex]; exact rle_bind (m_ps H es st) fun _ => rle_refl _
  | .setItem i k e, st => by
    rw [ex, ex]
    refine rle_bind (m_ev H e st) fun ⟨r, s1⟩ => ?_
    dsimp only
    split
    · exact rle_no
    · split
      · exact rle_bind (m_ev H k _) fun _ => rle_refl _
      · exact rle_no
  | .ex e, st => by rw [ex, ex]; exact rle_bind (m_ev H e st) fun _ => rle_refl _
  | .ret e, st => by rw [ex, ex]; exact rle_bind (m_ev H e st) fun _ => rle_refl _
  | .ite c a b, st => by
    rw [ex, ex]
    refine rle_bind (m_ev H c st) fun ⟨r, s1⟩ => ?_
    dsimp only
    split
    · exact m_exs H a _
    · exact m_exs H b _
    · exact rle_no
  | .for t it body, st => by rw [ex, ex]; exact rle_bind (m_it H it st) fun ⟨xs, s1⟩ => rle_loop (fun s => m_exs H body s) xs s1
  | .while c body, st => by rw [ex, ex]; exact rle_while (fun s => m_ev H c s) (fun s => m_exs H body s) wfuel st
  | .raise c, st => by rw [ex, ex]; exact rle_refl _
  | .tryc m b i y, st => by
    rw [ex, ex]
    rcases m_exs H b st with h | h
    · rw [h]; exact rle_no
    · rw [h]; exact rle_refl _
  | .stop, st => by rw [ex, ex]; exact rle_refl _
theorem m_exs (H : ∀ f as, Rle (Φ f as) (Ψ f as)) : ∀ (s : Ss) (st : St), Rle (exs Φ fl s st) (exs Ψ fl s st)
  | .nil, st => by rw [exs, exs]; exact rle_refl _
  | .cons s r, st => by
    rw [exs, exs]
    refine rle_bind (m_ex H s st) fun ⟨f, s1⟩ => ?_
    cases f with
    | next => exact m_exs H r s1
    | ret v => exact rle_refl _
end
theorem m_run (H : ∀ f as, Rle (Φ f as) (Ψ f as)) (f : Fn) (as : List Ar) : Rle (runFn fl Φ f as) (runFn fl Ψ f as) := by
  unfold runFn
  split
  · exact rle_bind (m_exs H _ _) fun _ => rle_refl _
  · exact rle_no
theorem rle_ok {α : Type} {x y : Res α} {a : α} (h : Rle x y) (e : x = .ok a) : y = .ok a := by
  rcases h with h | h
  · rw [h] at e; cases e
  · rw [← h]; exact e
end
end PV
set_option Elab.async false
set_option linter.all false
set_option maxRecDepth 100000
set_option maxHeartbeats 4000000
namespace PV
theorem loop_ok {t : Tg} {body : St → Res (Fl × St)} (I : Nat → St → Prop) : ∀ (xs : List D) (k : Nat) (st : St), I k st →
    (∀ i x st, xs[i]? = some x → I (k + i) st → ∃ st1 st2, t.set x st = some st1 ∧ body st1 = .ok (.next, st2) ∧ I (k + i + 1) st2) → ∃ st', loop t body xs st = .ok (.next, st') ∧ I (k + xs.length) st'
  | [], k, st, h0, _ => ⟨st, rfl, h0⟩
  | x :: xs, k, st, h0, hs => by
    obtain ⟨st1, st2, e1, e2, h1⟩ := hs 0 x st rfl h0
    obtain ⟨st', e3, h2⟩ := loop_ok I xs (k + 1) st2 h1 fun i y s hy hi => by
      have e : k + 1 + i = k + (i + 1) := by omega
      rw [e] at hi ⊢
      exact hs (i + 1) y s (by simpa using hy) hi
    refine ⟨st', ?_, by rw [List.length_cons]; rw [show k + (xs.length + 1) = k + 1 + xs.length by omega]; exact h2⟩
    simp only [loop, e1, e2, Res.bind]
    exact e3
/-- a comprehension whose turns leave the state as it was -/
theorem turns_map {t : Tg} {body : St → Res (Option D × St)} {st : St} (g : D → Option D) : ∀ (xs : List D), (∀ x ∈ xs, ∃ st1, t.set x st = some st1 ∧ body st1 = .ok (g x, st)) → turns t body xs st = .ok (xs.filterMap g, st)
  | [], _ => rfl
  | x :: xs, h => by
    obtain ⟨st1, e1, e2⟩ := h x (by simp)
    have ih := turns_map g xs fun y hy => h y (by simp [hy])
    simp only [turns, e1, e2, ih, Res.bind, List.filterMap_cons]
    cases g x <;> rfl
theorem turns2_map {t : Tg} {body : St → Res (List D × St)} {st : St} (g : D → List D) : ∀ (xs : List D), (∀ x ∈ xs, ∃ st1, t.set x st = some st1 ∧ body st1 = .ok (g x, st)) → turns2 t body xs st = .ok (xs.flatMap g, st)
  | [], _ => rfl
  | x :: xs, h => by
    obtain ⟨st1, e1, e2⟩ := h x (by simp)
    have ih := turns2_map g xs fun y hy => h y (by simp [hy])
    simp only [turns2, e1, e2, ih, Res.bind, List.flatMap_cons]
def F_law_town : Fn := ⟨1, 1, (.cons (.ret (.op .add (.cons (.lst (.cons (.c (.int 0)) .nil)) (.cons (.op .listOf (.cons (.v 0) .nil)) .nil))))
  .nil)⟩
def twn (t : Int) (Ts : List Int) : D := .lst (.int t :: Ts.map .int)
theorem town_ok (fl : Nat → List Bool) (Φ : Fns) (ns : List Int) (h : ns.length ≤ 63) : runFn fl Φ F_law_town [.val (.scr ns)] = .ok (.fresh (twn 0 ns), [.val (.scr ns)]) := by
  unfold runFn F_law_town
  have hz : Nat.ble (0 + 1 + ns.length) sizeL = true := Nat.ble_eq_true_of_le (by unfold sizeL; omega)
  have hz2 : Nat.ble (1) sizeL = true := by decide
  simp only [exs, ex, ev, evOs, evVs, evAs, evIt, evPs, Res.bind, Res.calm, R.still, R.look, R.keep, looks, slot, part, outR, bindS, bindSs, keepV, retOf, retR, args, outs, Tg.set, tgs, wipe, back, noOwn, Op.run, Op.run1, Op.run2, Op.run3, bout, Op.recv, kind, Op.isN1, Op.sub2, Op.add2, Op.mod2, Op.neg1, Op.lt2, Op.le2, Op.len1, Op.tupOf1, Op.lstOf1, Op.intOf1, Op.isi1, Ty.has, Op.seqOf, Sl.has, List.length_cons, List.length_nil, List.set_cons_zero, List.set_cons_succ, List.set_nil, List.getD_cons_zero, List.getD_cons_succ, List.getD_nil, Option.map, Option.bind, List.replicate_succ, List.replicate_zero, List.append_nil, List.nil_append, List.cons_append, if_true, if_false, Bool.false_eq_true, ite_true, ite_false, Nat.zero_add, start, lesq, finish, List.length_map, hz, hz2]
  rfl
def F_law_draw : Fn := ⟨3, 6, (.cons (.setItem 1 (.c (.int 0)) (.op .add (.cons (.op .idx (.cons (.v 1) (.cons (.c (.int 0)) .nil))) (.cons (.c (.int 1)) .nil))))
  (.cons (.ite (.op .eq (.cons (.v 0) (.cons (.lst .nil) .nil))) (.cons (.ret (.op .mod (.cons (.op .fdiv (.cons (.op .mul (.cons (.op .mul (.cons (.op .idx (.cons (.v 1) (.cons (.c (.int 0)) .nil))) (.cons (.op .idx (.cons (.v 1) (.cons (.c (.int 0)) .nil))) .nil))) (.cons (.c (.int 7)) .nil))) (.cons (.c (.int 3)) .nil))) (.cons (.v 2) .nil))))
  .nil) .nil)
  (.cons (.set 3 true (.op .mod (.cons (.op .idx (.cons (.v 1) (.cons (.c (.int 0)) .nil))) (.cons (.op .len (.cons (.v 0) .nil)) .nil))))
  (.cons (.set 4 true (.op .idx (.cons (.v 1) (.cons (.op .add (.cons (.c (.int 1)) (.cons (.v 3) .nil))) .nil))))
  (.cons (.ite (.and (.op .ge (.cons (.op .idx (.cons (.v 0) (.cons (.v 3) .nil))) (.cons (.op .pow (.cons (.c (.int 10)) (.cons (.c (.int 18)) .nil))) .nil))) (.op .gt (.cons (.v 4) (.cons (.c (.int 0)) .nil)))) (.cons (.setItem 1 (.op .add (.cons (.c (.int 1)) (.cons (.v 3) .nil))) (.op .fdiv (.cons (.v 4) (.cons (.v 2) .nil))))
  (.cons (.ret (.op .mod (.cons (.v 4) (.cons (.v 2) .nil))))
  .nil)) .nil)
  (.cons (.set 5 true (.op .mod (.cons (.op .add (.cons (.op .idx (.cons (.v 0) (.cons (.v 3) .nil))) (.cons (.op .mul (.cons (.c (.int 104729)) (.cons (.op .idx (.cons (.v 1) (.cons (.c (.int 0)) .nil))) .nil))) .nil))) (.cons (.c (.int 4294967291)) .nil))))
  (.cons (.set 5 true (.op .mod (.cons (.op .pow (.cons (.v 5) (.cons (.c (.int 5)) .nil))) (.cons (.c (.int 4294967279)) .nil))))
  (.cons (.ret (.op .mod (.cons (.op .fdiv (.cons (.op .mod (.cons (.op .add (.cons (.op .mul (.cons (.op .fdiv (.cons (.v 5) (.cons (.c (.int 64)) .nil))) (.cons (.c (.int 69621)) .nil))) (.cons (.v 5) .nil))) (.cons (.c (.int 4294967231)) .nil))) (.cons (.c (.int 8)) .nil))) (.cons (.v 2) .nil))))
  .nil))))))))⟩
theorem ix_nat {n i : Nat} (h : i < n) : ix n (i : Int) = some i := by
  unfold ix
  rw [if_pos (Int.natCast_nonneg i), if_pos (by omega)]
  rfl
theorem ix_zero (n : Nat) : ix (n + 1) 0 = some 0 := ix_nat (i := 0) (by omega)
theorem fmod_nat {a b : Int} (h : 0 < b) : ∃ k : Nat, a.fmod b = k ∧ (k : Int) < b := by
  have h1 := Int.fmod_nonneg_of_pos a h
  have h2 := Int.fmod_lt_of_pos a h
  exact ⟨(a.fmod b).toNat, by omega, by omega⟩
theorem blt_big {a : Int} (h1 : -(10 ^ 30) ≤ a) (h2 : a ≤ 10 ^ 30) : Nat.blt a.natAbs big = true := by
  show Nat.ble (a.natAbs + 1) big = true
  refine Nat.ble_eq_true_of_le ?_
  have : 10 ^ 30 + 1 ≤ big := by decide +kernel
  omega
theorem mulOk_of {a b : Int} (h1 : -(10 ^ 30) ≤ a) (h2 : a ≤ 10 ^ 30) (h3 : -(10 ^ 30) ≤ b) (h4 : b ≤ 10 ^ 30) : mulOk a b = true := by
  unfold mulOk; rw [blt_big h1 h2, blt_big h3 h4]; rfl
theorem divOk_of {a b : Int} (h1 : 0 < b) (h2 : b ≤ 10 ^ 9) : divOk a b = true := by
  unfold divOk
  rw [blt_big (by omega) (by omega)]
  simp; omega
section
variable {Φ : Fns} {fl : Nat → List Bool} {st st1 st2 : St} {s : S} {r a b : Ss} {c e : E} {v : Ret} {y : Res (Fl × St)}
theorem exs_next (h : ex Φ fl s st = .ok (.next, st1)) (h2 : exs Φ fl r st1 = y) : exs Φ fl (.cons s r) st = y := by rw [exs, h]; exact h2
theorem exs_ret (h : ex Φ fl s st = .ok (.ret v, st1)) : exs Φ fl (.cons s r) st = .ok (.ret v, st1) := by rw [exs, h]; rfl
theorem exs_nil : exs Φ fl .nil st = .ok (.next, st) := by rw [exs]
theorem ex_if (h : ev Φ fl c st = .ok (.val (.bl true), st1)) (h2 : exs Φ fl a st1 = y) : ex Φ fl (.ite c a b) st = y := by rw [ex, h]; exact h2
theorem ex_else (h : ev Φ fl c st = .ok (.val (.bl false), st1)) (h2 : exs Φ fl b st1 = y) : ex Φ fl (.ite c a b) st = y := by rw [ex, h]; exact h2
theorem ex_skip (h : ev Φ fl c st = .ok (.val (.bl false), st1)) : ex Φ fl (.ite c a .nil) st = .ok (.next, st1) := ex_else h exs_nil
theorem run_ok {f : Fn} {as : List Ar} {fw : Fl} {os : List Sl} (hl : as.length = f.np) (h : exs Φ fl f.body (start 0 as ++ List.replicate (f.ns - f.np) .none) = .ok (fw, st)) (ho : finish f.np (fw, st) = (v, os)) : runFn fl Φ f as = .ok (v, os) := by
  rw [runFn, if_pos (by simpa using hl), h]
  show Res.ok (finish f.np (fw, st)) = _
  rw [ho]
end
section
variable {Φ : Fns} {fl : Nat → List Bool} {st st1 st2 st3 : St} {i : Nat} {a b e : E} {ra rb r : R} {x y d : D} {o : Op} {z : Bool × D} {m : Bool} {t : Option Nat}
theorem ev_val (h : slot st i = .val d) : ev Φ fl (.v i) st = .ok (.val d, st) := by rw [ev, h]
theorem ev_own (h : slot st i = .own t d) : ev Φ fl (.v i) st = .ok (.var i, st) := by rw [ev, h]
theorem ev_c : ev Φ fl (.c d) st = .ok (.val d, st) := by rw [ev]
theorem ev_op1 (ha : ev Φ fl a st = .ok (ra, st1)) (hx : ra.still.look st1 = some x) (ho : o.run [x] = some z) : ev Φ fl (.op o (.cons a .nil)) st = .ok (outR z, st1) := by
  rw [ev]
  simp only [evOs, ha, Res.bind, looks, hx, ho]
theorem ev_op2 (ha : ev Φ fl a st = .ok (ra, st1)) (hb : ev Φ fl b st1 = .ok (rb, st2)) (hx : ra.still.look st2 = some x) (hy : rb.still.look st2 = some y) (ho : o.run [x, y] = some z) : ev Φ fl (.op o (.cons a (.cons b .nil))) st = .ok (outR z, st2) := by
  rw [ev]
  simp only [evOs, ha, hb, Res.bind, looks, hx, hy, ho]
theorem ev_meth (ha : ev Φ fl a st = .ok (ra, st1)) (hx : ra.still.look st1 = some x) (hr : o.recv (kind x) = true) (hb : ev Φ fl b st1 = .ok (rb, st2)) (hx2 : ra.still.look st2 = some x) (hy : rb.still.look st2 = some y) (ho : o.run [x, y] = some z) : ev Φ fl (.meth o a (.cons b .nil)) st = .ok (outR z, st2) := by
  rw [ev]
  simp only [evOs, ha, hb, Res.bind, looks, hx, hx2, hy, ho, hr, beq_self_eq_true, if_true]
theorem ev_op1v (ha : ev Φ fl a st = .ok (ra, st1)) (hx : ra.still.look st1 = some x) (ho : o.run1 x = some (false, d)) : ev Φ fl (.op o (.cons a .nil)) st = .ok (.val d, st1) := ev_op1 ha hx ho
theorem ev_op1n (ha : ev Φ fl a st = .ok (ra, st1)) (hx : ra.still.look st1 = some x) (ho : o.run1 x = some (true, d)) : ev Φ fl (.op o (.cons a .nil)) st = .ok (.fresh d, st1) := ev_op1 ha hx ho
theorem ev_op2v (ha : ev Φ fl a st = .ok (ra, st1)) (hb : ev Φ fl b st1 = .ok (rb, st2)) (hx : ra.still.look st2 = some x) (hy : rb.still.look st2 = some y) (ho : o.run2 x y = some (false, d)) : ev Φ fl (.op o (.cons a (.cons b .nil))) st = .ok (.val d, st2) := ev_op2 ha hb hx hy ho
theorem ev_op2n (ha : ev Φ fl a st = .ok (ra, st1)) (hb : ev Φ fl b st1 = .ok (rb, st2)) (hx : ra.still.look st2 = some x) (hy : rb.still.look st2 = some y) (ho : o.run2 x y = some (true, d)) : ev Φ fl (.op o (.cons a (.cons b .nil))) st = .ok (.fresh d, st2) := ev_op2 ha hb hx hy ho
theorem ev_methv (ha : ev Φ fl a st = .ok (ra, st1)) (hx : ra.still.look st1 = some x) (hr : o.recv (kind x) = true) (hb : ev Φ fl b st1 = .ok (rb, st2)) (hx2 : ra.still.look st2 = some x) (hy : rb.still.look st2 = some y) (ho : o.run2 x y = some (false, d)) : ev Φ fl (.meth o a (.cons b .nil)) st = .ok (.val d, st2) := ev_meth ha hx hr hb hx2 hy ho
theorem ev_ite_t {c : E} (hc : ev Φ fl c st = .ok (.val (.bl true), st1)) : ev Φ fl (.ite c a b) st = ev Φ fl a st1 := by rw [ev, hc]; rfl
theorem ev_ite_f {c : E} (hc : ev Φ fl c st = .ok (.val (.bl false), st1)) : ev Φ fl (.ite c a b) st = ev Φ fl b st1 := by rw [ev, hc]; rfl
theorem ev_and_t (ha : ev Φ fl a st = .ok (.val (.bl true), st1)) : ev Φ fl (.and a b) st = ev Φ fl b st1 := by rw [ev, ha]; rfl
theorem ev_and_f (ha : ev Φ fl a st = .ok (.val (.bl false), st1)) : ev Φ fl (.and a b) st = .ok (.val (.bl false), st1) := by rw [ev, ha]; rfl
theorem ev_or_f (ha : ev Φ fl a st = .ok (.val (.bl false), st1)) : ev Φ fl (.or a b) st = ev Φ fl b st1 := by rw [ev, ha]; rfl
theorem ev_or_t (ha : ev Φ fl a st = .ok (.val (.bl true), st1)) : ev Φ fl (.or a b) st = .ok (.val (.bl true), st1) := by rw [ev, ha]; rfl
theorem ev_not {k : Bool} (ha : ev Φ fl a st = .ok (.val (.bl k), st1)) : ev Φ fl (.not a) st = .ok (.val (.bl (!k)), st1) := by rw [ev, ha]; rfl
theorem ev_app {xs ys : List D} {t' : Option Nat} (h : slot st i = .own t (.lst xs)) (he : ev Φ fl e st = .ok (r, st1)) (hk : r.keep st1 = some (d, st2)) (h2 : slot st2 i = .own t' (.lst ys)) (hz : ys.length < sizeL) : ev Φ fl (.app i e) st = .ok (.val .non, st2.set i (.own t' (.lst (ys ++ [d])))) := by
  have hz : Nat.blt ys.length sizeL = true := by show Nat.ble (ys.length + 1) sizeL = true; exact Nat.ble_eq_true_of_le hz
  rw [ev, h]
  simp only [he, Res.bind, hk, h2, hz, if_true]
theorem ex_set_val (he : ev Φ fl e st = .ok (.val d, st1)) (hi : i < st1.length) : ex Φ fl (.set i m e) st = .ok (.next, st1.set i (.val d)) := by
  have hi : Nat.blt i st1.length = true := by show Nat.ble (i + 1) st1.length = true; exact Nat.ble_eq_true_of_le hi
  rw [ex, he]
  simp only [Res.bind, bindS, hi, if_true, R.keep]
theorem ex_set_new (he : ev Φ fl e st = .ok (.fresh d, st1)) (hi : i < st1.length) : ex Φ fl (.set i true e) st = .ok (.next, st1.set i (.own none d)) := by
  have hi : Nat.blt i st1.length = true := by show Nat.ble (i + 1) st1.length = true; exact Nat.ble_eq_true_of_le hi
  rw [ex, he]
  simp only [Res.bind, bindS, hi, if_true]
theorem ex_ex (he : ev Φ fl e st = .ok (r, st1)) : ex Φ fl (.ex e) st = .ok (.next, st1) := by rw [ex, he]; rfl
theorem ex_ret {v : Ret} (he : ev Φ fl e st = .ok (r, st1)) (hr : retOf st1 r = some (v, st2)) : ex Φ fl (.ret e) st = .ok (.ret v, st2) := by
  rw [ex, he]
  simp only [Res.bind, hr]
theorem ex_ret_val (he : ev Φ fl e st = .ok (.val d, st1)) : ex Φ fl (.ret e) st = .ok (.ret (.val d), st1) := ex_ret he rfl
theorem ex_ret_new (he : ev Φ fl e st = .ok (.fresh d, st1)) : ex Φ fl (.ret e) st = .ok (.ret (.fresh d), st1) := ex_ret he rfl
theorem ex_for {tg : Tg} {it : It} {bd : Ss} {xs : List D} {y : Res (Fl × St)} (hi : evIt Φ fl it st = .ok (xs, st1)) (h : loop tg (exs Φ fl bd) xs st1 = y) : ex Φ fl (.for tg it bd) st = y := by
  rw [ex, hi]; exact h
end
def plainR : R → Option D
  | .val d => some d
  | .fresh d => some d
  | .var _ => none
theorem args_plain : ∀ {rs : List R} {ds : List D} {flg : List Bool} {st : St}, rs.map plainR = ds.map some → flg = rs.map (fun _ => false) → args flg rs st = some (ds.map .val, ds.map (fun _ => none), st)
  | [], [], _, _, _, h => by rw [h]; rfl
  | [], _ :: _, _, _, h, _ => by simp at h
  | _ :: _, [], _, _, h, _ => by simp at h
  | r :: rs, d :: ds, flg, st, h, hf => by
    simp only [List.map_cons, List.cons.injEq] at h
    subst hf
    have ih := args_plain (st := st) h.2 rfl
    cases r with
    | val e =>
      have e1 : e = d := by simpa [plainR] using h.1
      subst e1
      simp only [List.map_cons, args, ih, Option.map]
    | fresh e =>
      have e1 : e = d := by simpa [plainR] using h.1
      subst e1
      simp only [List.map_cons, args, ih, Option.map, Bool.false_eq_true, if_false]
    | var i => simp [plainR] at h
theorem outs_plain {st : St} : ∀ {ds : List D} {os : List Sl} {k : Nat}, ds.length ≤ os.length → outs k (ds.map (fun _ => none)) os st = some st
  | [], _, _, _ => by rw [List.map_nil]; unfold outs; rfl
  | d :: ds, [], _, h => by simp at h
  | d :: ds, o :: os, k, h => by
    rw [List.map_cons]
    unfold outs
    exact outs_plain (by simpa using h)
theorem ev_callv {Φ : Fns} {fl : Nat → List Bool} {st st1 : St} {f : Nat} {es : Es} {rs : List R} {ds : List D} {r : Ret} {os : List Sl} (he : evAs Φ fl es st = .ok (rs, st1)) (hp : rs.map plainR = ds.map some) (hf : fl f = rs.map (fun _ => false)) (hc : Φ f (ds.map .val) = .ok (r, os)) (ho : ds.length ≤ os.length) : ev Φ fl (.call f es) st = .ok (retR r, st1) := by
  rw [ev, he]
  simp only [Res.bind, args_plain hp hf, hc, outs_plain ho]
theorem evAs_nil {Φ : Fns} {fl : Nat → List Bool} {st : St} : evAs Φ fl .nil st = .ok ([], st) := by rw [evAs]
theorem evAs_cons {Φ : Fns} {fl : Nat → List Bool} {st st1 st2 : St} {e : E} {es : Es} {r : R} {rs : List R} (h : ev Φ fl e st = .ok (r, st1)) (h2 : evAs Φ fl es st1 = .ok (rs, st2)) : evAs Φ fl (.cons e es) st = .ok (r :: rs, st2) := by
  rw [evAs, h]
  simp only [Res.bind, h2]
theorem draw_ok (fl : Nat → List Bool) (Φ : Fns) (ns : List Int) (t limit : Int) (Ts : List Int) (hT : Ts.length = ns.length) (h0 : 0 ≤ t) (h1 : t ≤ 10 ^ 9) (hl : 1 ≤ limit) (hl2 : limit ≤ 10 ^ 9) :
    ∃ v Ts', 0 ≤ v ∧ v < limit ∧ Ts'.length = ns.length ∧ runFn fl Φ F_law_draw [.val (.scr ns), .ref (twn t Ts), .val (.int limit)] = .ok (.val (.int v), [.val (.scr ns), .own (some 1) (twn (t + 1) Ts'), .val (.int limit)]) := by
  have s0 : ex Φ fl (.setItem 1 (.c (.int 0)) (.op .add (.cons (.op .idx (.cons (.v 1) (.cons (.c (.int 0)) .nil))) (.cons (.c (.int 1)) .nil)))) [.val (.scr ns), .own (some 1) (twn t Ts), .val (.int limit), .none, .none, .none] = .ok (.next, [.val (.scr ns), .own (some 1) (twn (t + 1) Ts), .val (.int limit), .none, .none, .none]) := by
    unfold twn
    simp only [exs, ex, ev, evOs, evVs, evAs, evIt, evPs, Res.bind, Res.calm, R.still, R.look, R.keep, looks, slot, part, outR, bindS, bindSs, keepV, retOf, retR, args, outs, Tg.set, tgs, wipe, back, noOwn, Op.run, Op.run1, Op.run2, Op.run3, bout, Op.recv, kind, Op.isN1, Op.sub2, Op.add2, Op.mod2, Op.neg1, Op.lt2, Op.le2, Op.len1, Op.tupOf1, Op.lstOf1, Op.intOf1, Op.isi1, Ty.has, Op.seqOf, Sl.has, List.length_cons, List.length_nil, List.set_cons_zero, List.set_cons_succ, List.set_nil, List.getD_cons_zero, List.getD_cons_succ, List.getD_nil, Option.map, Option.bind, List.replicate_succ, List.replicate_zero, List.append_nil, List.nil_append, List.cons_append, if_true, if_false, Bool.false_eq_true, ite_true, ite_false, Nat.zero_add, Op.idx2, ix_zero, List.getElem?_cons_zero]
  have hi0 : ∀ (x : D) (xs : List D), Op.idx2 (.lst (x :: xs)) (.int 0) = some (false, x) := fun x xs => by
    simp only [Op.idx2, List.length_cons, ix_zero, Option.bind, List.getElem?_cons_zero]
  have z2 : (limit == 0) = false := by simp; omega
  cases hn : ns with
  | nil =>
    have m1 : mulOk (t + 1) (t + 1) = true := mulOk_of (by omega) (by omega) (by omega) (by omega)
    have hp : (t + 1) * (t + 1) ≤ 10 ^ 20 := by
      have : (t + 1) * (t + 1) ≤ (10 ^ 9 + 1) * (10 ^ 9 + 1) := Int.mul_le_mul (by omega) (by omega) (by omega) (by omega)
      omega
    have hp0 : 0 ≤ (t + 1) * (t + 1) := Int.mul_nonneg (by omega) (by omega)
    have m2 : mulOk ((t + 1) * (t + 1)) 7 = true := mulOk_of (by omega) (by omega) (by omega) (by omega)
    have d1 : divOk ((t + 1) * (t + 1) * 7) 3 = true := divOk_of (by omega) (by omega)
    obtain ⟨k, hk, hk2⟩ := fmod_nat (a := ((t + 1) * (t + 1) * 7).fdiv 3) (b := limit) (by omega)
    subst hn
    refine ⟨k, Ts, by omega, hk2, hT, run_ok (fw := .ret (.val (.int k))) (st := [.val (.scr []), .own (some 1) (twn (t + 1) Ts), .val (.int limit), .none, .none, .none]) rfl (exs_next s0 (exs_ret (ex_if (st1 := [.val (.scr []), .own (some 1) (twn (t + 1) Ts), .val (.int limit), .none, .none, .none]) ?_ (exs_ret ?_)))) rfl⟩
    · simp only [exs, ex, ev, evOs, evVs, evAs, evIt, evPs, Res.bind, Res.calm, R.still, R.look, R.keep, looks, slot, part, outR, bindS, bindSs, keepV, retOf, retR, args, outs, Tg.set, tgs, wipe, back, noOwn, Op.run, Op.run1, Op.run2, Op.run3, bout, Op.recv, kind, Op.isN1, Op.sub2, Op.add2, Op.mod2, Op.neg1, Op.lt2, Op.le2, Op.len1, Op.tupOf1, Op.lstOf1, Op.intOf1, Op.isi1, Ty.has, Op.seqOf, Sl.has, List.length_cons, List.length_nil, List.set_cons_zero, List.set_cons_succ, List.set_nil, List.getD_cons_zero, List.getD_cons_succ, List.getD_nil, Option.map, Option.bind, List.replicate_succ, List.replicate_zero, List.append_nil, List.nil_append, List.cons_append, if_true, if_false, Bool.false_eq_true, ite_true, ite_false, Nat.zero_add, Op.eq2, sh, shs, eqD, eqScr, Bool.and_self]
      rfl
    · unfold twn
      simp only [exs, ex, ev, evOs, evVs, evAs, evIt, evPs, Res.bind, Res.calm, R.still, R.look, R.keep, looks, slot, part, outR, bindS, bindSs, keepV, retOf, retR, args, outs, Tg.set, tgs, wipe, back, noOwn, Op.run, Op.run1, Op.run2, Op.run3, bout, Op.recv, kind, Op.isN1, Op.sub2, Op.add2, Op.mod2, Op.neg1, Op.lt2, Op.le2, Op.len1, Op.tupOf1, Op.lstOf1, Op.intOf1, Op.isi1, Ty.has, Op.seqOf, Sl.has, List.length_cons, List.length_nil, List.set_cons_zero, List.set_cons_succ, List.set_nil, List.getD_cons_zero, List.getD_cons_succ, List.getD_nil, Option.map, Option.bind, List.replicate_succ, List.replicate_zero, List.append_nil, List.nil_append, List.cons_append, if_true, if_false, Bool.false_eq_true, ite_true, ite_false, Nat.zero_add, hi0, Op.mul2, m1, m2, Op.fdiv2, d1, hk, z2]
  | cons n0 ns' =>
    have hlen : 0 < ns.length := by rw [hn]; simp
    obtain ⟨a, ha, ha2⟩ := fmod_nat (a := t + 1) (b := (ns.length : Int)) (by omega)
    have ha3 : a < ns.length := by omega
    have ha4 : a < Ts.length := by omega
    rw [← hn]
    have zl : ((ns.length : Int) == 0) = false := by rw [beq_eq_false_iff_ne]; omega
    have c1 : ev Φ fl (.op .eq (.cons (.v 0) (.cons (.lst .nil) .nil))) [.val (.scr ns), .own (some 1) (twn (t + 1) Ts), .val (.int limit), .none, .none, .none] = .ok (.val (.bl false), [.val (.scr ns), .own (some 1) (twn (t + 1) Ts), .val (.int limit), .none, .none, .none]) := by
      rw [hn]
      simp only [exs, ex, ev, evOs, evVs, evAs, evIt, evPs, Res.bind, Res.calm, R.still, R.look, R.keep, looks, slot, part, outR, bindS, bindSs, keepV, retOf, retR, args, outs, Tg.set, tgs, wipe, back, noOwn, Op.run, Op.run1, Op.run2, Op.run3, bout, Op.recv, kind, Op.isN1, Op.sub2, Op.add2, Op.mod2, Op.neg1, Op.lt2, Op.le2, Op.len1, Op.tupOf1, Op.lstOf1, Op.intOf1, Op.isi1, Ty.has, Op.seqOf, Sl.has, List.length_cons, List.length_nil, List.set_cons_zero, List.set_cons_succ, List.set_nil, List.getD_cons_zero, List.getD_cons_succ, List.getD_nil, Option.map, Option.bind, List.replicate_succ, List.replicate_zero, List.append_nil, List.nil_append, List.cons_append, if_true, if_false, Bool.false_eq_true, ite_true, ite_false, Nat.zero_add, Op.eq2, sh, shs, eqD, eqScr, Bool.and_self]
      rfl
    have s1 : ex Φ fl (.set 3 true (.op .mod (.cons (.op .idx (.cons (.v 1) (.cons (.c (.int 0)) .nil))) (.cons (.op .len (.cons (.v 0) .nil)) .nil)))) [.val (.scr ns), .own (some 1) (twn (t + 1) Ts), .val (.int limit), .none, .none, .none] = .ok (.next, [.val (.scr ns), .own (some 1) (twn (t + 1) Ts), .val (.int limit), .val (.int a), .none, .none]) := by
      unfold twn
      simp only [exs, ex, ev, evOs, evVs, evAs, evIt, evPs, Res.bind, Res.calm, R.still, R.look, R.keep, looks, slot, part, outR, bindS, bindSs, keepV, retOf, retR, args, outs, Tg.set, tgs, wipe, back, noOwn, Op.run, Op.run1, Op.run2, Op.run3, bout, Op.recv, kind, Op.isN1, Op.sub2, Op.add2, Op.mod2, Op.neg1, Op.lt2, Op.le2, Op.len1, Op.tupOf1, Op.lstOf1, Op.intOf1, Op.isi1, Ty.has, Op.seqOf, Sl.has, List.length_cons, List.length_nil, List.set_cons_zero, List.set_cons_succ, List.set_nil, List.getD_cons_zero, List.getD_cons_succ, List.getD_nil, Option.map, Option.bind, List.replicate_succ, List.replicate_zero, List.append_nil, List.nil_append, List.cons_append, if_true, if_false, Bool.false_eq_true, ite_true, ite_false, Nat.zero_add, hi0, zl, ha]
      rfl
    have e1 : (1 : Int) + (a : Int) = ((a + 1 : Nat) : Int) := by omega
    have hi1 : Op.idx2 (twn (t + 1) Ts) (.int (1 + (a : Int))) = some (false, .int Ts[a]) := by
      rw [e1]
      unfold twn
      simp only [Op.idx2, List.length_cons, List.length_map, ix_nat (show a + 1 < Ts.length + 1 by omega), Option.bind, List.getElem?_cons_succ, List.getElem?_map, List.getElem?_eq_getElem ha4, Option.map]
    have s2 : ex Φ fl (.set 4 true (.op .idx (.cons (.v 1) (.cons (.op .add (.cons (.c (.int 1)) (.cons (.v 3) .nil))) .nil)))) [.val (.scr ns), .own (some 1) (twn (t + 1) Ts), .val (.int limit), .val (.int a), .none, .none] = .ok (.next, [.val (.scr ns), .own (some 1) (twn (t + 1) Ts), .val (.int limit), .val (.int a), .val (.int Ts[a]), .none]) := by
      simp only [exs, ex, ev, evOs, evVs, evAs, evIt, evPs, Res.bind, Res.calm, R.still, R.look, R.keep, looks, slot, part, outR, bindS, bindSs, keepV, retOf, retR, args, outs, Tg.set, tgs, wipe, back, noOwn, Op.run, Op.run1, Op.run2, Op.run3, bout, Op.recv, kind, Op.isN1, Op.sub2, Op.add2, Op.mod2, Op.neg1, Op.lt2, Op.le2, Op.len1, Op.tupOf1, Op.lstOf1, Op.intOf1, Op.isi1, Ty.has, Op.seqOf, Sl.has, List.length_cons, List.length_nil, List.set_cons_zero, List.set_cons_succ, List.set_nil, List.getD_cons_zero, List.getD_cons_succ, List.getD_nil, Option.map, Option.bind, List.replicate_succ, List.replicate_zero, List.append_nil, List.nil_append, List.cons_append, if_true, if_false, Bool.false_eq_true, ite_true, ite_false, Nat.zero_add, hi1]
      rfl
    have hi2 : Op.idx2 (.scr ns) (.int a) = some (false, .int ns[a]) := by
      simp only [Op.idx2, ix_nat ha3, Option.bind, List.getElem?_eq_getElem ha3]
    have p18 : Op.pow2 (.int 10) (.int 18) = some (false, .int (10 ^ 18)) := rfl
    have c2 : ev Φ fl (.and (.op .ge (.cons (.op .idx (.cons (.v 0) (.cons (.v 3) .nil))) (.cons (.op .pow (.cons (.c (.int 10)) (.cons (.c (.int 18)) .nil))) .nil))) (.op .gt (.cons (.v 4) (.cons (.c (.int 0)) .nil)))) [.val (.scr ns), .own (some 1) (twn (t + 1) Ts), .val (.int limit), .val (.int a), .val (.int Ts[a]), .none] = .ok (.val (.bl (decide (10 ^ 18 ≤ ns[a]) && decide (0 < Ts[a]))), [.val (.scr ns), .own (some 1) (twn (t + 1) Ts), .val (.int limit), .val (.int a), .val (.int Ts[a]), .none]) := by
      simp only [exs, ex, ev, evOs, evVs, evAs, evIt, evPs, Res.bind, Res.calm, R.still, R.look, R.keep, looks, slot, part, outR, bindS, bindSs, keepV, retOf, retR, args, outs, Tg.set, tgs, wipe, back, noOwn, Op.run, Op.run1, Op.run2, Op.run3, bout, Op.recv, kind, Op.isN1, Op.sub2, Op.add2, Op.mod2, Op.neg1, Op.lt2, Op.le2, Op.len1, Op.tupOf1, Op.lstOf1, Op.intOf1, Op.isi1, Ty.has, Op.seqOf, Sl.has, List.length_cons, List.length_nil, List.set_cons_zero, List.set_cons_succ, List.set_nil, List.getD_cons_zero, List.getD_cons_succ, List.getD_nil, Option.map, Option.bind, List.replicate_succ, List.replicate_zero, List.append_nil, List.nil_append, List.cons_append, if_true, if_false, Bool.false_eq_true, ite_true, ite_false, Nat.zero_add, hi2, p18]
      cases decide ((10 : Int) ^ 18 ≤ ns[a]) <;> rfl
    cases hc : decide (10 ^ 18 ≤ ns[a]) && decide (0 < Ts[a]) with
    | true =>
      rw [hc] at c2
      obtain ⟨k, hk, hk2⟩ := fmod_nat (a := Ts[a]) (b := limit) (by omega)
      have d1 : divOk Ts[a] limit = true := divOk_of (by omega) (by omega)
      refine ⟨k, Ts.set a (Ts[a].fdiv limit), by omega, hk2, by simpa using hT, run_ok (fw := .ret (.val (.int k))) (st := [.val (.scr ns), .own (some 1) (twn (t + 1) (Ts.set a (Ts[a].fdiv limit))), .val (.int limit), .val (.int a), .val (.int Ts[a]), .none]) rfl (exs_next s0 (exs_next (ex_skip c1) (exs_next s1 (exs_next s2 (exs_ret (ex_if c2 (exs_next (st1 := [.val (.scr ns), .own (some 1) (twn (t + 1) (Ts.set a (Ts[a].fdiv limit))), .val (.int limit), .val (.int a), .val (.int Ts[a]), .none]) ?_ (exs_ret ?_)))))))) rfl⟩
      · unfold twn
        simp only [exs, ex, ev, evOs, evVs, evAs, evIt, evPs, Res.bind, Res.calm, R.still, R.look, R.keep, looks, slot, part, outR, bindS, bindSs, keepV, retOf, retR, args, outs, Tg.set, tgs, wipe, back, noOwn, Op.run, Op.run1, Op.run2, Op.run3, bout, Op.recv, kind, Op.isN1, Op.sub2, Op.add2, Op.mod2, Op.neg1, Op.lt2, Op.le2, Op.len1, Op.tupOf1, Op.lstOf1, Op.intOf1, Op.isi1, Ty.has, Op.seqOf, Sl.has, List.length_cons, List.length_nil, List.set_cons_zero, List.set_cons_succ, List.set_nil, List.getD_cons_zero, List.getD_cons_succ, List.getD_nil, Option.map, Option.bind, List.replicate_succ, List.replicate_zero, List.append_nil, List.nil_append, List.cons_append, if_true, if_false, Bool.false_eq_true, ite_true, ite_false, Nat.zero_add, Op.fdiv2, d1, e1, List.length_map, ix_nat (show a + 1 < Ts.length + 1 by omega), List.map_set]
      · simp only [exs, ex, ev, evOs, evVs, evAs, evIt, evPs, Res.bind, Res.calm, R.still, R.look, R.keep, looks, slot, part, outR, bindS, bindSs, keepV, retOf, retR, args, outs, Tg.set, tgs, wipe, back, noOwn, Op.run, Op.run1, Op.run2, Op.run3, bout, Op.recv, kind, Op.isN1, Op.sub2, Op.add2, Op.mod2, Op.neg1, Op.lt2, Op.le2, Op.len1, Op.tupOf1, Op.lstOf1, Op.intOf1, Op.isi1, Ty.has, Op.seqOf, Sl.has, List.length_cons, List.length_nil, List.set_cons_zero, List.set_cons_succ, List.set_nil, List.getD_cons_zero, List.getD_cons_succ, List.getD_nil, Option.map, Option.bind, List.replicate_succ, List.replicate_zero, List.append_nil, List.nil_append, List.cons_append, if_true, if_false, Bool.false_eq_true, ite_true, ite_false, Nat.zero_add, z2, hk]
    | false =>
      rw [hc] at c2
      obtain ⟨n1, hn1, hn1'⟩ := fmod_nat (a := ns[a] + 104729 * (t + 1)) (b := 4294967291) (by omega)
      obtain ⟨n2, hn2, hn2'⟩ := fmod_nat (a := (n1 : Int) ^ 5) (b := 4294967279) (by omega)
      have m1 : mulOk 104729 (t + 1) = true := mulOk_of (by omega) (by omega) (by omega) (by omega)
      have p5 : Op.pow2 (.int n1) (.int 5) = some (false, .int ((n1 : Int) ^ 5)) := by
        have : Nat.blt (n1 : Int).natAbs (2 ^ 64) = true := by
          show Nat.ble (n1 + 1) (2 ^ 64) = true
          exact Nat.ble_eq_true_of_le (by omega)
        simp only [Op.pow2, this]
        rfl
      have d1 : divOk (n2 : Int) 64 = true := divOk_of (by omega) (by omega)
      have q1 := Int.fdiv_eq_ediv_of_nonneg (n2 : Int) (show (0 : Int) ≤ 64 by omega)
      have m2 : mulOk ((n2 : Int).fdiv 64) 69621 = true := mulOk_of (by rw [q1]; omega) (by rw [q1]; omega) (by omega) (by omega)
      obtain ⟨n3, hn3, hn3'⟩ := fmod_nat (a := (n2 : Int).fdiv 64 * 69621 + n2) (b := 4294967231) (by omega)
      have d2 : divOk (n3 : Int) 8 = true := divOk_of (by omega) (by omega)
      obtain ⟨k, hk, hk2⟩ := fmod_nat (a := (n3 : Int).fdiv 8) (b := limit) (by omega)
      have zz1 : ((4294967291 : Int) == 0) = false := by decide
      have zz2 : ((4294967279 : Int) == 0) = false := by decide
      have zz3 : ((4294967231 : Int) == 0) = false := by decide
      refine ⟨k, Ts, by omega, hk2, hT, run_ok (fw := .ret (.val (.int k))) (st := [.val (.scr ns), .own (some 1) (twn (t + 1) Ts), .val (.int limit), .val (.int a), .val (.int Ts[a]), .val (.int n2)]) rfl (exs_next s0 (exs_next (ex_skip c1) (exs_next s1 (exs_next s2 (exs_next (ex_skip c2) (exs_next (st1 := [.val (.scr ns), .own (some 1) (twn (t + 1) Ts), .val (.int limit), .val (.int a), .val (.int Ts[a]), .val (.int n1)]) ?_ (exs_next (st1 := [.val (.scr ns), .own (some 1) (twn (t + 1) Ts), .val (.int limit), .val (.int a), .val (.int Ts[a]), .val (.int n2)]) ?_ (exs_ret ?_)))))))) rfl⟩
      · unfold twn
        simp only [exs, ex, ev, evOs, evVs, evAs, evIt, evPs, Res.bind, Res.calm, R.still, R.look, R.keep, looks, slot, part, outR, bindS, bindSs, keepV, retOf, retR, args, outs, Tg.set, tgs, wipe, back, noOwn, Op.run, Op.run1, Op.run2, Op.run3, bout, Op.recv, kind, Op.isN1, Op.sub2, Op.add2, Op.mod2, Op.neg1, Op.lt2, Op.le2, Op.len1, Op.tupOf1, Op.lstOf1, Op.intOf1, Op.isi1, Ty.has, Op.seqOf, Sl.has, List.length_cons, List.length_nil, List.set_cons_zero, List.set_cons_succ, List.set_nil, List.getD_cons_zero, List.getD_cons_succ, List.getD_nil, Option.map, Option.bind, List.replicate_succ, List.replicate_zero, List.append_nil, List.nil_append, List.cons_append, if_true, if_false, Bool.false_eq_true, ite_true, ite_false, Nat.zero_add, hi0, hi2, Op.mul2, m1, zz1, hn1]
        rfl
      · simp only [exs, ex, ev, evOs, evVs, evAs, evIt, evPs, Res.bind, Res.calm, R.still, R.look, R.keep, looks, slot, part, outR, bindS, bindSs, keepV, retOf, retR, args, outs, Tg.set, tgs, wipe, back, noOwn, Op.run, Op.run1, Op.run2, Op.run3, bout, Op.recv, kind, Op.isN1, Op.sub2, Op.add2, Op.mod2, Op.neg1, Op.lt2, Op.le2, Op.len1, Op.tupOf1, Op.lstOf1, Op.intOf1, Op.isi1, Ty.has, Op.seqOf, Sl.has, List.length_cons, List.length_nil, List.set_cons_zero, List.set_cons_succ, List.set_nil, List.getD_cons_zero, List.getD_cons_succ, List.getD_nil, Option.map, Option.bind, List.replicate_succ, List.replicate_zero, List.append_nil, List.nil_append, List.cons_append, if_true, if_false, Bool.false_eq_true, ite_true, ite_false, Nat.zero_add, p5, zz2, hn2]
        rfl
      · simp only [exs, ex, ev, evOs, evVs, evAs, evIt, evPs, Res.bind, Res.calm, R.still, R.look, R.keep, looks, slot, part, outR, bindS, bindSs, keepV, retOf, retR, args, outs, Tg.set, tgs, wipe, back, noOwn, Op.run, Op.run1, Op.run2, Op.run3, bout, Op.recv, kind, Op.isN1, Op.sub2, Op.add2, Op.mod2, Op.neg1, Op.lt2, Op.le2, Op.len1, Op.tupOf1, Op.lstOf1, Op.intOf1, Op.isi1, Ty.has, Op.seqOf, Sl.has, List.length_cons, List.length_nil, List.set_cons_zero, List.set_cons_succ, List.set_nil, List.getD_cons_zero, List.getD_cons_succ, List.getD_nil, Option.map, Option.bind, List.replicate_succ, List.replicate_zero, List.append_nil, List.nil_append, List.cons_append, if_true, if_false, Bool.false_eq_true, ite_true, ite_false, Nat.zero_add, Op.fdiv2, d1, d2, Op.mul2, m2, zz3, hn3, z2, hk]
end PV
set_option Elab.async false
set_option linter.all false
set_option maxRecDepth 100000
set_option maxHeartbeats 4000000
namespace PV
/-- a town: drawn at most b times -/
def Tw (ns : List Int) (b : Int) (T : D) : Prop := ∃ t Ts, T = twn t Ts ∧ Ts.length = ns.length ∧ 0 ≤ t ∧ t ≤ b
theorem Tw.mono {ns : List Int} {b c : Int} {T : D} (h : Tw ns b T) (hb : b ≤ c) : Tw ns c T := by
  obtain ⟨t, Ts, h1, h2, h3, h4⟩ := h
  exact ⟨t, Ts, h1, h2, h3, by omega⟩
abbrev Rsl := List Ar → Res (Ret × List Sl)
def DrawS (F : Rsl) : Prop := ∀ ns b T limit, Tw ns b T → b ≤ 10 ^ 9 → 1 ≤ limit → limit ≤ 10 ^ 9 → ∃ v T', 0 ≤ v ∧ v < limit ∧ Tw ns (b + 1) T' ∧ F [.val (.scr ns), .ref T, .val (.int limit)] = .ok (.val (.int v), [.val (.scr ns), .own (some 1) T', .val (.int limit)])
theorem draw_s (fl : Nat → List Bool) (Φ : Fns) : DrawS (runFn fl Φ F_law_draw) := fun ns b T limit h hb h1 h2 => by
  obtain ⟨t, Ts, rfl, h3, h4, h5⟩ := h
  obtain ⟨v, Ts', k1, k2, k3, k4⟩ := draw_ok fl Φ ns t limit Ts h3 h4 (by omega) h1 h2
  exact ⟨v, _, k1, k2, ⟨t + 1, Ts', rfl, k3, by omega, by omega⟩, k4⟩
abbrev Web := List (List Nat)
def webD (w : Web) : D := .tup (w.map .str)
def isSg (c : Nat) : Prop := c = 43 ∨ c = 45 ∨ c = 48
/-- m rows of n signs -/
def okT (m n : Nat) (w : Web) : Prop := w.length = m ∧ ∀ r ∈ w, r.length = n ∧ ∀ c ∈ r, isSg c
abbrev okW (n : Nat) (w : Web) : Prop := okT n n w
def putR (r : List Nat) (j c : Nat) : List Nat := r.take j ++ [c] ++ r.drop (j + 1)
def putW (w : Web) (i j c : Nat) : Web := w.take i ++ [putR (w.getD i []) j c] ++ w.drop (i + 1)
theorem ble_sz {n : Nat} (h : n ≤ 16777216) : Nat.ble n sizeL = true := Nat.ble_eq_true_of_le h
theorem lesq_ok {n : Nat} {x : Bool × D} (h : n ≤ 16777216) : lesq n x = some x := by unfold lesq; rw [ble_sz h]; rfl
theorem add_str {x y : List Nat} (h : x.length + y.length ≤ 16777216) : Op.add2 (.str x) (.str y) = some (false, .str (x ++ y)) := lesq_ok h
theorem add_tup {x y : List D} (h : x.length + y.length ≤ 16777216) : Op.add2 (.tup x) (.tup y) = some (false, .tup (x ++ y)) := lesq_ok h
theorem add_lst {x y : List D} (h : x.length + y.length ≤ 16777216) : Op.add2 (.lst x) (.lst y) = some (true, .lst (x ++ y)) := lesq_ok h
theorem idx_tup {cs : List D} {k : Nat} {c : D} (h : cs[k]? = some c) : Op.idx2 (.tup cs) (.int k) = some (false, c) := by
  have h2 : k < cs.length := (List.getElem?_eq_some_iff.mp h).1
  simp only [Op.idx2, ix_nat h2, Option.bind, h]
theorem idx_lstN {cs : List D} {k : Nat} {c : D} (h : cs[k]? = some c) : Op.idx2 (.lst cs) (.int k) = some (false, c) := by
  have h2 : k < cs.length := (List.getElem?_eq_some_iff.mp h).1
  simp only [Op.idx2, ix_nat h2, Option.bind, h]
theorem idx_web {w : Web} {k : Nat} (h : k < w.length) : Op.idx2 (webD w) (.int k) = some (false, .str (w.getD k [])) := by
  refine idx_tup ?_
  rw [List.getElem?_map, List.getElem?_eq_getElem h, List.getD_eq_getElem?_getD, List.getElem?_eq_getElem h]; rfl
theorem idx_str {x : List Nat} {k c : Nat} (hz : x.length ≤ 16777216) (h : x[k]? = some c) : Op.idx2 (.str x) (.int k) = some (false, .str [c]) := by
  have h2 : k < x.length := (List.getElem?_eq_some_iff.mp h).1
  simp only [Op.idx2, ble_sz hz, if_true, ix_nat h2, Option.bind, h]
theorem add1 (i : Nat) : Op.run2 .add (.int (i : Int)) (.int 1) = some (false, .int ((i + 1 : Nat) : Int)) := by
  rfl
theorem row_len {m n : Nat} {w : Web} (h : okT m n w) {i : Nat} (hi : i < m) : (w.getD i []).length = n ∧ ∀ c ∈ w.getD i [], isSg c := by
  have h2 : i < w.length := by rw [h.1]; exact hi
  rw [List.getD_eq_getElem?_getD, List.getElem?_eq_getElem h2]
  exact h.2 _ (List.getElem_mem h2)
def F_law_put : Fn := ⟨4, 5, (.cons (.set 4 true (.op .add (.cons (.op .add (.cons (.slc (.op .idx (.cons (.v 0) (.cons (.v 1) .nil))) false (.c .non) true (.v 2)) (.cons (.v 3) .nil))) (.cons (.slc (.op .idx (.cons (.v 0) (.cons (.v 1) .nil))) true (.op .add (.cons (.v 2) (.cons (.c (.int 1)) .nil))) false (.c .non)) .nil))))
  (.cons (.ret (.op .add (.cons (.op .add (.cons (.slc (.v 0) false (.c .non) true (.v 1)) (.cons (.tup (.cons (.v 4) .nil)) .nil))) (.cons (.slc (.v 0) true (.op .add (.cons (.v 1) (.cons (.c (.int 1)) .nil))) false (.c .non)) .nil))))
  .nil))⟩
theorem rng_eq : ∀ (n : Nat) (lo : Int), rng lo n = (List.range n).map fun i => .int (lo + (i : Nat))
  | 0, _ => rfl
  | n + 1, lo => by
    rw [rng, rng_eq n (lo + 1), List.range_succ_eq_map, List.map_cons, List.map_map]
    congr 1
    · simp
    · refine List.map_congr_left fun i _ => ?_
      show D.int (lo + 1 + (i : Nat)) = D.int (lo + ((i + 1 : Nat) : Int))
      congr 1
      omega
def rngN (n : Nat) : List D := (List.range n).map fun i => .int (i : Nat)
theorem rngOk_nat {n : Nat} (h : n ≤ 1000000) : rngOk 0 (n : Int) = some (rngN n) := by
  unfold rngOk
  rw [if_pos (by simp; omega), rng_eq]
  unfold rngN
  simp
theorem rngN_get {n i : Nat} {x : D} (h : (rngN n)[i]? = some x) : x = .int i ∧ i < n := by
  unfold rngN at h
  rw [List.getElem?_map] at h
  obtain ⟨a, e1, e2⟩ := Option.map_eq_some_iff.mp h
  obtain ⟨h1, h2⟩ := List.getElem?_eq_some_iff.mp e1
  rw [List.getElem_range] at h2
  subst h2
  exact ⟨e2.symm, by simpa using h1⟩
theorem rngN_len (n : Nat) : (rngN n).length = n := by simp [rngN]
theorem it_rng1 {Φ : Fns} {fl : Nat → List Bool} {st : St} {e : E} {n : Nat} (he : ev Φ fl e st = .ok (.val (.int (n : Int)), st)) (h : n ≤ 1000000) : evIt Φ fl (.rng1 e) st = .ok (rngN n, st) := by
  rw [evIt, he]
  simp only [Res.bind, rngOk_nat h]
def sgs (r : List Nat) : List D := r.map fun c => .str [c]
def opp (c : Nat) : Nat := if c = 43 then 45 else if c = 45 then 43 else 48
theorem opp_ok {c : Nat} (h : isSg c) : isSg (opp c) := by
  rcases h with rfl | rfl | rfl
  · exact .inr (.inl rfl)
  · exact .inl rfl
  · exact .inr (.inr rfl)
theorem flat_rep {α : Type} (x : α) : ∀ n : Nat, (List.replicate n [x]).flatten = List.replicate n x
  | 0 => rfl
  | n + 1 => by rw [List.replicate_succ, List.flatten_cons, flat_rep x n]; rfl
theorem mul_str {n c : Nat} (h : n ≤ 1000) : Op.run2 .mul (.str [c]) (.int n) = some (false, .str (List.replicate n c)) := by
  have e : repOk (n : Int) [c].length = true := by unfold repOk; simp; omega
  show (if repOk (n : Int) [c].length then some (false, D.str (List.replicate (n : Int).toNat [c]).flatten) else none) = _
  rw [e, if_pos rfl, Int.toNat_natCast, flat_rep]
/-- a written list -/
theorem ev_lst {Φ : Fns} {fl : Nat → List Bool} {st st1 : St} {es : Es} {ds : List D} (h : evVs Φ fl es st = .ok (ds, st1)) (hz : ds.length ≤ 16777216) : ev Φ fl (.lst es) st = .ok (.fresh (.lst ds), st1) := by
  rw [ev, h]
  simp only [Res.bind, ble_sz hz, if_true]
theorem ev_tup {Φ : Fns} {fl : Nat → List Bool} {st st1 : St} {es : Es} {ds : List D} (h : evVs Φ fl es st = .ok (ds, st1)) (hz : ds.length ≤ 16777216) : ev Φ fl (.tup es) st = .ok (.val (.tup ds), st1) := by
  rw [ev, h]
  simp only [Res.bind, ble_sz hz, if_true]
theorem evVs_nil {Φ : Fns} {fl : Nat → List Bool} {st : St} : evVs Φ fl .nil st = .ok ([], st) := by rw [evVs]
theorem evVs_cons {Φ : Fns} {fl : Nat → List Bool} {st st1 st2 st3 : St} {e : E} {es : Es} {r : R} {d : D} {ds : List D} (h : ev Φ fl e st = .ok (r, st1)) (hk : r.keep st1 = some (d, st2)) (h2 : evVs Φ fl es st2 = .ok (ds, st3)) : evVs Φ fl (.cons e es) st = .ok (d :: ds, st3) := by
  rw [evVs, h]
  simp only [Res.bind, hk, h2]
theorem evVs_c {Φ : Fns} {fl : Nat → List Bool} {st st3 : St} {es : Es} {d : D} {ds : List D} (h2 : evVs Φ fl es st = .ok (ds, st3)) : evVs Φ fl (.cons (.c d) es) st = .ok (d :: ds, st3) := evVs_cons ev_c rfl h2
end PV
set_option Elab.async false
set_option linter.all false
set_option maxRecDepth 100000
set_option maxHeartbeats 4000000
namespace PV
/-- place by place -/
def All2 {α β : Type} (R : α → β → Prop) : List α → List β → Prop
  | [], [] => True
  | a :: as, b :: bs => R a b ∧ All2 R as bs
  | _, _ => False
section
variable {α β : Type} {R : α → β → Prop}
theorem All2.len : ∀ {as : List α} {bs : List β}, All2 R as bs → as.length = bs.length
  | [], [], _ => rfl
  | _ :: _, _ :: _, h => by simp [All2.len h.2]
  | [], _ :: _, h => h.elim
  | _ :: _, [], h => h.elim
theorem All2.snoc {a : α} {b : β} : ∀ {as : List α} {bs : List β}, All2 R as bs → R a b → All2 R (as ++ [a]) (bs ++ [b])
  | [], [], _, h => ⟨h, trivial⟩
  | _ :: _, _ :: _, h, h2 => ⟨h.1, All2.snoc h.2 h2⟩
  | [], _ :: _, h, _ => h.elim
  | _ :: _, [], h, _ => h.elim
theorem All2.get : ∀ {as : List α} {bs : List β} {i : Nat} {a : α} {b : β}, All2 R as bs → as[i]? = some a → bs[i]? = some b → R a b
  | a :: as, b :: bs, 0, _, _, h, e, f => by simp at e f; subst e; subst f; exact h.1
  | a :: as, b :: bs, i + 1, _, _, h, e, f => All2.get (i := i) h.2 (by simpa using e) (by simpa using f)
  | [], [], _, _, _, _, e, _ => by simp at e
  | [], _ :: _, _, _, _, h, _, _ => h.elim
  | _ :: _, [], _, _, _, h, _, _ => h.elim
theorem take_snoc {xs : List α} {i : Nat} {x : α} (h : xs[i]? = some x) : xs.take (i + 1) = xs.take i ++ [x] := by
  obtain ⟨h1, h2⟩ := List.getElem?_eq_some_iff.mp h
  rw [List.take_succ_eq_append_getElem h1, h2]
end
/-- numbers in rows -/
abbrev Mat := List (List Int)
theorem seqOf_str {r : List Nat} (h : r.length ≤ 16777216) : Op.seqOf (.str r) = some (sgs r) := by
  show (if Nat.ble r.length sizeL then some (r.map fun c => D.str [c]) else none) = _
  rw [ble_sz h]; rfl
theorem it_seq {Φ : Fns} {fl : Nat → List Bool} {st st1 st2 : St} {e : E} {r : R} {d : D} {xs : List D} (he : ev Φ fl e st = .ok (r, st1)) (hk : r.keep st1 = some (d, st2)) (hs : Op.seqOf d = some xs) : evIt Φ fl (.seq e) st = .ok (xs, st2) := by
  rw [evIt, he]
  simp only [Res.bind, hk, hs]
theorem ne_sg (c d : Nat) : Op.run2 .ne (.str [c]) (.str [d]) = some (false, .bl (!(c == d))) := by
  show Op.eq2 true (.str [c]) (.str [d]) = _
  unfold Op.eq2
  simp only [sh, Bool.and_self, if_true, eqD, bout]
  congr 3
  simp
end PV
set_option Elab.async false
set_option linter.all false
set_option maxRecDepth 100000
set_option maxHeartbeats 4000000
namespace PV
section
variable {Φ : Fns} {fl : Nat → List Bool} {st st0 st1 : St} {vs : List Nat} {t : Tg} {it : It} {cond elt : E} {xs : List D}
/-- a turn of such a comprehension -/
def TurnOk (Φ : Fns) (fl : Nat → List Bool) (vs : List Nat) (cond elt : E) (st0 s1 : St) : Option D → Prop
  | some d => ∃ r s2 s3 s4, ev Φ fl cond s1 = .ok (.val (.bl true), s2) ∧ ev Φ fl elt s2 = .ok (r, s3) ∧ r.keep s3 = some (d, s4) ∧ wipe s4 vs = st0
  | none => ∃ s2, ev Φ fl cond s1 = .ok (.val (.bl false), s2) ∧ wipe s2 vs = st0
theorem ev_comp (g : D → Option D) (hi : evIt Φ fl it st = .ok (xs, st1)) (hno : noOwn st1 vs = true) (hw : wipe st1 vs = st0) (hb : back st1 st0 vs = st1) (h : ∀ x ∈ xs, ∃ s1, t.set x st0 = some s1 ∧ TurnOk Φ fl vs cond elt st0 s1 (g x)) (hz : (xs.filterMap g).length ≤ 16777216) :
    ev Φ fl (.comp vs t it cond elt) st = .ok (.fresh (.lst (xs.filterMap g)), st1) := by
  have e := turns_map (t := t) (body := fun s => (ev Φ fl cond s).bind fun (r, s1) => match r with
        | .val (.bl true) => (ev Φ fl elt s1).bind fun (r, s2) => (match r.keep s2 with
          | some (d, s3) => .ok (some d, wipe s3 vs)
          | none => .no)
        | .val (.bl false) => .ok (none, wipe s1 vs)
        | _ => .no) (st := st0) g xs fun x hx => by
    obtain ⟨s1, e1, e2⟩ := h x hx
    refine ⟨s1, e1, ?_⟩
    cases q : g x with
    | some d =>
      rw [q] at e2
      obtain ⟨r, s2, s3, s4, k1, k2, k3, k4⟩ := e2
      simp only [k1, Res.bind, k2, k3, k4]
    | none =>
      rw [q] at e2
      obtain ⟨s2, k1, k2⟩ := e2
      simp only [k1, Res.bind, k2]
  rw [ev, hi]
  simp only [Res.bind]
  rw [if_pos hno, hw]
  refine (congrArg (fun z => (Res.calm z).bind _) e).trans ?_
  simp only [Res.calm, Res.bind, ble_sz hz, if_true, hb]
theorem ev_compA (g : D → D) (hi : evIt Φ fl it st = .ok (xs, st1)) (hno : noOwn st1 vs = true) (hw : wipe st1 vs = st0) (hb : back st1 st0 vs = st1) (h : ∀ x ∈ xs, ∃ s1 r s3 s4, t.set x st0 = some s1 ∧ ev Φ fl elt s1 = .ok (r, s3) ∧ r.keep s3 = some (g x, s4) ∧ wipe s4 vs = st0) (hz : xs.length ≤ 16777216) :
    ev Φ fl (.comp vs t it (.c (.bl true)) elt) st = .ok (.fresh (.lst (xs.map g)), st1) := by
  have e : xs.filterMap (fun x => some (g x)) = xs.map g := by
    clear h hz hi
    induction xs with
    | nil => rfl
    | cons x r ih => rw [List.filterMap_cons, ih]; rfl
  rw [← e]
  refine ev_comp (fun x => some (g x)) hi hno hw hb (fun x hx => ?_) (by rw [e, List.length_map]; exact hz)
  obtain ⟨s1, r, s3, s4, k1, k2, k3, k4⟩ := h x hx
  exact ⟨s1, k1, r, s1, s3, s4, ev_c, k2, k3, k4⟩
theorem ev_comp2A {vs1 : List Nat} {t1 : Tg} {it1 : It} (g : D → List D) (hi : evIt Φ fl it st = .ok (xs, st1)) (hno : noOwn st1 vs = true) (hw : wipe st1 vs = st0) (hb : back st1 st0 vs = st1)
    (h : ∀ x ∈ xs, ∃ s1 ys s2 s3, t.set x st0 = some s1 ∧ evIt Φ fl it1 s1 = .ok (ys, s2) ∧ wipe s2 vs1 = s3 ∧ wipe s3 vs = st0 ∧ ∃ g1 : D → Option D, g x = ys.filterMap g1 ∧ ∀ y ∈ ys, ∃ s4, t1.set y s3 = some s4 ∧ TurnOk Φ fl vs1 cond elt s3 s4 (g1 y)) (hz : (xs.flatMap g).length ≤ 16777216) :
    ev Φ fl (.comp2 vs vs1 t it t1 it1 cond elt) st = .ok (.fresh (.lst (xs.flatMap g)), st1) := by
  have e := turns2_map (t := t) (body := fun s => (evIt Φ fl it1 s).bind fun (ys, s0) => (turns t1 (fun s => (ev Φ fl cond s).bind fun (r, s1) => match r with
        | .val (.bl true) => (ev Φ fl elt s1).bind fun (r, s2) => (match r.keep s2 with
          | some (d, s3) => .ok (some d, wipe s3 vs1)
          | none => .no)
        | .val (.bl false) => .ok (none, wipe s1 vs1)
        | _ => .no) ys (wipe s0 vs1)).bind fun (ds, s9) => .ok (ds, wipe s9 vs)) (st := st0) g xs fun x hx => by
    obtain ⟨s1, ys, s2, s3, k1, k2, k3, k4, g1, k5, k6⟩ := h x hx
    refine ⟨s1, k1, ?_⟩
    have e := turns_map (t := t1) (body := fun s => (ev Φ fl cond s).bind fun (r, s1) => match r with
        | .val (.bl true) => (ev Φ fl elt s1).bind fun (r, s2) => (match r.keep s2 with
          | some (d, s3) => .ok (some d, wipe s3 vs1)
          | none => .no)
        | .val (.bl false) => .ok (none, wipe s1 vs1)
        | _ => .no) (st := s3) g1 ys fun y hy => by
      obtain ⟨s4, e1, e2⟩ := k6 y hy
      refine ⟨s4, e1, ?_⟩
      cases q : g1 y with
      | some d =>
        rw [q] at e2
        obtain ⟨r, s2, s3, s4, k1, k2, k3, k4⟩ := e2
        simp only [k1, Res.bind, k2, k3, k4]
      | none =>
        rw [q] at e2
        obtain ⟨s2, k1, k2⟩ := e2
        simp only [k1, Res.bind, k2]
    dsimp only
    rw [k2]
    simp only [Res.bind, k3]
    refine (congrArg (fun z => Res.bind z _) e).trans ?_
    simp only [Res.bind, k4, k5]
  rw [ev, hi]
  simp only [Res.bind]
  rw [if_pos hno, hw]
  refine (congrArg (fun z => (Res.calm z).bind _) e).trans ?_
  simp only [Res.calm, Res.bind, ble_sz hz, if_true, hb]
theorem it_enum {a : E} {r : R} {d : D} {st2 : St} (ha : ev Φ fl a st = .ok (r, st1)) (hk : r.keep st1 = some (d, st2)) (h1 : Op.seqOf d = some xs) : evIt Φ fl (.enum a) st = .ok (enumD 0 xs, st2) := by
  rw [evIt, ha]
  simp only [Res.bind, hk, h1]
end
theorem enumD_map {α : Type} (f : α → D) : ∀ (xs : List α) (k : Nat), enumD k (xs.map f) = (xs.zipIdx k).map fun p => .tup [.int (p.2 : Nat), f p.1]
  | [], _ => by simp [enumD]
  | x :: xs, k => by
    simp only [List.map_cons, enumD, List.zipIdx_cons]
    have := enumD_map f xs (k + 1)
    rw [show ((k + 1 : Nat) : Int) = (k : Int) + 1 by omega] at this
    rw [this]
def fac (c : Nat) : Int := if c = 43 then 1 else if c = 45 then -1 else 0
end PV
set_option Elab.async false
set_option linter.all false
set_option maxRecDepth 100000
set_option maxHeartbeats 4000000
namespace PV
def Fis_between : Fn := ⟨3, 3, (.cons (.ret (.and (.op (.isi .int) (.cons (.v 0) .nil)) (.and (.not (.op (.isi .bool) (.cons (.v 0) .nil))) (.chain .le .le (.v 1) (.v 0) (.v 2)))))
  .nil)⟩
theorem bls_true {α : Type} : ∀ xs : List α, blsOf (xs.map fun _ => D.bl true) = some (xs.map fun _ => true)
  | [] => rfl
  | x :: xs => by
    show (blsOf (xs.map fun _ => D.bl true)).map _ = _
    rw [bls_true xs]; rfl
theorem all_true {α : Type} (xs : List α) : Op.run1 .all (.lst (xs.map fun _ => D.bl true)) = some (false, .bl true) := by
  show (match blsOf (xs.map fun _ => D.bl true) with | some bs => bout (bs.all id) | none => none) = _
  rw [bls_true]
  have : (xs.map fun _ => true).all id = true := by simp
  simp only [this, bout]
def Fare_rows : Fn := ⟨2, 4, (.cons (.ite (.or (.not (.op (.isi .tuple) (.cons (.v 0) .nil))) (.not (.chain .le .le (.c (.int 1)) (.op .len (.cons (.v 0) .nil)) (.c (.int 5))))) (.cons (.ret (.c (.bl false)))
  .nil) .nil)
  (.cons (.ite (.not (.op .all (.cons (.comp [2] (.one 2) (.seq (.v 0)) (.c (.bl true)) (.and (.op (.isi .str) (.cons (.v 2) .nil)) (.op .eq (.cons (.op .len (.cons (.v 2) .nil)) (.cons (.op .len (.cons (.v 0) .nil)) .nil))))) .nil))) (.cons (.ret (.c (.bl false)))
  .nil) .nil)
  (.cons (.ret (.op .all (.cons (.comp2 [2, 3] [3] (.one 2) (.seq (.v 0)) (.one 3) (.seq (.v 2)) (.c (.bl true)) (.op .mem (.cons (.v 3) (.cons (.v 1) .nil)))) .nil)))
  .nil)))⟩
def Fis_web (kare_rows : Nat) : Fn := ⟨1, 1, (.cons (.ret (.call kare_rows (.cons (.v 0) (.cons (.c (.str [43, 45, 48])) .nil))))
  .nil)⟩
def Fcheck_web (kis_web : Nat) : Fn := ⟨1, 1, (.cons (.ite (.not (.call kis_web (.cons (.v 0) .nil))) (.cons (.raise 1)
  .nil) .nil)
  .nil)⟩
theorem len_web (w : Web) : Op.run1 .len (webD w) = some (false, .int w.length) := by
  show some (false, D.int ((w.map D.str).length : Nat)) = _
  rw [List.length_map]
theorem len_str {r : List Nat} (h : r.length ≤ 16777216) : Op.run1 .len (.str r) = some (false, .int r.length) := lesq_ok h
theorem eq_int (a b : Int) : Op.run2 .eq (.int a) (.int b) = some (false, .bl (a == b)) := by
  show Op.eq2 false (.int a) (.int b) = _
  unfold Op.eq2
  simp only [sh, Bool.and_self, if_true, eqD, bout]
  congr 3
  simp
theorem ne_int (a b : Int) : Op.run2 .ne (.int a) (.int b) = some (false, .bl (!(a == b))) := by
  show Op.eq2 true (.int a) (.int b) = _
  unfold Op.eq2
  simp only [sh, Bool.and_self, if_true, eqD, bout]
  congr 3
  simp
def RowsS (F : Rsl) : Prop := ∀ (n : Nat) (w : Web), okW n w → 1 ≤ n → n ≤ 5 → F [.val (webD w), .val (.str [43, 45, 48])] = .ok (.val (.bl true), [.val (webD w), .val (.str [43, 45, 48])])
theorem rows_s (fl : Nat → List Bool) (Φ : Fns) : RowsS (runFn fl Φ Fare_rows) := fun n w hw h1 h5 => by
  have hwl := hw.1
  let st : St := [.val (webD w), .val (.str [43, 45, 48]), .none, .none]
  have len0 : ev Φ fl (.op .len (.cons (.v 0) .nil)) st = .ok (.val (.int w.length), st) := ev_op1v (ev_val rfl) rfl (len_web w)
  have c1 : ev Φ fl (.or (.not (.op (.isi .tuple) (.cons (.v 0) .nil))) (.not (.chain .le .le (.c (.int 1)) (.op .len (.cons (.v 0) .nil)) (.c (.int 5))))) st = .ok (.val (.bl false), st) := by
    have e1 : ev Φ fl (.not (.op (.isi .tuple) (.cons (.v 0) .nil))) st = .ok (.val (.bl false), st) := ev_not (k := true) (ev_op1v (ev_val rfl) rfl rfl)
    rw [ev_or_f e1]
    refine ev_not (k := true) ?_
    rw [ev, ev_c]
    simp only [Res.bind, len0, ev_c]
    have d1 : decide ((1 : Int) ≤ (w.length : Int)) = true := by simp; omega
    have d2 : decide ((w.length : Int) ≤ 5) = true := by simp; omega
    simp only [Op.run, Op.run2, Op.le2, bout, d1, d2]
  have c2 : ev Φ fl (.comp [2] (.one 2) (.seq (.v 0)) (.c (.bl true)) (.and (.op (.isi .str) (.cons (.v 2) .nil)) (.op .eq (.cons (.op .len (.cons (.v 2) .nil)) (.cons (.op .len (.cons (.v 0) .nil)) .nil))))) st = .ok (.fresh (.lst ((w.map D.str).map fun _ => .bl true)), st) := by
    refine ev_compA _ (st0 := st) (it_seq (ev_val rfl) rfl rfl) rfl rfl rfl (fun x hx => ?_) (by rw [List.length_map]; omega)
    obtain ⟨r, hr, rfl⟩ := List.mem_map.mp hx
    have hl := (hw.2 r hr).1
    refine ⟨[.val (webD w), .val (.str [43, 45, 48]), .val (.str r), .none], .val (.bl true), [.val (webD w), .val (.str [43, 45, 48]), .val (.str r), .none], _, rfl, ?_, rfl, rfl⟩
    have e1 : ev Φ fl (.op (.isi .str) (.cons (.v 2) .nil)) [.val (webD w), .val (.str [43, 45, 48]), .val (.str r), .none] = .ok (.val (.bl true), [.val (webD w), .val (.str [43, 45, 48]), .val (.str r), .none]) := ev_op1v (ev_val rfl) rfl rfl
    rw [ev_and_t e1]
    have d : ((r.length : Int) == (w.length : Int)) = true := by simp; omega
    rw [← d]
    exact ev_op2v (ev_op1v (ev_val rfl) rfl (len_str (by omega))) (ev_op1v (ev_val rfl) rfl (len_web w)) rfl rfl (eq_int _ _)
  have c3 : ev Φ fl (.comp2 [2, 3] [3] (.one 2) (.seq (.v 0)) (.one 3) (.seq (.v 2)) (.c (.bl true)) (.op .mem (.cons (.v 3) (.cons (.v 1) .nil)))) st = .ok (.fresh (.lst ((w.map D.str).flatMap fun d => match d with | .str r => (sgs r).map fun _ => .bl true | _ => [])), st) := by
    refine ev_comp2A _ (st0 := st) (it_seq (ev_val rfl) rfl rfl) rfl rfl rfl (fun x hx => ?_) ?_
    · obtain ⟨r, hr, rfl⟩ := List.mem_map.mp hx
      have hl := hw.2 r hr
      refine ⟨[.val (webD w), .val (.str [43, 45, 48]), .val (.str r), .none], sgs r, [.val (webD w), .val (.str [43, 45, 48]), .val (.str r), .none], [.val (webD w), .val (.str [43, 45, 48]), .val (.str r), .none], rfl, it_seq (ev_val rfl) rfl (seqOf_str (by omega)), rfl, rfl, fun _ => some (.bl true), ?_, fun y hy => ?_⟩
      · show (sgs r).map (fun _ => D.bl true) = _
        rw [← List.filterMap_eq_map]; rfl
      · obtain ⟨c, hc, rfl⟩ := List.mem_map.mp hy
        refine ⟨[.val (webD w), .val (.str [43, 45, 48]), .val (.str r), .val (.str [c])], rfl, .val (.bl true), _, _, _, ev_c, ev_op2v (ev_val rfl) (ev_val rfl) rfl rfl ?_, rfl, rfl⟩
        show bout (false != [43, 45, 48].contains c) = _
        rcases hl.2 c hc with rfl | rfl | rfl <;> rfl
    · rw [List.length_flatMap, List.map_map]
      have : ((w.map (List.length ∘ (fun d => match d with | .str r => (sgs r).map fun _ => D.bl true | _ => []) ∘ D.str))).sum ≤ w.length * 5 := by
        clear c2 c1 len0
        have hh : ∀ r ∈ w, r.length ≤ 5 := fun r hr => by have := (hw.2 r hr).1; omega
        clear hw hwl
        induction w with
        | nil => simp
        | cons r w ih =>
          have i1 := ih (fun r hr => hh r (by simp [hr]))
          have i2 := hh r (by simp)
          simp only [List.map_cons, List.sum_cons, List.length_cons, Function.comp, List.length_map, sgs] at i1 ⊢
          omega
      have e : (List.map (List.length ∘ fun x => match D.str x with | .str r => (sgs r).map fun _ => D.bl true | _ => []) w) = w.map (List.length ∘ (fun d => match d with | .str r => (sgs r).map fun _ => D.bl true | _ => []) ∘ D.str) := rfl
      refine Nat.le_trans this ?_
      omega
  have e3 : ((w.map D.str).flatMap fun d => match d with | .str r => (sgs r).map fun _ => D.bl true | _ => []) = ((w.map D.str).flatMap fun d => match d with | .str r => sgs r | _ => []).map fun _ => .bl true := by
    rw [List.map_flatMap]
    refine congrArg (fun f => List.flatMap f (w.map D.str)) (funext fun d => ?_)
    cases d <;> rfl
  rw [e3] at c3
  refine run_ok (fw := .ret (.val (.bl true))) (st := st) rfl (exs_next (st1 := st) (ex_skip c1) (exs_next (st1 := st) (ex_skip (ev_not (k := true) (ev_op1v c2 rfl (all_true _)))) (exs_ret (ex_ret_val (ev_op1v c3 rfl (all_true _)))))) rfl
def ChkW (F : Rsl) : Prop := ∀ (n : Nat) (w : Web), okW n w → 1 ≤ n → n ≤ 5 → F [.val (webD w)] = .ok (.val .non, [.val (webD w)])
def IsW (F : Rsl) : Prop := ∀ (n : Nat) (w : Web), okW n w → 1 ≤ n → n ≤ 5 → F [.val (webD w)] = .ok (.val (.bl true), [.val (webD w)])
theorem isw_s {Φ : Fns} {fl : Nat → List Bool} {kr : Nat} (hf : fl kr = [false, false]) (R : RowsS (Φ kr)) : IsW (runFn fl Φ (Fis_web kr)) := fun n w hw h1 h5 =>
  run_ok (fw := .ret (.val (.bl true))) (st := [.val (webD w)]) rfl (exs_ret (ex_ret_val (ev_callv (ds := [webD w, .str [43, 45, 48]]) (evAs_cons (ev_val rfl) (evAs_cons ev_c evAs_nil)) rfl hf (R n w hw h1 h5) (by simp)))) rfl
theorem chkw_s {Φ : Fns} {fl : Nat → List Bool} {ki : Nat} (hf : fl ki = [false]) (I : IsW (Φ ki)) : ChkW (runFn fl Φ (Fcheck_web ki)) := fun n w hw h1 h5 =>
  run_ok (fw := .next) (st := [.val (webD w)]) rfl (exs_next (ex_skip (ev_not (k := true) (ev_callv (ds := [webD w]) (evAs_cons (ev_val rfl) evAs_nil) rfl hf (I n w hw h1 h5) (by simp)))) exs_nil) rfl
end PV
set_option Elab.async false
set_option linter.all false
set_option maxRecDepth 100000
set_option maxHeartbeats 4000000
namespace PV
/-- the sign of a place -/
def pm (b : Bool) (x : Int) : Int := if b then -x else x
def oddB (n : Nat) : Bool := n % 2 == 1
/-- all orders of some columns, with whether they are odd, ascending -/
def slex : Nat → List Nat → List (Bool × List Nat)
  | 0, _ => [(false, [])]
  | n + 1, cs => (List.range cs.length).flatMap fun p => (slex n (cs.eraseIdx p)).map fun q => (oddB p != q.1, cs.getD p 0 :: q.2)
def ordL (n : Nat) : List (Bool × List Nat) := slex n (List.range n)
def sumF {α : Type} (f : α → Int) : List α → Int
  | [] => 0
  | x :: xs => f x + sumF f xs
/-- n rows of n numbers -/
def sq (n : Nat) (m : Mat) : Prop := m.length = n ∧ ∀ r ∈ m, r.length = n
def sgO : Web → List Nat → List Nat
  | r :: rows, c :: cs => r.getD c 48 :: sgO rows cs
  | _, _ => []
def okO (n : Nat) (o : List Nat) : Prop := o.length = n ∧ ∀ c ∈ o, c < n
/-- the terms of a web: orders without a cell of no influence, with their signs (true: -) -/
def dueOf (w : Web) (os : List (Bool × List Nat)) : List (Bool × List Nat) := os.filterMap fun q => if (sgO w q.2).contains 48 then none else some (q.1 != oddB ((sgO w q.2).count 45), q.2)
end PV
set_option Elab.async false
set_option linter.all false
set_option maxRecDepth 100000
set_option maxHeartbeats 4000000
namespace PV
def WOk {α : Type} (x : Res α) (Q : α → Prop) : Prop := ∃ a, x = .ok a ∧ Q a
section
variable {Φ : Fns} {fl : Nat → List Bool} {st st1 st2 : St} {s : S} {r a b : Ss} {c e : E} {v : Ret} {Q : Fl × St → Prop} {i : Nat} {m : Bool} {d : D} {t : Tg} {it : It} {xs : List D} {a' : E}
theorem wp_run {f : Fn} {as : List Ar} {os : List Sl} (hl : as.length = f.np) (h : WOk (exs Φ fl f.body (start 0 as ++ List.replicate (f.ns - f.np) .none)) fun p => finish f.np p = (v, os)) : runFn fl Φ f as = .ok (v, os) := by
  obtain ⟨p, e1, e2⟩ := h
  rw [runFn, if_pos (by simpa using hl), e1]
  show Res.ok (finish f.np p) = _
  rw [e2]
theorem wp_nil (h : Q (.next, st)) : WOk (exs Φ fl .nil st) Q := ⟨_, exs_nil, h⟩
theorem wp_next (h : ex Φ fl s st = .ok (.next, st1)) (h2 : WOk (exs Φ fl r st1) Q) : WOk (exs Φ fl (.cons s r) st) Q := by
  obtain ⟨p, e1, e2⟩ := h2
  exact ⟨p, exs_next h e1, e2⟩
theorem wp_stop (h : ex Φ fl s st = .ok (.ret v, st1)) (h2 : Q (.ret v, st1)) : WOk (exs Φ fl (.cons s r) st) Q := ⟨_, exs_ret h, h2⟩
theorem wp_new (he : ev Φ fl e st = .ok (.fresh d, st1)) (hi : i < st1.length) (h2 : WOk (exs Φ fl r (st1.set i (.own none d))) Q) : WOk (exs Φ fl (.cons (.set i true e) r) st) Q := wp_next (ex_set_new he hi) h2
theorem wp_ex {x : R} (he : ev Φ fl e st = .ok (x, st1)) (h2 : WOk (exs Φ fl r st1) Q) : WOk (exs Φ fl (.cons (.ex e) r) st) Q := wp_next (ex_ex he) h2
theorem wp_ret (he : ev Φ fl e st = .ok (.val d, st1)) (h2 : Q (.ret (.val d), st1)) : WOk (exs Φ fl (.cons (.ret e) r) st) Q := wp_stop (ex_ret_val he) h2
theorem wp_retn (he : ev Φ fl e st = .ok (.fresh d, st1)) (h2 : Q (.ret (.fresh d), st1)) : WOk (exs Φ fl (.cons (.ret e) r) st) Q := wp_stop (ex_ret_new he) h2
theorem wp_skip (h : ev Φ fl c st = .ok (.val (.bl false), st1)) (h2 : WOk (exs Φ fl r st1) Q) : WOk (exs Φ fl (.cons (.ite c a .nil) r) st) Q := wp_next (ex_skip h) h2
/-- if: a branch that goes on -/
theorem wp_if (h : ev Φ fl c st = .ok (.val (.bl true), st1)) (h2 : WOk (exs Φ fl a st1) fun p => p.1 = .next ∧ WOk (exs Φ fl r p.2) Q) : WOk (exs Φ fl (.cons (.ite c a b) r) st) Q := by
  obtain ⟨⟨f, s1⟩, e1, e2, e3⟩ := h2
  dsimp only at e2 e3
  subst e2
  exact wp_next (ex_if h e1) e3
/-- a loop whose turns all go on -/
theorem wp_for {body : Ss} (I : Nat → St → Prop) (hit : evIt Φ fl it st = .ok (xs, st1)) (h0 : I 0 st1) (hs : ∀ i x s, xs[i]? = some x → I i s → ∃ s1, t.set x s = some s1 ∧ WOk (exs Φ fl body s1) fun p => p.1 = .next ∧ I (i + 1) p.2) (hk : ∀ s, I xs.length s → WOk (exs Φ fl r s) Q) : WOk (exs Φ fl (.cons (.for t it body) r) st) Q := by
  obtain ⟨st', e1, e2⟩ := loop_ok (t := t) (body := exs Φ fl body) I xs 0 st1 h0 fun i x s hx hI => by
    rw [Nat.zero_add] at hI ⊢
    obtain ⟨s1, k1, ⟨f, s2⟩, k2, k3, k4⟩ := hs i x s hx hI
    dsimp only at k3 k4
    subst k3
    exact ⟨s1, s2, k1, k2, k4⟩
  rw [Nat.zero_add] at e2
  exact wp_next (ex_for hit e1) (hk st' e2)
theorem wpp_ret (he : ev Φ fl e st = .ok (.val d, st)) (h2 : Q (.ret (.val d), st)) : WOk (exs Φ fl (.cons (.ret e) r) st) Q := wp_ret he h2
end
end PV
set_option Elab.async false
set_option linter.all false
set_option maxRecDepth 100000
set_option maxHeartbeats 4000000
namespace PV
def ordD (o : List Nat) : D := .tup (o.map fun (c : Nat) => .int c)
/-- a tuple, or a list -/
def sqD (l : Bool) (ds : List D) : D := if l then .lst ds else .tup ds
def Fall_orders : Fn := ⟨1, 5, (.cons (.set 1 true (.lst (.cons (.tup .nil) .nil))) (.cons (.for (.one 2) (.rng1 (.v 0)) (.cons (.set 1 true (.comp2 [3, 4] [4] (.one 3) (.seq (.v 1)) (.one 4) (.rng1 (.v 0)) (.op .nmem (.cons (.v 4) (.cons (.v 3) .nil))) (.op .add (.cons (.v 3) (.cons (.tup (.cons (.v 4) .nil)) .nil))))) .nil)) (.cons (.ret (.v 1)) .nil)))⟩
def AllOS (F : Rsl) : Prop := ∀ n : Nat, n ≤ 5 → F [.val (.int n)] = .ok (.fresh (.lst ((ordL n).map fun q => ordD q.2)), [.val (.int n)])
theorem allo_s (fl : Nat → List Bool) (Φ : Fns) : AllOS (runFn fl Φ Fall_orders)
  | 0, _ => by kernel_rfl
  | 1, _ => by kernel_rfl
  | 2, _ => by kernel_rfl
  | 3, _ => by kernel_rfl
  | 4, _ => by kernel_rfl
  | 5, _ => by kernel_rfl
  | n + 6, h => by omega
def Fis_uneven : Fn := ⟨1, 5, (.cons (.set 1 true (.c (.int 0))) (.cons (.for (.many [2, 3]) (.enum (.v 0)) (.cons (.set 1 true (.op .add (.cons (.v 1) (.cons (.op .len (.cons (.comp [4] (.one 4) (.seq (.slc (.v 0) true (.v 2) false (.c .non))) (.op .lt (.cons (.v 4) (.cons (.v 3) .nil))) (.v 4)) .nil)) .nil)))) .nil)) (.cons (.ret (.op .eq (.cons (.op .mod (.cons (.v 1) (.cons (.c (.int 2)) .nil))) (.cons (.c (.int 1)) .nil)))) .nil)))⟩
def UnevS (F : Rsl) : Prop := ∀ n : Nat, n ≤ 5 → ∀ q ∈ ordL n, F [.val (ordD q.2)] = .ok (.val (.bl q.1), [.val (ordD q.2)])
theorem unev_n (fl : Nat → List Bool) (Φ : Fns) : ∀ n : Nat, n ≤ 5 → (ordL n).map (fun q => runFn fl Φ Fis_uneven [.val (ordD q.2)]) = (ordL n).map (fun q => .ok (.val (.bl q.1), [.val (ordD q.2)]))
  | 0, _ => by kernel_rfl
  | 1, _ => by kernel_rfl
  | 2, _ => by kernel_rfl
  | 3, _ => by kernel_rfl
  | 4, _ => by kernel_rfl
  | 5, _ => by kernel_rfl
  | n + 6, h => by omega
theorem unev_s (fl : Nat → List Bool) (Φ : Fns) : UnevS (runFn fl Φ Fis_uneven) := fun n hn q hq => List.map_inj_left.mp (unev_n fl Φ n hn) q hq
def okOb (n : Nat) (o : List Nat) : Bool := (o.length == n) && o.all fun c => Nat.blt c n
theorem ordL_okb : ∀ n : Nat, n ≤ 5 → (ordL n).all (fun q => okOb n q.2) = true
  | 0, _ => by decide +kernel
  | 1, _ => by decide +kernel
  | 2, _ => by decide +kernel
  | 3, _ => by decide +kernel
  | 4, _ => by decide +kernel
  | 5, _ => by decide +kernel
  | n + 6, h => by omega
theorem ordL_ok {n : Nat} (h : n ≤ 5) : ∀ q ∈ ordL n, okO n q.2 := fun q hq => by
  have h1 := List.all_eq_true.mp (ordL_okb n h) q hq
  unfold okOb at h1
  simp only [Bool.and_eq_true, beq_iff_eq, List.all_eq_true] at h1
  exact ⟨h1.1, fun c hc => Nat.le_of_ble_eq_true (h1.2 c hc)⟩
end PV
set_option Elab.async false
set_option linter.all false
set_option maxRecDepth 100000
set_option maxHeartbeats 4000000
namespace PV
theorem sqD_look (l : Bool) (ds : List D) (i : Nat) (d : D) (h : ds[i]? = some d) : Op.run2 .idx (sqD l ds) (.int i) = some (false, d) := by
  cases l
  · exact idx_tup h
  · exact idx_lstN h
theorem len_sqD (l : Bool) (ds : List D) : Op.run1 .len (sqD l ds) = some (false, .int ds.length) := by cases l <;> rfl
/-- the signs along an order, from the k-th row on -/
theorem sg_zip (w : Web) : ∀ (o : List Nat) (k : Nat), o.length + k ≤ w.length → (o.zipIdx k).map (fun p => (w.getD p.2 []).getD p.1 48) = sgO (w.drop k) o
  | [], k, _ => by cases w.drop k <;> rfl
  | c :: o, k, h => by
    have hk : k < w.length := by simp at h; omega
    rw [List.drop_eq_getElem_cons hk]
    simp only [List.zipIdx_cons, List.map_cons, sgO]
    rw [sg_zip w o (k + 1) (by simp at h ⊢; omega)]
    congr 2
    rw [List.getD_eq_getElem?_getD, List.getElem?_eq_getElem hk]; rfl
theorem any_sgs (c : Nat) : ∀ s : List Nat, (sgs s).any (fun y => eqD y (.str [c])) = s.contains c
  | [] => rfl
  | x :: s => by
    have ih := any_sgs c s
    show (([x] : List Nat) == [c] || (sgs s).any (fun y => eqD y (.str [c]))) = (c == x || s.contains c)
    rw [ih]
    congr 1
    rw [Bool.eq_iff_iff]; simp only [beq_iff_eq, List.cons.injEq, and_true]; exact eq_comm
theorem count_sgs (c : Nat) : ∀ s : List Nat, (sgs s).countP (fun y => eqD y (.str [c])) = s.count c
  | [] => rfl
  | x :: s => by
    have ih := count_sgs c s
    show List.countP _ (D.str [x] :: sgs s) = _
    rw [List.countP_cons, ih, List.count_cons]
    congr 1
    have : eqD (.str [x]) (.str [c]) = (x == c) := by
      show (([x] : List Nat) == [c]) = _
      rw [Bool.eq_iff_iff]; simp
    rw [this]
theorem shs_sgs (k : Nat) : ∀ s : List Nat, shs k (sgs s) = true
  | [] => by unfold sgs; rw [List.map_nil, shs]
  | x :: s => by
    show shs k (D.str [x] :: sgs s) = true
    rw [shs, shs_sgs k s]
    cases k <;> simp [sh]
theorem ne_bl (a b : Bool) : Op.run2 .ne (.bl a) (.bl b) = some (false, .bl (a != b)) := by
  show Op.eq2 true (.bl a) (.bl b) = _
  unfold Op.eq2
  simp only [sh, Bool.and_self, if_true, eqD, bout]
  cases a <;> cases b <;> rfl
def termD (q : Bool × List Nat) : D := .tup [ordD q.2, .str [if q.1 then 45 else 43]]
def Ffound_terms (kall_orders kis_uneven : Nat) : Fn := ⟨1, 6, (.cons (.set 1 true (.lst .nil)) (.cons (.for (.one 2) (.seq (.call kall_orders (.cons (.op .len (.cons (.v 0) .nil)) .nil))) (.cons (.set 3 true (.comp [4, 5] (.many [4, 5]) (.enum (.v 2)) (.c (.bl true)) (.op .idx (.cons (.op .idx (.cons (.v 0) (.cons (.v 4) .nil))) (.cons (.v 5) .nil))))) (.cons (.ite (.op .nmem (.cons (.c (.str [48])) (.cons (.v 3) .nil))) (.cons (.ex (.app 1 (.tup (.cons (.v 2) (.cons (.ite (.op .ne (.cons (.call kis_uneven (.cons (.v 2) .nil)) (.cons (.op .eq (.cons (.op .mod (.cons (.meth .count (.v 3) (.cons (.c (.str [45])) .nil)) (.cons (.c (.int 2)) .nil))) (.cons (.c (.int 1)) .nil))) .nil))) (.c (.str [45])) (.c (.str [43]))) .nil))))) .nil) .nil) .nil))) (.cons (.ret (.v 1)) .nil)))⟩
def FtS (F : Rsl) : Prop := ∀ (l : Bool) (n : Nat) (w : Web), okW n w → n ≤ 5 → F [.val (sqD l (w.map .str))] = .ok (.fresh (.lst ((dueOf w (ordL n)).map termD)), [.val (sqD l (w.map .str))])
theorem ft_s {Φ : Fns} {fl : Nat → List Bool} {ka ku : Nat} (fa : fl ka = [false]) (fu : fl ku = [false]) (A : AllOS (Φ ka)) (U : UnevS (Φ ku)) : FtS (runFn fl Φ (Ffound_terms ka ku)) := fun l n w hw hn => by
  have hl := hw.1
  refine wp_run rfl ?_
  refine wp_new (ev_lst evVs_nil (by simp)) (by simp [start, Ffound_terms]) ?_
  have e1 : ev Φ fl (.call ka (.cons (.op .len (.cons (.v 0) .nil)) .nil)) [.val (sqD l (w.map .str)), .own none (.lst []), .none, .none, .none, .none] = .ok (.fresh (.lst ((ordL n).map fun q => ordD q.2)), [.val (sqD l (w.map .str)), .own none (.lst []), .none, .none, .none, .none]) := by
    refine ev_callv (ds := [.int n]) (evAs_cons (ev_op1v (ev_val rfl) rfl ?_) evAs_nil) rfl fa (A n hn) (by simp)
    rw [len_sqD, List.length_map, hl]
  refine wp_for (fun k s => ∃ x2 x3, s = [.val (sqD l (w.map .str)), .own none (.lst ((dueOf w ((ordL n).take k)).map termD)), x2, x3, .none, .none]) (it_seq e1 rfl rfl) ⟨.none, .none, rfl⟩ ?_ ?_
  · rintro i x s hx ⟨x2, x3, rfl⟩
    rw [List.getElem?_map] at hx
    obtain ⟨q, hq, rfl⟩ := Option.map_eq_some_iff.mp hx
    obtain ⟨ho1, ho2⟩ := ordL_ok hn q (List.mem_of_getElem? hq)
    refine ⟨[.val (sqD l (w.map .str)), .own none (.lst ((dueOf w ((ordL n).take i)).map termD)), .val (ordD q.2), x3, .none, .none], rfl, ?_⟩
    have e2 : ev Φ fl (.comp [4, 5] (.many [4, 5]) (.enum (.v 2)) (.c (.bl true)) (.op .idx (.cons (.op .idx (.cons (.v 0) (.cons (.v 4) .nil))) (.cons (.v 5) .nil)))) [.val (sqD l (w.map .str)), .own none (.lst ((dueOf w ((ordL n).take i)).map termD)), .val (ordD q.2), x3, .none, .none] = .ok (.fresh (.lst (sgs (sgO w q.2))), [.val (sqD l (w.map .str)), .own none (.lst ((dueOf w ((ordL n).take i)).map termD)), .val (ordD q.2), x3, .none, .none]) := by
      have e : sgs (sgO w q.2) = ((q.2.zipIdx 0).map fun p => D.tup [.int (p.2 : Nat), .int (p.1 : Nat)]).map fun d => match d with | .tup [.int i, .int c] => .str [(w.getD i.toNat []).getD c.toNat 48] | _ => .non := by
        have := sg_zip w q.2 0 (by omega)
        rw [List.drop_zero] at this
        rw [← this]
        unfold sgs
        rw [List.map_map, List.map_map]
        exact List.map_congr_left fun p _ => rfl
      rw [e]
      refine ev_compA _ (st0 := [.val (sqD l (w.map .str)), .own none (.lst ((dueOf w ((ordL n).take i)).map termD)), .val (ordD q.2), x3, .none, .none]) ((it_enum (ev_val rfl) rfl rfl).trans (by rw [show (0 : Int) = ((0 : Nat) : Int) from rfl, enumD_map])) rfl rfl rfl (fun x hx => ?_) (by rw [List.length_map, List.length_zipIdx]; omega)
      obtain ⟨⟨c, k⟩, hp, rfl⟩ := List.mem_map.mp hx
      obtain ⟨hk1, hk2⟩ := List.mem_zipIdx_iff_getElem?.mp hp |> fun h => List.getElem?_eq_some_iff.mp h
      dsimp only at hk1 hk2
      have hk : k < n := by omega
      have hc : c < n := ho2 c (by rw [← hk2]; exact List.getElem_mem _)
      have hr := row_len hw hk
      refine ⟨[.val (sqD l (w.map .str)), .own none (.lst ((dueOf w ((ordL n).take i)).map termD)), .val (ordD q.2), x3, .val (.int k), .val (.int c)], _, _, _, rfl, ev_op2v (ev_op2v (ev_val rfl) (ev_val rfl) rfl rfl (sqD_look l _ k (.str (w.getD k [])) ?_)) (ev_val rfl) rfl rfl (idx_str (k := c) (c := (w.getD k []).getD c 48) (by omega) ?_), rfl, rfl⟩
      · rw [List.getElem?_map, List.getElem?_eq_getElem (by omega), List.getD_eq_getElem?_getD, List.getElem?_eq_getElem (by omega)]; rfl
      · generalize w.getD k [] = r at hr ⊢
        rw [List.getD_eq_getElem?_getD, List.getElem?_eq_getElem (by omega)]; rfl
    refine wp_new e2 (by simp) ?_
    have c1 : ev Φ fl (.op .nmem (.cons (.c (.str [48])) (.cons (.v 3) .nil))) [.val (sqD l (w.map .str)), .own none (.lst ((dueOf w ((ordL n).take i)).map termD)), .val (ordD q.2), .own none (.lst (sgs (sgO w q.2))), .none, .none] = .ok (.val (.bl (!(sgO w q.2).contains 48)), [.val (sqD l (w.map .str)), .own none (.lst ((dueOf w ((ordL n).take i)).map termD)), .val (ordD q.2), .own none (.lst (sgs (sgO w q.2))), .none, .none]) := by
      refine ev_op2v ev_c (ev_own rfl) rfl rfl ?_
      show (if sh 50 (.str [48]) && shs 50 (sgs (sgO w q.2)) then bout (true != (sgs (sgO w q.2)).any fun y => eqD y (.str [48])) else none) = _
      rw [shs_sgs, any_sgs]
      simp [sh, bout]
    have ht : dueOf w ((ordL n).take (i + 1)) = dueOf w ((ordL n).take i) ++ dueOf w [q] := by
      unfold dueOf
      rw [take_snoc hq, List.filterMap_append]
    by_cases hz : (sgO w q.2).contains 48 = true
    · rw [hz] at c1
      have : dueOf w [q] = [] := by simp only [dueOf, List.filterMap_cons, hz, if_true, List.filterMap_nil]
      rw [ht, this, List.append_nil]
      exact wp_skip c1 (wp_nil ⟨rfl, _, _, rfl⟩)
    · have hz' : (sgO w q.2).contains 48 = false := by simpa using hz
      rw [hz'] at c1
      have e3 : ev Φ fl (.op .ne (.cons (.call ku (.cons (.v 2) .nil)) (.cons (.op .eq (.cons (.op .mod (.cons (.meth .count (.v 3) (.cons (.c (.str [45])) .nil)) (.cons (.c (.int 2)) .nil))) (.cons (.c (.int 1)) .nil))) .nil))) [.val (sqD l (w.map .str)), .own none (.lst ((dueOf w ((ordL n).take i)).map termD)), .val (ordD q.2), .own none (.lst (sgs (sgO w q.2))), .none, .none] = .ok (.val (.bl (q.1 != oddB ((sgO w q.2).count 45))), [.val (sqD l (w.map .str)), .own none (.lst ((dueOf w ((ordL n).take i)).map termD)), .val (ordD q.2), .own none (.lst (sgs (sgO w q.2))), .none, .none]) := by
        refine ev_op2v (ev_callv (ds := [ordD q.2]) (evAs_cons (ev_val rfl) evAs_nil) rfl fu (U n hn q (List.mem_of_getElem? hq)) (by simp)) (ev_op2v (ev_op2v (ev_methv (x := .lst (sgs (sgO w q.2))) (d := .int ((sgO w q.2).count 45 : Nat)) (ev_own rfl) rfl rfl ev_c rfl rfl ?_) ev_c rfl rfl rfl) ev_c rfl rfl (eq_int _ _)) rfl rfl ?_
        · show (if sh 50 (.str [45]) && shs 50 (sgs (sgO w q.2)) then some (false, D.int ((sgs (sgO w q.2)).countP fun y => eqD y (.str [45]) : Nat)) else none) = _
          rw [shs_sgs, count_sgs]
          simp [sh]
        · rw [ne_bl]
          have : ((((sgO w q.2).count 45 : Nat) : Int).fmod 2 == 1) = oddB ((sgO w q.2).count 45) := by
            unfold oddB
            rw [Int.fmod_eq_emod_of_nonneg _ (by omega), Bool.eq_iff_iff]
            simp only [beq_iff_eq]
            omega
          rw [this]
      have hd : dueOf w [q] = [(q.1 != oddB ((sgO w q.2).count 45), q.2)] := by simp only [dueOf, List.filterMap_cons, hz', if_false, List.filterMap_nil, Bool.false_eq_true]
      have hlen : (dueOf w ((ordL n).take i)).length ≤ 200 := by
        refine Nat.le_trans (List.length_filterMap_le _ _) ?_
        rw [List.length_take]
        have : (ordL n).length ≤ 200 := by
          have : ∀ n : Nat, n ≤ 5 → (ordL n).length ≤ 200 := by
            intro n h
            match n, h with
            | 0, _ => decide +kernel
            | 1, _ => decide +kernel
            | 2, _ => decide +kernel
            | 3, _ => decide +kernel
            | 4, _ => decide +kernel
            | 5, _ => decide +kernel
            | n + 6, h => omega
          exact this n hn
        omega
      rw [ht, List.map_append, hd]
      refine wp_if c1 (wp_ex (ev_app (t' := none) (st1 := [.val (sqD l (w.map .str)), .own none (.lst ((dueOf w ((ordL n).take i)).map termD)), .val (ordD q.2), .own none (.lst (sgs (sgO w q.2))), .none, .none]) (st2 := [.val (sqD l (w.map .str)), .own none (.lst ((dueOf w ((ordL n).take i)).map termD)), .val (ordD q.2), .own none (.lst (sgs (sgO w q.2))), .none, .none]) (ys := (dueOf w ((ordL n).take i)).map termD) rfl (ev_tup (ds := [ordD q.2, .str [if (q.1 != oddB ((sgO w q.2).count 45)) then 45 else 43]]) ?_ (by simp)) rfl rfl (by rw [List.length_map]; unfold sizeL; omega)) (wp_nil ⟨rfl, wp_nil ⟨rfl, _, _, rfl⟩⟩))
      · refine evVs_cons (ev_val rfl) rfl (evVs_cons (r := .val (.str [if (q.1 != oddB ((sgO w q.2).count 45)) then 45 else 43])) (st1 := [.val (sqD l (w.map .str)), .own none (.lst ((dueOf w ((ordL n).take i)).map termD)), .val (ordD q.2), .own none (.lst (sgs (sgO w q.2))), .none, .none]) ?_ rfl evVs_nil)
        cases hb : (q.1 != oddB ((sgO w q.2).count 45))
        · rw [hb] at e3; exact (ev_ite_f e3).trans ev_c
        · rw [hb] at e3; exact (ev_ite_t e3).trans ev_c
  · rintro s ⟨x2, x3, rfl⟩
    rw [List.length_map, List.take_length]
    exact wp_stop (ex_ret (ev_own rfl) rfl) rfl
end PV
set_option Elab.async false
set_option linter.all false
set_option maxRecDepth 100000
set_option maxHeartbeats 4000000
namespace PV
end PV
set_option Elab.async false
set_option linter.all false
set_option maxRecDepth 100000
set_option maxHeartbeats 4000000
namespace PV
end PV
set_option Elab.async false
set_option linter.all false
set_option maxRecDepth 100000
set_option maxHeartbeats 4000000
namespace PV
end PV
set_option Elab.async false
set_option linter.all false
set_option maxRecDepth 100000
set_option maxHeartbeats 4000000
namespace PV
theorem shs_map {α : Type} {n : Nat} {f : α → D} : ∀ {xs : List α}, (∀ x ∈ xs, sh n (f x) = true) → shs n (xs.map f) = true
  | [], _ => by rw [List.map_nil, shs]
  | x :: xs, h => by
    rw [List.map_cons, shs, h x (by simp), shs_map fun y hy => h y (by simp [hy])]; rfl
theorem sh_int (n : Nat) (i : Int) : sh n (.int i) = true := by cases n <;> simp [sh]
theorem sh_str (n : Nat) (i : List Nat) : sh n (.str i) = true := by cases n <;> simp [sh]
theorem sh_ord (n : Nat) (r : List Nat) : sh (n + 1) (ordD r) = true := by unfold ordD; rw [sh]; exact shs_map fun _ _ => sh_int _ _
theorem sh_term (n : Nat) (q : Bool × List Nat) : sh (n + 2) (termD q) = true := by
  unfold termD
  rw [sh, shs, shs, shs, sh_ord, sh_str]; rfl
end PV
set_option Elab.async false
set_option linter.all false
set_option maxRecDepth 100000
set_option maxHeartbeats 4000000
namespace PV
end PV
set_option Elab.async false
set_option linter.all false
set_option maxRecDepth 100000
set_option maxHeartbeats 4000000
namespace PV
def Fwithout : Fn := ⟨3, 5, (.cons (.ret (.comp [3, 4] (.many [3, 4]) (.enum (.v 0)) (.op .ne (.cons (.v 3) (.cons (.v 1) .nil))) (.op .add (.cons (.slc (.v 4) false (.c .non) true (.v 2)) (.cons (.slc (.v 4) true (.op .add (.cons (.v 2) (.cons (.c (.int 1)) .nil))) false (.c .non)) .nil)))))
  .nil)⟩
end PV
set_option Elab.async false
set_option linter.all false
set_option maxRecDepth 100000
set_option maxHeartbeats 4000000
namespace PV
end PV
set_option Elab.async false
set_option linter.all false
set_option maxRecDepth 100000
set_option maxHeartbeats 4000000
namespace PV
def TownS (F : Rsl) : Prop := ∀ ns : List Int, ns.length ≤ 63 → F [.val (.scr ns)] = .ok (.fresh (twn 0 ns), [.val (.scr ns)])
theorem town_tw (ns : List Int) : Tw ns 0 (twn 0 ns) := ⟨0, ns, rfl, rfl, by omega, by omega⟩
end PV
set_option Elab.async false
set_option linter.all false
set_option maxRecDepth 100000
set_option maxHeartbeats 4000000
namespace PV
/-- a loop that may return: p tells which turns go on -/
theorem loop_all {t : Tg} {body : St → Res (Fl × St)} {v : Ret} (p : Nat → Bool) (I : Nat → St → Prop) (J : St → Prop) : ∀ (xs : List D) (k : Nat) (st : St), I k st →
    (∀ i x st, xs[i]? = some x → I (k + i) st → ∃ st1 st2, t.set x st = some st1 ∧ (p (k + i) = true → body st1 = .ok (.next, st2) ∧ I (k + i + 1) st2) ∧ (p (k + i) = false → body st1 = .ok (.ret v, st2) ∧ J st2)) →
    ((∀ i, i < xs.length → p (k + i) = true) ∧ ∃ st', loop t body xs st = .ok (.next, st') ∧ I (k + xs.length) st') ∨ ((∃ i, i < xs.length ∧ p (k + i) = false) ∧ ∃ st', loop t body xs st = .ok (.ret v, st') ∧ J st')
  | [], k, st, h0, _ => .inl ⟨fun i h => by simp at h, st, rfl, h0⟩
  | x :: xs, k, st, h0, hs => by
    obtain ⟨st1, st2, e1, e2, e3⟩ := hs 0 x st rfl h0
    rw [Nat.add_zero] at e2 e3
    cases hp : p k with
    | false => exact .inr ⟨⟨0, by simp, hp⟩, st2, by simp only [loop, e1, (e3 hp).1, Res.bind], (e3 hp).2⟩
    | true =>
      obtain ⟨b1, h1⟩ := e2 hp
      rcases loop_all p I J xs (k + 1) st2 h1 fun i y s hy hi => by
        have e : k + 1 + i = k + (i + 1) := by omega
        rw [e] at hi ⊢
        exact hs (i + 1) y s (by simpa using hy) hi with ⟨a1, st', a2, a3⟩ | ⟨⟨i, a1, a2⟩, st', a3, a4⟩
      · refine .inl ⟨fun i hi => ?_, st', by simp only [loop, e1, b1, Res.bind]; exact a2, by rw [List.length_cons, show k + (xs.length + 1) = k + 1 + xs.length by omega]; exact a3⟩
        cases i with
        | zero => exact hp
        | succ i => rw [show k + (i + 1) = k + 1 + i by omega]; exact a1 i (by simpa using hi)
      · exact .inr ⟨⟨i + 1, by simpa using a1, by rw [show k + (i + 1) = k + 1 + i by omega]; exact a2⟩, st', by simp only [loop, e1, b1, Res.bind]; exact a3, a4⟩
theorem wp_forR {Φ : Fns} {fl : Nat → List Bool} {st : St} {r body : Ss} {t : Tg} {it : It} {xs : List D} {v : Ret} {Q : Fl × St → Prop} (p : Nat → Bool) (I : Nat → St → Prop) (J : St → Prop) (hit : evIt Φ fl it st = .ok (xs, st)) (h0 : I 0 st)
    (hs : ∀ i x s, xs[i]? = some x → I i s → ∃ s1 s2, t.set x s = some s1 ∧ (p i = true → exs Φ fl body s1 = .ok (.next, s2) ∧ I (i + 1) s2) ∧ (p i = false → exs Φ fl body s1 = .ok (.ret v, s2) ∧ J s2))
    (hk : (∀ i, i < xs.length → p i = true) → ∀ s, I xs.length s → WOk (exs Φ fl r s) Q) (hr : (∃ i, i < xs.length ∧ p i = false) → ∀ s, J s → Q (.ret v, s)) : WOk (exs Φ fl (.cons (.for t it body) r) st) Q := by
  rcases loop_all (t := t) (body := exs Φ fl body) (v := v) p I J xs 0 st h0 fun i x s hx hI => by rw [Nat.zero_add] at hI ⊢; exact hs i x s hx hI with ⟨a1, st', a2, a3⟩ | ⟨⟨i, a1, a2⟩, st', a3, a4⟩
  · simp only [Nat.zero_add] at a1 a3
    exact wp_next (ex_for hit a2) (hk a1 st' a3)
  · rw [Nat.zero_add] at a2
    exact wp_stop (ex_for hit a3) (hr ⟨i, a1, a2⟩ st' a4)
theorem all_map {α : Type} {f : α → D} {xs : List α} (h : ∀ x ∈ xs, f x = .bl true) : Op.run1 .all (.lst (xs.map f)) = some (false, .bl true) := by
  have : xs.map f = xs.map fun _ => D.bl true := List.map_congr_left h
  rw [this]; exact all_true xs
end PV
set_option Elab.async false
set_option linter.all false
set_option maxRecDepth 100000
set_option maxHeartbeats 4000000
namespace PV
section
variable {Φ : Fns} {fl : Nat → List Bool} {st st0 st1 : St} {vs : List Nat} {t : Tg} {it : It} {cond elt : E} {α : Type} {ys : List α}
theorem turns_G {body : St → Res (Option D × St)} (f : α → D) (p : α → Bool) (g : α → D) : ∀ zs : List α, (∀ y ∈ zs, ∃ s1, t.set (f y) st0 = some s1 ∧ body s1 = .ok (if p y then some (g y) else none, st0)) → turns t body (zs.map f) st0 = .ok ((zs.filter p).map g, st0)
  | [], _ => rfl
  | z :: zs, h => by
    have i1 := turns_G f p g zs fun y hy => h y (List.mem_cons_of_mem _ hy)
    obtain ⟨s1, k1, k2⟩ := h z List.mem_cons_self
    rw [List.map_cons, turns, k1]
    show (body s1).bind _ = _
    rw [k2]
    show (turns t body (zs.map f) st0).bind _ = _
    rw [i1]
    cases q : p z with
    | true => simp only [Res.bind, if_true, List.filter_cons, q, List.map_cons]
    | false => simp only [Res.bind, Bool.false_eq_true, if_false, List.filter_cons, q]
/-- a comprehension over some items -/
theorem ev_compG (f : α → D) (p : α → Bool) (g : α → D) (hi : evIt Φ fl it st = .ok (ys.map f, st1)) (hno : noOwn st1 vs = true) (hw : wipe st1 vs = st0) (hb : back st1 st0 vs = st1)
    (h : ∀ y ∈ ys, ∃ s1 s2, t.set (f y) st0 = some s1 ∧ ev Φ fl cond s1 = .ok (.val (.bl (p y)), s2) ∧ (p y = false → wipe s2 vs = st0) ∧ (p y = true → ∃ r s3 s4, ev Φ fl elt s2 = .ok (r, s3) ∧ r.keep s3 = some (g y, s4) ∧ wipe s4 vs = st0)) (hz : ys.length ≤ 16777216) :
    ev Φ fl (.comp vs t it cond elt) st = .ok (.fresh (.lst ((ys.filter p).map g)), st1) := by
  have e := turns_G (t := t) (st0 := st0) (body := fun s => (ev Φ fl cond s).bind fun (r, s1) => match r with
        | .val (.bl true) => (ev Φ fl elt s1).bind fun (r, s2) => (match r.keep s2 with
          | some (d, s3) => .ok (some d, wipe s3 vs)
          | none => .no)
        | .val (.bl false) => .ok (none, wipe s1 vs)
        | _ => .no) f p g ys fun y hy => by
    obtain ⟨s1, s2, k1, k2, k3, k4⟩ := h y hy
    refine ⟨s1, k1, ?_⟩
    cases q : p y with
    | true =>
      obtain ⟨r, s3, s4, j1, j2, j3⟩ := k4 q
      rw [q] at k2
      simp only [k2, Res.bind, j1, j2, j3, if_true]
    | false =>
      rw [q] at k2
      simp only [k2, Res.bind, k3 q, Bool.false_eq_true, if_false]
  rw [ev, hi]
  simp only [Res.bind]
  rw [if_pos hno, hw]
  refine (congrArg (fun z => (Res.calm z).bind _) e).trans ?_
  have hl : ((ys.filter p).map g).length ≤ 16777216 := by
    rw [List.length_map]; exact Nat.le_trans (List.length_filter_le _ _) hz
  simp only [Res.calm, Res.bind, ble_sz hl, if_true, hb]
theorem ev_compU (f : α → D) (g : α → D) (hi : evIt Φ fl it st = .ok (ys.map f, st1)) (hno : noOwn st1 vs = true) (hw : wipe st1 vs = st0) (hb : back st1 st0 vs = st1)
    (h : ∀ y ∈ ys, ∃ s1 r s3 s4, t.set (f y) st0 = some s1 ∧ ev Φ fl elt s1 = .ok (r, s3) ∧ r.keep s3 = some (g y, s4) ∧ wipe s4 vs = st0) (hz : ys.length ≤ 16777216) :
    ev Φ fl (.comp vs t it (.c (.bl true)) elt) st = .ok (.fresh (.lst (ys.map g)), st1) := by
  have e := ev_compG (cond := .c (.bl true)) f (fun _ => true) g hi hno hw hb (fun y hy => by
    obtain ⟨s1, r, s3, s4, k1, k2, k3, k4⟩ := h y hy
    exact ⟨s1, s1, k1, ev_c, (fun z => absurd z (by decide)), fun _ => ⟨r, s3, s4, k2, k3, k4⟩⟩) hz
  rw [List.filter_eq_self.mpr (fun _ _ => rfl)] at e
  exact e
end
def cell (w : Web) (i j : Nat) : Nat := (w.getD i []).getD j 48
def tabW (n : Nat) (f : Nat → Nat → Nat) : Web := (List.range n).map fun i => (List.range n).map fun j => f i j
theorem getD_range {α : Type} {n i : Nat} {f : Nat → α} {d : α} (h : i < n) : ((List.range n).map f).getD i d = f i := by
  rw [List.getD_eq_getElem?_getD, List.getElem?_map, List.getElem?_range h]; rfl
theorem map_getD {α : Type} {d : α} : ∀ (l : List α), l = (List.range l.length).map fun i => l.getD i d
  | [] => rfl
  | x :: r => by
    rw [List.length_cons, List.range_succ_eq_map, List.map_cons, List.map_map]
    congr 1
    exact map_getD r
theorem cell_tab {n i j : Nat} {f : Nat → Nat → Nat} (hi : i < n) (hj : j < n) : cell (tabW n f) i j = f i j := by
  unfold cell tabW
  rw [getD_range hi, getD_range hj]
theorem tab_congr {n : Nat} {f g : Nat → Nat → Nat} (h : ∀ i j, i < n → j < n → f i j = g i j) : tabW n f = tabW n g :=
  List.map_congr_left fun i hi => List.map_congr_left fun j hj => h i j (by simpa using hi) (by simpa using hj)
theorem web_tab {n : Nat} {w : Web} (h : okW n w) : w = tabW n (cell w) := by
  have e := map_getD (d := []) w
  rw [h.1] at e
  refine e.trans (List.map_congr_left fun i hi => ?_)
  have hi : i < n := by simpa using hi
  have e2 := map_getD (d := 48) (w.getD i [])
  rw [(row_len h hi).1] at e2
  exact e2
theorem cell_sg {n : Nat} {w : Web} (h : okW n w) {i j : Nat} (hi : i < n) (hj : j < n) : isSg (cell w i j) := by
  have h1 := row_len h hi
  refine h1.2 _ ?_
  have hj' : j < (w.getD i []).length := by omega
  have e : cell w i j = (w.getD i [])[j] := by
    show (w.getD i []).getD j 48 = _
    rw [List.getD_eq_getElem?_getD (l := w.getD i []), List.getElem?_eq_getElem hj']; rfl
  rw [e]
  exact List.getElem_mem _
theorem tab_ok {n : Nat} {f : Nat → Nat → Nat} (h : ∀ i j, i < n → j < n → isSg (f i j)) : okW n (tabW n f) := by
  refine ⟨by simp [tabW], fun r hr => ?_⟩
  obtain ⟨i, hi, rfl⟩ := List.mem_map.mp hr
  refine ⟨by simp, fun c hc => ?_⟩
  obtain ⟨j, hj, rfl⟩ := List.mem_map.mp hc
  exact h i j (by simpa using hi) (by simpa using hj)
/-- w[i][j] -/
theorem ev_cell {Φ : Fns} {fl : Nat → List Bool} {st : St} {n i j : Nat} {w : Web} {a b c : E} (hw : okW n w) (hi : i < n) (hj : j < n) (h5 : n ≤ 1000) (ha : ev Φ fl a st = .ok (.val (webD w), st)) (hb : ev Φ fl b st = .ok (.val (.int (i : Nat)), st)) (hc : ev Φ fl c st = .ok (.val (.int (j : Nat)), st)) :
    ev Φ fl (.op .idx (.cons (.op .idx (.cons a (.cons b .nil))) (.cons c .nil))) st = .ok (.val (.str [cell w i j]), st) := by
  have hl := row_len hw hi
  have hwl := hw.1
  refine ev_op2v (ev_op2v ha hb rfl rfl (idx_web (by omega))) hc rfl rfl ?_
  refine idx_str (by omega) ?_
  show (w.getD i [])[j]? = some ((w.getD i []).getD j 48)
  rw [List.getD_eq_getElem?_getD (l := w.getD i []), List.getElem?_eq_getElem (by omega : j < (w.getD i []).length)]; rfl
def okP (n : Nat) (o : List Nat) : Prop := o.Perm (List.range n)
theorem okP.len {n : Nat} {o : List Nat} (h : okP n o) : o.length = n := by rw [List.Perm.length_eq h, List.length_range]
theorem okP.mem {n : Nat} {o : List Nat} (h : okP n o) (i : Nat) : i ∈ o ↔ i < n := by rw [List.Perm.mem_iff h, List.mem_range]
theorem okP.nodup {n : Nat} {o : List Nat} (h : okP n o) : o.Nodup := (List.Perm.nodup_iff h).mpr List.nodup_range
theorem okP.idx {n : Nat} {o : List Nat} (h : okP n o) {i : Nat} (hi : i < n) : o.idxOf i < n := by
  have := List.idxOf_lt_length_of_mem ((h.mem i).mpr hi)
  rw [h.len] at this; exact this
theorem shs_nats (k : Nat) : ∀ o : List Nat, shs k (o.map fun (c : Nat) => D.int c) = true
  | [] => by cases k <;> rfl
  | x :: r => by
    rw [List.map_cons, shs, shs_nats k r]
    cases k <;> rfl
theorem mem_ord (neg : Bool) (o : List Nat) (i : Nat) : Op.mem2 neg (.int (i : Nat)) (ordD o) = some (false, .bl (neg != o.contains i)) := by
  show (if sh 50 (.int (i : Nat)) && shs 50 (o.map fun (c : Nat) => D.int c) then bout (neg != (o.map fun (c : Nat) => D.int c).any fun y => eqD y (.int (i : Nat))) else none) = _
  rw [shs_nats]
  have e : (o.map fun (c : Nat) => D.int c).any (fun y => eqD y (.int (i : Nat))) = o.contains i := by
    rw [List.any_map, List.contains_eq_any_beq]
    congr 1
    funext x
    show ((x : Int) == (i : Int)) = (i == x)
    by_cases h : x = i
    · subst h; simp
    · rw [beq_false_of_ne (fun z => h z.symm), beq_false_of_ne]; omega
  rw [e]; rfl
def renW (n : Nat) (o : List Nat) (w : Web) : Web := tabW n fun i j => cell w (o.idxOf i) (o.idxOf j)
end PV
set_option Elab.async false
set_option linter.all false
set_option maxRecDepth 100000
set_option maxHeartbeats 4000000
namespace PV
theorem len_ord (o : List Nat) : Op.run1 .len (ordD o) = some (false, .int (o.length : Nat)) := by
  show some (false, D.int ((o.map fun (c : Nat) => D.int c).length : Nat)) = _
  rw [List.length_map]
def flipC (p : List Nat) (w : Web) (i j : Nat) : Nat := if (p.contains i != p.contains j) = true then opp (cell w i j) else cell w i j
def flpW (n : Nat) (p : List Nat) (w : Web) : Web := tabW n (flipC p w)
end PV
set_option Elab.async false
set_option linter.all false
set_option maxRecDepth 100000
set_option maxHeartbeats 4000000
namespace PV
/-- some parts of n, ascending -/
def okQ (n : Nat) (p : List Nat) : Prop := p.Pairwise (· < ·) ∧ ∀ x ∈ p, x < n
theorem okQ.len : ∀ {p : List Nat} {lo n : Nat}, p.Pairwise (· < ·) → (∀ x ∈ p, lo ≤ x ∧ x < n) → lo ≤ n → p.length ≤ n - lo
  | [], _, _, _, _, _ => by simp
  | x :: r, lo, n, h, hx, hl => by
    have h := List.pairwise_cons.mp h
    have h1 := hx x (by simp)
    have := okQ.len (lo := x + 1) (n := n) h.2 (fun y hy => ⟨h.1 y hy, (hx y (by simp [hy])).2⟩) (by omega)
    rw [List.length_cons]; omega
theorem idxo {o : List Nat} {k : Nat} (h : k < o.length) : Op.run2 .idx (ordD o) (.int (k : Nat)) = some (false, .int ((o.getD k 0 : Nat) : Int)) := by
  refine idx_tup ?_
  rw [List.getElem?_map, List.getD_eq_getElem?_getD, List.getElem?_eq_getElem h]; rfl
/-- the ascending rows of k numbers from lo on, ascending -/
def subs : Nat → Nat → List (List Nat)
  | 0, _ => [[]]
  | k + 1, lo => [] :: ((subs k (lo + 1)).map (lo :: ·) ++ (subs k (lo + 1)).tail)
theorem nesg (a b : Nat) : Op.run2 .ne (.str [a]) (.str [b]) = some (false, .bl (decide (a ≠ b))) := by
  show Op.eq2 true (.str [a]) (.str [b]) = _
  unfold Op.eq2
  simp only [sh, Bool.and_self, if_true, eqD, bout]
  by_cases h : a = b
  · subst h; simp
  · simp [h]
end PV
set_option Elab.async false
set_option linter.all false
set_option maxRecDepth 100000
set_option maxHeartbeats 4000000
namespace PV
structure STO {α : Type} (lt : α → α → Bool) : Prop where
  irr : ∀ x, lt x x = false
  tr : ∀ x y z, lt x y = true → lt y z = true → lt x z = true
  tot : ∀ x y, x ≠ y → lt x y = true ∨ lt y x = true
theorem STO.asym {α : Type} {lt : α → α → Bool} (h : STO lt) {x y : α} (a : lt x y = true) : lt y x = false := by
  cases q : lt y x with
  | false => rfl
  | true => have := h.tr x y x a q; rw [h.irr] at this; cases this
theorem STO.anti {α : Type} {lt : α → α → Bool} (h : STO lt) {x y : α} (a : lt x y = false) (b : lt y x = false) : x = y := by
  refine Classical.byContradiction fun z => ?_
  rcases h.tot x y z with q | q
  · rw [q] at a; cases a
  · rw [q] at b; cases b
theorem STO.lt_le {α : Type} {lt : α → α → Bool} (h : STO lt) {x y z : α} (a : lt x y = true) (b : lt z y = false) : lt x z = true := by
  by_cases e : y = z
  · subst e; exact a
  · rcases h.tot y z e with q | q
    · exact h.tr _ _ _ a q
    · rw [q] at b; cases b
theorem STO.le_le {α : Type} {lt : α → α → Bool} (h : STO lt) {x y z : α} (a : lt y x = false) (b : lt z y = false) : lt z x = false := by
  cases q : lt z x with
  | false => rfl
  | true => have := h.lt_le q a; rw [this] at b; cases b
def lexB {α : Type} [DecidableEq α] (lt : α → α → Bool) : List α → List α → Bool
  | [], [] => false
  | [], _ :: _ => true
  | _ :: _, [] => false
  | x :: xs, y :: ys => if x = y then lexB lt xs ys else lt x y
theorem STO.lex {α : Type} [DecidableEq α] {lt : α → α → Bool} (h : STO lt) : STO (lexB lt) where
  irr := fun x => by
    induction x with
    | nil => rfl
    | cons x xs ih => rw [lexB, if_pos rfl]; exact ih
  tr := fun x => by
    induction x with
    | nil =>
      intro y z a b
      cases y with
      | nil => cases a
      | cons y ys => cases z with
        | nil => cases b
        | cons z zs => rfl
    | cons x xs ih =>
      intro y z a b
      cases y with
      | nil => cases a
      | cons y ys =>
        cases z with
        | nil => cases b
        | cons z zs =>
          rw [lexB] at a b ⊢
          by_cases e1 : x = y
          · subst e1
            rw [if_pos rfl] at a
            by_cases e2 : x = z
            · subst e2
              rw [if_pos rfl] at b ⊢
              exact ih ys zs a b
            · rw [if_neg e2] at b ⊢; exact b
          · rw [if_neg e1] at a
            by_cases e2 : y = z
            · subst e2
              rw [if_neg e1]; exact a
            · rw [if_neg e2] at b
              have c := h.tr x y z a b
              by_cases e3 : x = z
              · subst e3; rw [h.irr] at c; cases c
              · rw [if_neg e3]; exact c
  tot := fun x => by
    induction x with
    | nil =>
      intro y n
      cases y with
      | nil => exact absurd rfl n
      | cons y ys => exact .inl rfl
    | cons x xs ih =>
      intro y n
      cases y with
      | nil => exact .inr rfl
      | cons y ys =>
        rw [lexB, lexB]
        by_cases e : x = y
        · subst e
          rw [if_pos rfl, if_pos rfl]
          exact ih ys fun z => n (by rw [z])
        · rw [if_neg e, if_neg (fun z => e z.symm)]
          exact h.tot x y e
theorem sto_nat : STO Nat.blt where
  irr := fun x => by
    cases q : Nat.blt x x with
    | false => rfl
    | true => have := Nat.le_of_ble_eq_true q; omega
  tr := fun x y z a b => by
    have a := Nat.le_of_ble_eq_true a
    have b := Nat.le_of_ble_eq_true b
    exact Nat.ble_eq_true_of_le (by omega)
  tot := fun x y n => by
    rcases Nat.lt_or_gt_of_ne n with q | q
    · exact .inl (Nat.ble_eq_true_of_le q)
    · exact .inr (Nat.ble_eq_true_of_le q)
theorem eqD_str (x y : List Nat) : eqD (.str x) (.str y) = decide (x = y) := by
  rw [eqD]
  by_cases e : x = y
  · subst e; simp
  · rw [beq_false_of_ne e, decide_eq_false e]
def insL {α : Type} (lt : α → α → Bool) (x : α) : List α → List α
  | [] => [x]
  | y :: r => if lt y x then y :: insL lt x r else x :: y :: r
def isort {α : Type} (lt : α → α → Bool) : List α → List α
  | [] => []
  | x :: r => insL lt x (isort lt r)
theorem insB_map {α : Type} {lt : α → α → Bool} {f : α → D} (h : ∀ a b, ltB (f a) (f b) = lt a b) (x : α) : ∀ l : List α, insB (f x) (l.map f) = (insL lt x l).map f
  | [] => rfl
  | y :: r => by
    rw [List.map_cons, insB, insL, h]
    cases lt y x with
    | true => rw [if_pos rfl, if_pos rfl, List.map_cons, insB_map h x r]
    | false => rfl
theorem sortB_map {α : Type} {lt : α → α → Bool} {f : α → D} (h : ∀ a b, ltB (f a) (f b) = lt a b) : ∀ l : List α, sortB (l.map f) = (isort lt l).map f
  | [] => rfl
  | x :: r => by rw [List.map_cons, sortB, sortB_map h r, insB_map h, isort]
theorem insL_perm {α : Type} (lt : α → α → Bool) (x : α) : ∀ l : List α, (insL lt x l).Perm (x :: l)
  | [] => .refl _
  | y :: r => by
    rw [insL]
    split
    · exact ((insL_perm lt x r).cons y).trans (.swap x y r)
    · exact .refl _
theorem isort_perm {α : Type} (lt : α → α → Bool) : ∀ l : List α, (isort lt l).Perm l
  | [] => .refl _
  | x :: r => (insL_perm lt x _).trans ((isort_perm lt r).cons x)
theorem insL_le {α : Type} {lt : α → α → Bool} (h : STO lt) (x : α) : ∀ l : List α, l.Pairwise (fun a b => lt b a = false) → (insL lt x l).Pairwise (fun a b => lt b a = false)
  | [], _ => by simp [insL]
  | y :: r, hp => by
    rw [insL]
    have hp' := List.pairwise_cons.mp hp
    split
    · rename_i hl
      refine List.pairwise_cons.mpr ⟨fun z hz => ?_, insL_le h x r hp'.2⟩
      rcases List.mem_cons.mp ((insL_perm lt x r).mem_iff.mp hz) with rfl | hz
      · exact h.asym hl
      · exact hp'.1 z hz
    · rename_i hl
      have hl : lt y x = false := by simpa using hl
      refine List.pairwise_cons.mpr ⟨fun z hz => ?_, hp⟩
      rcases List.mem_cons.mp hz with rfl | hz
      · exact hl
      · exact h.le_le hl (hp'.1 z hz)
theorem isort_le {α : Type} {lt : α → α → Bool} (h : STO lt) : ∀ l : List α, (isort lt l).Pairwise (fun a b => lt b a = false)
  | [] => .nil
  | x :: r => insL_le h x _ (isort_le h r)
theorem isort_congr {α : Type} {lt : α → α → Bool} (h : STO lt) {l m : List α} (p : l.Perm m) : isort lt l = isort lt m :=
  List.Perm.eq_of_pairwise (fun a b _ _ h1 h2 => h.anti h2 h1) (isort_le h l) (isort_le h m) (((isort_perm lt l).trans p).trans (isort_perm lt m).symm)
theorem sort_map {α : Type} {lt : α → α → Bool} {f : α → D} {l : List α} (h : ∀ a b, ltB (f a) (f b) = lt a b) (hs : sortable (l.map f) = true) : Op.run1 .sortedOf (.lst (l.map f)) = some (true, .lst ((isort lt l).map f)) := by
  show (if sortable (l.map f) then some (true, D.lst (sortB (l.map f))) else none) = _
  rw [hs, sortB_map h]; rfl
end PV
set_option Elab.async false
set_option linter.all false
set_option maxRecDepth 100000
set_option maxHeartbeats 4000000
namespace PV
theorem opp_opp {c : Nat} (h : isSg c) : opp (opp c) = c := by rcases h with rfl | rfl | rfl <;> rfl
theorem idx_get {o : List Nat} (h : o.Nodup) {k : Nat} (hk : k < o.length) : o.idxOf (o.getD k 0) = k := by
  have e : o.getD k 0 = o[k] := by rw [List.getD_eq_getElem?_getD, List.getElem?_eq_getElem hk]; rfl
  rw [e]
  exact h.idxOf_getElem k hk
theorem get_idx {o : List Nat} {i : Nat} (h : i ∈ o) : o.getD (o.idxOf i) 0 = i := by
  have hl := List.idxOf_lt_length_of_mem h
  rw [List.getD_eq_getElem?_getD, List.getElem?_eq_getElem hl]
  exact List.getElem_idxOf hl
theorem okP.get {n : Nat} {o : List Nat} (h : okP n o) {k : Nat} (hk : k < n) : o.getD k 0 < n := by
  refine (h.mem _).mp ?_
  have hl : k < o.length := by rw [h.len]; exact hk
  rw [List.getD_eq_getElem?_getD, List.getElem?_eq_getElem hl]
  exact List.getElem_mem _
theorem nodup_le : ∀ {l m : List Nat}, l.Nodup → (∀ x ∈ l, x ∈ m) → l.length ≤ m.length
  | [], _, _, _ => by simp
  | x :: r, m, h, hs => by
    have h' := List.nodup_cons.mp h
    have hx := hs x (by simp)
    have := nodup_le (l := r) (m := m.erase x) h'.2 fun y hy => (List.mem_erase_of_ne (fun (z : y = x) => h'.1 (z ▸ hy))).mpr (hs y (by simp [hy]))
    rw [List.length_erase_of_mem hx] at this
    have := List.length_pos_of_mem hx
    rw [List.length_cons]; omega
theorem nodup_perm {l : List Nat} {n : Nat} (h : l.Nodup) (hs : l ⊆ List.range n) (hl : n ≤ l.length) : l.Perm (List.range n) := by
  refine (List.perm_ext_iff_of_nodup h List.nodup_range).mpr fun i => ⟨fun z => hs z, fun hi => ?_⟩
  refine Classical.byContradiction fun z => ?_
  have := nodup_le (l := i :: l) (m := List.range n) (List.nodup_cons.mpr ⟨z, h⟩) fun y hy => by
    rcases List.mem_cons.mp hy with e | e
    · rw [e]; exact hi
    · exact hs e
  rw [List.length_cons, List.length_range] at this
  omega
/-- a row of n different numbers below n -/
theorem perm_of {n : Nat} {f : Nat → Nat} (hf : ∀ i, i < n → f i < n) (hi : ∀ i j, i < n → j < n → f i = f j → i = j) : okP n ((List.range n).map f) := by
  have nd : ((List.range n).map f).Nodup := by
    rw [List.nodup_iff_pairwise_ne, List.pairwise_map]
    refine List.Pairwise.imp_of_mem ?_ (List.nodup_iff_pairwise_ne.mp List.nodup_range)
    intro a b ha hb hab z
    exact hab (hi a b (by simpa using ha) (by simpa using hb) z)
  have sub : ((List.range n).map f) ⊆ List.range n := fun x hx => by
    obtain ⟨i, h1, rfl⟩ := List.mem_map.mp hx
    simpa using hf i (by simpa using h1)
  exact nodup_perm nd sub (by simp)
/-- first one, then two -/
def compO (n : Nat) (one two : List Nat) : List Nat := (List.range n).map fun k => two.getD (one.getD k 0) 0
theorem comp_ok {n : Nat} {one two : List Nat} (h1 : okP n one) (h2 : okP n two) : okP n (compO n one two) :=
  perm_of (fun i hi => h2.get (h1.get hi)) fun i j hi hj e => by
    have a := congrArg two.idxOf e
    rw [idx_get h2.nodup (by rw [h2.len]; exact h1.get hi), idx_get h2.nodup (by rw [h2.len]; exact h1.get hj)] at a
    have b := congrArg one.idxOf a
    rw [idx_get h1.nodup (by rw [h1.len]; exact hi), idx_get h1.nodup (by rw [h1.len]; exact hj)] at b
    exact b
theorem comp_idx {n : Nat} {one two : List Nat} (h1 : okP n one) (h2 : okP n two) {i : Nat} (hi : i < n) : (compO n one two).idxOf i = one.idxOf (two.idxOf i) := by
  have hk : one.idxOf (two.idxOf i) < n := h1.idx (h2.idx hi)
  have e : (compO n one two).getD (one.idxOf (two.idxOf i)) 0 = i := by
    unfold compO
    rw [getD_range hk, get_idx ((h1.mem _).mpr (h2.idx hi)), get_idx ((h2.mem _).mpr hi)]
  have := idx_get (comp_ok h1 h2).nodup (k := one.idxOf (two.idxOf i)) (by rw [(comp_ok h1 h2).len]; exact hk)
  rw [e] at this
  exact this
def invP (n : Nat) (o : List Nat) : List Nat := (List.range n).map fun k => o.idxOf k
theorem inv_ok {n : Nat} {o : List Nat} (h : okP n o) : okP n (invP n o) := perm_of (fun i hi => h.idx hi) fun i j hi hj e => by
  have a : o.getD (o.idxOf i) 0 = o.getD (o.idxOf j) 0 := congrArg (fun z => o.getD z 0) e
  rw [get_idx ((h.mem _).mpr hi), get_idx ((h.mem _).mpr hj)] at a
  exact a
theorem inv_idx {n : Nat} {o : List Nat} (h : okP n o) {i : Nat} (hi : i < n) : (invP n o).idxOf i = o.getD i 0 := by
  have hk := h.get hi
  have e : (invP n o).getD (o.getD i 0) 0 = i := by
    unfold invP
    rw [getD_range hk, idx_get h.nodup (by rw [h.len]; exact hi)]
  have := idx_get (inv_ok h).nodup (k := o.getD i 0) (by rw [(inv_ok h).len]; exact hk)
  rw [e] at this
  exact this
section
variable {n : Nat} {w : Web} {o p q : List Nat}
theorem ren_ok (hw : okW n w) (ho : okP n o) : okW n (renW n o w) := tab_ok fun i j hi hj => cell_sg hw (ho.idx hi) (ho.idx hj)
theorem flip_sg (hw : okW n w) {i j : Nat} (hi : i < n) (hj : j < n) : isSg (flipC p w i j) := by
  unfold flipC
  split
  · exact opp_ok (cell_sg hw hi hj)
  · exact cell_sg hw hi hj
theorem flp_ok (hw : okW n w) : okW n (flpW n p w) := tab_ok fun i j hi hj => flip_sg hw hi hj
theorem ren_cell (ho : okP n o) {i j : Nat} (hi : i < n) (hj : j < n) : cell (renW n o w) i j = cell w (o.idxOf i) (o.idxOf j) := cell_tab hi hj
theorem flp_cell {i j : Nat} (hi : i < n) (hj : j < n) : cell (flpW n p w) i j = flipC p w i j := cell_tab hi hj
theorem ren_ren {one two : List Nat} (h1 : okP n one) (h2 : okP n two) : renW n two (renW n one w) = renW n (compO n one two) w :=
  tab_congr fun i j hi hj => by rw [ren_cell h1 (h2.idx hi) (h2.idx hj), comp_idx h1 h2 hi, comp_idx h1 h2 hj]
theorem ren_inv (hw : okW n w) (ho : okP n o) : renW n (invP n o) (renW n o w) = w := by
  refine (tab_congr fun i j hi hj => ?_).trans (web_tab hw).symm
  have hi' := (inv_ok ho).idx hi
  have hj' := (inv_ok ho).idx hj
  rw [ren_cell ho hi' hj', inv_idx ho hi, inv_idx ho hj, idx_get ho.nodup (by rw [ho.len]; exact hi), idx_get ho.nodup (by rw [ho.len]; exact hj)]
theorem flp_flp {r : List Nat} (hw : okW n w) (hr : ∀ i, i < n → r.contains i = (p.contains i != q.contains i)) : flpW n q (flpW n p w) = flpW n r w :=
  tab_congr fun i j hi hj => by
    unfold flipC
    rw [flp_cell hi hj, hr i hi, hr j hj]
    unfold flipC
    cases p.contains i <;> cases p.contains j <;> cases q.contains i <;> cases q.contains j <;> simp [opp_opp (cell_sg hw hi hj)]
theorem flp_none (hw : okW n w) {b : Bool} (h : ∀ i, i < n → p.contains i = b) : flpW n p w = w := by
  refine (tab_congr fun i j hi hj => ?_).trans (web_tab hw).symm
  unfold flipC
  rw [h i hi, h j hj]
  cases b <;> rfl
theorem ren_flp (ho : okP n o) (h : ∀ i, i < n → q.contains i = p.contains (o.idxOf i)) : renW n o (flpW n p w) = flpW n q (renW n o w) :=
  tab_congr fun i j hi hj => by
    rw [flp_cell (ho.idx hi) (ho.idx hj)]
    unfold flipC
    rw [ren_cell ho hi hj, h i hi, h j hj]
/-- some parts as a row -/
def selN (n : Nat) (f : Nat → Bool) : List Nat := (List.range n).filter f
theorem sel_has (f : Nat → Bool) {i : Nat} (hi : i < n) : (selN n f).contains i = f i := by
  unfold selN
  cases q : f i with
  | true => simpa using ⟨hi, q⟩
  | false =>
    cases z : ((List.range n).filter f).contains i with
    | false => rfl
    | true => have : i < n ∧ f i = true := by simpa using z
              rw [q] at this; cases this.2
def Orb (n : Nat) (w x : Web) : Prop := ∃ o p, okP n o ∧ x = flpW n p (renW n o w)
theorem Orb.ok {x : Web} (hw : okW n w) (h : Orb n w x) : okW n x := by
  obtain ⟨o, p, ho, rfl⟩ := h
  exact flp_ok (ren_ok hw ho)
theorem Orb.trans {x y : Web} (hw : okW n w) (h : Orb n w x) (k : Orb n x y) : Orb n w y := by
  obtain ⟨o, p, ho, rfl⟩ := h
  obtain ⟨o2, p2, ho2, rfl⟩ := k
  refine ⟨compO n o o2, selN n fun i => (selN n fun i => p.contains (o2.idxOf i)).contains i != p2.contains i, comp_ok ho ho2, ?_⟩
  rw [ren_flp (q := selN n fun i => p.contains (o2.idxOf i)) ho2 (fun i hi => sel_has _ hi), ren_ren ho ho2]
  exact flp_flp (ren_ok hw (comp_ok ho ho2)) fun i hi => sel_has _ hi
theorem Orb.symm {x : Web} (hw : okW n w) (h : Orb n w x) : Orb n x w := by
  obtain ⟨o, p, ho, rfl⟩ := h
  have hr := ren_ok hw ho
  refine ⟨invP n o, selN n fun i => p.contains ((invP n o).idxOf i), inv_ok ho, ?_⟩
  rw [ren_flp (q := selN n fun i => p.contains ((invP n o).idxOf i)) (inv_ok ho) (fun i hi => sel_has _ hi), ren_inv hw ho]
  rw [flp_flp (r := []) hw (fun i hi => by simp)]
  exact (flp_none hw (b := false) fun _ _ => rfl).symm
end
end PV
set_option Elab.async false
set_option linter.all false
set_option maxRecDepth 100000
set_option maxHeartbeats 4000000
namespace PV
end PV
set_option Elab.async false
set_option linter.all false
set_option maxRecDepth 100000
set_option maxHeartbeats 4000000
namespace PV
end PV
set_option Elab.async false
set_option linter.all false
set_option maxRecDepth 100000
set_option maxHeartbeats 4000000
namespace PV
end PV
set_option Elab.async false
set_option linter.all false
set_option maxRecDepth 100000
set_option maxHeartbeats 4000000
namespace PV
end PV
set_option Elab.async false
set_option linter.all false
set_option maxRecDepth 100000
set_option maxHeartbeats 4000000
namespace PV
def nbB (w : Web) (i j : Nat) : Bool := decide (j ≠ i) && ((cell w i j == 43 && cell w j i == 45) || (cell w i j == 45 && cell w j i == 43))
def nbL (n : Nat) (w : Web) (i : Nat) : List Nat := (List.range n).filter (nbB w i)
def Ffound_neighbours : Fn := ⟨2, 3, (.cons (.ret (.op .tupleOf (.cons (.comp [2] (.one 2) (.rng1 (.op .len (.cons (.v 0) .nil))) (.and (.op .ne (.cons (.v 2) (.cons (.v 1) .nil))) (.op .mem (.cons (.op .add (.cons (.op .idx (.cons (.op .idx (.cons (.v 0) (.cons (.v 1) .nil))) (.cons (.v 2) .nil))) (.cons (.op .idx (.cons (.op .idx (.cons (.v 0) (.cons (.v 2) .nil))) (.cons (.v 1) .nil))) .nil))) (.cons (.tup (.cons (.c (.str [43, 45])) (.cons (.c (.str [45, 43])) .nil))) .nil)))) (.v 2)) .nil)))
  .nil)⟩
def NbS (F : Rsl) : Prop := ∀ (n : Nat) (w : Web) (i : Nat), okW n w → 1 ≤ n → n ≤ 5 → i < n → F [.val (webD w), .val (.int (i : Nat))] = .ok (.val (ordD (nbL n w i)), [.val (webD w), .val (.int (i : Nat))])
theorem dec2 (x y a b : Nat) : decide ([x, y] = [a, b]) = (a == x && b == y) := by
  rw [Bool.eq_iff_iff]
  simp only [decide_eq_true_eq, Bool.and_eq_true, beq_iff_eq, List.cons.injEq, and_true]
  exact ⟨fun h => ⟨h.1.symm, h.2.symm⟩, fun h => ⟨h.1.symm, h.2.symm⟩⟩
theorem mem_pair (a b : Nat) : Op.mem2 false (.str [a, b]) (.tup [.str [43, 45], .str [45, 43]]) = some (false, .bl ((a == 43 && b == 45) || (a == 45 && b == 43))) := by
  show (if sh 50 (.str [a, b]) && shs 50 [.str [43, 45], .str [45, 43]] then bout (false != [D.str [43, 45], .str [45, 43]].any fun y => eqD y (.str [a, b])) else none) = _
  have e : [D.str [43, 45], .str [45, 43]].any (fun y => eqD y (.str [a, b])) = ((a == 43 && b == 45) || (a == 45 && b == 43)) := by
    simp only [List.any_cons, List.any_nil, Bool.or_false, eqD_str, dec2]
  rw [e]
  simp [sh, shs, bout]
theorem ne_nat (i j : Nat) : Op.run2 .ne (.int (i : Nat)) (.int (j : Nat)) = some (false, .bl (decide (i ≠ j))) := by
  refine (ne_int _ _).trans ?_
  by_cases h : i = j
  · subst h; simp
  · rw [beq_false_of_ne (by omega), decide_eq_true h]; rfl
theorem eq_nat (i j : Nat) : Op.run2 .eq (.int (i : Nat)) (.int (j : Nat)) = some (false, .bl (decide (i = j))) := by
  refine (eq_int _ _).trans ?_
  by_cases h : i = j
  · subst h; simp
  · rw [beq_false_of_ne (by omega), decide_eq_false h]
theorem fnb_s (fl : Nat → List Bool) (Φ : Fns) : NbS (runFn fl Φ Ffound_neighbours) := fun n w i hw h1 h5 hi => by
  have lw : Op.run1 .len (webD w) = some (false, .int (n : Nat)) := by rw [len_web, hw.1]
  refine wp_run rfl (wpp_ret (d := ordD (nbL n w i)) (ev_op1v (ev_compG (ys := List.range n) (f := fun (j : Nat) => .int j) (p := nbB w i) (g := fun (j : Nat) => .int j) (it_rng1 (n := n) (ev_op1v (ev_val rfl) rfl lw) (by omega)) rfl rfl rfl (fun j hj => ?_) (by simp; omega)) rfl rfl) rfl)
  have hj : j < n := by simpa using hj
  refine ⟨_, [.val (webD w), .val (.int (i : Nat)), .val (.int (j : Nat))], rfl, ?_, fun _ => rfl, fun _ => ⟨.val (.int (j : Nat)), _, _, ev_val rfl, rfl, rfl⟩⟩
  have c1 : ev Φ fl (.op .ne (.cons (.v 2) (.cons (.v 1) .nil))) [.val (webD w), .val (.int (i : Nat)), .val (.int (j : Nat))] = .ok (.val (.bl (decide (j ≠ i))), [.val (webD w), .val (.int (i : Nat)), .val (.int (j : Nat))]) := ev_op2v (ev_val rfl) (ev_val rfl) rfl rfl (ne_nat _ _)
  unfold nbB
  by_cases h : j ≠ i
  · rw [decide_eq_true h] at c1 ⊢
    exact (ev_and_t c1).trans (ev_op2v (ev_op2v (d := .str [cell w i j, cell w j i]) (ev_cell hw hi hj (by omega) (ev_val rfl) (ev_val rfl) (ev_val rfl)) (ev_cell hw hj hi (by omega) (ev_val rfl) (ev_val rfl) (ev_val rfl)) rfl rfl (add_str (by simp))) (ev_tup (evVs_c (evVs_c evVs_nil)) (by simp)) rfl rfl (mem_pair _ _))
  · rw [decide_eq_false h] at c1 ⊢
    exact ev_and_f c1
def nbIn (n : Nat) (w : Web) (p : List Nat) (i : Nat) : Nat := ((nbL n w i).filter fun j => p.contains j).length
def whAt (n : Nat) (w : Web) (p : List Nat) (i : Nat) : Bool := if p.contains i then decide (cell w i i = 48) && decide (nbIn n w p i ≠ 0) else decide (nbIn n w p i ≠ 1)
def whB (n : Nat) (w : Web) (p : List Nat) : Bool := (List.range n).all (whAt n w p)
def Fis_white (kfound_neighbours : Nat) : Fn := ⟨2, 5, (.cons (.for (.one 2) (.rng1 (.op .len (.cons (.v 0) .nil))) (.cons (.set 3 true (.op .len (.cons (.comp [4] (.one 4) (.seq (.call kfound_neighbours (.cons (.v 0) (.cons (.v 2) .nil)))) (.op .mem (.cons (.v 4) (.cons (.v 1) .nil))) (.v 4)) .nil)))
  (.cons (.ite (.and (.op .mem (.cons (.v 2) (.cons (.v 1) .nil))) (.or (.op .ne (.cons (.op .idx (.cons (.op .idx (.cons (.v 0) (.cons (.v 2) .nil))) (.cons (.v 2) .nil))) (.cons (.c (.str [48])) .nil))) (.op .eq (.cons (.v 3) (.cons (.c (.int 0)) .nil))))) (.cons (.ret (.c (.bl false)))
  .nil) .nil)
  (.cons (.ite (.and (.op .nmem (.cons (.v 2) (.cons (.v 1) .nil))) (.op .eq (.cons (.v 3) (.cons (.c (.int 1)) .nil)))) (.cons (.ret (.c (.bl false)))
  .nil) .nil)
  .nil))))
  (.cons (.ret (.c (.bl true)))
  .nil))⟩
def IsWhS (F : Rsl) : Prop := ∀ (n : Nat) (w : Web) (p : List Nat), okW n w → 1 ≤ n → n ≤ 5 → F [.val (webD w), .val (ordD p)] = .ok (.val (.bl (whB n w p)), [.val (webD w), .val (ordD p)])
theorem iswh_s {Φ : Fns} {fl : Nat → List Bool} {kf : Nat} (ff : fl kf = [false, false]) (N : NbS (Φ kf)) : IsWhS (runFn fl Φ (Fis_white kf)) := fun n w p hw h1 h5 => by
  have lw : Op.run1 .len (webD w) = some (false, .int (n : Nat)) := by rw [len_web, hw.1]
  refine wp_run rfl ?_
  refine wp_forR (xs := rngN n) (v := .val (.bl false)) (whAt n w p) (fun k s => ∃ x y, s = [.val (webD w), .val (ordD p), x, y, .none]) (fun s => ∃ x y, s = [.val (webD w), .val (ordD p), x, y, .none]) (it_rng1 (n := n) (ev_op1v (ev_val rfl) rfl lw) (by omega)) ⟨_, _, rfl⟩ ?_ ?_ ?_
  · rintro i x s hx ⟨x0, y0, rfl⟩
    obtain ⟨rfl, hi⟩ := rngN_get hx
    have hnl : (nbL n w i).length ≤ n := by
      unfold nbL
      exact Nat.le_trans (List.length_filter_le _ _) (by simp)
    have c0 : ev Φ fl (.op .len (.cons (.comp [4] (.one 4) (.seq (.call kf (.cons (.v 0) (.cons (.v 2) .nil)))) (.op .mem (.cons (.v 4) (.cons (.v 1) .nil))) (.v 4)) .nil)) [.val (webD w), .val (ordD p), .val (.int (i : Nat)), y0, .none] = .ok (.val (.int (nbIn n w p i : Nat)), [.val (webD w), .val (ordD p), .val (.int (i : Nat)), y0, .none]) := by
      refine ev_op1v (ev_compG (ys := nbL n w i) (f := fun (j : Nat) => .int j) (p := fun j => p.contains j) (g := fun (j : Nat) => .int j) (st1 := [.val (webD w), .val (ordD p), .val (.int (i : Nat)), y0, .none]) (it_seq (ev_callv (ds := [webD w, .int (i : Nat)]) (evAs_cons (ev_val rfl) (evAs_cons (ev_val rfl) evAs_nil)) rfl ff (N n w i hw h1 h5 hi) (by simp)) rfl rfl) rfl rfl rfl (fun j hj => ?_) (by omega)) rfl ?_
      · refine ⟨_, [.val (webD w), .val (ordD p), .val (.int (i : Nat)), y0, .val (.int (j : Nat))], rfl, ev_op2v (ev_val rfl) (ev_val rfl) rfl rfl ((mem_ord false p j).trans (by simp)), fun _ => rfl, fun _ => ⟨.val (.int (j : Nat)), _, _, ev_val rfl, rfl, rfl⟩⟩
      · show some (false, D.int ((((nbL n w i).filter fun j => p.contains j).map fun (j : Nat) => D.int j).length : Nat)) = _
        rw [List.length_map]; rfl
    have c1 : ev Φ fl (.op .mem (.cons (.v 2) (.cons (.v 1) .nil))) [.val (webD w), .val (ordD p), .val (.int (i : Nat)), .val (.int (nbIn n w p i : Nat)), .none] = .ok (.val (.bl (p.contains i)), [.val (webD w), .val (ordD p), .val (.int (i : Nat)), .val (.int (nbIn n w p i : Nat)), .none]) := ev_op2v (ev_val rfl) (ev_val rfl) rfl rfl ((mem_ord false p i).trans (by simp))
    have c2 : ev Φ fl (.op .nmem (.cons (.v 2) (.cons (.v 1) .nil))) [.val (webD w), .val (ordD p), .val (.int (i : Nat)), .val (.int (nbIn n w p i : Nat)), .none] = .ok (.val (.bl (!p.contains i)), [.val (webD w), .val (ordD p), .val (.int (i : Nat)), .val (.int (nbIn n w p i : Nat)), .none]) := ev_op2v (ev_val rfl) (ev_val rfl) rfl rfl ((mem_ord true p i).trans (by simp))
    have c3 : ev Φ fl (.op .ne (.cons (.op .idx (.cons (.op .idx (.cons (.v 0) (.cons (.v 2) .nil))) (.cons (.v 2) .nil))) (.cons (.c (.str [48])) .nil))) [.val (webD w), .val (ordD p), .val (.int (i : Nat)), .val (.int (nbIn n w p i : Nat)), .none] = .ok (.val (.bl (decide (cell w i i ≠ 48))), [.val (webD w), .val (ordD p), .val (.int (i : Nat)), .val (.int (nbIn n w p i : Nat)), .none]) := ev_op2v (ev_cell hw hi hi (by omega) (ev_val rfl) (ev_val rfl) (ev_val rfl)) ev_c rfl rfl (nesg _ _)
    have c4 : ev Φ fl (.op .eq (.cons (.v 3) (.cons (.c (.int 0)) .nil))) [.val (webD w), .val (ordD p), .val (.int (i : Nat)), .val (.int (nbIn n w p i : Nat)), .none] = .ok (.val (.bl (decide (nbIn n w p i = 0))), [.val (webD w), .val (ordD p), .val (.int (i : Nat)), .val (.int (nbIn n w p i : Nat)), .none]) := ev_op2v (ev_val rfl) ev_c rfl rfl (eq_nat _ 0)
    have c5 : ev Φ fl (.op .eq (.cons (.v 3) (.cons (.c (.int 1)) .nil))) [.val (webD w), .val (ordD p), .val (.int (i : Nat)), .val (.int (nbIn n w p i : Nat)), .none] = .ok (.val (.bl (decide (nbIn n w p i = 1))), [.val (webD w), .val (ordD p), .val (.int (i : Nat)), .val (.int (nbIn n w p i : Nat)), .none]) := ev_op2v (ev_val rfl) ev_c rfl rfl (eq_nat _ 1)
    have s0 := ex_set_val (i := 3) (m := true) c0 (by simp)
    have r0 : ∀ (r : Ss), exs Φ fl (.cons (.ret (.c (.bl false))) r) [.val (webD w), .val (ordD p), .val (.int (i : Nat)), .val (.int (nbIn n w p i : Nat)), .none] = .ok (.ret (.val (.bl false)), [.val (webD w), .val (ordD p), .val (.int (i : Nat)), .val (.int (nbIn n w p i : Nat)), .none]) := fun r => exs_ret (ex_ret_val ev_c)
    refine ⟨_, [.val (webD w), .val (ordD p), .val (.int (i : Nat)), .val (.int (nbIn n w p i : Nat)), .none], rfl, fun hp => ⟨exs_next s0 ?_, _, _, rfl⟩, fun hp => ⟨exs_next s0 ?_, _, _, rfl⟩⟩
    · unfold whAt at hp
      cases q : p.contains i with
      | true =>
        rw [q] at hp c1 c2
        simp at hp
        rw [decide_eq_false (by simpa using hp.1)] at c3
        rw [decide_eq_false hp.2] at c4
        exact exs_next (ex_skip ((ev_and_t c1).trans ((ev_or_f c3).trans c4))) (exs_next (ex_skip (ev_and_f c2)) exs_nil)
      | false =>
        rw [q] at hp c1 c2
        simp at hp
        rw [decide_eq_false hp] at c5
        exact exs_next (ex_skip (ev_and_f c1)) (exs_next (ex_skip ((ev_and_t c2).trans c5)) exs_nil)
    · unfold whAt at hp
      cases q : p.contains i with
      | true =>
        rw [q] at hp c1 c2
        simp at hp
        by_cases h : cell w i i = 48
        · rw [decide_eq_false (by simpa using h)] at c3
          rw [decide_eq_true (hp h)] at c4
          exact exs_ret (ex_if ((ev_and_t c1).trans ((ev_or_f c3).trans c4)) (r0 _))
        · rw [decide_eq_true h] at c3
          exact exs_ret (ex_if ((ev_and_t c1).trans (ev_or_t c3)) (r0 _))
      | false =>
        rw [q] at hp c1 c2
        simp at hp
        rw [decide_eq_true hp] at c5
        exact exs_next (ex_skip (ev_and_f c1)) (exs_ret (ex_if ((ev_and_t c2).trans c5) (r0 _)))
  · rintro hall s ⟨x0, y0, rfl⟩
    have : whB n w p = true := List.all_eq_true.mpr fun i hi => hall i (by rw [rngN_len]; simpa using hi)
    rw [this]
    exact wp_ret (d := .bl true) ev_c rfl
  · rintro ⟨i, hi, hp⟩ s ⟨x0, y0, rfl⟩
    have : whB n w p = false := by
      cases q : whB n w p with
      | false => rfl
      | true =>
        have := List.all_eq_true.mp q i (by rw [rngN_len] at hi; simpa using hi)
        rw [hp] at this; cases this
    rw [this]; rfl
end PV
set_option Elab.async false
set_option linter.all false
set_option maxRecDepth 100000
set_option maxHeartbeats 4000000
namespace PV
/-- rows of numbers in order -/
def ltO : List Nat → List Nat → Bool := lexB Nat.blt
theorem sto_O : STO ltO := sto_nat.lex
theorem ltBs_ord : ∀ a b : List Nat, ltBs (a.map fun (c : Nat) => D.int c) (b.map fun (c : Nat) => D.int c) = ltO a b
  | [], [] => by simp [ltBs, ltO, lexB]
  | [], _ :: _ => by simp [ltBs, ltO, lexB]
  | _ :: _, [] => by simp [ltBs, ltO, lexB]
  | x :: xs, y :: ys => by
    rw [List.map_cons, List.map_cons, ltBs, ltBs_ord xs ys]
    show _ = lexB Nat.blt (x :: xs) (y :: ys)
    rw [lexB]
    by_cases e : x = y
    · subst e; simp [eqD, ltO]
    · have e1 : eqD (.int (x : Nat)) (.int (y : Nat)) = false := by
        simp only [eqD]; exact beq_false_of_ne (by omega)
      rw [e1, if_neg Bool.false_ne_true, if_neg e, ltB]
      cases q : Nat.blt x y with
      | true => have := Nat.le_of_ble_eq_true q; simp; omega
      | false =>
        simp only [decide_eq_false_iff_not]
        intro z
        have : Nat.blt x y = true := Nat.ble_eq_true_of_le (by omega)
        rw [q] at this; cases this
theorem alDs_nats : ∀ a b : List Nat, alDs (a.map fun (c : Nat) => D.int c) (b.map fun (c : Nat) => D.int c) = true
  | [], _ => by simp [alDs]
  | _ :: _, [] => by simp [alDs]
  | x :: xs, y :: ys => by rw [List.map_cons, List.map_cons, alDs, alDs_nats xs ys]; simp [alD]
theorem sh_ordN (o : List Nat) (k : Nat) : sh (k + 1) (ordD o) = true := shs_nats k o
theorem sortable_full {α : Type} {f : α → D} {l : List α} (hl : l.length ≤ 1000) (ha : ∀ a ∈ l, ∀ b ∈ l, alD (f a) (f b) = true) (hp : ∀ a ∈ l, fullT (f a) = true) (hs : ∀ a ∈ l, sh 49 (f a) = true) : sortable (l.map f) = true := by
  have h1 : ∀ m : List α, (∀ a ∈ m, a ∈ l) → alAll (m.map f) = true := by
    intro m
    induction m with
    | nil => intro _; rfl
    | cons x m ih =>
      intro hm
      have e3 : ((m.map f).all fun y => alD (f x) y && alD y (f x)) = true := List.all_eq_true.mpr fun d hd => by
        obtain ⟨y, hy, rfl⟩ := List.mem_map.mp hd
        rw [ha x (hm x (by simp)) y (hm y (by simp [hy])), ha y (hm y (by simp [hy])) x (hm x (by simp))]; rfl
      rw [List.map_cons, alAll, ih fun a h => hm a (by simp [h]), ha x (hm x (by simp)) x (hm x (by simp)), e3]; rfl
  have h2 : (l.map f).all fullT = true := by
    rw [List.all_map]; exact List.all_eq_true.mpr hp
  have h3 : shs 49 (l.map f) = true := shs_map hs
  unfold sortable
  rw [h1 l fun _ h => h, h2, h3, ble_sz (by rw [List.length_map]; omega)]
  simp
theorem full_ord {o : List Nat} (h : o ≠ []) : fullT (ordD o) = true := by
  cases o with
  | nil => exact absurd rfl h
  | cons x r => rfl
theorem sort_ords {l : List (List Nat)} (hl : l.length ≤ 1000) (hp : ∀ a ∈ l, a ≠ []) : Op.run1 .sortedOf (.lst (l.map ordD)) = some (true, .lst ((isort ltO l).map ordD)) :=
  sort_map (fun a b => by show ltB (.tup _) (.tup _) = _; rw [ltB, ltBs_ord]) (sortable_full hl (fun a _ b _ => by show alD (.tup _) (.tup _) = true; rw [alD, alDs_nats]) (fun a ha => full_ord (hp a ha)) fun a _ => sh_ordN a 48)
theorem isort_id {α : Type} {lt : α → α → Bool} (h : STO lt) {l : List α} (hp : l.Pairwise fun a b => lt b a = false) : isort lt l = l :=
  List.Perm.eq_of_pairwise (fun a b _ _ h1 h2 => h.anti h2 h1) (isort_le h l) hp (isort_perm lt l)
def dblL : Nat → List (List Nat)
  | 0 => [[]]
  | k + 1 => dblL k ++ (dblL k).map (· ++ [k])
theorem dbl_perm : ∀ n : Nat, n ≤ 5 → (dblL n).isPerm (subs n 0) = true
  | 0, _ => by decide +kernel
  | 1, _ => by decide +kernel
  | 2, _ => by decide +kernel
  | 3, _ => by decide +kernel
  | 4, _ => by decide +kernel
  | 5, _ => by decide +kernel
  | n + 6, h => by omega
theorem subs_sorted : ∀ n : Nat, n ≤ 5 → (subs n 0).Pairwise fun a b => ltO b a = false
  | 0, _ => by decide +kernel
  | 1, _ => by decide +kernel
  | 2, _ => by decide +kernel
  | 3, _ => by decide +kernel
  | 4, _ => by decide +kernel
  | 5, _ => by decide +kernel
  | n + 6, h => by omega
theorem dbl_len : ∀ k : Nat, (dblL k).length = 2 ^ k
  | 0 => rfl
  | k + 1 => by rw [dblL, List.length_append, List.length_map, dbl_len k, Nat.pow_succ]; omega
theorem dbl_small {k : Nat} (h : k ≤ 5) : (dblL k).length ≤ 32 := by
  rw [dbl_len]
  have : (2 : Nat) ^ k ≤ 2 ^ 5 := Nat.pow_le_pow_right (by omega) h
  omega
def whL (n : Nat) (w : Web) : List (List Nat) := (subs n 0).filter fun p => decide (2 ≤ p.length) && whB n w p
theorem wh_sorted {n : Nat} {w : Web} (h : n ≤ 5) : (whL n w).Pairwise fun a b => ltO b a = false := (subs_sorted n h).filter _
theorem wh_len {n : Nat} {w : Web} (h : n ≤ 5) : (whL n w).length ≤ 32 := by
  refine Nat.le_trans (List.length_filter_le _ _) ?_
  rw [← (List.isPerm_iff.mp (dbl_perm n h)).length_eq]
  exact dbl_small h
theorem wh_sort {n : Nat} {w : Web} (h : n ≤ 5) : isort ltO ((dblL n).filter fun p => decide (2 ≤ p.length) && whB n w p) = whL n w := by
  rw [isort_congr sto_O ((List.isPerm_iff.mp (dbl_perm n h)).filter _)]
  exact isort_id sto_O (wh_sorted h)
def Ffound_white (kis_white : Nat) : Fn := ⟨1, 4, (.cons (.set 1 true (.lst (.cons (.tup .nil) .nil)))
  (.cons (.for (.one 2) (.rng1 (.op .len (.cons (.v 0) .nil))) (.cons (.set 1 true (.op .add (.cons (.v 1) (.cons (.comp [3] (.one 3) (.seq (.v 1)) (.c (.bl true)) (.op .add (.cons (.v 3) (.cons (.tup (.cons (.v 2) .nil)) .nil)))) .nil))))
  .nil))
  (.cons (.ret (.op .sortedOf (.cons (.comp [3] (.one 3) (.seq (.v 1)) (.and (.op .ge (.cons (.op .len (.cons (.v 3) .nil)) (.cons (.c (.int 2)) .nil))) (.call kis_white (.cons (.v 0) (.cons (.v 3) .nil)))) (.v 3)) .nil)))
  .nil)))⟩
def FwS (F : Rsl) : Prop := ∀ (n : Nat) (w : Web), okW n w → 1 ≤ n → n ≤ 5 → F [.val (webD w)] = .ok (.fresh (.lst ((whL n w).map ordD)), [.val (webD w)])
theorem row_lens {p : List Nat} : ∀ {k : Nat}, p ∈ dblL k → p.length ≤ k
  | 0, h => by have : p = [] := by simpa [dblL] using h
               subst this; simp
  | k + 1, h => by
    rw [dblL] at h
    rcases List.mem_append.mp h with h | h
    · have := row_lens h; omega
    · obtain ⟨q, hq, rfl⟩ := List.mem_map.mp h
      have := row_lens hq
      simp; omega
theorem fw_s {Φ : Fns} {fl : Nat → List Bool} {ki : Nat} (fi : fl ki = [false, false]) (I : IsWhS (Φ ki)) : FwS (runFn fl Φ (Ffound_white ki)) := fun n w hw h1 h5 => by
  have lw : Op.run1 .len (webD w) = some (false, .int (n : Nat)) := by rw [len_web, hw.1]
  refine wp_run rfl ?_
  refine wp_new (d := .lst ((dblL 0).map ordD)) (st1 := [.val (webD w), .none, .none, .none]) (ev_lst (evVs_cons (ev_tup evVs_nil (by simp)) rfl evVs_nil) (by decide)) (by simp) ?_
  refine wp_for (xs := rngN n) (st1 := [.val (webD w), .own none (.lst ((dblL 0).map ordD)), .none, .none]) (fun k s => ∃ x, s = [.val (webD w), .own none (.lst ((dblL k).map ordD)), x, .none]) (it_rng1 (n := n) (ev_op1v (ev_val rfl) rfl lw) (by omega)) ⟨_, rfl⟩ ?_ ?_
  · rintro i x s hx ⟨x0, rfl⟩
    obtain ⟨rfl, hi⟩ := rngN_get hx
    have hdl := dbl_small (k := i) (by omega)
    have cc : ev Φ fl (.comp [3] (.one 3) (.seq (.v 1)) (.c (.bl true)) (.op .add (.cons (.v 3) (.cons (.tup (.cons (.v 2) .nil)) .nil)))) [.val (webD w), .own none (.lst ((dblL i).map ordD)), .val (.int (i : Nat)), .none] = .ok (.fresh (.lst ((dblL i).map fun p => ordD (p ++ [i]))), [.val (webD w), .val (.lst ((dblL i).map ordD)), .val (.int (i : Nat)), .none]) := by
      refine ev_compU (ys := dblL i) (f := ordD) (g := fun p => ordD (p ++ [i])) (st1 := [.val (webD w), .val (.lst ((dblL i).map ordD)), .val (.int (i : Nat)), .none]) (it_seq (ev_own rfl) rfl rfl) rfl rfl rfl (fun p hp => ?_) (by omega)
      have hpl := row_lens hp
      refine ⟨_, .val (ordD (p ++ [i])), [.val (webD w), .val (.lst ((dblL i).map ordD)), .val (.int (i : Nat)), .val (ordD p)], [.val (webD w), .val (.lst ((dblL i).map ordD)), .val (.int (i : Nat)), .val (ordD p)], rfl, ev_op2v (ev_val rfl) (ev_tup (evVs_cons (ev_val rfl) rfl evVs_nil) (by simp)) rfl rfl ((add_tup (by simp; omega)).trans ?_), rfl, rfl⟩
      unfold ordD
      rw [List.map_append]; rfl
    refine ⟨_, rfl, wp_new (d := .lst ((dblL (i + 1)).map ordD)) (st1 := [.val (webD w), .val (.lst ((dblL i).map ordD)), .val (.int (i : Nat)), .none]) (ev_op2n (ev_own rfl) cc rfl rfl ((add_lst (by simp; omega)).trans ?_)) (by simp) (wp_nil ⟨rfl, _, rfl⟩)⟩
    rw [dblL, List.map_append, List.map_map]; rfl
  · rintro s ⟨x0, rfl⟩
    rw [rngN_len]
    have hdl := dbl_small h5
    refine wp_retn (d := .lst ((whL n w).map ordD)) (st1 := [.val (webD w), .val (.lst ((dblL n).map ordD)), x0, .none]) (ev_op1n (x := .lst (((dblL n).filter fun p => decide (2 ≤ p.length) && whB n w p).map ordD)) (ev_compG (ys := dblL n) (f := ordD) (p := fun p => decide (2 ≤ p.length) && whB n w p) (g := ordD) (st1 := [.val (webD w), .val (.lst ((dblL n).map ordD)), x0, .none]) (it_seq (ev_own rfl) rfl rfl) rfl rfl rfl (fun p hp => ?_) (by omega)) rfl ?_) rfl
    · refine ⟨_, [.val (webD w), .val (.lst ((dblL n).map ordD)), x0, .val (ordD p)], rfl, ?_, fun _ => rfl, fun _ => ⟨.val (ordD p), _, _, ev_val rfl, rfl, rfl⟩⟩
      have c1 : ev Φ fl (.op .ge (.cons (.op .len (.cons (.v 3) .nil)) (.cons (.c (.int 2)) .nil))) [.val (webD w), .val (.lst ((dblL n).map ordD)), x0, .val (ordD p)] = .ok (.val (.bl (decide (2 ≤ p.length))), [.val (webD w), .val (.lst ((dblL n).map ordD)), x0, .val (ordD p)]) := by
        refine ev_op2v (ev_op1v (ev_val rfl) rfl (len_ord p)) ev_c rfl rfl ?_
        show bout (decide ((2 : Int) ≤ ((p.length : Nat) : Int))) = _
        by_cases h : 2 ≤ p.length
        · rw [decide_eq_true h, decide_eq_true (by omega)]; rfl
        · rw [decide_eq_false h, decide_eq_false (by omega)]; rfl
      by_cases h : 2 ≤ p.length
      · rw [decide_eq_true h] at c1 ⊢
        exact (ev_and_t c1).trans (ev_callv (ds := [webD w, ordD p]) (evAs_cons (ev_val rfl) (evAs_cons (ev_val rfl) evAs_nil)) rfl fi (I n w p hw h1 h5) (by simp))
      · rw [decide_eq_false h] at c1 ⊢
        exact ev_and_f c1
    · refine (sort_ords (Nat.le_trans (List.length_filter_le _ _) (by omega)) fun a ha z => ?_).trans (by rw [wh_sort h5])
      have := (List.mem_filter.mp ha).2
      subst z
      simp at this
end PV
set_option Elab.async false
set_option linter.all false
set_option maxRecDepth 100000
set_option maxHeartbeats 4000000
namespace PV
theorem idx_last {r : List Nat} (h : r ≠ []) : Op.run2 .idx (ordD r) (.int (-1)) = some (false, .int ((r.getD (r.length - 1) 0 : Nat) : Int)) := by
  have hl : 0 < r.length := List.length_pos_iff.mpr h
  show (match (ix (r.map fun (c : Nat) => D.int c).length (-1)).bind fun j => (r.map fun (c : Nat) => D.int c)[j]? with | some c => some (false, c) | none => none) = _
  have e : ix (r.map fun (c : Nat) => D.int c).length (-1) = some (r.length - 1) := by
    unfold ix
    rw [List.length_map, if_neg (by omega), if_pos (by omega)]
    congr 1; omega
  rw [e]
  simp only [Option.bind]
  rw [List.getElem?_map, List.getD_eq_getElem?_getD, List.getElem?_eq_getElem (by omega : r.length - 1 < r.length)]; rfl
def okR (n : Nat) (r : List Nat) : Prop := r ≠ [] ∧ r.Nodup ∧ ∀ x ∈ r, x < n
theorem okR.len {n : Nat} {r : List Nat} (h : okR n r) : r.length ≤ n := by
  have := nodup_le (m := List.range n) h.2.1 fun x hx => by simpa using h.2.2 x hx
  simpa using this
theorem okR.at {n : Nat} {r : List Nat} (h : okR n r) {k : Nat} (hk : k < r.length) : r.getD k 0 < n := by
  refine h.2.2 _ ?_
  rw [List.getD_eq_getElem?_getD, List.getElem?_eq_getElem hk]
  exact List.getElem_mem _
def wtf : Nat → Nat
  | 0 => 1
  | k + 1 => 1 + (k + 1) * wtf k
theorem wtf_pos : ∀ k, 1 ≤ wtf k
  | 0 => by simp [wtf]
  | k + 1 => by rw [wtf]; omega
def msr (n : Nat) (l : List (List Nat)) : Nat := (l.map fun r => wtf (n - r.length)).sum
theorem msr_len (n : Nat) : ∀ l : List (List Nat), l.length ≤ msr n l
  | [] => by simp [msr]
  | r :: l => by
    have := msr_len n l
    have := wtf_pos (n - r.length)
    unfold msr at *
    rw [List.map_cons, List.sum_cons, List.length_cons]; omega
theorem msr_app (n : Nat) (a b : List (List Nat)) : msr n (a ++ b) = msr n a + msr n b := by
  unfold msr; rw [List.map_append, List.sum_append]
theorem msr_push (n : Nat) (r : List Nat) : ∀ ps : List Nat, msr n (ps.map fun x => r ++ [x]) = ps.length * wtf (n - r.length - 1)
  | [] => by simp [msr]
  | x :: ps => by
    have := msr_push n r ps
    unfold msr at *
    rw [List.map_cons, List.map_cons, List.sum_cons, this, List.length_cons, List.length_append, Nat.add_mul]
    simp only [List.length_cons, List.length_nil]
    rw [show n - (r.length + (0 + 1)) = n - r.length - 1 by omega]; omega
theorem msr_step {n : Nat} {r ps : List Nat} (hr : okR n r) (hp : ps.Nodup) (hx : ∀ x ∈ ps, x < n ∧ x ∉ r) : msr n (ps.map fun x => r ++ [x]) < wtf (n - r.length) := by
  have hl : (r ++ ps).length ≤ n := by
    have := nodup_le (l := r ++ ps) (m := List.range n) (List.nodup_append.mpr ⟨hr.2.1, hp, fun a ha b hb z => (hx b hb).2 (z ▸ ha)⟩) fun x hx' => by
      rcases List.mem_append.mp hx' with z | z
      · simpa using hr.2.2 x z
      · simpa using (hx x z).1
    simpa using this
  rw [List.length_append] at hl
  rw [msr_push]
  cases q : n - r.length with
  | zero =>
    have : ps.length = 0 := by omega
    rw [this]; simp [wtf]
  | succ k =>
    rw [wtf, Nat.add_sub_cancel]
    have : ps.length * wtf k ≤ (k + 1) * wtf k := Nat.mul_le_mul_right _ (by omega)
    omega
def Ffound_rings : Fn := ⟨1, 5, (.cons (.par [(2, true), (3, true)] (.cons (.comp [1] (.one 1) (.rng1 (.op .len (.cons (.v 0) .nil))) (.c (.bl true)) (.tup (.cons (.v 1) .nil))) (.cons (.lst .nil) .nil)))
  (.cons (.while (.op .ne (.cons (.v 2) (.cons (.lst .nil) .nil))) (.cons (.set 4 true (.pop 2))
  (.cons (.ite (.and (.op .gt (.cons (.op .len (.cons (.v 4) .nil)) (.cons (.c (.int 1)) .nil))) (.op .ne (.cons (.op .idx (.cons (.op .idx (.cons (.v 0) (.cons (.op .idx (.cons (.v 4) (.cons (.c (.int 0)) .nil))) .nil))) (.cons (.op .idx (.cons (.v 4) (.cons (.op .neg (.cons (.c (.int 1)) .nil)) .nil))) .nil))) (.cons (.c (.str [48])) .nil)))) (.cons (.ex (.app 3 (.v 4)))
  .nil) .nil)
  (.cons (.for (.one 1) (.rng2 (.op .add (.cons (.op .idx (.cons (.v 4) (.cons (.c (.int 0)) .nil))) (.cons (.c (.int 1)) .nil))) (.op .len (.cons (.v 0) .nil))) (.cons (.ite (.and (.op .nmem (.cons (.v 1) (.cons (.v 4) .nil))) (.op .ne (.cons (.op .idx (.cons (.op .idx (.cons (.v 0) (.cons (.v 1) .nil))) (.cons (.op .idx (.cons (.v 4) (.cons (.op .neg (.cons (.c (.int 1)) .nil)) .nil))) .nil))) (.cons (.c (.str [48])) .nil)))) (.cons (.ex (.app 2 (.op .add (.cons (.v 4) (.cons (.tup (.cons (.v 1) .nil)) .nil)))))
  .nil) .nil)
  .nil))
  .nil))))
  (.cons (.ret (.op .sortedOf (.cons (.v 3) .nil)))
  .nil)))⟩
theorem ne_nil_ords (l : List (List Nat)) : Op.run2 .ne (.lst (l.map ordD)) (.lst []) = some (false, .bl (!l.isEmpty)) := by
  show (if sh 50 (.lst (l.map ordD)) && sh 50 (.lst []) then bout (true != eqD (.lst (l.map ordD)) (.lst [])) else none) = _
  have e : sh 50 (.lst (l.map ordD)) = true := shs_map (n := 49) fun a _ => sh_ordN a 48
  rw [e]
  cases l with
  | nil => rfl
  | cons x r => simp [sh, shs, eqD, eqDs, bout]
end PV
set_option Elab.async false
set_option linter.all false
set_option maxRecDepth 100000
set_option maxHeartbeats 4000000
namespace PV
def whiteS : List Nat := [119, 104, 105, 116, 101]
def Ffound_faults (kfound_rings kfound_terms kfound_white : Nat) : Fn := ⟨1, 7, (.cons (.set 1 true (.op .lrng (.cons (.op .len (.cons (.v 0) .nil)) .nil)))
  (.cons (.set 3 true (.comp [2] (.one 2) (.seq (.v 1)) (.op .eq (.cons (.op .idx (.cons (.op .idx (.cons (.v 0) (.cons (.v 2) .nil))) (.cons (.v 2) .nil))) (.cons (.c (.str [43])) .nil))) (.tup (.cons (.c (.str [111, 119, 110])) (.cons (.v 2) .nil)))))
  (.cons (.for (.one 2) (.seq (.v 1)) (.cons (.for (.one 4) (.rng2 (.op .add (.cons (.v 2) (.cons (.c (.int 1)) .nil))) (.op .len (.cons (.v 0) .nil))) (.cons (.ite (.and (.op .ne (.cons (.op .idx (.cons (.op .idx (.cons (.v 0) (.cons (.v 2) .nil))) (.cons (.v 4) .nil))) (.cons (.c (.str [48])) .nil))) (.and (.op .ne (.cons (.op .idx (.cons (.op .idx (.cons (.v 0) (.cons (.v 4) .nil))) (.cons (.v 2) .nil))) (.cons (.c (.str [48])) .nil))) (.op .eq (.cons (.op .idx (.cons (.op .idx (.cons (.v 0) (.cons (.v 2) .nil))) (.cons (.v 4) .nil))) (.cons (.op .idx (.cons (.op .idx (.cons (.v 0) (.cons (.v 4) .nil))) (.cons (.v 2) .nil))) .nil))))) (.cons (.ex (.app 3 (.tup (.cons (.c (.str [112, 97, 105, 114])) (.cons (.v 2) (.cons (.v 4) .nil))))))
  .nil) .nil)
  .nil))
  .nil))
  (.cons (.ex (.ext 3 (.comp [5] (.one 5) (.seq (.call kfound_rings (.cons (.v 0) .nil))) (.op .gt (.cons (.op .len (.cons (.v 5) .nil)) (.cons (.c (.int 2)) .nil))) (.tup (.cons (.c (.str [114, 105, 110, 103])) (.cons (.v 5) .nil))))))
  (.cons (.ite (.op .eq (.cons (.call kfound_terms (.cons (.v 0) .nil)) (.cons (.lst .nil) .nil))) (.cons (.ex (.app 3 (.tup (.cons (.c (.str [110, 111, 110, 101])) .nil))))
  .nil) .nil)
  (.cons (.ret (.op .add (.cons (.v 3) (.cons (.comp [6] (.one 6) (.seq (.call kfound_white (.cons (.v 0) .nil))) (.c (.bl true)) (.tup (.cons (.c (.str [119, 104, 105, 116, 101])) (.cons (.v 6) .nil)))) .nil))))
  .nil))))))⟩
def wfD (r : List Nat) : D := .tup [.str whiteS, ordD r]
theorem eqsg (a b : Nat) : Op.run2 .eq (.str [a]) (.str [b]) = some (false, .bl (decide (a = b))) := by
  show Op.eq2 false (.str [a]) (.str [b]) = _
  unfold Op.eq2
  simp only [sh, Bool.and_self, if_true, eqD_str, bout]
  by_cases h : a = b
  · subst h; simp
  · simp [h]
theorem eq_nilD {l : List D} (h : shs 49 l = true) : Op.run2 .eq (.lst l) (.lst []) = some (false, .bl l.isEmpty) := by
  show (if sh 50 (.lst l) && sh 50 (.lst []) then bout (false != eqD (.lst l) (.lst [])) else none) = _
  have e : sh 50 (.lst l) = true := h
  rw [e]
  cases l with
  | nil => rfl
  | cons x r => simp [sh, shs, eqD, eqDs, bout]
end PV
set_option Elab.async false
set_option linter.all false
set_option maxRecDepth 100000
set_option maxHeartbeats 4000000
namespace PV
def Wr {α : Type} (x : Res (α × St)) (Q : α → St → Prop) (X : Nat → Prop) : Prop := match x with
  | .ok (a, s) => Q a s
  | .exc c => X c
  | .no => False
theorem wr_bind {α β : Type} {x : Res (α × St)} {f : α × St → Res (β × St)} {Q : β → St → Prop} {X : Nat → Prop} (h : Wr x (fun a s => Wr (f (a, s)) Q X) X) : Wr (x.bind f) Q X := by
  cases x with
  | ok a => exact h
  | exc c => exact h
  | no => exact h
theorem wr_mono {α : Type} {x : Res (α × St)} {Q Q' : α → St → Prop} {X X' : Nat → Prop} (h : Wr x Q X) (hq : ∀ a s, Q a s → Q' a s) (hx : ∀ c, X c → X' c) : Wr x Q' X' := by
  cases x with
  | ok a => exact hq _ _ h
  | exc c => exact hx _ h
  | no => exact h
theorem br_f {k : Bool} {A B : Prop} (e : k = false) (h : B) : (k = true → A) ∧ (k = false → B) := ⟨fun z => absurd (e.symm.trans z) Bool.false_ne_true, fun _ => h⟩
theorem br_t {k : Bool} {A B : Prop} (e : k = true) (h : A) : (k = true → A) ∧ (k = false → B) := ⟨fun _ => h, fun z => absurd (z.symm.trans e) Bool.false_ne_true⟩
theorem rb_f {k : Bool} {A B : Prop} (e : k = false) (h : A) : (k = false → A) ∧ (k = true → B) := ⟨fun _ => h, fun z => absurd (e.symm.trans z) Bool.false_ne_true⟩
theorem rb_t {k : Bool} {A B : Prop} (e : k = true) (h : B) : (k = false → A) ∧ (k = true → B) := ⟨fun z => absurd (z.symm.trans e) Bool.false_ne_true, fun _ => h⟩
section
variable (Φ : Fns) (fl : Nat → List Bool)
abbrev We (e : E) (st : St) (Q : R → St → Prop) (X : Nat → Prop) : Prop := Wr (ev Φ fl e st) Q X
abbrev Wa (es : Es) (st : St) (Q : List R → St → Prop) (X : Nat → Prop) : Prop := Wr (evAs Φ fl es st) Q X
abbrev Wv (es : Es) (st : St) (Q : List D → St → Prop) (X : Nat → Prop) : Prop := Wr (evVs Φ fl es st) Q X
abbrev Wp (es : Es) (st : St) (Q : List R → St → Prop) (X : Nat → Prop) : Prop := Wr (evPs Φ fl es st) Q X
abbrev Wi (it : It) (st : St) (Q : List D → St → Prop) (X : Nat → Prop) : Prop := Wr (evIt Φ fl it st) Q X
abbrev Wx (ss : Ss) (st : St) (Q : Fl → St → Prop) (X : Nat → Prop) : Prop := Wr (exs Φ fl ss st) Q X
end
section
variable {Φ : Fns} {fl : Nat → List Bool} {st : St} {Q : R → St → Prop} {X : Nat → Prop} {a b c e : E} {o o' : Op} {i f : Nat} {d : D} {t : Option Nat} {es as : Es}
theorem we_c (h : Q (.val d) st) : We Φ fl (.c d) st Q X := by unfold We; rw [ev]; exact h
theorem we_v (e : slot st i = .val d) (h : Q (.val d) st) : We Φ fl (.v i) st Q X := by unfold We; rw [ev, e]; exact h
theorem we_o (e : slot st i = .own t d) (h : Q (.var i) st) : We Φ fl (.v i) st Q X := by unfold We; rw [ev, e]; exact h
theorem we_op1 (h : We Φ fl a st (fun r s => ∃ x, r.still.look s = some x ∧ ∃ z, o.run1 x = some z ∧ Q (outR z) s) X) : We Φ fl (.op o (.cons a .nil)) st Q X := by
  unfold We at *
  rw [ev, evOs]
  simp only [evOs]
  refine wr_bind (wr_bind (wr_mono h (fun r s ⟨x, h1, z, h2, h3⟩ => ?_) fun _ h => h))
  simp only [Res.bind, Wr, looks, h1, Op.run, h2]
  exact h3
theorem we_op2 (h : We Φ fl a st (fun ra s1 => We Φ fl b s1 (fun rb s => ∃ x, ra.still.look s = some x ∧ ∃ y, rb.still.look s = some y ∧ ∃ z, o.run2 x y = some z ∧ Q (outR z) s) X) X) : We Φ fl (.op o (.cons a (.cons b .nil))) st Q X := by
  unfold We at *
  rw [ev, evOs]
  simp only [evOs]
  refine wr_bind (wr_bind (wr_mono h (fun ra s1 h => ?_) fun _ h => h))
  refine wr_bind (wr_bind (wr_mono h (fun rb s ⟨x, h1, y, h2, z, h3, h4⟩ => ?_) fun _ h => h))
  simp only [Res.bind, Wr, looks, h1, h2, Op.run, h3]
  exact h4
theorem we_meth (h : We Φ fl a st (fun ra s1 => ∃ x, ra.still.look s1 = some x ∧ o.recv (kind x) = true ∧ We Φ fl b s1 (fun rb s => ra.still.look s = some x ∧ ∃ y, rb.still.look s = some y ∧ ∃ z, o.run2 x y = some z ∧ Q (outR z) s) X) X) : We Φ fl (.meth o a (.cons b .nil)) st Q X := by
  unfold We at *
  rw [ev]
  refine wr_bind (wr_mono h (fun ra s1 ⟨x, h1, h2, h⟩ => ?_) fun _ h => h)
  simp only [h1, h2, if_true]
  rw [evOs]
  refine wr_bind (wr_bind (wr_mono h (fun rb s ⟨h1', y, h3, z, h4, h5⟩ => ?_) fun _ h => h))
  simp only [evOs, Res.bind, Wr, looks, h1', h3, beq_self_eq_true, if_true, Op.run, h4]
  exact h5
theorem we_meth2 (h : We Φ fl a st (fun ra s1 => ∃ x, ra.still.look s1 = some x ∧ o.recv (kind x) = true ∧ We Φ fl b s1 (fun rb s2 => We Φ fl c s2 (fun rc s => ra.still.look s = some x ∧ ∃ y, rb.still.look s = some y ∧ ∃ w, rc.still.look s = some w ∧ ∃ z, o.run3 x y w = some z ∧ Q (outR z) s) X) X) X) : We Φ fl (.meth o a (.cons b (.cons c .nil))) st Q X := by
  unfold We at *
  rw [ev]
  refine wr_bind (wr_mono h (fun ra s1 ⟨x, h1, h2, h⟩ => ?_) fun _ h => h)
  simp only [h1, h2, if_true]
  rw [evOs]
  refine wr_bind (wr_bind (wr_mono h (fun rb s2 h => ?_) fun _ h => h))
  dsimp only
  rw [evOs]
  refine wr_bind (wr_bind (wr_mono h (fun rc s ⟨h1', y, h3, w, h3', z, h4, h5⟩ => ?_) fun _ h => h))
  simp only [evOs, Res.bind, Wr, looks, h1', h3, h3', beq_self_eq_true, if_true, Op.run, h4]
  exact h5
theorem we_to (h : We Φ fl a st (fun ra s1 => We Φ fl b s1 (fun rb s => ∃ j, rb = .val (.int j) ∧ ∃ x, ra.still.look s = some x ∧ ∃ z, Op.sl none (some j) x = some z ∧ Q (outR z) s) X) X) : We Φ fl (.slc a false e true b) st Q X := by
  unfold We at *
  rw [ev]
  refine wr_bind (wr_mono h (fun ra s1 h => ?_) fun _ h => h)
  simp only [part, if_true, Res.bind, Bool.false_eq_true, if_false]
  refine wr_bind (wr_bind (wr_mono h (fun rb s ⟨j, h1, x, h2, z, h3, h4⟩ => ?_) fun _ h => h))
  subst h1
  simp only [Wr, h2, h3]
  exact h4
theorem we_from (h : We Φ fl a st (fun ra s1 => We Φ fl b s1 (fun rb s => ∃ j, rb = .val (.int j) ∧ ∃ x, ra.still.look s = some x ∧ ∃ z, Op.sl (some j) none x = some z ∧ Q (outR z) s) X) X) : We Φ fl (.slc a true b false e) st Q X := by
  unfold We at *
  rw [ev]
  refine wr_bind (wr_mono h (fun ra s1 h => ?_) fun _ h => h)
  simp only [part, if_true, Res.bind, Bool.false_eq_true, if_false]
  refine wr_bind (wr_bind (wr_mono h (fun rb s ⟨j, h1, x, h2, z, h3, h4⟩ => ?_) fun _ h => h))
  subst h1
  simp only [Wr, h2, h3]
  exact h4
theorem we_fromto (h : We Φ fl a st (fun ra s1 => We Φ fl b s1 (fun rb s2 => ∃ j, rb = .val (.int j) ∧ We Φ fl c s2 (fun rc s => ∃ k, rc = .val (.int k) ∧ ∃ x, ra.still.look s = some x ∧ ∃ z, Op.sl (some j) (some k) x = some z ∧ Q (outR z) s) X) X) X) : We Φ fl (.slc a true b true c) st Q X := by
  unfold We at *
  rw [ev]
  refine wr_bind (wr_mono h (fun ra s1 h => ?_) fun _ h => h)
  simp only [part, if_true]
  refine wr_bind (wr_bind (wr_mono h (fun rb s2 ⟨j, h1, h⟩ => ?_) fun _ h => h))
  subst h1
  refine wr_bind (wr_bind (wr_mono h (fun rc s ⟨k, h1, x, h2, z, h3, h4⟩ => ?_) fun _ h => h))
  subst h1
  simp only [Wr, h2, h3]
  exact h4
theorem we_and (h : We Φ fl a st (fun r s => ∃ k, r = .val (.bl k) ∧ (k = true → We Φ fl b s Q X) ∧ (k = false → Q (.val (.bl false)) s)) X) : We Φ fl (.and a b) st Q X := by
  unfold We at *
  rw [ev]
  refine wr_bind (wr_mono h (fun r s ⟨k, h1, h2, h3⟩ => ?_) fun _ h => h)
  subst h1
  cases k with
  | true => exact h2 rfl
  | false => exact h3 rfl
theorem we_or (h : We Φ fl a st (fun r s => ∃ k, r = .val (.bl k) ∧ (k = false → We Φ fl b s Q X) ∧ (k = true → Q (.val (.bl true)) s)) X) : We Φ fl (.or a b) st Q X := by
  unfold We at *
  rw [ev]
  refine wr_bind (wr_mono h (fun r s ⟨k, h1, h2, h3⟩ => ?_) fun _ h => h)
  subst h1
  cases k with
  | true => exact h3 rfl
  | false => exact h2 rfl
theorem we_not (h : We Φ fl a st (fun r s => ∃ k, r = .val (.bl k) ∧ Q (.val (.bl (!k))) s) X) : We Φ fl (.not a) st Q X := by
  unfold We at *
  rw [ev]
  refine wr_bind (wr_mono h (fun r s ⟨k, h1, h2⟩ => ?_) fun _ h => h)
  subst h1
  exact h2
theorem we_ite (h : We Φ fl c st (fun r s => ∃ k, r = .val (.bl k) ∧ (k = true → We Φ fl a s Q X) ∧ (k = false → We Φ fl b s Q X)) X) : We Φ fl (.ite c a b) st Q X := by
  unfold We at *
  rw [ev]
  refine wr_bind (wr_mono h (fun r s ⟨k, h1, h2, h3⟩ => ?_) fun _ h => h)
  subst h1
  cases k with
  | true => exact h2 rfl
  | false => exact h3 rfl
/-- a op b op' c -/
theorem we_chain (h : We Φ fl a st (fun ra s1 => ∃ x, ra = .val x ∧ We Φ fl b s1 (fun rb s2 => ∃ y, rb = .val y ∧ ∃ k, o.run2 x y = some (false, .bl k) ∧ (k = false → Q (.val (.bl false)) s2) ∧ (k = true → We Φ fl c s2 (fun rc s => ∃ z, rc = .val z ∧ ∃ k', o'.run2 y z = some (false, .bl k') ∧ Q (.val (.bl k')) s) X)) X) X) : We Φ fl (.chain o o' a b c) st Q X := by
  unfold We at *
  rw [ev]
  refine wr_bind (wr_mono h (fun ra s1 ⟨x, h1, h⟩ => ?_) fun _ h => h)
  subst h1
  refine wr_bind (wr_mono h (fun rb s2 ⟨y, h1, k, h2, h3, h4⟩ => ?_) fun _ h => h)
  subst h1
  dsimp only [Op.run]
  rw [h2]
  cases k with
  | false => exact h3 rfl
  | true =>
    refine wr_bind (wr_mono (h4 rfl) (fun rc s ⟨z, h1, k', h5, h6⟩ => ?_) fun _ h => h)
    subst h1
    dsimp only [Op.run]
    rw [h5]
    exact h6
theorem wv_nil {Q : List D → St → Prop} (h : Q [] st) : Wv Φ fl .nil st Q X := by unfold Wv; rw [evVs]; exact h
theorem wv_cons {Q : List D → St → Prop} (h : We Φ fl e st (fun r s1 => ∃ d s2, r.keep s1 = some (d, s2) ∧ Wv Φ fl es s2 (fun ds s3 => Q (d :: ds) s3) X) X) : Wv Φ fl (.cons e es) st Q X := by
  unfold Wv We at *
  rw [evVs]
  refine wr_bind (wr_mono h (fun r s1 ⟨d, s2, h1, h2⟩ => ?_) fun _ h => h)
  simp only [h1]
  exact wr_bind h2
theorem we_tup (h : Wv Φ fl es st (fun ds s => Nat.ble ds.length sizeL = true ∧ Q (.val (.tup ds)) s) X) : We Φ fl (.tup es) st Q X := by
  unfold We Wv at *
  rw [ev]
  refine wr_bind (wr_mono h (fun ds s ⟨h1, h2⟩ => ?_) fun _ h => h)
  simp only [h1, if_true]
  exact h2
theorem we_lst (h : Wv Φ fl es st (fun ds s => Nat.ble ds.length sizeL = true ∧ Q (.fresh (.lst ds)) s) X) : We Φ fl (.lst es) st Q X := by
  unfold We Wv at *
  rw [ev]
  refine wr_bind (wr_mono h (fun ds s ⟨h1, h2⟩ => ?_) fun _ h => h)
  simp only [h1, if_true]
  exact h2
theorem we_dict0 (h : Q (.fresh (.dct [])) st) : We Φ fl (.dict .nil) st Q X := by
  unfold We; rw [ev, evVs]; exact h
theorem wa_nil {Q : List R → St → Prop} (h : Q [] st) : Wa Φ fl .nil st Q X := by unfold Wa; rw [evAs]; exact h
theorem wa_cons {Q : List R → St → Prop} (h : We Φ fl e st (fun r s1 => Wa Φ fl es s1 (fun rs s2 => Q (r :: rs) s2) X) X) : Wa Φ fl (.cons e es) st Q X := by
  unfold Wa We at *
  rw [evAs]
  exact wr_bind (wr_mono h (fun r s1 h1 => wr_bind h1) fun _ h => h)
/-- how a def answers -/
def Wc (Q : R → St → Prop) (X : Nat → Prop) (ws : List (Option Nat)) (s2 : St) : Res (Ret × List Sl) → Prop
  | .ok (r, os) => ∃ s3, outs 0 ws os s2 = some s3 ∧ Q (retR r) s3
  | .exc c => X c
  | .no => False
theorem wc_ok {x : Res (Ret × List Sl)} {r : Ret} {os : List Sl} {ws : List (Option Nat)} {s2 s3 : St} (e : x = .ok (r, os)) (ho : outs 0 ws os s2 = some s3) (h : Q (retR r) s3) : Wc Q X ws s2 x := by rw [e]; exact ⟨s3, ho, h⟩
theorem we_call {flg : List Bool} (hf : fl f = flg) (h : Wa Φ fl as st (fun rs s1 => ∃ ars ws s2, args flg rs s1 = some (ars, ws, s2) ∧ Wc Q X ws s2 (Φ f ars)) X) : We Φ fl (.call f as) st Q X := by
  unfold We Wa at *
  rw [ev]
  refine wr_bind (wr_mono h (fun rs s1 ⟨ars, ws, s2, h1, h2⟩ => ?_) fun _ h => h)
  dsimp only
  rw [hf, h1]
  dsimp only
  cases q : Φ f ars with
  | no => rw [q] at h2; exact h2.elim
  | exc c => rw [q] at h2; exact h2
  | ok y =>
    obtain ⟨r, os⟩ := y
    rw [q] at h2
    obtain ⟨s3, h3, h4⟩ := h2
    simp only [Res.bind, h3]
    exact h4
theorem we_app {xs0 : List D} (h0 : slot st i = .own t (.lst xs0)) (h : We Φ fl e st (fun r s1 => ∃ d s2, r.keep s1 = some (d, s2) ∧ ∃ t xs, slot s2 i = .own t (.lst xs) ∧ xs.length < sizeL ∧ Q (.val .non) (s2.set i (.own t (.lst (xs ++ [d]))))) X) : We Φ fl (.app i e) st Q X := by
  unfold We at *
  rw [ev, h0]
  refine wr_bind (wr_mono h (fun r s1 ⟨d, s2, h1, t, xs, h2, h3, h4⟩ => ?_) fun _ h => h)
  have hz : Nat.blt xs.length sizeL = true := Nat.ble_eq_true_of_le h3
  simp only [h1, h2, hz, if_true]
  exact h4
theorem we_ext {xs0 : List D} (h0 : slot st i = .own t (.lst xs0)) (h : We Φ fl e st (fun r s1 => ∃ ds s2, r.keep s1 = some (.lst ds, s2) ∧ ∃ t xs, slot s2 i = .own t (.lst xs) ∧ xs.length + ds.length ≤ sizeL ∧ Q (.val .non) (s2.set i (.own t (.lst (xs ++ ds))))) X) : We Φ fl (.ext i e) st Q X := by
  unfold We at *
  rw [ev, h0]
  refine wr_bind (wr_mono h (fun r s1 ⟨d, s2, h1, t, xs, h2, h3, h4⟩ => ?_) fun _ h => h)
  have hz : Nat.ble (xs.length + d.length) sizeL = true := Nat.ble_eq_true_of_le h3
  simp only [h1, h2, hz, if_true]
  exact h4
theorem we_pop {xs : List D} (h0 : slot st i = .own t (.lst xs)) (hd : xs.getLast? = some d) (h : Q (.val d) (st.set i (.own t (.lst xs.dropLast)))) : We Φ fl (.pop i) st Q X := by
  unfold We
  rw [ev, h0]
  simp only [hd]
  exact h
theorem wi_seq {Q : List D → St → Prop} (h : We Φ fl e st (fun r s1 => ∃ d s2, r.keep s1 = some (d, s2) ∧ ∃ xs, Op.seqOf d = some xs ∧ Q xs s2) X) : Wi Φ fl (.seq e) st Q X := by
  unfold Wi We at *
  rw [evIt]
  refine wr_bind (wr_mono h (fun r s1 ⟨d, s2, h1, xs, h2, h3⟩ => ?_) fun _ h => h)
  simp only [h1, h2]
  exact h3
theorem wi_enum {Q : List D → St → Prop} (h : We Φ fl e st (fun r s1 => ∃ d s2, r.keep s1 = some (d, s2) ∧ ∃ xs, Op.seqOf d = some xs ∧ Q (enumD 0 xs) s2) X) : Wi Φ fl (.enum e) st Q X := by
  unfold Wi We at *
  rw [evIt]
  refine wr_bind (wr_mono h (fun r s1 ⟨d, s2, h1, xs, h2, h3⟩ => ?_) fun _ h => h)
  simp only [h1, h2]
  exact h3
theorem wi_zip {Q : List D → St → Prop} (h : We Φ fl a st (fun r s1 => ∃ d s2, r.keep s1 = some (d, s2) ∧ We Φ fl b s2 (fun r' s3 => ∃ d' s4, r'.keep s3 = some (d', s4) ∧ ∃ xs, Op.seqOf d = some xs ∧ ∃ ys, Op.seqOf d' = some ys ∧ Q (zipD xs ys) s4) X) X) : Wi Φ fl (.zip a b) st Q X := by
  unfold Wi We at *
  rw [evIt]
  refine wr_bind (wr_mono h (fun r s1 ⟨d, s2, h1, h⟩ => ?_) fun _ h => h)
  simp only [h1]
  refine wr_bind (wr_mono h (fun r s1 ⟨d, s2, h1, xs, h2, ys, h3, h4⟩ => ?_) fun _ h => h)
  simp only [h1, h2, h3]
  exact h4
theorem wi_rng1 {Q : List D → St → Prop} (h : We Φ fl e st (fun r s => ∃ n, r = .val (.int n) ∧ ∃ xs, rngOk 0 n = some xs ∧ Q xs s) X) : Wi Φ fl (.rng1 e) st Q X := by
  unfold Wi We at *
  rw [evIt]
  refine wr_bind (wr_mono h (fun r s ⟨n, h1, xs, h2, h3⟩ => ?_) fun _ h => h)
  subst h1
  simp only [h2]
  exact h3
theorem wi_rng2 {Q : List D → St → Prop} (h : We Φ fl a st (fun r s1 => ∃ lo, r = .val (.int lo) ∧ We Φ fl b s1 (fun r' s => ∃ hi, r' = .val (.int hi) ∧ ∃ xs, rngOk lo hi = some xs ∧ Q xs s) X) X) : Wi Φ fl (.rng2 a b) st Q X := by
  unfold Wi We at *
  rw [evIt]
  refine wr_bind (wr_mono h (fun r s1 ⟨lo, h1, h⟩ => ?_) fun _ h => h)
  subst h1
  refine wr_bind (wr_mono h (fun r s ⟨hi, h1, xs, h2, h3⟩ => ?_) fun _ h => h)
  subst h1
  simp only [h2]
  exact h3
end
section
variable {Φ : Fns} {fl : Nat → List Bool} {st : St} {Q : Fl → St → Prop} {X : Nat → Prop} {a b c e k : E} {i : Nat} {m : Bool} {r ta tb : Ss} {es : Es}
theorem wx_nil (h : Q .next st) : Wx Φ fl .nil st Q X := by unfold Wx; rw [exs]; exact h
theorem wx_cons {s : S} (h : Wr (ex Φ fl s st) (fun f s1 => match f with | .next => Wx Φ fl r s1 Q X | .ret v => Q (.ret v) s1) X) : Wx Φ fl (.cons s r) st Q X := by
  unfold Wx at *
  rw [exs]
  refine wr_bind (wr_mono h (fun f s1 h => ?_) fun _ h => h)
  cases f with
  | next => exact h
  | ret v => exact h
theorem wx_set (h : We Φ fl e st (fun v s1 => ∃ s2, bindS i m v s1 = some s2 ∧ Wx Φ fl r s2 Q X) X) : Wx Φ fl (.cons (.set i m e) r) st Q X := by
  refine wx_cons ?_
  rw [ex]
  refine wr_bind (wr_mono h (fun v s1 ⟨s2, h1, h2⟩ => ?_) fun _ h => h)
  simp only [h1]
  exact h2
theorem wx_unpack {is : List Nat} (h : We Φ fl e st (fun v s1 => ∃ ds s2, v.keep s1 = some (.tup ds, s2) ∧ ∃ s3, tgs is ds s2 = some s3 ∧ Wx Φ fl r s3 Q X) X) : Wx Φ fl (.cons (.unpack is e) r) st Q X := by
  refine wx_cons ?_
  rw [ex]
  refine wr_bind (wr_mono h (fun v s1 ⟨ds, s2, h1, s3, h2, h3⟩ => ?_) fun _ h => h)
  simp only [h1, h2]
  exact h3
theorem wp_nil' {Q : List R → St → Prop} (h : Q [] st) : Wp Φ fl .nil st Q X := by unfold Wp; rw [evPs]; exact h
theorem wp_cons' {Q : List R → St → Prop} (h : We Φ fl e st (fun v s1 => ∃ v' s2, keepV s1 v = some (v', s2) ∧ Wp Φ fl es s2 (fun rs s3 => Q (v' :: rs) s3) X) X) : Wp Φ fl (.cons e es) st Q X := by
  unfold Wp We at *
  rw [evPs]
  refine wr_bind (wr_mono h (fun v s1 ⟨v', s2, h1, h2⟩ => ?_) fun _ h => h)
  simp only [h1]
  exact wr_bind h2
theorem wx_par {is : List (Nat × Bool)} (h : Wp Φ fl es st (fun rs s1 => ∃ s2, bindSs is rs s1 = some s2 ∧ Wx Φ fl r s2 Q X) X) : Wx Φ fl (.cons (.par is es) r) st Q X := by
  refine wx_cons ?_
  rw [ex]
  refine wr_bind (wr_mono h (fun v s1 ⟨s2, h1, h2⟩ => ?_) fun _ h => h)
  simp only [h1]
  exact h2
theorem wx_ex (h : We Φ fl e st (fun _ s1 => Wx Φ fl r s1 Q X) X) : Wx Φ fl (.cons (.ex e) r) st Q X := by
  refine wx_cons ?_
  rw [ex]
  exact wr_bind h
theorem wx_ret (h : We Φ fl e st (fun v s1 => ∃ w s2, retOf s1 v = some (w, s2) ∧ Q (.ret w) s2) X) : Wx Φ fl (.cons (.ret e) r) st Q X := by
  refine wx_cons ?_
  rw [ex]
  refine wr_bind (wr_mono h (fun v s1 ⟨w, s2, h1, h2⟩ => ?_) fun _ h => h)
  simp only [h1]
  exact h2
theorem wx_ite (h : We Φ fl c st (fun v s1 => ∃ k, v = .val (.bl k) ∧ (k = true → Wx Φ fl ta s1 (fun f s2 => match f with | .next => Wx Φ fl r s2 Q X | .ret v => Q (.ret v) s2) X) ∧ (k = false → Wx Φ fl tb s1 (fun f s2 => match f with | .next => Wx Φ fl r s2 Q X | .ret v => Q (.ret v) s2) X)) X) : Wx Φ fl (.cons (.ite c ta tb) r) st Q X := by
  refine wx_cons ?_
  rw [ex]
  refine wr_bind (wr_mono h (fun v s1 ⟨k, h1, h2, h3⟩ => ?_) fun _ h => h)
  subst h1
  cases k with
  | true => exact h2 rfl
  | false => exact h3 rfl
theorem wx_setItem (h : We Φ fl e st (fun v s1 => ∃ d s2, v.keep s1 = some (d, s2) ∧ (slot s2 i).has = true ∧ We Φ fl k s2 (fun v s3 => ∃ kd s4, v.keep s3 = some (kd, s4) ∧
    ((∃ t xs j n, slot s4 i = .own t (.lst xs) ∧ kd = .int j ∧ ix xs.length j = some n ∧ Wx Φ fl r (s4.set i (.own t (.lst (xs.set n d)))) Q X) ∨ (∃ t kvs, slot s4 i = .own t (.dct kvs) ∧ tkey kd = true ∧ kvs.length < sizeL ∧ Wx Φ fl r (s4.set i (.own t (.dct (dput kd d kvs)))) Q X))) X) X) : Wx Φ fl (.cons (.setItem i k e) r) st Q X := by
  refine wx_cons ?_
  rw [ex]
  refine wr_bind (wr_mono h (fun v s1 ⟨d, s2, h1, h2, h3⟩ => ?_) fun _ h => h)
  simp only [h1, h2, if_true]
  refine wr_bind (wr_mono h3 (fun v s3 ⟨kd, s4, h1, h2⟩ => ?_) fun _ h => h)
  simp only [h1]
  rcases h2 with ⟨t, xs, j, n, h4, h5, h6, h7⟩ | ⟨t, kvs, h4, h5, h6, h7⟩
  · subst h5
    simp only [h4, h6]
    exact h7
  · have hz : Nat.blt kvs.length sizeL = true := Nat.ble_eq_true_of_le h6
    simp only [h4, h5, hz, Bool.and_self, if_true]
    exact h7
/-- a loop: what holds ahead of each turn; a turn goes on, or leaves -/
theorem wx_for {t : Tg} {it : It} {body : Ss} (I : Nat → St → Prop) (h : Wi Φ fl it st (fun xs s1 => I 0 s1 ∧ (∀ i x s, xs[i]? = some x → I i s → ∃ s2, t.set x s = some s2 ∧ Wx Φ fl body s2 (fun f s3 => match f with | .next => I (i + 1) s3 | .ret v => Q (.ret v) s3) X) ∧ ∀ s, I xs.length s → Wx Φ fl r s Q X) X) : Wx Φ fl (.cons (.for t it body) r) st Q X := by
  refine wx_cons ?_
  rw [ex]
  refine wr_bind (wr_mono h (fun xs s1 ⟨h0, h1, h2⟩ => ?_) fun _ h => h)
  have key : ∀ (ys : List D) (k : Nat) (s : St), (∀ j, ys[j]? = xs[k + j]?) → k + ys.length = xs.length → I k s → Wr (loop t (exs Φ fl body) ys s) (fun f s3 => match f with | .next => I xs.length s3 | .ret v => Q (.ret v) s3) X := by
    intro ys
    induction ys with
    | nil => intro k s _ e hI; simp only [loop, Wr]; simp at e; subst e; exact hI
    | cons y ys ih =>
      intro k s hj e hI
      obtain ⟨s2, e1, e2⟩ := h1 k y s (by have := hj 0; simpa using this.symm) hI
      simp only [loop, e1]
      refine wr_bind (wr_mono e2 (fun f s3 h => ?_) fun _ h => h)
      cases f with
      | next => exact ih (k + 1) s3 (fun j => by have := hj (j + 1); rw [List.getElem?_cons_succ] at this; rw [this]; congr 1; omega) (by simp at e; omega) h
      | ret v => exact h
  refine wr_mono (key xs 0 s1 (fun j => by simp) (by simp) h0) (fun f s3 h => ?_) fun _ h => h
  cases f with
  | next => exact h2 s3 h
  | ret v => exact h
/-- while: what holds ahead of each turn, and how many turns are left -/
theorem wx_while {body : Ss} (I : Nat → St → Prop) {n : Nat} (hn : n < wfuel) (h0 : I n st) (h : ∀ n s, I n s → We Φ fl c s (fun v s1 => ∃ k, v = .val (.bl k) ∧ (k = true → Wx Φ fl body s1 (fun f s3 => match f with | .next => ∃ n', n' < n ∧ I n' s3 | .ret v => Q (.ret v) s3) X) ∧ (k = false → Wx Φ fl r s1 Q X)) X) : Wx Φ fl (.cons (.while c body) r) st Q X := by
  refine wx_cons ?_
  rw [ex]
  have key : ∀ (N n : Nat) (s : St), n < N → I n s → Wr (whileN (ev Φ fl c) (exs Φ fl body) N s) (fun f s1 => match f with | .next => Wx Φ fl r s1 Q X | .ret v => Q (.ret v) s1) X := by
    intro N
    induction N with
    | zero => intro n s hn; omega
    | succ N ih =>
      intro n s hn hI
      rw [whileN]
      refine wr_bind (wr_mono (h n s hI) (fun v s1 ⟨k, h1, h2, h3⟩ => ?_) fun _ h => h)
      subst h1
      cases k with
      | true =>
        refine wr_bind (wr_mono (h2 rfl) (fun f s3 h => ?_) fun _ h => h)
        cases f with
        | next =>
          obtain ⟨n', e1, e2⟩ := h
          exact ih n' s3 (by omega) e2
        | ret v => exact h
      | false => exact h3 rfl
  exact key wfuel n st hn h0
end
section
variable {Φ : Fns} {fl : Nat → List Bool}
/-- a def from its body -/
theorem wf_ok {f : Fn} {as : List Ar} {v : Ret} {os : List Sl} (hl : as.length = f.np) (h : Wx Φ fl f.body (start 0 as ++ List.replicate (f.ns - f.np) .none) (fun w s => finish f.np (w, s) = (v, os)) (fun _ => False)) : runFn fl Φ f as = .ok (v, os) := by
  unfold Wx Wr at h
  split at h
  · rename_i w s q
    rw [runFn, if_pos (by simpa using hl), q]
    show Res.ok (finish f.np (w, s)) = _
    rw [h]
  · exact h.elim
  · exact h.elim
theorem wf_ex {f : Fn} {as : List Ar} {v : Ret} (hl : as.length = f.np) (h : Wx Φ fl f.body (start 0 as ++ List.replicate (f.ns - f.np) .none) (fun w s => (finish f.np (w, s)).1 = v) (fun _ => False)) : ∃ os, runFn fl Φ f as = .ok (v, os) := by
  unfold Wx Wr at h
  split at h
  · rename_i w s q
    rw [runFn, if_pos (by simpa using hl), q]
    refine ⟨(finish f.np (w, s)).2, ?_⟩
    show Res.ok (finish f.np (w, s)) = _
    rw [← h]
  · exact h.elim
  · exact h.elim
end
end PV
set_option Elab.async false
set_option linter.all false
set_option maxRecDepth 100000
set_option maxHeartbeats 4000000
namespace PV
def natsD (n : Nat) : List D := (List.range n).map fun (k : Nat) => .int (k : Int)
theorem rng_shift : ∀ (n : Nat) (lo : Int), rng lo n = (List.range n).map fun (k : Nat) => .int (lo + (k : Int))
  | 0, _ => rfl
  | n + 1, lo => by
    rw [rng, rng_shift n, List.range_succ_eq_map, List.map_cons, List.map_map]
    congr 1
    · simp
    · refine List.map_congr_left fun k _ => ?_
      show D.int (lo + 1 + (k : Int)) = D.int (lo + ((k + 1 : Nat) : Int))
      congr 1; omega
theorem rng_nat {n : Nat} (h : n ≤ 1000000) : rngOk 0 (n : Int) = some (natsD n) := by
  unfold rngOk natsD
  rw [if_pos (by simp; omega), rng_shift]
  congr 2
  · funext k; congr 1; omega
theorem rng_from {a b : Nat} (h : a ≤ 1000000) (h2 : b ≤ 1000000) : rngOk (a : Int) (b : Int) = some ((List.range (b - a)).map fun (k : Nat) => .int ((a + k : Nat) : Int)) := by
  unfold rngOk
  rw [if_pos (by simp; omega), rng_shift]
  have e : ((b : Int) - (a : Int)).toNat = b - a := by omega
  rw [e]
  congr 1
theorem nats_at {n i : Nat} {x : D} (h : (natsD n)[i]? = some x) : x = .int (i : Int) ∧ i < n := by
  unfold natsD at h
  rw [List.getElem?_map] at h
  obtain ⟨k, h1, h2⟩ := Option.map_eq_some_iff.mp h
  obtain ⟨h3, h4⟩ := List.getElem?_eq_some_iff.mp h1
  rw [List.length_range] at h3
  rw [List.getElem_range] at h4
  subst h4
  exact ⟨h2.symm, h3⟩
theorem nats_len (n : Nat) : (natsD n).length = n := by simp [natsD]
theorem map_at {α : Type} {f : α → D} {ys : List α} {i : Nat} {x : D} (h : (ys.map f)[i]? = some x) : ∃ y, ys[i]? = some y ∧ x = f y ∧ y ∈ ys ∧ i < ys.length := by
  rw [List.getElem?_map] at h
  obtain ⟨k, h1, h2⟩ := Option.map_eq_some_iff.mp h
  exact ⟨k, h1, h2.symm, List.mem_of_getElem? h1, (List.getElem?_eq_some_iff.mp h1).1⟩
section
variable {Φ : Fns} {fl : Nat → List Bool} {st : St} {Q : R → St → Prop} {X : Nat → Prop} {c e : E} {vs : List Nat} {tg : Tg} {it : It} {α : Type}
def cbd (Φ : Fns) (fl : Nat → List Bool) (vs : List Nat) (c e : E) : St → Res (Option D × St) := fun s => (ev Φ fl c s).bind fun (r, s1) => match r with
  | .val (.bl true) => (ev Φ fl e s1).bind fun (r, s2) => (match r.keep s2 with
    | some (d, s3) => .ok (some d, wipe s3 vs)
    | none => .no)
  | .val (.bl false) => .ok (none, wipe s1 vs)
  | _ => .no
theorem cbd_of {s s0 : St} {k : Bool} {d : D} (h : We Φ fl c s (fun r s => r = .val (.bl k) ∧ (k = true → We Φ fl e s (fun r s => ∃ d' s3, r.keep s = some (d', s3) ∧ d' = d ∧ wipe s3 vs = s0) (fun _ => False)) ∧ (k = false → wipe s vs = s0)) (fun _ => False)) : cbd Φ fl vs c e s = .ok (if k then some d else none, s0) := by
  unfold cbd
  unfold We Wr at h
  split at h
  · rename_i r s1 q
    rw [q]
    obtain ⟨rfl, k3, k4⟩ := h
    dsimp only [Res.bind]
    cases k with
    | true =>
      have k3 := k3 rfl
      split at k3
      · rename_i r2 s5 q2
        obtain ⟨d', s3, e1, e2, e3⟩ := k3
        dsimp only
        rw [q2]
        dsimp only [Res.bind]
        rw [e1]
        dsimp only
        rw [e3, e2]; rfl
      · exact k3.elim
      · exact k3.elim
    | false =>
      dsimp only
      rw [k4 rfl]; rfl
  · exact h.elim
  · exact h.elim
theorem turns_cbd (f : α → D) (p : α → Bool) (g : α → D) {body : St → Res (Option D × St)} {s0 : St} : ∀ ys : List α, (∀ y ∈ ys, ∃ s2, tg.set (f y) s0 = some s2 ∧ body s2 = .ok (if p y then some (g y) else none, s0)) → turns tg body (ys.map f) s0 = .ok ((ys.filter p).map g, s0)
  | [], _ => rfl
  | y :: ys, h => by
    have ih := turns_cbd f p g ys fun z hz => h z (List.mem_cons_of_mem _ hz)
    obtain ⟨s2, k1, k2⟩ := h y List.mem_cons_self
    rw [List.map_cons, turns, k1]
    dsimp only
    rw [k2]
    dsimp only [Res.bind]
    rw [ih]
    dsimp only
    rw [List.filter_cons]
    cases p y <;> rfl
theorem we_compM (ys : List α) (f : α → D) (p : α → Bool) (g : α → D)
    (h : Wi Φ fl it st (fun xs s1 => xs = ys.map f ∧ noOwn s1 vs = true ∧ back s1 (wipe s1 vs) vs = s1 ∧ ys.length ≤ sizeL ∧ (∀ y ∈ ys, ∃ s2, tg.set (f y) (wipe s1 vs) = some s2 ∧ We Φ fl c s2 (fun r s => r = .val (.bl (p y)) ∧ (p y = true → We Φ fl e s (fun r s => ∃ d s3, r.keep s = some (d, s3) ∧ d = g y ∧ wipe s3 vs = wipe s1 vs) (fun _ => False)) ∧ (p y = false → wipe s vs = wipe s1 vs)) (fun _ => False)) ∧ Q (.fresh (.lst ((ys.filter p).map g))) s1) X) : We Φ fl (.comp vs tg it c e) st Q X := by
  unfold We Wi at *
  rw [ev]
  refine wr_bind (wr_mono h (fun xs s1 ⟨h0, h1, h3, h5, h4, h6⟩ => ?_) fun _ h => h)
  subst h0
  dsimp only
  rw [if_pos h1]
  have key := turns_cbd (tg := tg) f p g (body := cbd Φ fl vs c e) (s0 := wipe s1 vs) ys fun y hy => by
    obtain ⟨s2, k1, k2⟩ := h4 y hy
    exact ⟨s2, k1, cbd_of k2⟩
  have hz : Nat.ble ((ys.filter p).map g).length sizeL = true := Nat.ble_eq_true_of_le (by rw [List.length_map]; exact Nat.le_trans (List.length_filter_le _ _) h5)
  show Wr ((turns tg (cbd Φ fl vs c e) (ys.map f) (wipe s1 vs)).calm.bind fun (ds, st2) => if Nat.ble ds.length sizeL then .ok (R.fresh (.lst ds), back s1 st2 vs) else .no) Q X
  rw [key]
  simp only [Res.calm, Res.bind, Wr, hz, if_true, h3]
  exact h6
/-- without a test -/
theorem we_compU (ys : List α) (f : α → D) (g : α → D)
    (h : Wi Φ fl it st (fun xs s1 => xs = ys.map f ∧ noOwn s1 vs = true ∧ back s1 (wipe s1 vs) vs = s1 ∧ ys.length ≤ sizeL ∧ (∀ y ∈ ys, ∃ s2, tg.set (f y) (wipe s1 vs) = some s2 ∧ We Φ fl e s2 (fun r s => ∃ d s3, r.keep s = some (d, s3) ∧ d = g y ∧ wipe s3 vs = wipe s1 vs) (fun _ => False)) ∧ Q (.fresh (.lst (ys.map g))) s1) X) : We Φ fl (.comp vs tg it (.c (.bl true)) e) st Q X := by
  refine we_compM ys f (fun _ => true) g (wr_mono h (fun xs s1 ⟨h0, h1, h3, h5, h4, h6⟩ => ⟨h0, h1, h3, h5, fun y hy => ?_, ?_⟩) fun _ h => h)
  · obtain ⟨s2, k1, k2⟩ := h4 y hy
    exact ⟨s2, k1, we_c ⟨rfl, fun _ => k2, fun z => nomatch z⟩⟩
  · rw [List.filter_eq_self.mpr fun _ _ => rfl]; exact h6
end
end PV
set_option Elab.async false
set_option linter.all false
set_option maxRecDepth 100000
set_option maxHeartbeats 4000000
namespace PV
def tot (l : List Int) : Int := sumF (fun x => x) l
end PV
set_option Elab.async false
set_option linter.all false
set_option maxRecDepth 100000
set_option maxHeartbeats 4000000
namespace PV
def Fsign_of : Fn := ⟨1, 4, (.cons (.set 1 true (.op .sortedSet (.cons (.comp [2, 3] (.many [2, 3]) (.seq (.v 0)) (.c (.bl true)) (.v 3)) .nil)))
  (.cons (.ite (.op .eq (.cons (.v 1) (.cons (.lst .nil) .nil))) (.cons (.ret (.c (.str [48])))
  .nil) .nil)
  (.cons (.ret (.ite (.op .eq (.cons (.op .len (.cons (.v 1) .nil)) (.cons (.c (.int 1)) .nil))) (.op .idx (.cons (.v 1) (.cons (.c (.int 0)) .nil))) (.c .non)))
  .nil)))⟩
def Ffound_sure (ksign_of kfound_terms : Nat) : Fn := ⟨1, 1, (.cons (.ret (.call ksign_of (.cons (.call kfound_terms (.cons (.v 0) .nil)) .nil)))
  .nil)⟩
end PV
set_option Elab.async false
set_option linter.all false
set_option maxRecDepth 100000
set_option maxHeartbeats 4000000
namespace PV
end PV
set_option Elab.async false
set_option linter.all false
set_option maxRecDepth 100000
set_option maxHeartbeats 4000000
namespace PV
end PV
set_option Elab.async false
set_option linter.all false
set_option maxRecDepth 100000
set_option maxHeartbeats 4000000
namespace PV
end PV
set_option Elab.async false
set_option linter.all false
set_option maxRecDepth 100000
set_option maxHeartbeats 4000000
namespace PV
theorem cellT {m n i j : Nat} {w : Web} (hw : okT m n w) (hi : i < m) (hj : j < n) : (w.getD i [])[j]? = some (cell w i j) := by
  have h3 := row_len hw hi
  unfold cell
  rw [List.getD_eq_getElem?_getD (l := w.getD i []), List.getElem?_eq_getElem (by omega)]; rfl
end PV
set_option Elab.async false
set_option linter.all false
set_option maxRecDepth 100000
set_option maxHeartbeats 4000000
namespace PV
end PV
set_option Elab.async false
set_option linter.all false
set_option maxRecDepth 100000
set_option maxHeartbeats 4000000
namespace PV
end PV
set_option Elab.async false
set_option linter.all false
set_option maxRecDepth 100000
set_option maxHeartbeats 4000000
namespace PV
inductive Chg | brake (i : Nat) | cut (i j : Nat)
  deriving DecidableEq
theorem int_beq (i j : Nat) : ((i : Int) == (j : Int)) = (i == j) := by
  rw [Bool.eq_iff_iff, beq_iff_eq, beq_iff_eq]; omega
theorem eqD_nat (i j : Nat) : eqD (.int (i : Int)) (.int (j : Int)) = decide (i = j) := by
  rw [eqD, int_beq]; rfl
def okI (n : Nat) : Chg → Prop
  | .brake i => i < n
  | .cut i j => i < n ∧ j < n
end PV
set_option Elab.async false
set_option linter.all false
set_option maxRecDepth 100000
set_option maxHeartbeats 4000000
namespace PV
def Fwith_sign : Fn := ⟨4, 5, (.cons (.set 4 true (.op .add (.cons (.op .add (.cons (.slc (.op .idx (.cons (.v 0) (.cons (.v 1) .nil))) false (.c .non) true (.v 2)) (.cons (.v 3) .nil))) (.cons (.slc (.op .idx (.cons (.v 0) (.cons (.v 1) .nil))) true (.op .add (.cons (.v 2) (.cons (.c (.int 1)) .nil))) false (.c .non)) .nil))))
  (.cons (.ret (.op .add (.cons (.op .add (.cons (.slc (.v 0) false (.c .non) true (.v 1)) (.cons (.tup (.cons (.v 4) .nil)) .nil))) (.cons (.slc (.v 0) true (.op .add (.cons (.v 1) (.cons (.c (.int 1)) .nil))) false (.c .non)) .nil))))
  .nil))⟩
/-- a change of a web -/
def okCh (n : Nat) (w : Web) : Chg → Prop
  | .brake i => i < n
  | .cut i j => i < n ∧ j < n ∧ i ≠ j ∧ cell w i j ≠ 48
theorem okCh.i {n : Nat} {w : Web} {c : Chg} (h : okCh n w c) : okI n c := by
  cases c with
  | brake i => exact h
  | cut i j => exact ⟨h.1, h.2.1⟩
end PV
set_option Elab.async false
set_option linter.all false
set_option maxRecDepth 100000
set_option maxHeartbeats 4000000
namespace PV
def hdR (r : List Nat) : Nat := r.getD 0 0
def laR (r : List Nat) : Nat := r.getD (r.length - 1) 0
/-- what may follow -/
def extR (n : Nat) (w : Web) (r : List Nat) : List Nat := ((List.range (n - (hdR r + 1))).map fun i => hdR r + 1 + i).filter fun x => !r.contains x && cell w x (laR r) != 48
def closeB (w : Web) (r : List Nat) : Bool := decide (1 < r.length) && cell w (hdR r) (laR r) != 48
/-- the rings that begin with a row -/
def subR (n : Nat) (w : Web) : Nat → List Nat → List (List Nat)
  | 0, r => if closeB w r then [r] else []
  | k + 1, r => (if closeB w r then [r] else []) ++ (extR n w r).flatMap fun x => subR n w k (r ++ [x])
def subF (n : Nat) (w : Web) (r : List Nat) : List (List Nat) := subR n w (n - r.length) r
def totR (n : Nat) (w : Web) : List (List Nat) := (List.range n).flatMap fun i => subF n w [i]
def ringsL (n : Nat) (w : Web) : List (List Nat) := isort ltO (totR n w)
theorem extR_ok {n : Nat} {w : Web} {r : List Nat} (hr : okR n r) : ∀ x ∈ extR n w r, x < n ∧ x ∉ r := fun x hx => by
  obtain ⟨h1, h2⟩ := List.mem_filter.mp hx
  obtain ⟨i, hi, rfl⟩ := List.mem_map.mp h1
  rw [Bool.and_eq_true, Bool.not_eq_true'] at h2
  have := List.mem_range.mp hi
  refine ⟨by omega, fun z => ?_⟩
  have := List.contains_iff_mem.mpr z
  rw [h2.1] at this; cases this
theorem okR.snoc {n : Nat} {r : List Nat} (hr : okR n r) {x : Nat} (h1 : x < n) (h2 : x ∉ r) : okR n (r ++ [x]) := by
  refine ⟨by simp, List.nodup_append.mpr ⟨hr.2.1, by simp, fun a ha b hb z => ?_⟩, fun y hy => ?_⟩
  · have e : a = x := z.trans (by simpa using hb)
    rw [e] at ha; exact h2 ha
  · rcases List.mem_append.mp hy with z | z
    · exact hr.2.2 y z
    · have : y = x := by simpa using z
      subst this; exact h1
theorem okR_full {n : Nat} {r : List Nat} (hr : okR n r) (h : n ≤ r.length) {x : Nat} (h1 : x < n) : x ∈ r := by
  apply Classical.byContradiction
  intro h2
  have := (hr.snoc h1 h2).len
  simp at this
  omega
theorem subF_eq {n : Nat} {w : Web} {r : List Nat} (hr : okR n r) : subF n w r = (if closeB w r then [r] else []) ++ (extR n w r).flatMap fun x => subF n w (r ++ [x]) := by
  unfold subF
  cases q : n - r.length with
  | zero =>
    have : extR n w r = [] := by
      cases e : extR n w r with
      | nil => rfl
      | cons x l =>
        have := extR_ok (w := w) hr x (by rw [e]; simp)
        exact absurd (okR_full hr (by omega) this.1) this.2
    rw [subR, this]; simp
  | succ k =>
    rw [subR]
    congr 1
    refine congrArg List.flatten (List.map_congr_left fun x _ => ?_)
    rw [List.length_append, List.length_singleton, show n - (r.length + 1) = k by omega]
theorem subR_ok {n : Nat} {w : Web} : ∀ (k : Nat) (r : List Nat), okR n r → ∀ q ∈ subR n w k r, okR n q ∧ 2 ≤ q.length
  | 0, r, hr, q, hq => by
    rw [subR] at hq
    split at hq
    · rename_i h
      have : q = r := by simpa using hq
      subst this
      unfold closeB at h
      rw [Bool.and_eq_true, decide_eq_true_eq] at h
      exact ⟨hr, h.1⟩
    · cases hq
  | k + 1, r, hr, q, hq => by
    rw [subR] at hq
    rcases List.mem_append.mp hq with z | z
    · split at z
      · rename_i h
        have : q = r := by simpa using z
        subst this
        unfold closeB at h
        rw [Bool.and_eq_true, decide_eq_true_eq] at h
        exact ⟨hr, h.1⟩
      · cases z
    · obtain ⟨x, hx, h2⟩ := List.mem_flatMap.mp z
      have := extR_ok hr x hx
      exact subR_ok k (r ++ [x]) (hr.snoc this.1 this.2) q h2
theorem okR_one {n i : Nat} (h : i < n) : okR n [i] := by
  refine ⟨by simp, by simp, fun x hx => ?_⟩
  have : x = i := by simpa using hx
  rw [this]; exact h
theorem tot_ok {n : Nat} {w : Web} : ∀ q ∈ totR n w, okR n q ∧ 2 ≤ q.length := fun q hq => by
  obtain ⟨i, hi, h⟩ := List.mem_flatMap.mp hq
  exact subR_ok _ _ (okR_one (List.mem_range.mp hi)) q h
theorem extR_nd (n : Nat) (w : Web) (r : List Nat) : (extR n w r).Nodup := by
  unfold extR
  have h : (List.range (n - (hdR r + 1))).Nodup := List.nodup_range
  exact List.Pairwise.filter _ (List.pairwise_map.mpr (h.imp fun {a b} ne e => ne (by omega)))
theorem subR_len {n : Nat} {w : Web} : ∀ (k : Nat) (r : List Nat), okR n r → n - r.length ≤ k → (subR n w k r).length ≤ wtf (n - r.length)
  | 0, r, hr, hk => by
    rw [show n - r.length = 0 by omega, wtf, subR]; split <;> simp
  | k + 1, r, hr, hk => by
    rw [subR, List.length_append]
    have e1 : (if closeB w r then [r] else []).length ≤ 1 := by split <;> simp
    have e2 : ((extR n w r).flatMap fun x => subR n w k (r ++ [x])).length ≤ (extR n w r).length * wtf (n - r.length - 1) := by
      have : ∀ l : List Nat, (∀ x ∈ l, x ∈ extR n w r) → (l.flatMap fun x => subR n w k (r ++ [x])).length ≤ l.length * wtf (n - r.length - 1) := by
        intro l
        induction l with
        | nil => intro _; simp
        | cons x l ih =>
          intro h
          have hx := extR_ok hr x (h x List.mem_cons_self)
          have := subR_len (w := w) k (r ++ [x]) (hr.snoc hx.1 hx.2) (by simp; omega)
          rw [List.length_append, List.length_singleton, show n - (r.length + 1) = n - r.length - 1 by omega] at this
          have ih := ih fun y hy => h y (List.mem_cons_of_mem _ hy)
          rw [List.flatMap_cons, List.length_append, List.length_cons, Nat.succ_mul]
          omega
      exact this _ fun x hx => hx
    have e3 := msr_step hr (extR_nd n w r) fun x hx => extR_ok hr x hx
    rw [msr_push] at e3
    omega
theorem tot_len {n : Nat} {w : Web} (h5 : n ≤ 5) : (totR n w).length ≤ 325 := by
  have h1 : ∀ l : List Nat, (∀ i ∈ l, i < n) → (l.flatMap fun i => subF n w [i]).length ≤ l.length * wtf (n - 1) := by
    intro l
    induction l with
    | nil => intro _; simp
    | cons x l ih =>
      intro h
      have := subR_len (w := w) (n - 1) [x] (okR_one (h x List.mem_cons_self)) (by simp)
      have ih := ih fun y hy => h y (List.mem_cons_of_mem _ hy)
      rw [List.flatMap_cons, List.length_append, List.length_cons, Nat.succ_mul]
      unfold subF at *
      simp only [List.length_singleton] at *
      omega
  have h2 := h1 (List.range n) fun i hi => List.mem_range.mp hi
  have h3 : (List.range n).length * wtf (n - 1) ≤ 325 := by
    rw [List.length_range]
    have : n = 0 ∨ n = 1 ∨ n = 2 ∨ n = 3 ∨ n = 4 ∨ n = 5 := by omega
    rcases this with rfl | rfl | rfl | rfl | rfl | rfl <;> decide
  unfold totR
  omega
theorem nmem_ordX (y : Nat) (r : List Nat) : Op.run2 .nmem (.int (y : Int)) (ordD r) = some (false, .bl (!r.contains y)) := by
  show (if sh 50 (.int (y : Int)) && shs 50 (r.map fun (c : Nat) => D.int c) then bout (true != (r.map fun (c : Nat) => D.int c).any fun z => eqD z (.int (y : Int))) else none) = _
  have e1 : shs 50 (r.map fun (c : Nat) => D.int c) = true := shs_map (n := 50) fun _ _ => rfl
  rw [e1, List.any_map]
  have : (r.any ((fun z => eqD z (.int (y : Int))) ∘ fun (c : Nat) => D.int c)) = r.contains y := by
    rw [Bool.eq_iff_iff, List.any_eq_true, List.contains_iff_mem]
    constructor
    · rintro ⟨x, hx, e⟩
      have e : eqD (.int (x : Int)) (.int (y : Int)) = true := e
      rw [eqD_nat] at e
      rw [← of_decide_eq_true e]; exact hx
    · intro h
      exact ⟨y, h, by show eqD (.int (y : Int)) (.int (y : Int)) = true; rw [eqD_nat]; simp⟩
  rw [this]; simp [bout]; rfl
def FrxS (F : Rsl) : Prop := ∀ (n : Nat) (w : Web), okW n w → 1 ≤ n → n ≤ 5 → F [.val (webD w)] = .ok (.fresh (.lst ((ringsL n w).map ordD)), [.val (webD w)])
theorem idx_hd {r : List Nat} (h : r ≠ []) : Op.run2 .idx (ordD r) (.int 0) = some (false, .int (hdR r : Int)) := by
  exact idxo (k := 0) (List.length_pos_iff.mpr h)
theorem frx_s (fl : Nat → List Bool) (Φ : Fns) : FrxS (runFn fl Φ Ffound_rings) := fun n w hw h1 h5 => by
  have hl := hw.1
  have hlen : Op.run1 .len (webD w) = some (false, .int (n : Int)) := by rw [len_web, hl]
  have cel : ∀ i j : Nat, i < n → j < n → Op.run2 .idx (webD w) (.int (i : Int)) = some (false, .str (w.getD i [])) ∧ Op.run2 .idx (.str (w.getD i [])) (.int (j : Int)) = some (false, .str [cell w i j]) ∧ Op.run2 .ne (.str [cell w i j]) (.str [48]) = some (false, .bl (cell w i j != 48)) := fun i j hi hj =>
    ⟨idx_web (by rw [hl]; exact hi), idx_str (by rw [(row_len hw hi).1]; omega) (cellT hw hi hj), by rw [ne_sg]; rfl⟩
  refine wf_ok rfl ?_
  simp only [Ffound_rings, start, Nat.reduceSub, List.reduceReplicate, List.cons_append, List.nil_append, finish]
  (repeat with_reducible (first | refine we_v (by with_unfolding_all rfl) ?_ | refine we_o (by with_unfolding_all rfl) ?_ | refine we_c ?_ | refine we_op2 ?_ | refine we_op1 ?_ | refine we_meth ?_ | refine we_meth2 ?_ | refine we_to ?_ | refine we_from ?_ | refine we_fromto ?_ | refine we_and ?_ | refine we_or ?_ | refine we_not ?_ | refine we_ite ?_ | refine we_chain ?_ | refine we_tup ?_ | refine we_lst ?_ | refine we_dict0 ?_ | refine wv_nil ?_ | refine wv_cons ?_ | refine wa_nil ?_ | refine wa_cons ?_ | refine wi_seq ?_ | refine wi_enum ?_ | refine wi_zip ?_ | refine wi_rng1 ?_ | refine wi_rng2 ?_ | refine wx_set ?_ | refine wx_unpack ?_ | refine wx_par ?_ | refine wp_nil' ?_ | refine wp_cons' ?_ | refine wx_ex ?_ | refine wx_ret ?_ | refine wx_ite ?_ | refine wx_setItem ?_ | refine wx_nil ?_ | refine we_app (by with_unfolding_all rfl) ?_ | refine we_ext (by with_unfolding_all rfl) ?_ | refine we_call (by assumption) ?_ | refine ⟨_, (by first | assumption | with_unfolding_all rfl), ?_⟩ | refine ⟨_, _, (by with_unfolding_all rfl), ?_⟩ | refine ⟨_, _, _, (by with_unfolding_all rfl), ?_⟩ | refine ⟨(by with_unfolding_all rfl), ?_⟩ | refine br_f (by first | assumption | with_unfolding_all rfl) ?_ | refine br_t (by first | assumption | with_unfolding_all rfl) ?_ | refine rb_f (by first | assumption | with_unfolding_all rfl) ?_ | refine rb_t (by first | assumption | with_unfolding_all rfl) ?_ | refine ⟨noOwn1 (by first | with_unfolding_all rfl | with_unfolding_all assumption), ?_⟩ | refine ⟨noOwn2 (by first | with_unfolding_all rfl | with_unfolding_all assumption) (by first | with_unfolding_all rfl | with_unfolding_all assumption), ?_⟩ | refine ⟨noOwn3 (by first | with_unfolding_all rfl | with_unfolding_all assumption) (by first | with_unfolding_all rfl | with_unfolding_all assumption) (by first | with_unfolding_all rfl | with_unfolding_all assumption), ?_⟩))
  refine we_compU (List.range n) (fun k : Nat => D.int (k : Int)) (fun i => ordD [i]) ?_
  (repeat with_reducible (first | refine we_v (by with_unfolding_all rfl) ?_ | refine we_o (by with_unfolding_all rfl) ?_ | refine we_c ?_ | refine we_op2 ?_ | refine we_op1 ?_ | refine we_meth ?_ | refine we_meth2 ?_ | refine we_to ?_ | refine we_from ?_ | refine we_fromto ?_ | refine we_and ?_ | refine we_or ?_ | refine we_not ?_ | refine we_ite ?_ | refine we_chain ?_ | refine we_tup ?_ | refine we_lst ?_ | refine we_dict0 ?_ | refine wv_nil ?_ | refine wv_cons ?_ | refine wa_nil ?_ | refine wa_cons ?_ | refine wi_seq ?_ | refine wi_enum ?_ | refine wi_zip ?_ | refine wi_rng1 ?_ | refine wi_rng2 ?_ | refine wx_set ?_ | refine wx_unpack ?_ | refine wx_par ?_ | refine wp_nil' ?_ | refine wp_cons' ?_ | refine wx_ex ?_ | refine wx_ret ?_ | refine wx_ite ?_ | refine wx_setItem ?_ | refine wx_nil ?_ | refine we_app (by with_unfolding_all rfl) ?_ | refine we_ext (by with_unfolding_all rfl) ?_ | refine we_call (by assumption) ?_ | refine ⟨_, (by first | assumption | exact hlen | exact rng_nat (show n ≤ 1000000 by omega) | with_unfolding_all rfl), ?_⟩ | refine ⟨_, _, (by with_unfolding_all rfl), ?_⟩ | refine ⟨_, _, _, (by with_unfolding_all rfl), ?_⟩ | refine ⟨(by with_unfolding_all rfl), ?_⟩ | refine br_f (by first | assumption | with_unfolding_all rfl) ?_ | refine br_t (by first | assumption | with_unfolding_all rfl) ?_ | refine rb_f (by first | assumption | with_unfolding_all rfl) ?_ | refine rb_t (by first | assumption | with_unfolding_all rfl) ?_ | refine ⟨noOwn1 (by first | with_unfolding_all rfl | with_unfolding_all assumption), ?_⟩ | refine ⟨noOwn2 (by first | with_unfolding_all rfl | with_unfolding_all assumption) (by first | with_unfolding_all rfl | with_unfolding_all assumption), ?_⟩ | refine ⟨noOwn3 (by first | with_unfolding_all rfl | with_unfolding_all assumption) (by first | with_unfolding_all rfl | with_unfolding_all assumption) (by first | with_unfolding_all rfl | with_unfolding_all assumption), ?_⟩))
  refine ⟨by rw [List.length_range]; unfold sizeL; omega, fun i hi => ?_, ?_⟩
  · (repeat with_reducible (first | refine we_v (by with_unfolding_all rfl) ?_ | refine we_o (by with_unfolding_all rfl) ?_ | refine we_c ?_ | refine we_op2 ?_ | refine we_op1 ?_ | refine we_meth ?_ | refine we_meth2 ?_ | refine we_to ?_ | refine we_from ?_ | refine we_fromto ?_ | refine we_and ?_ | refine we_or ?_ | refine we_not ?_ | refine we_ite ?_ | refine we_chain ?_ | refine we_tup ?_ | refine we_lst ?_ | refine we_dict0 ?_ | refine wv_nil ?_ | refine wv_cons ?_ | refine wa_nil ?_ | refine wa_cons ?_ | refine wi_seq ?_ | refine wi_enum ?_ | refine wi_zip ?_ | refine wi_rng1 ?_ | refine wi_rng2 ?_ | refine wx_set ?_ | refine wx_unpack ?_ | refine wx_par ?_ | refine wp_nil' ?_ | refine wp_cons' ?_ | refine wx_ex ?_ | refine wx_ret ?_ | refine wx_ite ?_ | refine wx_setItem ?_ | refine wx_nil ?_ | refine we_app (by with_unfolding_all rfl) ?_ | refine we_ext (by with_unfolding_all rfl) ?_ | refine we_call (by assumption) ?_ | refine ⟨_, (by first | assumption | with_unfolding_all rfl), ?_⟩ | refine ⟨_, _, (by with_unfolding_all rfl), ?_⟩ | refine ⟨_, _, _, (by with_unfolding_all rfl), ?_⟩ | refine ⟨(by with_unfolding_all rfl), ?_⟩ | refine br_f (by first | assumption | with_unfolding_all rfl) ?_ | refine br_t (by first | assumption | with_unfolding_all rfl) ?_ | refine rb_f (by first | assumption | with_unfolding_all rfl) ?_ | refine rb_t (by first | assumption | with_unfolding_all rfl) ?_ | refine ⟨noOwn1 (by first | with_unfolding_all rfl | with_unfolding_all assumption), ?_⟩ | refine ⟨noOwn2 (by first | with_unfolding_all rfl | with_unfolding_all assumption) (by first | with_unfolding_all rfl | with_unfolding_all assumption), ?_⟩ | refine ⟨noOwn3 (by first | with_unfolding_all rfl | with_unfolding_all assumption) (by first | with_unfolding_all rfl | with_unfolding_all assumption) (by first | with_unfolding_all rfl | with_unfolding_all assumption), ?_⟩))
    rfl
  (repeat with_reducible (first | refine we_v (by with_unfolding_all rfl) ?_ | refine we_o (by with_unfolding_all rfl) ?_ | refine we_c ?_ | refine we_op2 ?_ | refine we_op1 ?_ | refine we_meth ?_ | refine we_meth2 ?_ | refine we_to ?_ | refine we_from ?_ | refine we_fromto ?_ | refine we_and ?_ | refine we_or ?_ | refine we_not ?_ | refine we_ite ?_ | refine we_chain ?_ | refine we_tup ?_ | refine we_lst ?_ | refine we_dict0 ?_ | refine wv_nil ?_ | refine wv_cons ?_ | refine wa_nil ?_ | refine wa_cons ?_ | refine wi_seq ?_ | refine wi_enum ?_ | refine wi_zip ?_ | refine wi_rng1 ?_ | refine wi_rng2 ?_ | refine wx_set ?_ | refine wx_unpack ?_ | refine wx_par ?_ | refine wp_nil' ?_ | refine wp_cons' ?_ | refine wx_ex ?_ | refine wx_ret ?_ | refine wx_ite ?_ | refine wx_setItem ?_ | refine wx_nil ?_ | refine we_app (by with_unfolding_all rfl) ?_ | refine we_ext (by with_unfolding_all rfl) ?_ | refine we_call (by assumption) ?_ | refine ⟨_, (by first | assumption | with_unfolding_all rfl), ?_⟩ | refine ⟨_, _, (by with_unfolding_all rfl), ?_⟩ | refine ⟨_, _, _, (by with_unfolding_all rfl), ?_⟩ | refine ⟨(by with_unfolding_all rfl), ?_⟩ | refine br_f (by first | assumption | with_unfolding_all rfl) ?_ | refine br_t (by first | assumption | with_unfolding_all rfl) ?_ | refine rb_f (by first | assumption | with_unfolding_all rfl) ?_ | refine rb_t (by first | assumption | with_unfolding_all rfl) ?_ | refine ⟨noOwn1 (by first | with_unfolding_all rfl | with_unfolding_all assumption), ?_⟩ | refine ⟨noOwn2 (by first | with_unfolding_all rfl | with_unfolding_all assumption) (by first | with_unfolding_all rfl | with_unfolding_all assumption), ?_⟩ | refine ⟨noOwn3 (by first | with_unfolding_all rfl | with_unfolding_all assumption) (by first | with_unfolding_all rfl | with_unfolding_all assumption) (by first | with_unfolding_all rfl | with_unfolding_all assumption), ?_⟩))
  have hm0 : msr n ((List.range n).map fun i => [i]) ≤ 325 := by
    have : n = 1 ∨ n = 2 ∨ n = 3 ∨ n = 4 ∨ n = 5 := by omega
    rcases this with rfl | rfl | rfl | rfl | rfl <;> decide
  refine wx_while (fun k s => ∃ (wt fd : List (List Nat)) (x y : Sl), msr n wt = k ∧ (∀ r ∈ wt, okR n r) ∧ fd.length + k ≤ 1000 ∧ (fd ++ wt.flatMap (subF n w)).Perm (totR n w) ∧ s = [.val (webD w), x, .own none (.lst (wt.map ordD)), .own none (.lst (fd.map ordD)), y]) (n := msr n ((List.range n).map fun i => [i])) (by unfold wfuel; omega) ⟨(List.range n).map fun i => [i], [], .none, .none, rfl, fun r hr => ?_, by simp; omega, ?_, ?_⟩ ?_
  · obtain ⟨i, hi, rfl⟩ := List.mem_map.mp hr
    exact okR_one (List.mem_range.mp hi)
  · unfold totR
    rw [List.nil_append, List.flatMap_map]
  · rw [List.map_map]; rfl
  · rintro k s ⟨wt, fd, x0, y0, hk, hwt, hlen2, hperm, rfl⟩
    (repeat with_reducible (first | refine we_v (by with_unfolding_all rfl) ?_ | refine we_o (by with_unfolding_all rfl) ?_ | refine we_c ?_ | refine we_op2 ?_ | refine we_op1 ?_ | refine we_meth ?_ | refine we_meth2 ?_ | refine we_to ?_ | refine we_from ?_ | refine we_fromto ?_ | refine we_and ?_ | refine we_or ?_ | refine we_not ?_ | refine we_ite ?_ | refine we_chain ?_ | refine we_tup ?_ | refine we_lst ?_ | refine we_dict0 ?_ | refine wv_nil ?_ | refine wv_cons ?_ | refine wa_nil ?_ | refine wa_cons ?_ | refine wi_seq ?_ | refine wi_enum ?_ | refine wi_zip ?_ | refine wi_rng1 ?_ | refine wi_rng2 ?_ | refine wx_set ?_ | refine wx_unpack ?_ | refine wx_par ?_ | refine wp_nil' ?_ | refine wp_cons' ?_ | refine wx_ex ?_ | refine wx_ret ?_ | refine wx_ite ?_ | refine wx_setItem ?_ | refine wx_nil ?_ | refine we_app (by with_unfolding_all rfl) ?_ | refine we_ext (by with_unfolding_all rfl) ?_ | refine we_call (by assumption) ?_ | refine ⟨_, (by first | assumption | exact ne_nil_ords wt | with_unfolding_all rfl), ?_⟩ | refine ⟨_, _, (by with_unfolding_all rfl), ?_⟩ | refine ⟨_, _, _, (by with_unfolding_all rfl), ?_⟩ | refine ⟨(by with_unfolding_all rfl), ?_⟩ | refine br_f (by first | assumption | with_unfolding_all rfl) ?_ | refine br_t (by first | assumption | with_unfolding_all rfl) ?_ | refine rb_f (by first | assumption | with_unfolding_all rfl) ?_ | refine rb_t (by first | assumption | with_unfolding_all rfl) ?_ | refine ⟨noOwn1 (by first | with_unfolding_all rfl | with_unfolding_all assumption), ?_⟩ | refine ⟨noOwn2 (by first | with_unfolding_all rfl | with_unfolding_all assumption) (by first | with_unfolding_all rfl | with_unfolding_all assumption), ?_⟩ | refine ⟨noOwn3 (by first | with_unfolding_all rfl | with_unfolding_all assumption) (by first | with_unfolding_all rfl | with_unfolding_all assumption) (by first | with_unfolding_all rfl | with_unfolding_all assumption), ?_⟩))
    rcases List.eq_nil_or_concat wt with rfl | ⟨rest, r, hcat⟩
    · (repeat with_reducible (first | refine we_v (by with_unfolding_all rfl) ?_ | refine we_o (by with_unfolding_all rfl) ?_ | refine we_c ?_ | refine we_op2 ?_ | refine we_op1 ?_ | refine we_meth ?_ | refine we_meth2 ?_ | refine we_to ?_ | refine we_from ?_ | refine we_fromto ?_ | refine we_and ?_ | refine we_or ?_ | refine we_not ?_ | refine we_ite ?_ | refine we_chain ?_ | refine we_tup ?_ | refine we_lst ?_ | refine we_dict0 ?_ | refine wv_nil ?_ | refine wv_cons ?_ | refine wa_nil ?_ | refine wa_cons ?_ | refine wi_seq ?_ | refine wi_enum ?_ | refine wi_zip ?_ | refine wi_rng1 ?_ | refine wi_rng2 ?_ | refine wx_set ?_ | refine wx_unpack ?_ | refine wx_par ?_ | refine wp_nil' ?_ | refine wp_cons' ?_ | refine wx_ex ?_ | refine wx_ret ?_ | refine wx_ite ?_ | refine wx_setItem ?_ | refine wx_nil ?_ | refine we_app (by with_unfolding_all rfl) ?_ | refine we_ext (by with_unfolding_all rfl) ?_ | refine we_call (by assumption) ?_ | refine ⟨_, (by first | assumption | with_unfolding_all rfl), ?_⟩ | refine ⟨_, _, (by with_unfolding_all rfl), ?_⟩ | refine ⟨_, _, _, (by with_unfolding_all rfl), ?_⟩ | refine ⟨(by with_unfolding_all rfl), ?_⟩ | refine br_f (by first | assumption | with_unfolding_all rfl) ?_ | refine br_t (by first | assumption | with_unfolding_all rfl) ?_ | refine rb_f (by first | assumption | with_unfolding_all rfl) ?_ | refine rb_t (by first | assumption | with_unfolding_all rfl) ?_ | refine ⟨noOwn1 (by first | with_unfolding_all rfl | with_unfolding_all assumption), ?_⟩ | refine ⟨noOwn2 (by first | with_unfolding_all rfl | with_unfolding_all assumption) (by first | with_unfolding_all rfl | with_unfolding_all assumption), ?_⟩ | refine ⟨noOwn3 (by first | with_unfolding_all rfl | with_unfolding_all assumption) (by first | with_unfolding_all rfl | with_unfolding_all assumption) (by first | with_unfolding_all rfl | with_unfolding_all assumption), ?_⟩))
      have hp : fd.Perm (totR n w) := by simpa using hperm
      have hne : ∀ a ∈ fd, a ≠ [] := fun a ha z => (tot_ok a (hp.mem_iff.mp ha)).1.1 z
      (repeat with_reducible (first | refine we_v (by with_unfolding_all rfl) ?_ | refine we_o (by with_unfolding_all rfl) ?_ | refine we_c ?_ | refine we_op2 ?_ | refine we_op1 ?_ | refine we_meth ?_ | refine we_meth2 ?_ | refine we_to ?_ | refine we_from ?_ | refine we_fromto ?_ | refine we_and ?_ | refine we_or ?_ | refine we_not ?_ | refine we_ite ?_ | refine we_chain ?_ | refine we_tup ?_ | refine we_lst ?_ | refine we_dict0 ?_ | refine wv_nil ?_ | refine wv_cons ?_ | refine wa_nil ?_ | refine wa_cons ?_ | refine wi_seq ?_ | refine wi_enum ?_ | refine wi_zip ?_ | refine wi_rng1 ?_ | refine wi_rng2 ?_ | refine wx_set ?_ | refine wx_unpack ?_ | refine wx_par ?_ | refine wp_nil' ?_ | refine wp_cons' ?_ | refine wx_ex ?_ | refine wx_ret ?_ | refine wx_ite ?_ | refine wx_setItem ?_ | refine wx_nil ?_ | refine we_app (by with_unfolding_all rfl) ?_ | refine we_ext (by with_unfolding_all rfl) ?_ | refine we_call (by assumption) ?_ | refine ⟨_, (by first | assumption | exact sort_ords (show fd.length ≤ 1000 by omega) hne | with_unfolding_all rfl), ?_⟩ | refine ⟨_, _, (by with_unfolding_all rfl), ?_⟩ | refine ⟨_, _, _, (by with_unfolding_all rfl), ?_⟩ | refine ⟨(by with_unfolding_all rfl), ?_⟩ | refine br_f (by first | assumption | with_unfolding_all rfl) ?_ | refine br_t (by first | assumption | with_unfolding_all rfl) ?_ | refine rb_f (by first | assumption | with_unfolding_all rfl) ?_ | refine rb_t (by first | assumption | with_unfolding_all rfl) ?_ | refine ⟨noOwn1 (by first | with_unfolding_all rfl | with_unfolding_all assumption), ?_⟩ | refine ⟨noOwn2 (by first | with_unfolding_all rfl | with_unfolding_all assumption) (by first | with_unfolding_all rfl | with_unfolding_all assumption), ?_⟩ | refine ⟨noOwn3 (by first | with_unfolding_all rfl | with_unfolding_all assumption) (by first | with_unfolding_all rfl | with_unfolding_all assumption) (by first | with_unfolding_all rfl | with_unfolding_all assumption), ?_⟩))
      unfold ringsL
      rw [isort_congr sto_O hp]; rfl
    · rw [List.concat_eq_append] at hcat
      subst hcat
      have hr := hwt r (by simp)
      have hrl := hr.len
      have hrp : 0 < r.length := List.length_pos_iff.mpr hr.1
      have hh : hdR r < n := hr.at (k := 0) hrp
      have hla : laR r < n := hr.at (k := r.length - 1) (by omega)
      have hrest : ∀ q ∈ rest, okR n q := fun q hq => hwt q (by simp [hq])
      have hemp : (!(rest ++ [r]).isEmpty) = true := by cases rest <;> rfl
      have i0 := idx_hd hr.1
      have i1 : Op.run2 .idx (ordD r) (.int (-1)) = some (false, .int (laR r : Int)) := idx_last hr.1
      have iln : Op.run1 .len (ordD r) = some (false, .int (r.length : Int)) := len_ord r
      have igt : Op.run2 .gt (.int (r.length : Int)) (.int 1) = some (false, .bl (decide (1 < r.length))) := by
        show some (false, D.bl (decide ((1 : Int) < (r.length : Int)))) = _
        rw [show decide ((1 : Int) < (r.length : Int)) = decide (1 < r.length) from by rw [Bool.eq_iff_iff, decide_eq_true_eq, decide_eq_true_eq]; omega]
      obtain ⟨c1, c2, c3⟩ := cel (hdR r) (laR r) hh hla
      rw [msr_app] at hk
      have hmr : msr n [r] = wtf (n - r.length) := by simp [msr]
      have hml := msr_len n rest
      have hwp := wtf_pos (n - r.length)
      (repeat with_reducible (first | refine we_v (by with_unfolding_all rfl) ?_ | refine we_o (by with_unfolding_all rfl) ?_ | refine we_c ?_ | refine we_op2 ?_ | refine we_op1 ?_ | refine we_meth ?_ | refine we_meth2 ?_ | refine we_to ?_ | refine we_from ?_ | refine we_fromto ?_ | refine we_and ?_ | refine we_or ?_ | refine we_not ?_ | refine we_ite ?_ | refine we_chain ?_ | refine we_tup ?_ | refine we_lst ?_ | refine we_dict0 ?_ | refine wv_nil ?_ | refine wv_cons ?_ | refine wa_nil ?_ | refine wa_cons ?_ | refine wi_seq ?_ | refine wi_enum ?_ | refine wi_zip ?_ | refine wi_rng1 ?_ | refine wi_rng2 ?_ | refine wx_set ?_ | refine wx_unpack ?_ | refine wx_par ?_ | refine wp_nil' ?_ | refine wp_cons' ?_ | refine wx_ex ?_ | refine wx_ret ?_ | refine wx_ite ?_ | refine wx_setItem ?_ | refine wx_nil ?_ | refine we_app (by with_unfolding_all rfl) ?_ | refine we_ext (by with_unfolding_all rfl) ?_ | refine we_call (by assumption) ?_ | refine ⟨_, (by first | assumption | with_unfolding_all rfl), ?_⟩ | refine ⟨_, _, (by with_unfolding_all rfl), ?_⟩ | refine ⟨_, _, _, (by with_unfolding_all rfl), ?_⟩ | refine ⟨(by with_unfolding_all rfl), ?_⟩ | refine br_f (by first | assumption | with_unfolding_all rfl) ?_ | refine br_t (by first | assumption | with_unfolding_all rfl) ?_ | refine rb_f (by first | assumption | with_unfolding_all rfl) ?_ | refine rb_t (by first | assumption | with_unfolding_all rfl) ?_ | refine ⟨noOwn1 (by first | with_unfolding_all rfl | with_unfolding_all assumption), ?_⟩ | refine ⟨noOwn2 (by first | with_unfolding_all rfl | with_unfolding_all assumption) (by first | with_unfolding_all rfl | with_unfolding_all assumption), ?_⟩ | refine ⟨noOwn3 (by first | with_unfolding_all rfl | with_unfolding_all assumption) (by first | with_unfolding_all rfl | with_unfolding_all assumption) (by first | with_unfolding_all rfl | with_unfolding_all assumption), ?_⟩))
      refine we_pop (d := ordD r) rfl (by simp) ?_
      rw [List.map_append, List.map_cons, List.map_nil, List.dropLast_concat]
      have body : ∀ fd' : List (List Nat), fd' = fd ++ (if closeB w r then [r] else []) → Wx Φ fl (.cons (.for (.one 1) (.rng2 (.op .add (.cons (.op .idx (.cons (.v 4) (.cons (.c (.int 0)) .nil))) (.cons (.c (.int 1)) .nil))) (.op .len (.cons (.v 0) .nil))) (.cons (.ite (.and (.op .nmem (.cons (.v 1) (.cons (.v 4) .nil))) (.op .ne (.cons (.op .idx (.cons (.op .idx (.cons (.v 0) (.cons (.v 1) .nil))) (.cons (.op .idx (.cons (.v 4) (.cons (.op .neg (.cons (.c (.int 1)) .nil)) .nil))) .nil))) (.cons (.c (.str [48])) .nil)))) (.cons (.ex (.app 2 (.op .add (.cons (.v 4) (.cons (.tup (.cons (.v 1) .nil)) .nil)))))
  .nil) .nil)
  .nil)) .nil) [.val (webD w), x0, .own none (.lst (rest.map ordD)), .own none (.lst (fd'.map ordD)), .val (ordD r)] (fun f s3 => match f with | .next => ∃ n', n' < k ∧ ∃ (wt fd : List (List Nat)) (x y : Sl), msr n wt = n' ∧ (∀ r ∈ wt, okR n r) ∧ fd.length + n' ≤ 1000 ∧ (fd ++ wt.flatMap (subF n w)).Perm (totR n w) ∧ s3 = [.val (webD w), x, .own none (.lst (wt.map ordD)), .own none (.lst (fd.map ordD)), y] | .ret v => finish 1 (Fl.ret v, s3) = (Ret.fresh (D.lst ((ringsL n w).map ordD)), [Sl.val (webD w)])) (fun _ => False) := by
        intro fd' hfd
        have hfl : fd'.length ≤ fd.length + 1 := by rw [hfd, List.length_append]; split <;> simp
        refine wx_for (fun j s => ∃ xx, s = [.val (webD w), xx, .own none (.lst ((rest ++ ((((List.range (n - (hdR r + 1))).map fun i => hdR r + 1 + i).take j).filter fun x => !r.contains x && cell w x (laR r) != 48).map fun x => r ++ [x]).map ordD)), .own none (.lst (fd'.map ordD)), .val (ordD r)]) ?_
        have ead : Op.run2 .add (.int (hdR r : Int)) (.int 1) = some (false, .int ((hdR r + 1 : Nat) : Int)) := add1 _
        (repeat with_reducible (first | refine we_v (by with_unfolding_all rfl) ?_ | refine we_o (by with_unfolding_all rfl) ?_ | refine we_c ?_ | refine we_op2 ?_ | refine we_op1 ?_ | refine we_meth ?_ | refine we_meth2 ?_ | refine we_to ?_ | refine we_from ?_ | refine we_fromto ?_ | refine we_and ?_ | refine we_or ?_ | refine we_not ?_ | refine we_ite ?_ | refine we_chain ?_ | refine we_tup ?_ | refine we_lst ?_ | refine we_dict0 ?_ | refine wv_nil ?_ | refine wv_cons ?_ | refine wa_nil ?_ | refine wa_cons ?_ | refine wi_seq ?_ | refine wi_enum ?_ | refine wi_zip ?_ | refine wi_rng1 ?_ | refine wi_rng2 ?_ | refine wx_set ?_ | refine wx_unpack ?_ | refine wx_par ?_ | refine wp_nil' ?_ | refine wp_cons' ?_ | refine wx_ex ?_ | refine wx_ret ?_ | refine wx_ite ?_ | refine wx_setItem ?_ | refine wx_nil ?_ | refine we_app (by with_unfolding_all rfl) ?_ | refine we_ext (by with_unfolding_all rfl) ?_ | refine we_call (by assumption) ?_ | refine ⟨_, (by first | assumption | exact hlen | exact rng_from (show hdR r + 1 ≤ 1000000 by omega) (show n ≤ 1000000 by omega) | with_unfolding_all rfl), ?_⟩ | refine ⟨_, _, (by with_unfolding_all rfl), ?_⟩ | refine ⟨_, _, _, (by with_unfolding_all rfl), ?_⟩ | refine ⟨(by with_unfolding_all rfl), ?_⟩ | refine br_f (by first | assumption | with_unfolding_all rfl) ?_ | refine br_t (by first | assumption | with_unfolding_all rfl) ?_ | refine rb_f (by first | assumption | with_unfolding_all rfl) ?_ | refine rb_t (by first | assumption | with_unfolding_all rfl) ?_ | refine ⟨noOwn1 (by first | with_unfolding_all rfl | with_unfolding_all assumption), ?_⟩ | refine ⟨noOwn2 (by first | with_unfolding_all rfl | with_unfolding_all assumption) (by first | with_unfolding_all rfl | with_unfolding_all assumption), ?_⟩ | refine ⟨noOwn3 (by first | with_unfolding_all rfl | with_unfolding_all assumption) (by first | with_unfolding_all rfl | with_unfolding_all assumption) (by first | with_unfolding_all rfl | with_unfolding_all assumption), ?_⟩))
        refine ⟨⟨x0, by simp⟩, ?_, ?_⟩
        · rintro j x s hx ⟨xx, rfl⟩
          have hx : (((List.range (n - (hdR r + 1))).map fun i => hdR r + 1 + i).map fun (i : Nat) => D.int (i : Int))[j]? = some x := by rw [List.map_map]; exact hx
          obtain ⟨y, hy, rfl, hym, hyl⟩ := map_at hx
          have hyn : y < n := by
            obtain ⟨i, hi, rfl⟩ := List.mem_map.mp hym
            have := List.mem_range.mp hi
            omega
          obtain ⟨c1, c2, c3⟩ := cel y (laR r) hyn hla
          have htk : ((List.range (n - (hdR r + 1))).map fun i => hdR r + 1 + i).take (j + 1) = ((List.range (n - (hdR r + 1))).map fun i => hdR r + 1 + i).take j ++ [y] := by rw [List.take_succ, hy]; rfl
          have inm : Op.run2 .nmem (.int (y : Int)) (ordD r) = some (false, .bl (!r.contains y)) := nmem_ordX y r
          have elen : ((rest ++ ((((List.range (n - (hdR r + 1))).map fun i => hdR r + 1 + i).take j).filter fun x => !r.contains x && cell w x (laR r) != 48).map fun x => r ++ [x])).length ≤ 2000 := by
            have h1 := List.length_filter_le (fun x => !r.contains x && cell w x (laR r) != 48) (((List.range (n - (hdR r + 1))).map fun i => hdR r + 1 + i).take j)
            simp at h1 ⊢
            omega
          have eapp : Op.run2 .add (ordD r) (.tup [.int (y : Int)]) = some (false, ordD (r ++ [y])) := by
            show Op.add2 (.tup _) (.tup _) = _
            rw [add_tup (by simp; omega), ordD, List.map_append]; rfl
          rw [htk, List.filter_append]
          (repeat with_reducible (first | refine we_v (by with_unfolding_all rfl) ?_ | refine we_o (by with_unfolding_all rfl) ?_ | refine we_c ?_ | refine we_op2 ?_ | refine we_op1 ?_ | refine we_meth ?_ | refine we_meth2 ?_ | refine we_to ?_ | refine we_from ?_ | refine we_fromto ?_ | refine we_and ?_ | refine we_or ?_ | refine we_not ?_ | refine we_ite ?_ | refine we_chain ?_ | refine we_tup ?_ | refine we_lst ?_ | refine we_dict0 ?_ | refine wv_nil ?_ | refine wv_cons ?_ | refine wa_nil ?_ | refine wa_cons ?_ | refine wi_seq ?_ | refine wi_enum ?_ | refine wi_zip ?_ | refine wi_rng1 ?_ | refine wi_rng2 ?_ | refine wx_set ?_ | refine wx_unpack ?_ | refine wx_par ?_ | refine wp_nil' ?_ | refine wp_cons' ?_ | refine wx_ex ?_ | refine wx_ret ?_ | refine wx_ite ?_ | refine wx_setItem ?_ | refine wx_nil ?_ | refine we_app (by with_unfolding_all rfl) ?_ | refine we_ext (by with_unfolding_all rfl) ?_ | refine we_call (by assumption) ?_ | refine ⟨_, (by first | assumption | exact inm | with_unfolding_all rfl), ?_⟩ | refine ⟨_, _, (by with_unfolding_all rfl), ?_⟩ | refine ⟨_, _, _, (by with_unfolding_all rfl), ?_⟩ | refine ⟨(by with_unfolding_all rfl), ?_⟩ | refine br_f (by first | assumption | with_unfolding_all rfl) ?_ | refine br_t (by first | assumption | with_unfolding_all rfl) ?_ | refine rb_f (by first | assumption | with_unfolding_all rfl) ?_ | refine rb_t (by first | assumption | with_unfolding_all rfl) ?_ | refine ⟨noOwn1 (by first | with_unfolding_all rfl | with_unfolding_all assumption), ?_⟩ | refine ⟨noOwn2 (by first | with_unfolding_all rfl | with_unfolding_all assumption) (by first | with_unfolding_all rfl | with_unfolding_all assumption), ?_⟩ | refine ⟨noOwn3 (by first | with_unfolding_all rfl | with_unfolding_all assumption) (by first | with_unfolding_all rfl | with_unfolding_all assumption) (by first | with_unfolding_all rfl | with_unfolding_all assumption), ?_⟩))
          refine ⟨fun q => ?_, fun q => ?_⟩
          · (repeat with_reducible (first | refine we_v (by with_unfolding_all rfl) ?_ | refine we_o (by with_unfolding_all rfl) ?_ | refine we_c ?_ | refine we_op2 ?_ | refine we_op1 ?_ | refine we_meth ?_ | refine we_meth2 ?_ | refine we_to ?_ | refine we_from ?_ | refine we_fromto ?_ | refine we_and ?_ | refine we_or ?_ | refine we_not ?_ | refine we_ite ?_ | refine we_chain ?_ | refine we_tup ?_ | refine we_lst ?_ | refine we_dict0 ?_ | refine wv_nil ?_ | refine wv_cons ?_ | refine wa_nil ?_ | refine wa_cons ?_ | refine wi_seq ?_ | refine wi_enum ?_ | refine wi_zip ?_ | refine wi_rng1 ?_ | refine wi_rng2 ?_ | refine wx_set ?_ | refine wx_unpack ?_ | refine wx_par ?_ | refine wp_nil' ?_ | refine wp_cons' ?_ | refine wx_ex ?_ | refine wx_ret ?_ | refine wx_ite ?_ | refine wx_setItem ?_ | refine wx_nil ?_ | refine we_app (by with_unfolding_all rfl) ?_ | refine we_ext (by with_unfolding_all rfl) ?_ | refine we_call (by assumption) ?_ | refine ⟨_, (by first | assumption | exact c1 | exact c2 | exact c3 | with_unfolding_all rfl), ?_⟩ | refine ⟨_, _, (by with_unfolding_all rfl), ?_⟩ | refine ⟨_, _, _, (by with_unfolding_all rfl), ?_⟩ | refine ⟨(by with_unfolding_all rfl), ?_⟩ | refine br_f (by first | assumption | with_unfolding_all rfl) ?_ | refine br_t (by first | assumption | with_unfolding_all rfl) ?_ | refine rb_f (by first | assumption | with_unfolding_all rfl) ?_ | refine rb_t (by first | assumption | with_unfolding_all rfl) ?_ | refine ⟨noOwn1 (by first | with_unfolding_all rfl | with_unfolding_all assumption), ?_⟩ | refine ⟨noOwn2 (by first | with_unfolding_all rfl | with_unfolding_all assumption) (by first | with_unfolding_all rfl | with_unfolding_all assumption), ?_⟩ | refine ⟨noOwn3 (by first | with_unfolding_all rfl | with_unfolding_all assumption) (by first | with_unfolding_all rfl | with_unfolding_all assumption) (by first | with_unfolding_all rfl | with_unfolding_all assumption), ?_⟩))
            refine ⟨fun q2 => ?_, fun q2 => ?_⟩
            · (repeat with_reducible (first | refine we_v (by with_unfolding_all rfl) ?_ | refine we_o (by with_unfolding_all rfl) ?_ | refine we_c ?_ | refine we_op2 ?_ | refine we_op1 ?_ | refine we_meth ?_ | refine we_meth2 ?_ | refine we_to ?_ | refine we_from ?_ | refine we_fromto ?_ | refine we_and ?_ | refine we_or ?_ | refine we_not ?_ | refine we_ite ?_ | refine we_chain ?_ | refine we_tup ?_ | refine we_lst ?_ | refine we_dict0 ?_ | refine wv_nil ?_ | refine wv_cons ?_ | refine wa_nil ?_ | refine wa_cons ?_ | refine wi_seq ?_ | refine wi_enum ?_ | refine wi_zip ?_ | refine wi_rng1 ?_ | refine wi_rng2 ?_ | refine wx_set ?_ | refine wx_unpack ?_ | refine wx_par ?_ | refine wp_nil' ?_ | refine wp_cons' ?_ | refine wx_ex ?_ | refine wx_ret ?_ | refine wx_ite ?_ | refine wx_setItem ?_ | refine wx_nil ?_ | refine we_app (by with_unfolding_all rfl) ?_ | refine we_ext (by with_unfolding_all rfl) ?_ | refine we_call (by assumption) ?_ | refine ⟨_, (by first | assumption | exact eapp | with_unfolding_all rfl), ?_⟩ | refine ⟨_, _, (by with_unfolding_all rfl), ?_⟩ | refine ⟨_, _, _, (by with_unfolding_all rfl), ?_⟩ | refine ⟨(by with_unfolding_all rfl), ?_⟩ | refine br_f (by first | assumption | with_unfolding_all rfl) ?_ | refine br_t (by first | assumption | with_unfolding_all rfl) ?_ | refine rb_f (by first | assumption | with_unfolding_all rfl) ?_ | refine rb_t (by first | assumption | with_unfolding_all rfl) ?_ | refine ⟨noOwn1 (by first | with_unfolding_all rfl | with_unfolding_all assumption), ?_⟩ | refine ⟨noOwn2 (by first | with_unfolding_all rfl | with_unfolding_all assumption) (by first | with_unfolding_all rfl | with_unfolding_all assumption), ?_⟩ | refine ⟨noOwn3 (by first | with_unfolding_all rfl | with_unfolding_all assumption) (by first | with_unfolding_all rfl | with_unfolding_all assumption) (by first | with_unfolding_all rfl | with_unfolding_all assumption), ?_⟩))
              refine ⟨by rw [List.length_map]; unfold sizeL; omega, ?_⟩
              (repeat with_reducible (first | refine we_v (by with_unfolding_all rfl) ?_ | refine we_o (by with_unfolding_all rfl) ?_ | refine we_c ?_ | refine we_op2 ?_ | refine we_op1 ?_ | refine we_meth ?_ | refine we_meth2 ?_ | refine we_to ?_ | refine we_from ?_ | refine we_fromto ?_ | refine we_and ?_ | refine we_or ?_ | refine we_not ?_ | refine we_ite ?_ | refine we_chain ?_ | refine we_tup ?_ | refine we_lst ?_ | refine we_dict0 ?_ | refine wv_nil ?_ | refine wv_cons ?_ | refine wa_nil ?_ | refine wa_cons ?_ | refine wi_seq ?_ | refine wi_enum ?_ | refine wi_zip ?_ | refine wi_rng1 ?_ | refine wi_rng2 ?_ | refine wx_set ?_ | refine wx_unpack ?_ | refine wx_par ?_ | refine wp_nil' ?_ | refine wp_cons' ?_ | refine wx_ex ?_ | refine wx_ret ?_ | refine wx_ite ?_ | refine wx_setItem ?_ | refine wx_nil ?_ | refine we_app (by with_unfolding_all rfl) ?_ | refine we_ext (by with_unfolding_all rfl) ?_ | refine we_call (by assumption) ?_ | refine ⟨_, (by first | assumption | with_unfolding_all rfl), ?_⟩ | refine ⟨_, _, (by with_unfolding_all rfl), ?_⟩ | refine ⟨_, _, _, (by with_unfolding_all rfl), ?_⟩ | refine ⟨(by with_unfolding_all rfl), ?_⟩ | refine br_f (by first | assumption | with_unfolding_all rfl) ?_ | refine br_t (by first | assumption | with_unfolding_all rfl) ?_ | refine rb_f (by first | assumption | with_unfolding_all rfl) ?_ | refine rb_t (by first | assumption | with_unfolding_all rfl) ?_ | refine ⟨noOwn1 (by first | with_unfolding_all rfl | with_unfolding_all assumption), ?_⟩ | refine ⟨noOwn2 (by first | with_unfolding_all rfl | with_unfolding_all assumption) (by first | with_unfolding_all rfl | with_unfolding_all assumption), ?_⟩ | refine ⟨noOwn3 (by first | with_unfolding_all rfl | with_unfolding_all assumption) (by first | with_unfolding_all rfl | with_unfolding_all assumption) (by first | with_unfolding_all rfl | with_unfolding_all assumption), ?_⟩))
              refine ⟨.val (.int (y : Int)), ?_⟩
              rw [show [y].filter (fun x => !r.contains x && cell w x (laR r) != 48) = [y] from by simp only [List.filter_cons, q, q2]; rfl]
              simp only [List.map_append, List.append_assoc, List.map_cons, List.map_nil]; rfl
            · (repeat with_reducible (first | refine we_v (by with_unfolding_all rfl) ?_ | refine we_o (by with_unfolding_all rfl) ?_ | refine we_c ?_ | refine we_op2 ?_ | refine we_op1 ?_ | refine we_meth ?_ | refine we_meth2 ?_ | refine we_to ?_ | refine we_from ?_ | refine we_fromto ?_ | refine we_and ?_ | refine we_or ?_ | refine we_not ?_ | refine we_ite ?_ | refine we_chain ?_ | refine we_tup ?_ | refine we_lst ?_ | refine we_dict0 ?_ | refine wv_nil ?_ | refine wv_cons ?_ | refine wa_nil ?_ | refine wa_cons ?_ | refine wi_seq ?_ | refine wi_enum ?_ | refine wi_zip ?_ | refine wi_rng1 ?_ | refine wi_rng2 ?_ | refine wx_set ?_ | refine wx_unpack ?_ | refine wx_par ?_ | refine wp_nil' ?_ | refine wp_cons' ?_ | refine wx_ex ?_ | refine wx_ret ?_ | refine wx_ite ?_ | refine wx_setItem ?_ | refine wx_nil ?_ | refine we_app (by with_unfolding_all rfl) ?_ | refine we_ext (by with_unfolding_all rfl) ?_ | refine we_call (by assumption) ?_ | refine ⟨_, (by first | assumption | with_unfolding_all rfl), ?_⟩ | refine ⟨_, _, (by with_unfolding_all rfl), ?_⟩ | refine ⟨_, _, _, (by with_unfolding_all rfl), ?_⟩ | refine ⟨(by with_unfolding_all rfl), ?_⟩ | refine br_f (by first | assumption | with_unfolding_all rfl) ?_ | refine br_t (by first | assumption | with_unfolding_all rfl) ?_ | refine rb_f (by first | assumption | with_unfolding_all rfl) ?_ | refine rb_t (by first | assumption | with_unfolding_all rfl) ?_ | refine ⟨noOwn1 (by first | with_unfolding_all rfl | with_unfolding_all assumption), ?_⟩ | refine ⟨noOwn2 (by first | with_unfolding_all rfl | with_unfolding_all assumption) (by first | with_unfolding_all rfl | with_unfolding_all assumption), ?_⟩ | refine ⟨noOwn3 (by first | with_unfolding_all rfl | with_unfolding_all assumption) (by first | with_unfolding_all rfl | with_unfolding_all assumption) (by first | with_unfolding_all rfl | with_unfolding_all assumption), ?_⟩))
              refine ⟨.val (.int (y : Int)), ?_⟩
              rw [show [y].filter (fun x => !r.contains x && cell w x (laR r) != 48) = [] from by simp only [List.filter_cons, q, q2]; rfl, List.append_nil]; rfl
          · (repeat with_reducible (first | refine we_v (by with_unfolding_all rfl) ?_ | refine we_o (by with_unfolding_all rfl) ?_ | refine we_c ?_ | refine we_op2 ?_ | refine we_op1 ?_ | refine we_meth ?_ | refine we_meth2 ?_ | refine we_to ?_ | refine we_from ?_ | refine we_fromto ?_ | refine we_and ?_ | refine we_or ?_ | refine we_not ?_ | refine we_ite ?_ | refine we_chain ?_ | refine we_tup ?_ | refine we_lst ?_ | refine we_dict0 ?_ | refine wv_nil ?_ | refine wv_cons ?_ | refine wa_nil ?_ | refine wa_cons ?_ | refine wi_seq ?_ | refine wi_enum ?_ | refine wi_zip ?_ | refine wi_rng1 ?_ | refine wi_rng2 ?_ | refine wx_set ?_ | refine wx_unpack ?_ | refine wx_par ?_ | refine wp_nil' ?_ | refine wp_cons' ?_ | refine wx_ex ?_ | refine wx_ret ?_ | refine wx_ite ?_ | refine wx_setItem ?_ | refine wx_nil ?_ | refine we_app (by with_unfolding_all rfl) ?_ | refine we_ext (by with_unfolding_all rfl) ?_ | refine we_call (by assumption) ?_ | refine ⟨_, (by first | assumption | with_unfolding_all rfl), ?_⟩ | refine ⟨_, _, (by with_unfolding_all rfl), ?_⟩ | refine ⟨_, _, _, (by with_unfolding_all rfl), ?_⟩ | refine ⟨(by with_unfolding_all rfl), ?_⟩ | refine br_f (by first | assumption | with_unfolding_all rfl) ?_ | refine br_t (by first | assumption | with_unfolding_all rfl) ?_ | refine rb_f (by first | assumption | with_unfolding_all rfl) ?_ | refine rb_t (by first | assumption | with_unfolding_all rfl) ?_ | refine ⟨noOwn1 (by first | with_unfolding_all rfl | with_unfolding_all assumption), ?_⟩ | refine ⟨noOwn2 (by first | with_unfolding_all rfl | with_unfolding_all assumption) (by first | with_unfolding_all rfl | with_unfolding_all assumption), ?_⟩ | refine ⟨noOwn3 (by first | with_unfolding_all rfl | with_unfolding_all assumption) (by first | with_unfolding_all rfl | with_unfolding_all assumption) (by first | with_unfolding_all rfl | with_unfolding_all assumption), ?_⟩))
            refine ⟨.val (.int (y : Int)), ?_⟩
            rw [show [y].filter (fun x => !r.contains x && cell w x (laR r) != 48) = [] from by simp only [List.filter_cons, q]; rfl, List.append_nil]; rfl
        · rintro s ⟨xx, rfl⟩
          rw [List.length_map, List.length_range]
          have hfull : (((List.range (n - (hdR r + 1))).map fun i => hdR r + 1 + i).take (n - (hdR r + 1))) = (List.range (n - (hdR r + 1))).map fun i => hdR r + 1 + i := List.take_of_length_le (by simp)
          rw [hfull]
          have hst := msr_step hr (extR_nd n w r) fun x hx => extR_ok hr x hx
          refine wx_nil ⟨msr n (rest ++ (extR n w r).map fun x => r ++ [x]), by rw [msr_app]; omega, rest ++ (extR n w r).map fun x => r ++ [x], fd', xx, _, rfl, fun q hq => ?_, by rw [msr_app]; omega, ?_, rfl⟩
          · rcases List.mem_append.mp hq with z | z
            · exact hrest q z
            · obtain ⟨x, hx, rfl⟩ := List.mem_map.mp z
              have := extR_ok hr x hx
              exact hr.snoc this.1 this.2
          · refine List.Perm.trans ?_ hperm
            rw [List.flatMap_append, List.flatMap_append, List.flatMap_map, hfd, List.flatMap_cons, List.flatMap_nil, List.append_nil, subF_eq hr]
            simp only [List.append_assoc]
            refine List.Perm.append_left fd ?_
            rw [← List.append_assoc, ← List.append_assoc]
            exact List.Perm.append_right _ List.perm_append_comm
      (repeat with_reducible (first | refine we_v (by with_unfolding_all rfl) ?_ | refine we_o (by with_unfolding_all rfl) ?_ | refine we_c ?_ | refine we_op2 ?_ | refine we_op1 ?_ | refine we_meth ?_ | refine we_meth2 ?_ | refine we_to ?_ | refine we_from ?_ | refine we_fromto ?_ | refine we_and ?_ | refine we_or ?_ | refine we_not ?_ | refine we_ite ?_ | refine we_chain ?_ | refine we_tup ?_ | refine we_lst ?_ | refine we_dict0 ?_ | refine wv_nil ?_ | refine wv_cons ?_ | refine wa_nil ?_ | refine wa_cons ?_ | refine wi_seq ?_ | refine wi_enum ?_ | refine wi_zip ?_ | refine wi_rng1 ?_ | refine wi_rng2 ?_ | refine wx_set ?_ | refine wx_unpack ?_ | refine wx_par ?_ | refine wp_nil' ?_ | refine wp_cons' ?_ | refine wx_ex ?_ | refine wx_ret ?_ | refine wx_ite ?_ | refine wx_setItem ?_ | refine wx_nil ?_ | refine we_app (by with_unfolding_all rfl) ?_ | refine we_ext (by with_unfolding_all rfl) ?_ | refine we_call (by assumption) ?_ | refine ⟨_, (by first | assumption | with_unfolding_all rfl), ?_⟩ | refine ⟨_, _, (by with_unfolding_all rfl), ?_⟩ | refine ⟨_, _, _, (by with_unfolding_all rfl), ?_⟩ | refine ⟨(by with_unfolding_all rfl), ?_⟩ | refine br_f (by first | assumption | with_unfolding_all rfl) ?_ | refine br_t (by first | assumption | with_unfolding_all rfl) ?_ | refine rb_f (by first | assumption | with_unfolding_all rfl) ?_ | refine rb_t (by first | assumption | with_unfolding_all rfl) ?_ | refine ⟨noOwn1 (by first | with_unfolding_all rfl | with_unfolding_all assumption), ?_⟩ | refine ⟨noOwn2 (by first | with_unfolding_all rfl | with_unfolding_all assumption) (by first | with_unfolding_all rfl | with_unfolding_all assumption), ?_⟩ | refine ⟨noOwn3 (by first | with_unfolding_all rfl | with_unfolding_all assumption) (by first | with_unfolding_all rfl | with_unfolding_all assumption) (by first | with_unfolding_all rfl | with_unfolding_all assumption), ?_⟩))
      refine ⟨fun q => ?_, fun q => ?_⟩
      · (repeat with_reducible (first | refine we_v (by with_unfolding_all rfl) ?_ | refine we_o (by with_unfolding_all rfl) ?_ | refine we_c ?_ | refine we_op2 ?_ | refine we_op1 ?_ | refine we_meth ?_ | refine we_meth2 ?_ | refine we_to ?_ | refine we_from ?_ | refine we_fromto ?_ | refine we_and ?_ | refine we_or ?_ | refine we_not ?_ | refine we_ite ?_ | refine we_chain ?_ | refine we_tup ?_ | refine we_lst ?_ | refine we_dict0 ?_ | refine wv_nil ?_ | refine wv_cons ?_ | refine wa_nil ?_ | refine wa_cons ?_ | refine wi_seq ?_ | refine wi_enum ?_ | refine wi_zip ?_ | refine wi_rng1 ?_ | refine wi_rng2 ?_ | refine wx_set ?_ | refine wx_unpack ?_ | refine wx_par ?_ | refine wp_nil' ?_ | refine wp_cons' ?_ | refine wx_ex ?_ | refine wx_ret ?_ | refine wx_ite ?_ | refine wx_setItem ?_ | refine wx_nil ?_ | refine we_app (by with_unfolding_all rfl) ?_ | refine we_ext (by with_unfolding_all rfl) ?_ | refine we_call (by assumption) ?_ | refine ⟨_, (by first | assumption | with_unfolding_all rfl), ?_⟩ | refine ⟨_, _, (by with_unfolding_all rfl), ?_⟩ | refine ⟨_, _, _, (by with_unfolding_all rfl), ?_⟩ | refine ⟨(by with_unfolding_all rfl), ?_⟩ | refine br_f (by first | assumption | with_unfolding_all rfl) ?_ | refine br_t (by first | assumption | with_unfolding_all rfl) ?_ | refine rb_f (by first | assumption | with_unfolding_all rfl) ?_ | refine rb_t (by first | assumption | with_unfolding_all rfl) ?_ | refine ⟨noOwn1 (by first | with_unfolding_all rfl | with_unfolding_all assumption), ?_⟩ | refine ⟨noOwn2 (by first | with_unfolding_all rfl | with_unfolding_all assumption) (by first | with_unfolding_all rfl | with_unfolding_all assumption), ?_⟩ | refine ⟨noOwn3 (by first | with_unfolding_all rfl | with_unfolding_all assumption) (by first | with_unfolding_all rfl | with_unfolding_all assumption) (by first | with_unfolding_all rfl | with_unfolding_all assumption), ?_⟩))
        refine ⟨fun q2 => ?_, fun q2 => ?_⟩
        · (repeat with_reducible (first | refine we_v (by with_unfolding_all rfl) ?_ | refine we_o (by with_unfolding_all rfl) ?_ | refine we_c ?_ | refine we_op2 ?_ | refine we_op1 ?_ | refine we_meth ?_ | refine we_meth2 ?_ | refine we_to ?_ | refine we_from ?_ | refine we_fromto ?_ | refine we_and ?_ | refine we_or ?_ | refine we_not ?_ | refine we_ite ?_ | refine we_chain ?_ | refine we_tup ?_ | refine we_lst ?_ | refine we_dict0 ?_ | refine wv_nil ?_ | refine wv_cons ?_ | refine wa_nil ?_ | refine wa_cons ?_ | refine wi_seq ?_ | refine wi_enum ?_ | refine wi_zip ?_ | refine wi_rng1 ?_ | refine wi_rng2 ?_ | refine wx_set ?_ | refine wx_unpack ?_ | refine wx_par ?_ | refine wp_nil' ?_ | refine wp_cons' ?_ | refine wx_ex ?_ | refine wx_ret ?_ | refine wx_ite ?_ | refine wx_setItem ?_ | refine wx_nil ?_ | refine we_app (by with_unfolding_all rfl) ?_ | refine we_ext (by with_unfolding_all rfl) ?_ | refine we_call (by assumption) ?_ | refine ⟨_, (by first | assumption | with_unfolding_all rfl), ?_⟩ | refine ⟨_, _, (by with_unfolding_all rfl), ?_⟩ | refine ⟨_, _, _, (by with_unfolding_all rfl), ?_⟩ | refine ⟨(by with_unfolding_all rfl), ?_⟩ | refine br_f (by first | assumption | with_unfolding_all rfl) ?_ | refine br_t (by first | assumption | with_unfolding_all rfl) ?_ | refine rb_f (by first | assumption | with_unfolding_all rfl) ?_ | refine rb_t (by first | assumption | with_unfolding_all rfl) ?_ | refine ⟨noOwn1 (by first | with_unfolding_all rfl | with_unfolding_all assumption), ?_⟩ | refine ⟨noOwn2 (by first | with_unfolding_all rfl | with_unfolding_all assumption) (by first | with_unfolding_all rfl | with_unfolding_all assumption), ?_⟩ | refine ⟨noOwn3 (by first | with_unfolding_all rfl | with_unfolding_all assumption) (by first | with_unfolding_all rfl | with_unfolding_all assumption) (by first | with_unfolding_all rfl | with_unfolding_all assumption), ?_⟩))
          refine ⟨by rw [List.length_map]; unfold sizeL; omega, ?_⟩
          (repeat with_reducible (first | refine we_v (by with_unfolding_all rfl) ?_ | refine we_o (by with_unfolding_all rfl) ?_ | refine we_c ?_ | refine we_op2 ?_ | refine we_op1 ?_ | refine we_meth ?_ | refine we_meth2 ?_ | refine we_to ?_ | refine we_from ?_ | refine we_fromto ?_ | refine we_and ?_ | refine we_or ?_ | refine we_not ?_ | refine we_ite ?_ | refine we_chain ?_ | refine we_tup ?_ | refine we_lst ?_ | refine we_dict0 ?_ | refine wv_nil ?_ | refine wv_cons ?_ | refine wa_nil ?_ | refine wa_cons ?_ | refine wi_seq ?_ | refine wi_enum ?_ | refine wi_zip ?_ | refine wi_rng1 ?_ | refine wi_rng2 ?_ | refine wx_set ?_ | refine wx_unpack ?_ | refine wx_par ?_ | refine wp_nil' ?_ | refine wp_cons' ?_ | refine wx_ex ?_ | refine wx_ret ?_ | refine wx_ite ?_ | refine wx_setItem ?_ | refine wx_nil ?_ | refine we_app (by with_unfolding_all rfl) ?_ | refine we_ext (by with_unfolding_all rfl) ?_ | refine we_call (by assumption) ?_ | refine ⟨_, (by first | assumption | with_unfolding_all rfl), ?_⟩ | refine ⟨_, _, (by with_unfolding_all rfl), ?_⟩ | refine ⟨_, _, _, (by with_unfolding_all rfl), ?_⟩ | refine ⟨(by with_unfolding_all rfl), ?_⟩ | refine br_f (by first | assumption | with_unfolding_all rfl) ?_ | refine br_t (by first | assumption | with_unfolding_all rfl) ?_ | refine rb_f (by first | assumption | with_unfolding_all rfl) ?_ | refine rb_t (by first | assumption | with_unfolding_all rfl) ?_ | refine ⟨noOwn1 (by first | with_unfolding_all rfl | with_unfolding_all assumption), ?_⟩ | refine ⟨noOwn2 (by first | with_unfolding_all rfl | with_unfolding_all assumption) (by first | with_unfolding_all rfl | with_unfolding_all assumption), ?_⟩ | refine ⟨noOwn3 (by first | with_unfolding_all rfl | with_unfolding_all assumption) (by first | with_unfolding_all rfl | with_unfolding_all assumption) (by first | with_unfolding_all rfl | with_unfolding_all assumption), ?_⟩))
          have := body (fd ++ [r]) (by unfold closeB; rw [q, q2]; rfl)
          rw [List.map_append] at this
          exact this
        · (repeat with_reducible (first | refine we_v (by with_unfolding_all rfl) ?_ | refine we_o (by with_unfolding_all rfl) ?_ | refine we_c ?_ | refine we_op2 ?_ | refine we_op1 ?_ | refine we_meth ?_ | refine we_meth2 ?_ | refine we_to ?_ | refine we_from ?_ | refine we_fromto ?_ | refine we_and ?_ | refine we_or ?_ | refine we_not ?_ | refine we_ite ?_ | refine we_chain ?_ | refine we_tup ?_ | refine we_lst ?_ | refine we_dict0 ?_ | refine wv_nil ?_ | refine wv_cons ?_ | refine wa_nil ?_ | refine wa_cons ?_ | refine wi_seq ?_ | refine wi_enum ?_ | refine wi_zip ?_ | refine wi_rng1 ?_ | refine wi_rng2 ?_ | refine wx_set ?_ | refine wx_unpack ?_ | refine wx_par ?_ | refine wp_nil' ?_ | refine wp_cons' ?_ | refine wx_ex ?_ | refine wx_ret ?_ | refine wx_ite ?_ | refine wx_setItem ?_ | refine wx_nil ?_ | refine we_app (by with_unfolding_all rfl) ?_ | refine we_ext (by with_unfolding_all rfl) ?_ | refine we_call (by assumption) ?_ | refine ⟨_, (by first | assumption | with_unfolding_all rfl), ?_⟩ | refine ⟨_, _, (by with_unfolding_all rfl), ?_⟩ | refine ⟨_, _, _, (by with_unfolding_all rfl), ?_⟩ | refine ⟨(by with_unfolding_all rfl), ?_⟩ | refine br_f (by first | assumption | with_unfolding_all rfl) ?_ | refine br_t (by first | assumption | with_unfolding_all rfl) ?_ | refine rb_f (by first | assumption | with_unfolding_all rfl) ?_ | refine rb_t (by first | assumption | with_unfolding_all rfl) ?_ | refine ⟨noOwn1 (by first | with_unfolding_all rfl | with_unfolding_all assumption), ?_⟩ | refine ⟨noOwn2 (by first | with_unfolding_all rfl | with_unfolding_all assumption) (by first | with_unfolding_all rfl | with_unfolding_all assumption), ?_⟩ | refine ⟨noOwn3 (by first | with_unfolding_all rfl | with_unfolding_all assumption) (by first | with_unfolding_all rfl | with_unfolding_all assumption) (by first | with_unfolding_all rfl | with_unfolding_all assumption), ?_⟩))
          exact body fd (by unfold closeB; rw [q, q2]; simp)
      · (repeat with_reducible (first | refine we_v (by with_unfolding_all rfl) ?_ | refine we_o (by with_unfolding_all rfl) ?_ | refine we_c ?_ | refine we_op2 ?_ | refine we_op1 ?_ | refine we_meth ?_ | refine we_meth2 ?_ | refine we_to ?_ | refine we_from ?_ | refine we_fromto ?_ | refine we_and ?_ | refine we_or ?_ | refine we_not ?_ | refine we_ite ?_ | refine we_chain ?_ | refine we_tup ?_ | refine we_lst ?_ | refine we_dict0 ?_ | refine wv_nil ?_ | refine wv_cons ?_ | refine wa_nil ?_ | refine wa_cons ?_ | refine wi_seq ?_ | refine wi_enum ?_ | refine wi_zip ?_ | refine wi_rng1 ?_ | refine wi_rng2 ?_ | refine wx_set ?_ | refine wx_unpack ?_ | refine wx_par ?_ | refine wp_nil' ?_ | refine wp_cons' ?_ | refine wx_ex ?_ | refine wx_ret ?_ | refine wx_ite ?_ | refine wx_setItem ?_ | refine wx_nil ?_ | refine we_app (by with_unfolding_all rfl) ?_ | refine we_ext (by with_unfolding_all rfl) ?_ | refine we_call (by assumption) ?_ | refine ⟨_, (by first | assumption | with_unfolding_all rfl), ?_⟩ | refine ⟨_, _, (by with_unfolding_all rfl), ?_⟩ | refine ⟨_, _, _, (by with_unfolding_all rfl), ?_⟩ | refine ⟨(by with_unfolding_all rfl), ?_⟩ | refine br_f (by first | assumption | with_unfolding_all rfl) ?_ | refine br_t (by first | assumption | with_unfolding_all rfl) ?_ | refine rb_f (by first | assumption | with_unfolding_all rfl) ?_ | refine rb_t (by first | assumption | with_unfolding_all rfl) ?_ | refine ⟨noOwn1 (by first | with_unfolding_all rfl | with_unfolding_all assumption), ?_⟩ | refine ⟨noOwn2 (by first | with_unfolding_all rfl | with_unfolding_all assumption) (by first | with_unfolding_all rfl | with_unfolding_all assumption), ?_⟩ | refine ⟨noOwn3 (by first | with_unfolding_all rfl | with_unfolding_all assumption) (by first | with_unfolding_all rfl | with_unfolding_all assumption) (by first | with_unfolding_all rfl | with_unfolding_all assumption), ?_⟩))
        exact body fd (by unfold closeB; rw [q]; simp)
end PV
set_option Elab.async false
set_option linter.all false
set_option maxRecDepth 100000
set_option maxHeartbeats 4000000
namespace PV
def FirmS (f : Web → Bool) (F : Rsl) : Prop := ∀ (n : Nat) (w : Web), okW n w → 1 ≤ n → n ≤ 5 → F [.val (webD w)] = .ok (.val (.bl (f w)), [.val (webD w)])
def Fis_firm (kfound_faults : Nat) : Fn := ⟨1, 1, (.cons (.ret (.op .eq (.cons (.call kfound_faults (.cons (.v 0) .nil)) (.cons (.lst .nil) .nil))))
  .nil)⟩
def Fstands_firm (kcheck_web kis_firm : Nat) : Fn := ⟨1, 1, (.cons (.ex (.call kcheck_web (.cons (.v 0) .nil)))
  (.cons (.ret (.call kis_firm (.cons (.v 0) .nil)))
  .nil))⟩
end PV
set_option Elab.async false
set_option linter.all false
set_option maxRecDepth 100000
set_option maxHeartbeats 4000000
namespace PV
def ownB (w : Web) (i : Nat) : Bool := decide (cell w i i = 43)
def ownF (i : Nat) : D := .tup [.str [111, 119, 110], .int (i : Nat)]
def prB (w : Web) (i j : Nat) : Bool := cell w i j != 48 && (cell w j i != 48 && decide (cell w i j = cell w j i))
def prF (i j : Nat) : D := .tup [.str [112, 97, 105, 114], .int (i : Nat), .int (j : Nat)]
def rgF (r : List Nat) : D := .tup [.str [114, 105, 110, 103], ordD r]
def noneF : D := .tup [.str [110, 111, 110, 101]]
def fromL (a n : Nat) : List Nat := (List.range (n - a)).map fun k => a + k
def prL (n : Nat) (w : Web) (i : Nat) : List D := ((fromL (i + 1) n).filter (prB w i)).map (prF i)
def ownsL (n : Nat) (w : Web) : List D := ((List.range n).filter (ownB w)).map ownF
def rgL (n : Nat) (w : Web) : List D := ((ringsL n w).filter fun r => decide (2 < r.length)).map rgF
def fltL (n : Nat) (w : Web) : List D := ownsL n w ++ (List.range n).flatMap (prL n w) ++ rgL n w ++ (if (dueOf w (ordL n)).isEmpty then [noneF] else []) ++ (whL n w).map wfD
def firm (w : Web) : Bool := (fltL w.length w).isEmpty
def FfX (F : Rsl) : Prop := ∀ (n : Nat) (w : Web), okW n w → 1 ≤ n → n ≤ 5 → F [.val (webD w)] = .ok (.fresh (.lst (fltL n w)), [.val (webD w)])
theorem prL_len (n : Nat) (w : Web) (i : Nat) : (prL n w i).length ≤ n := by
  unfold prL fromL
  rw [List.length_map]
  have := List.length_filter_le (prB w i) ((List.range (n - (i + 1))).map fun k => i + 1 + k)
  simp at this; omega
theorem fm_len {α : Type} (f : Nat → List α) (b : Nat) (h : ∀ i, (f i).length ≤ b) : ∀ l : List Nat, (l.flatMap f).length ≤ l.length * b
  | [] => by simp
  | x :: l => by
    have := fm_len f b h l
    have := h x
    rw [List.flatMap_cons, List.length_append, List.length_cons, Nat.succ_mul]; omega
theorem rgs_len {n : Nat} {w : Web} (h5 : n ≤ 5) : (ringsL n w).length ≤ 325 := by
  unfold ringsL
  rw [(isort_perm ltO _).length_eq]; exact tot_len h5
theorem ffx_s {Φ : Fns} {fl : Nat → List Bool} {kr kt kw : Nat} (fr : fl kr = [false]) (ft : fl kt = [false]) (fw : fl kw = [false]) (R : FrxS (Φ kr)) (T : FtS (Φ kt)) (Wh : FwS (Φ kw)) : FfX (runFn fl Φ (Ffound_faults kr kt kw)) := fun n w hw h1 h5 => by
  have hl := hw.1
  have hlen : Op.run1 .len (webD w) = some (false, .int (n : Int)) := by rw [len_web, hl]
  have cel : ∀ i j : Nat, i < n → j < n → Op.run2 .idx (webD w) (.int (i : Int)) = some (false, .str (w.getD i [])) ∧ Op.run2 .idx (.str (w.getD i [])) (.int (j : Int)) = some (false, .str [cell w i j]) ∧ Op.run2 .ne (.str [cell w i j]) (.str [48]) = some (false, .bl (cell w i j != 48)) := fun i j hi hj =>
    ⟨idx_web (by rw [hl]; exact hi), idx_str (by rw [(row_len hw hi).1]; omega) (cellT hw hi hj), by rw [ne_sg]; rfl⟩
  have lr : Op.run1 .lrng (.int (n : Int)) = some (true, .lst (natsD n)) := by
    show (match rngOk 0 (n : Int) with | some xs => some (if false then (false, D.tup xs) else (true, D.lst xs)) | none => none) = _
    rw [rng_nat (by omega)]; rfl
  have rl := rgs_len (w := w) h5
  have rfl1 : (rgL n w).length ≤ 325 := by
    unfold rgL
    rw [List.length_map]
    have := List.length_filter_le (fun r : List Nat => decide (2 < r.length)) (ringsL n w); omega
  have ol : (ownsL n w).length ≤ 5 := by
    unfold ownsL
    rw [List.length_map]
    have := List.length_filter_le (ownB w) (List.range n)
    rw [List.length_range] at this; omega
  have pl : ∀ k, k ≤ n → ((List.range k).flatMap (prL n w)).length ≤ 25 := fun k hk => by
    have := fm_len (prL n w) 5 (fun i => by have := prL_len n w i; omega) (List.range k)
    rw [List.length_range] at this; omega
  have wl := wh_len (w := w) h5
  refine wf_ok rfl ?_
  simp only [Ffound_faults, start, Nat.reduceSub, List.reduceReplicate, List.cons_append, List.nil_append, finish]
  (repeat with_reducible (first | refine we_v (by with_unfolding_all rfl) ?_ | refine we_o (by with_unfolding_all rfl) ?_ | refine we_c ?_ | refine we_op2 ?_ | refine we_op1 ?_ | refine we_meth ?_ | refine we_meth2 ?_ | refine we_to ?_ | refine we_from ?_ | refine we_fromto ?_ | refine we_and ?_ | refine we_or ?_ | refine we_not ?_ | refine we_ite ?_ | refine we_chain ?_ | refine we_tup ?_ | refine we_lst ?_ | refine we_dict0 ?_ | refine wv_nil ?_ | refine wv_cons ?_ | refine wa_nil ?_ | refine wa_cons ?_ | refine wi_seq ?_ | refine wi_enum ?_ | refine wi_zip ?_ | refine wi_rng1 ?_ | refine wi_rng2 ?_ | refine wx_set ?_ | refine wx_unpack ?_ | refine wx_par ?_ | refine wp_nil' ?_ | refine wp_cons' ?_ | refine wx_ex ?_ | refine wx_ret ?_ | refine wx_ite ?_ | refine wx_setItem ?_ | refine wx_nil ?_ | refine we_app (by with_unfolding_all rfl) ?_ | refine we_ext (by with_unfolding_all rfl) ?_ | refine we_call (by assumption) ?_ | refine ⟨_, (by first | assumption | exact hlen | exact lr | with_unfolding_all rfl), ?_⟩ | refine ⟨_, _, (by with_unfolding_all rfl), ?_⟩ | refine ⟨_, _, _, (by with_unfolding_all rfl), ?_⟩ | refine ⟨(by with_unfolding_all rfl), ?_⟩ | refine br_f (by first | assumption | with_unfolding_all rfl) ?_ | refine br_t (by first | assumption | with_unfolding_all rfl) ?_ | refine rb_f (by first | assumption | with_unfolding_all rfl) ?_ | refine rb_t (by first | assumption | with_unfolding_all rfl) ?_ | refine ⟨noOwn1 (by first | with_unfolding_all rfl | with_unfolding_all assumption), ?_⟩ | refine ⟨noOwn2 (by first | with_unfolding_all rfl | with_unfolding_all assumption) (by first | with_unfolding_all rfl | with_unfolding_all assumption), ?_⟩ | refine ⟨noOwn3 (by first | with_unfolding_all rfl | with_unfolding_all assumption) (by first | with_unfolding_all rfl | with_unfolding_all assumption) (by first | with_unfolding_all rfl | with_unfolding_all assumption), ?_⟩))
  refine we_compM (List.range n) (fun k : Nat => D.int (k : Int)) (ownB w) ownF ?_
  (repeat with_reducible (first | refine we_v (by with_unfolding_all rfl) ?_ | refine we_o (by with_unfolding_all rfl) ?_ | refine we_c ?_ | refine we_op2 ?_ | refine we_op1 ?_ | refine we_meth ?_ | refine we_meth2 ?_ | refine we_to ?_ | refine we_from ?_ | refine we_fromto ?_ | refine we_and ?_ | refine we_or ?_ | refine we_not ?_ | refine we_ite ?_ | refine we_chain ?_ | refine we_tup ?_ | refine we_lst ?_ | refine we_dict0 ?_ | refine wv_nil ?_ | refine wv_cons ?_ | refine wa_nil ?_ | refine wa_cons ?_ | refine wi_seq ?_ | refine wi_enum ?_ | refine wi_zip ?_ | refine wi_rng1 ?_ | refine wi_rng2 ?_ | refine wx_set ?_ | refine wx_unpack ?_ | refine wx_par ?_ | refine wp_nil' ?_ | refine wp_cons' ?_ | refine wx_ex ?_ | refine wx_ret ?_ | refine wx_ite ?_ | refine wx_setItem ?_ | refine wx_nil ?_ | refine we_app (by with_unfolding_all rfl) ?_ | refine we_ext (by with_unfolding_all rfl) ?_ | refine we_call (by assumption) ?_ | refine ⟨_, (by first | assumption | with_unfolding_all rfl), ?_⟩ | refine ⟨_, _, (by with_unfolding_all rfl), ?_⟩ | refine ⟨_, _, _, (by with_unfolding_all rfl), ?_⟩ | refine ⟨(by with_unfolding_all rfl), ?_⟩ | refine br_f (by first | assumption | with_unfolding_all rfl) ?_ | refine br_t (by first | assumption | with_unfolding_all rfl) ?_ | refine rb_f (by first | assumption | with_unfolding_all rfl) ?_ | refine rb_t (by first | assumption | with_unfolding_all rfl) ?_ | refine ⟨noOwn1 (by first | with_unfolding_all rfl | with_unfolding_all assumption), ?_⟩ | refine ⟨noOwn2 (by first | with_unfolding_all rfl | with_unfolding_all assumption) (by first | with_unfolding_all rfl | with_unfolding_all assumption), ?_⟩ | refine ⟨noOwn3 (by first | with_unfolding_all rfl | with_unfolding_all assumption) (by first | with_unfolding_all rfl | with_unfolding_all assumption) (by first | with_unfolding_all rfl | with_unfolding_all assumption), ?_⟩))
  refine ⟨by rw [List.length_range]; unfold sizeL; omega, fun i hi => ?_, ?_⟩
  · have hi : i < n := List.mem_range.mp hi
    obtain ⟨c1, c2, c3⟩ := cel i i hi hi
    (repeat with_reducible (first | refine we_v (by with_unfolding_all rfl) ?_ | refine we_o (by with_unfolding_all rfl) ?_ | refine we_c ?_ | refine we_op2 ?_ | refine we_op1 ?_ | refine we_meth ?_ | refine we_meth2 ?_ | refine we_to ?_ | refine we_from ?_ | refine we_fromto ?_ | refine we_and ?_ | refine we_or ?_ | refine we_not ?_ | refine we_ite ?_ | refine we_chain ?_ | refine we_tup ?_ | refine we_lst ?_ | refine we_dict0 ?_ | refine wv_nil ?_ | refine wv_cons ?_ | refine wa_nil ?_ | refine wa_cons ?_ | refine wi_seq ?_ | refine wi_enum ?_ | refine wi_zip ?_ | refine wi_rng1 ?_ | refine wi_rng2 ?_ | refine wx_set ?_ | refine wx_unpack ?_ | refine wx_par ?_ | refine wp_nil' ?_ | refine wp_cons' ?_ | refine wx_ex ?_ | refine wx_ret ?_ | refine wx_ite ?_ | refine wx_setItem ?_ | refine wx_nil ?_ | refine we_app (by with_unfolding_all rfl) ?_ | refine we_ext (by with_unfolding_all rfl) ?_ | refine we_call (by assumption) ?_ | refine ⟨_, (by first | assumption | exact c1 | exact c2 | exact eqsg _ _ | with_unfolding_all rfl), ?_⟩ | refine ⟨_, _, (by with_unfolding_all rfl), ?_⟩ | refine ⟨_, _, _, (by with_unfolding_all rfl), ?_⟩ | refine ⟨(by with_unfolding_all rfl), ?_⟩ | refine br_f (by first | assumption | with_unfolding_all rfl) ?_ | refine br_t (by first | assumption | with_unfolding_all rfl) ?_ | refine rb_f (by first | assumption | with_unfolding_all rfl) ?_ | refine rb_t (by first | assumption | with_unfolding_all rfl) ?_ | refine ⟨noOwn1 (by first | with_unfolding_all rfl | with_unfolding_all assumption), ?_⟩ | refine ⟨noOwn2 (by first | with_unfolding_all rfl | with_unfolding_all assumption) (by first | with_unfolding_all rfl | with_unfolding_all assumption), ?_⟩ | refine ⟨noOwn3 (by first | with_unfolding_all rfl | with_unfolding_all assumption) (by first | with_unfolding_all rfl | with_unfolding_all assumption) (by first | with_unfolding_all rfl | with_unfolding_all assumption), ?_⟩))
    refine ⟨fun q => ?_, fun q => ?_⟩
    · (repeat with_reducible (first | refine we_v (by with_unfolding_all rfl) ?_ | refine we_o (by with_unfolding_all rfl) ?_ | refine we_c ?_ | refine we_op2 ?_ | refine we_op1 ?_ | refine we_meth ?_ | refine we_meth2 ?_ | refine we_to ?_ | refine we_from ?_ | refine we_fromto ?_ | refine we_and ?_ | refine we_or ?_ | refine we_not ?_ | refine we_ite ?_ | refine we_chain ?_ | refine we_tup ?_ | refine we_lst ?_ | refine we_dict0 ?_ | refine wv_nil ?_ | refine wv_cons ?_ | refine wa_nil ?_ | refine wa_cons ?_ | refine wi_seq ?_ | refine wi_enum ?_ | refine wi_zip ?_ | refine wi_rng1 ?_ | refine wi_rng2 ?_ | refine wx_set ?_ | refine wx_unpack ?_ | refine wx_par ?_ | refine wp_nil' ?_ | refine wp_cons' ?_ | refine wx_ex ?_ | refine wx_ret ?_ | refine wx_ite ?_ | refine wx_setItem ?_ | refine wx_nil ?_ | refine we_app (by with_unfolding_all rfl) ?_ | refine we_ext (by with_unfolding_all rfl) ?_ | refine we_call (by assumption) ?_ | refine ⟨_, (by first | assumption | with_unfolding_all rfl), ?_⟩ | refine ⟨_, _, (by with_unfolding_all rfl), ?_⟩ | refine ⟨_, _, _, (by with_unfolding_all rfl), ?_⟩ | refine ⟨(by with_unfolding_all rfl), ?_⟩ | refine br_f (by first | assumption | with_unfolding_all rfl) ?_ | refine br_t (by first | assumption | with_unfolding_all rfl) ?_ | refine rb_f (by first | assumption | with_unfolding_all rfl) ?_ | refine rb_t (by first | assumption | with_unfolding_all rfl) ?_ | refine ⟨noOwn1 (by first | with_unfolding_all rfl | with_unfolding_all assumption), ?_⟩ | refine ⟨noOwn2 (by first | with_unfolding_all rfl | with_unfolding_all assumption) (by first | with_unfolding_all rfl | with_unfolding_all assumption), ?_⟩ | refine ⟨noOwn3 (by first | with_unfolding_all rfl | with_unfolding_all assumption) (by first | with_unfolding_all rfl | with_unfolding_all assumption) (by first | with_unfolding_all rfl | with_unfolding_all assumption), ?_⟩))
      rfl
    · rfl
  (repeat with_reducible (first | refine we_v (by with_unfolding_all rfl) ?_ | refine we_o (by with_unfolding_all rfl) ?_ | refine we_c ?_ | refine we_op2 ?_ | refine we_op1 ?_ | refine we_meth ?_ | refine we_meth2 ?_ | refine we_to ?_ | refine we_from ?_ | refine we_fromto ?_ | refine we_and ?_ | refine we_or ?_ | refine we_not ?_ | refine we_ite ?_ | refine we_chain ?_ | refine we_tup ?_ | refine we_lst ?_ | refine we_dict0 ?_ | refine wv_nil ?_ | refine wv_cons ?_ | refine wa_nil ?_ | refine wa_cons ?_ | refine wi_seq ?_ | refine wi_enum ?_ | refine wi_zip ?_ | refine wi_rng1 ?_ | refine wi_rng2 ?_ | refine wx_set ?_ | refine wx_unpack ?_ | refine wx_par ?_ | refine wp_nil' ?_ | refine wp_cons' ?_ | refine wx_ex ?_ | refine wx_ret ?_ | refine wx_ite ?_ | refine wx_setItem ?_ | refine wx_nil ?_ | refine we_app (by with_unfolding_all rfl) ?_ | refine we_ext (by with_unfolding_all rfl) ?_ | refine we_call (by assumption) ?_ | refine ⟨_, (by first | assumption | with_unfolding_all rfl), ?_⟩ | refine ⟨_, _, (by with_unfolding_all rfl), ?_⟩ | refine ⟨_, _, _, (by with_unfolding_all rfl), ?_⟩ | refine ⟨(by with_unfolding_all rfl), ?_⟩ | refine br_f (by first | assumption | with_unfolding_all rfl) ?_ | refine br_t (by first | assumption | with_unfolding_all rfl) ?_ | refine rb_f (by first | assumption | with_unfolding_all rfl) ?_ | refine rb_t (by first | assumption | with_unfolding_all rfl) ?_ | refine ⟨noOwn1 (by first | with_unfolding_all rfl | with_unfolding_all assumption), ?_⟩ | refine ⟨noOwn2 (by first | with_unfolding_all rfl | with_unfolding_all assumption) (by first | with_unfolding_all rfl | with_unfolding_all assumption), ?_⟩ | refine ⟨noOwn3 (by first | with_unfolding_all rfl | with_unfolding_all assumption) (by first | with_unfolding_all rfl | with_unfolding_all assumption) (by first | with_unfolding_all rfl | with_unfolding_all assumption), ?_⟩))
  refine wx_for (fun k s => ∃ x y, s = [.val (webD w), .val (.lst (natsD n)), x, .own none (.lst (ownsL n w ++ (List.range k).flatMap (prL n w))), y, .none, .none]) ?_
  (repeat with_reducible (first | refine we_v (by with_unfolding_all rfl) ?_ | refine we_o (by with_unfolding_all rfl) ?_ | refine we_c ?_ | refine we_op2 ?_ | refine we_op1 ?_ | refine we_meth ?_ | refine we_meth2 ?_ | refine we_to ?_ | refine we_from ?_ | refine we_fromto ?_ | refine we_and ?_ | refine we_or ?_ | refine we_not ?_ | refine we_ite ?_ | refine we_chain ?_ | refine we_tup ?_ | refine we_lst ?_ | refine we_dict0 ?_ | refine wv_nil ?_ | refine wv_cons ?_ | refine wa_nil ?_ | refine wa_cons ?_ | refine wi_seq ?_ | refine wi_enum ?_ | refine wi_zip ?_ | refine wi_rng1 ?_ | refine wi_rng2 ?_ | refine wx_set ?_ | refine wx_unpack ?_ | refine wx_par ?_ | refine wp_nil' ?_ | refine wp_cons' ?_ | refine wx_ex ?_ | refine wx_ret ?_ | refine wx_ite ?_ | refine wx_setItem ?_ | refine wx_nil ?_ | refine we_app (by with_unfolding_all rfl) ?_ | refine we_ext (by with_unfolding_all rfl) ?_ | refine we_call (by assumption) ?_ | refine ⟨_, (by first | assumption | with_unfolding_all rfl), ?_⟩ | refine ⟨_, _, (by with_unfolding_all rfl), ?_⟩ | refine ⟨_, _, _, (by with_unfolding_all rfl), ?_⟩ | refine ⟨(by with_unfolding_all rfl), ?_⟩ | refine br_f (by first | assumption | with_unfolding_all rfl) ?_ | refine br_t (by first | assumption | with_unfolding_all rfl) ?_ | refine rb_f (by first | assumption | with_unfolding_all rfl) ?_ | refine rb_t (by first | assumption | with_unfolding_all rfl) ?_ | refine ⟨noOwn1 (by first | with_unfolding_all rfl | with_unfolding_all assumption), ?_⟩ | refine ⟨noOwn2 (by first | with_unfolding_all rfl | with_unfolding_all assumption) (by first | with_unfolding_all rfl | with_unfolding_all assumption), ?_⟩ | refine ⟨noOwn3 (by first | with_unfolding_all rfl | with_unfolding_all assumption) (by first | with_unfolding_all rfl | with_unfolding_all assumption) (by first | with_unfolding_all rfl | with_unfolding_all assumption), ?_⟩))
  refine ⟨⟨.none, .none, ?_⟩, ?_, ?_⟩
  · rw [List.range_zero, List.flatMap_nil, List.append_nil]; rfl
  · rintro i x s hx ⟨x0, y0, rfl⟩
    obtain ⟨rfl, hi⟩ := nats_at hx
    (repeat with_reducible (first | refine we_v (by with_unfolding_all rfl) ?_ | refine we_o (by with_unfolding_all rfl) ?_ | refine we_c ?_ | refine we_op2 ?_ | refine we_op1 ?_ | refine we_meth ?_ | refine we_meth2 ?_ | refine we_to ?_ | refine we_from ?_ | refine we_fromto ?_ | refine we_and ?_ | refine we_or ?_ | refine we_not ?_ | refine we_ite ?_ | refine we_chain ?_ | refine we_tup ?_ | refine we_lst ?_ | refine we_dict0 ?_ | refine wv_nil ?_ | refine wv_cons ?_ | refine wa_nil ?_ | refine wa_cons ?_ | refine wi_seq ?_ | refine wi_enum ?_ | refine wi_zip ?_ | refine wi_rng1 ?_ | refine wi_rng2 ?_ | refine wx_set ?_ | refine wx_unpack ?_ | refine wx_par ?_ | refine wp_nil' ?_ | refine wp_cons' ?_ | refine wx_ex ?_ | refine wx_ret ?_ | refine wx_ite ?_ | refine wx_setItem ?_ | refine wx_nil ?_ | refine we_app (by with_unfolding_all rfl) ?_ | refine we_ext (by with_unfolding_all rfl) ?_ | refine we_call (by assumption) ?_ | refine ⟨_, (by first | assumption | with_unfolding_all rfl), ?_⟩ | refine ⟨_, _, (by with_unfolding_all rfl), ?_⟩ | refine ⟨_, _, _, (by with_unfolding_all rfl), ?_⟩ | refine ⟨(by with_unfolding_all rfl), ?_⟩ | refine br_f (by first | assumption | with_unfolding_all rfl) ?_ | refine br_t (by first | assumption | with_unfolding_all rfl) ?_ | refine rb_f (by first | assumption | with_unfolding_all rfl) ?_ | refine rb_t (by first | assumption | with_unfolding_all rfl) ?_ | refine ⟨noOwn1 (by first | with_unfolding_all rfl | with_unfolding_all assumption), ?_⟩ | refine ⟨noOwn2 (by first | with_unfolding_all rfl | with_unfolding_all assumption) (by first | with_unfolding_all rfl | with_unfolding_all assumption), ?_⟩ | refine ⟨noOwn3 (by first | with_unfolding_all rfl | with_unfolding_all assumption) (by first | with_unfolding_all rfl | with_unfolding_all assumption) (by first | with_unfolding_all rfl | with_unfolding_all assumption), ?_⟩))
    have pli := pl i (by omega)
    have plx := prL_len n w i
    with_reducible refine wx_for (fun (k : Nat) (s : St) => ∃ y : Sl, s = [.val (webD w), .val (.lst (natsD n)), .val (.int (i : Int)), .own none (.lst (ownsL n w ++ (List.range i).flatMap (prL n w) ++ (((fromL (i + 1) n).take k).filter (prB w i)).map (prF i))), y, .none, .none]) ?_
    have ead : Op.run2 .add (.int (i : Int)) (.int 1) = some (false, .int ((i + 1 : Nat) : Int)) := add1 _
    (repeat with_reducible (first | refine we_v (by with_unfolding_all rfl) ?_ | refine we_o (by with_unfolding_all rfl) ?_ | refine we_c ?_ | refine we_op2 ?_ | refine we_op1 ?_ | refine we_meth ?_ | refine we_meth2 ?_ | refine we_to ?_ | refine we_from ?_ | refine we_fromto ?_ | refine we_and ?_ | refine we_or ?_ | refine we_not ?_ | refine we_ite ?_ | refine we_chain ?_ | refine we_tup ?_ | refine we_lst ?_ | refine we_dict0 ?_ | refine wv_nil ?_ | refine wv_cons ?_ | refine wa_nil ?_ | refine wa_cons ?_ | refine wi_seq ?_ | refine wi_enum ?_ | refine wi_zip ?_ | refine wi_rng1 ?_ | refine wi_rng2 ?_ | refine wx_set ?_ | refine wx_unpack ?_ | refine wx_par ?_ | refine wp_nil' ?_ | refine wp_cons' ?_ | refine wx_ex ?_ | refine wx_ret ?_ | refine wx_ite ?_ | refine wx_setItem ?_ | refine wx_nil ?_ | refine we_app (by with_unfolding_all rfl) ?_ | refine we_ext (by with_unfolding_all rfl) ?_ | refine we_call (by assumption) ?_ | refine ⟨_, (by first | assumption | exact hlen | exact rng_from (show i + 1 ≤ 1000000 by omega) (show n ≤ 1000000 by omega) | with_unfolding_all rfl), ?_⟩ | refine ⟨_, _, (by with_unfolding_all rfl), ?_⟩ | refine ⟨_, _, _, (by with_unfolding_all rfl), ?_⟩ | refine ⟨(by with_unfolding_all rfl), ?_⟩ | refine br_f (by first | assumption | with_unfolding_all rfl) ?_ | refine br_t (by first | assumption | with_unfolding_all rfl) ?_ | refine rb_f (by first | assumption | with_unfolding_all rfl) ?_ | refine rb_t (by first | assumption | with_unfolding_all rfl) ?_ | refine ⟨noOwn1 (by first | with_unfolding_all rfl | with_unfolding_all assumption), ?_⟩ | refine ⟨noOwn2 (by first | with_unfolding_all rfl | with_unfolding_all assumption) (by first | with_unfolding_all rfl | with_unfolding_all assumption), ?_⟩ | refine ⟨noOwn3 (by first | with_unfolding_all rfl | with_unfolding_all assumption) (by first | with_unfolding_all rfl | with_unfolding_all assumption) (by first | with_unfolding_all rfl | with_unfolding_all assumption), ?_⟩))
    refine ⟨⟨y0, by simp⟩, ?_, ?_⟩
    · rintro j x s hx ⟨yy, rfl⟩
      have hx : ((fromL (i + 1) n).map fun (i : Nat) => D.int (i : Int))[j]? = some x := by unfold fromL; rw [List.map_map]; exact hx
      obtain ⟨y, hy, rfl, hym, hyl⟩ := map_at hx
      have hyn : y < n := by
        obtain ⟨i, hi, rfl⟩ := List.mem_map.mp hym
        have := List.mem_range.mp hi
        omega
      have htk : (fromL (i + 1) n).take (j + 1) = (fromL (i + 1) n).take j ++ [y] := by rw [List.take_succ, hy]; rfl
      have elen : (ownsL n w ++ (List.range i).flatMap (prL n w) ++ (((fromL (i + 1) n).take j).filter (prB w i)).map (prF i)).length ≤ 2000 := by
        have h1 := List.length_filter_le (prB w i) ((fromL (i + 1) n).take j)
        have h2 : (fromL (i + 1) n).length = n - (i + 1) := by unfold fromL; simp
        simp only [List.length_append, List.length_map, List.length_take] at h1 ⊢
        omega
      obtain ⟨c1, c2, c3⟩ := cel i y hi hyn
      obtain ⟨d1, d2, d3⟩ := cel y i hyn hi
      rw [htk, List.filter_append]
      have hno : prB w i y = false → [y].filter (prB w i) = [] := fun h => by simp [List.filter_cons, h]
      (repeat with_reducible (first | refine we_v (by with_unfolding_all rfl) ?_ | refine we_o (by with_unfolding_all rfl) ?_ | refine we_c ?_ | refine we_op2 ?_ | refine we_op1 ?_ | refine we_meth ?_ | refine we_meth2 ?_ | refine we_to ?_ | refine we_from ?_ | refine we_fromto ?_ | refine we_and ?_ | refine we_or ?_ | refine we_not ?_ | refine we_ite ?_ | refine we_chain ?_ | refine we_tup ?_ | refine we_lst ?_ | refine we_dict0 ?_ | refine wv_nil ?_ | refine wv_cons ?_ | refine wa_nil ?_ | refine wa_cons ?_ | refine wi_seq ?_ | refine wi_enum ?_ | refine wi_zip ?_ | refine wi_rng1 ?_ | refine wi_rng2 ?_ | refine wx_set ?_ | refine wx_unpack ?_ | refine wx_par ?_ | refine wp_nil' ?_ | refine wp_cons' ?_ | refine wx_ex ?_ | refine wx_ret ?_ | refine wx_ite ?_ | refine wx_setItem ?_ | refine wx_nil ?_ | refine we_app (by with_unfolding_all rfl) ?_ | refine we_ext (by with_unfolding_all rfl) ?_ | refine we_call (by assumption) ?_ | refine ⟨_, (by first | assumption | with_unfolding_all rfl), ?_⟩ | refine ⟨_, _, (by with_unfolding_all rfl), ?_⟩ | refine ⟨_, _, _, (by with_unfolding_all rfl), ?_⟩ | refine ⟨(by with_unfolding_all rfl), ?_⟩ | refine br_f (by first | assumption | with_unfolding_all rfl) ?_ | refine br_t (by first | assumption | with_unfolding_all rfl) ?_ | refine rb_f (by first | assumption | with_unfolding_all rfl) ?_ | refine rb_t (by first | assumption | with_unfolding_all rfl) ?_ | refine ⟨noOwn1 (by first | with_unfolding_all rfl | with_unfolding_all assumption), ?_⟩ | refine ⟨noOwn2 (by first | with_unfolding_all rfl | with_unfolding_all assumption) (by first | with_unfolding_all rfl | with_unfolding_all assumption), ?_⟩ | refine ⟨noOwn3 (by first | with_unfolding_all rfl | with_unfolding_all assumption) (by first | with_unfolding_all rfl | with_unfolding_all assumption) (by first | with_unfolding_all rfl | with_unfolding_all assumption), ?_⟩))
      refine ⟨fun q => ?_, fun q => ?_⟩
      · (repeat with_reducible (first | refine we_v (by with_unfolding_all rfl) ?_ | refine we_o (by with_unfolding_all rfl) ?_ | refine we_c ?_ | refine we_op2 ?_ | refine we_op1 ?_ | refine we_meth ?_ | refine we_meth2 ?_ | refine we_to ?_ | refine we_from ?_ | refine we_fromto ?_ | refine we_and ?_ | refine we_or ?_ | refine we_not ?_ | refine we_ite ?_ | refine we_chain ?_ | refine we_tup ?_ | refine we_lst ?_ | refine we_dict0 ?_ | refine wv_nil ?_ | refine wv_cons ?_ | refine wa_nil ?_ | refine wa_cons ?_ | refine wi_seq ?_ | refine wi_enum ?_ | refine wi_zip ?_ | refine wi_rng1 ?_ | refine wi_rng2 ?_ | refine wx_set ?_ | refine wx_unpack ?_ | refine wx_par ?_ | refine wp_nil' ?_ | refine wp_cons' ?_ | refine wx_ex ?_ | refine wx_ret ?_ | refine wx_ite ?_ | refine wx_setItem ?_ | refine wx_nil ?_ | refine we_app (by with_unfolding_all rfl) ?_ | refine we_ext (by with_unfolding_all rfl) ?_ | refine we_call (by assumption) ?_ | refine ⟨_, (by first | assumption | with_unfolding_all rfl), ?_⟩ | refine ⟨_, _, (by with_unfolding_all rfl), ?_⟩ | refine ⟨_, _, _, (by with_unfolding_all rfl), ?_⟩ | refine ⟨(by with_unfolding_all rfl), ?_⟩ | refine br_f (by first | assumption | with_unfolding_all rfl) ?_ | refine br_t (by first | assumption | with_unfolding_all rfl) ?_ | refine rb_f (by first | assumption | with_unfolding_all rfl) ?_ | refine rb_t (by first | assumption | with_unfolding_all rfl) ?_ | refine ⟨noOwn1 (by first | with_unfolding_all rfl | with_unfolding_all assumption), ?_⟩ | refine ⟨noOwn2 (by first | with_unfolding_all rfl | with_unfolding_all assumption) (by first | with_unfolding_all rfl | with_unfolding_all assumption), ?_⟩ | refine ⟨noOwn3 (by first | with_unfolding_all rfl | with_unfolding_all assumption) (by first | with_unfolding_all rfl | with_unfolding_all assumption) (by first | with_unfolding_all rfl | with_unfolding_all assumption), ?_⟩))
        refine ⟨fun q2 => ?_, fun q2 => ?_⟩
        · (repeat with_reducible (first | refine we_v (by with_unfolding_all rfl) ?_ | refine we_o (by with_unfolding_all rfl) ?_ | refine we_c ?_ | refine we_op2 ?_ | refine we_op1 ?_ | refine we_meth ?_ | refine we_meth2 ?_ | refine we_to ?_ | refine we_from ?_ | refine we_fromto ?_ | refine we_and ?_ | refine we_or ?_ | refine we_not ?_ | refine we_ite ?_ | refine we_chain ?_ | refine we_tup ?_ | refine we_lst ?_ | refine we_dict0 ?_ | refine wv_nil ?_ | refine wv_cons ?_ | refine wa_nil ?_ | refine wa_cons ?_ | refine wi_seq ?_ | refine wi_enum ?_ | refine wi_zip ?_ | refine wi_rng1 ?_ | refine wi_rng2 ?_ | refine wx_set ?_ | refine wx_unpack ?_ | refine wx_par ?_ | refine wp_nil' ?_ | refine wp_cons' ?_ | refine wx_ex ?_ | refine wx_ret ?_ | refine wx_ite ?_ | refine wx_setItem ?_ | refine wx_nil ?_ | refine we_app (by with_unfolding_all rfl) ?_ | refine we_ext (by with_unfolding_all rfl) ?_ | refine we_call (by assumption) ?_ | refine ⟨_, (by first | assumption | exact eqsg _ _ | with_unfolding_all rfl), ?_⟩ | refine ⟨_, _, (by with_unfolding_all rfl), ?_⟩ | refine ⟨_, _, _, (by with_unfolding_all rfl), ?_⟩ | refine ⟨(by with_unfolding_all rfl), ?_⟩ | refine br_f (by first | assumption | with_unfolding_all rfl) ?_ | refine br_t (by first | assumption | with_unfolding_all rfl) ?_ | refine rb_f (by first | assumption | with_unfolding_all rfl) ?_ | refine rb_t (by first | assumption | with_unfolding_all rfl) ?_ | refine ⟨noOwn1 (by first | with_unfolding_all rfl | with_unfolding_all assumption), ?_⟩ | refine ⟨noOwn2 (by first | with_unfolding_all rfl | with_unfolding_all assumption) (by first | with_unfolding_all rfl | with_unfolding_all assumption), ?_⟩ | refine ⟨noOwn3 (by first | with_unfolding_all rfl | with_unfolding_all assumption) (by first | with_unfolding_all rfl | with_unfolding_all assumption) (by first | with_unfolding_all rfl | with_unfolding_all assumption), ?_⟩))
          refine ⟨fun q3 => ?_, fun q3 => ?_⟩
          · (repeat with_reducible (first | refine we_v (by with_unfolding_all rfl) ?_ | refine we_o (by with_unfolding_all rfl) ?_ | refine we_c ?_ | refine we_op2 ?_ | refine we_op1 ?_ | refine we_meth ?_ | refine we_meth2 ?_ | refine we_to ?_ | refine we_from ?_ | refine we_fromto ?_ | refine we_and ?_ | refine we_or ?_ | refine we_not ?_ | refine we_ite ?_ | refine we_chain ?_ | refine we_tup ?_ | refine we_lst ?_ | refine we_dict0 ?_ | refine wv_nil ?_ | refine wv_cons ?_ | refine wa_nil ?_ | refine wa_cons ?_ | refine wi_seq ?_ | refine wi_enum ?_ | refine wi_zip ?_ | refine wi_rng1 ?_ | refine wi_rng2 ?_ | refine wx_set ?_ | refine wx_unpack ?_ | refine wx_par ?_ | refine wp_nil' ?_ | refine wp_cons' ?_ | refine wx_ex ?_ | refine wx_ret ?_ | refine wx_ite ?_ | refine wx_setItem ?_ | refine wx_nil ?_ | refine we_app (by with_unfolding_all rfl) ?_ | refine we_ext (by with_unfolding_all rfl) ?_ | refine we_call (by assumption) ?_ | refine ⟨_, (by first | assumption | with_unfolding_all rfl), ?_⟩ | refine ⟨_, _, (by with_unfolding_all rfl), ?_⟩ | refine ⟨_, _, _, (by with_unfolding_all rfl), ?_⟩ | refine ⟨(by with_unfolding_all rfl), ?_⟩ | refine br_f (by first | assumption | with_unfolding_all rfl) ?_ | refine br_t (by first | assumption | with_unfolding_all rfl) ?_ | refine rb_f (by first | assumption | with_unfolding_all rfl) ?_ | refine rb_t (by first | assumption | with_unfolding_all rfl) ?_ | refine ⟨noOwn1 (by first | with_unfolding_all rfl | with_unfolding_all assumption), ?_⟩ | refine ⟨noOwn2 (by first | with_unfolding_all rfl | with_unfolding_all assumption) (by first | with_unfolding_all rfl | with_unfolding_all assumption), ?_⟩ | refine ⟨noOwn3 (by first | with_unfolding_all rfl | with_unfolding_all assumption) (by first | with_unfolding_all rfl | with_unfolding_all assumption) (by first | with_unfolding_all rfl | with_unfolding_all assumption), ?_⟩))
            refine ⟨by unfold sizeL; omega, ?_⟩
            (repeat with_reducible (first | refine we_v (by with_unfolding_all rfl) ?_ | refine we_o (by with_unfolding_all rfl) ?_ | refine we_c ?_ | refine we_op2 ?_ | refine we_op1 ?_ | refine we_meth ?_ | refine we_meth2 ?_ | refine we_to ?_ | refine we_from ?_ | refine we_fromto ?_ | refine we_and ?_ | refine we_or ?_ | refine we_not ?_ | refine we_ite ?_ | refine we_chain ?_ | refine we_tup ?_ | refine we_lst ?_ | refine we_dict0 ?_ | refine wv_nil ?_ | refine wv_cons ?_ | refine wa_nil ?_ | refine wa_cons ?_ | refine wi_seq ?_ | refine wi_enum ?_ | refine wi_zip ?_ | refine wi_rng1 ?_ | refine wi_rng2 ?_ | refine wx_set ?_ | refine wx_unpack ?_ | refine wx_par ?_ | refine wp_nil' ?_ | refine wp_cons' ?_ | refine wx_ex ?_ | refine wx_ret ?_ | refine wx_ite ?_ | refine wx_setItem ?_ | refine wx_nil ?_ | refine we_app (by with_unfolding_all rfl) ?_ | refine we_ext (by with_unfolding_all rfl) ?_ | refine we_call (by assumption) ?_ | refine ⟨_, (by first | assumption | with_unfolding_all rfl), ?_⟩ | refine ⟨_, _, (by with_unfolding_all rfl), ?_⟩ | refine ⟨_, _, _, (by with_unfolding_all rfl), ?_⟩ | refine ⟨(by with_unfolding_all rfl), ?_⟩ | refine br_f (by first | assumption | with_unfolding_all rfl) ?_ | refine br_t (by first | assumption | with_unfolding_all rfl) ?_ | refine rb_f (by first | assumption | with_unfolding_all rfl) ?_ | refine rb_t (by first | assumption | with_unfolding_all rfl) ?_ | refine ⟨noOwn1 (by first | with_unfolding_all rfl | with_unfolding_all assumption), ?_⟩ | refine ⟨noOwn2 (by first | with_unfolding_all rfl | with_unfolding_all assumption) (by first | with_unfolding_all rfl | with_unfolding_all assumption), ?_⟩ | refine ⟨noOwn3 (by first | with_unfolding_all rfl | with_unfolding_all assumption) (by first | with_unfolding_all rfl | with_unfolding_all assumption) (by first | with_unfolding_all rfl | with_unfolding_all assumption), ?_⟩))
            refine ⟨.val (.int (y : Int)), ?_⟩
            have : prB w i y = true := by unfold prB; rw [q, q2, q3]; rfl
            rw [show [y].filter (prB w i) = [y] from by simp [List.filter_cons, this], List.map_append]
            simp only [List.append_assoc]; rfl
          · (repeat with_reducible (first | refine we_v (by with_unfolding_all rfl) ?_ | refine we_o (by with_unfolding_all rfl) ?_ | refine we_c ?_ | refine we_op2 ?_ | refine we_op1 ?_ | refine we_meth ?_ | refine we_meth2 ?_ | refine we_to ?_ | refine we_from ?_ | refine we_fromto ?_ | refine we_and ?_ | refine we_or ?_ | refine we_not ?_ | refine we_ite ?_ | refine we_chain ?_ | refine we_tup ?_ | refine we_lst ?_ | refine we_dict0 ?_ | refine wv_nil ?_ | refine wv_cons ?_ | refine wa_nil ?_ | refine wa_cons ?_ | refine wi_seq ?_ | refine wi_enum ?_ | refine wi_zip ?_ | refine wi_rng1 ?_ | refine wi_rng2 ?_ | refine wx_set ?_ | refine wx_unpack ?_ | refine wx_par ?_ | refine wp_nil' ?_ | refine wp_cons' ?_ | refine wx_ex ?_ | refine wx_ret ?_ | refine wx_ite ?_ | refine wx_setItem ?_ | refine wx_nil ?_ | refine we_app (by with_unfolding_all rfl) ?_ | refine we_ext (by with_unfolding_all rfl) ?_ | refine we_call (by assumption) ?_ | refine ⟨_, (by first | assumption | with_unfolding_all rfl), ?_⟩ | refine ⟨_, _, (by with_unfolding_all rfl), ?_⟩ | refine ⟨_, _, _, (by with_unfolding_all rfl), ?_⟩ | refine ⟨(by with_unfolding_all rfl), ?_⟩ | refine br_f (by first | assumption | with_unfolding_all rfl) ?_ | refine br_t (by first | assumption | with_unfolding_all rfl) ?_ | refine rb_f (by first | assumption | with_unfolding_all rfl) ?_ | refine rb_t (by first | assumption | with_unfolding_all rfl) ?_ | refine ⟨noOwn1 (by first | with_unfolding_all rfl | with_unfolding_all assumption), ?_⟩ | refine ⟨noOwn2 (by first | with_unfolding_all rfl | with_unfolding_all assumption) (by first | with_unfolding_all rfl | with_unfolding_all assumption), ?_⟩ | refine ⟨noOwn3 (by first | with_unfolding_all rfl | with_unfolding_all assumption) (by first | with_unfolding_all rfl | with_unfolding_all assumption) (by first | with_unfolding_all rfl | with_unfolding_all assumption), ?_⟩))
            refine ⟨.val (.int (y : Int)), ?_⟩
            rw [hno (by unfold prB; rw [q, q2, q3]; rfl), List.append_nil]; rfl
        · (repeat with_reducible (first | refine we_v (by with_unfolding_all rfl) ?_ | refine we_o (by with_unfolding_all rfl) ?_ | refine we_c ?_ | refine we_op2 ?_ | refine we_op1 ?_ | refine we_meth ?_ | refine we_meth2 ?_ | refine we_to ?_ | refine we_from ?_ | refine we_fromto ?_ | refine we_and ?_ | refine we_or ?_ | refine we_not ?_ | refine we_ite ?_ | refine we_chain ?_ | refine we_tup ?_ | refine we_lst ?_ | refine we_dict0 ?_ | refine wv_nil ?_ | refine wv_cons ?_ | refine wa_nil ?_ | refine wa_cons ?_ | refine wi_seq ?_ | refine wi_enum ?_ | refine wi_zip ?_ | refine wi_rng1 ?_ | refine wi_rng2 ?_ | refine wx_set ?_ | refine wx_unpack ?_ | refine wx_par ?_ | refine wp_nil' ?_ | refine wp_cons' ?_ | refine wx_ex ?_ | refine wx_ret ?_ | refine wx_ite ?_ | refine wx_setItem ?_ | refine wx_nil ?_ | refine we_app (by with_unfolding_all rfl) ?_ | refine we_ext (by with_unfolding_all rfl) ?_ | refine we_call (by assumption) ?_ | refine ⟨_, (by first | assumption | with_unfolding_all rfl), ?_⟩ | refine ⟨_, _, (by with_unfolding_all rfl), ?_⟩ | refine ⟨_, _, _, (by with_unfolding_all rfl), ?_⟩ | refine ⟨(by with_unfolding_all rfl), ?_⟩ | refine br_f (by first | assumption | with_unfolding_all rfl) ?_ | refine br_t (by first | assumption | with_unfolding_all rfl) ?_ | refine rb_f (by first | assumption | with_unfolding_all rfl) ?_ | refine rb_t (by first | assumption | with_unfolding_all rfl) ?_ | refine ⟨noOwn1 (by first | with_unfolding_all rfl | with_unfolding_all assumption), ?_⟩ | refine ⟨noOwn2 (by first | with_unfolding_all rfl | with_unfolding_all assumption) (by first | with_unfolding_all rfl | with_unfolding_all assumption), ?_⟩ | refine ⟨noOwn3 (by first | with_unfolding_all rfl | with_unfolding_all assumption) (by first | with_unfolding_all rfl | with_unfolding_all assumption) (by first | with_unfolding_all rfl | with_unfolding_all assumption), ?_⟩))
          refine ⟨.val (.int (y : Int)), ?_⟩
          rw [hno (by unfold prB; rw [q, q2]; rfl), List.append_nil]; rfl
      · (repeat with_reducible (first | refine we_v (by with_unfolding_all rfl) ?_ | refine we_o (by with_unfolding_all rfl) ?_ | refine we_c ?_ | refine we_op2 ?_ | refine we_op1 ?_ | refine we_meth ?_ | refine we_meth2 ?_ | refine we_to ?_ | refine we_from ?_ | refine we_fromto ?_ | refine we_and ?_ | refine we_or ?_ | refine we_not ?_ | refine we_ite ?_ | refine we_chain ?_ | refine we_tup ?_ | refine we_lst ?_ | refine we_dict0 ?_ | refine wv_nil ?_ | refine wv_cons ?_ | refine wa_nil ?_ | refine wa_cons ?_ | refine wi_seq ?_ | refine wi_enum ?_ | refine wi_zip ?_ | refine wi_rng1 ?_ | refine wi_rng2 ?_ | refine wx_set ?_ | refine wx_unpack ?_ | refine wx_par ?_ | refine wp_nil' ?_ | refine wp_cons' ?_ | refine wx_ex ?_ | refine wx_ret ?_ | refine wx_ite ?_ | refine wx_setItem ?_ | refine wx_nil ?_ | refine we_app (by with_unfolding_all rfl) ?_ | refine we_ext (by with_unfolding_all rfl) ?_ | refine we_call (by assumption) ?_ | refine ⟨_, (by first | assumption | with_unfolding_all rfl), ?_⟩ | refine ⟨_, _, (by with_unfolding_all rfl), ?_⟩ | refine ⟨_, _, _, (by with_unfolding_all rfl), ?_⟩ | refine ⟨(by with_unfolding_all rfl), ?_⟩ | refine br_f (by first | assumption | with_unfolding_all rfl) ?_ | refine br_t (by first | assumption | with_unfolding_all rfl) ?_ | refine rb_f (by first | assumption | with_unfolding_all rfl) ?_ | refine rb_t (by first | assumption | with_unfolding_all rfl) ?_ | refine ⟨noOwn1 (by first | with_unfolding_all rfl | with_unfolding_all assumption), ?_⟩ | refine ⟨noOwn2 (by first | with_unfolding_all rfl | with_unfolding_all assumption) (by first | with_unfolding_all rfl | with_unfolding_all assumption), ?_⟩ | refine ⟨noOwn3 (by first | with_unfolding_all rfl | with_unfolding_all assumption) (by first | with_unfolding_all rfl | with_unfolding_all assumption) (by first | with_unfolding_all rfl | with_unfolding_all assumption), ?_⟩))
        refine ⟨.val (.int (y : Int)), ?_⟩
        rw [hno (by unfold prB; rw [q]; rfl), List.append_nil]; rfl
    · rintro s ⟨yy, rfl⟩
      refine wx_nil ⟨.val (.int (i : Int)), yy, ?_⟩
      rw [List.range_succ, List.flatMap_append, List.flatMap_cons, List.flatMap_nil, List.append_nil, ← List.append_assoc]
      rw [show ((fromL (i + 1) n).take ((List.range (n - (i + 1))).map fun (k : Nat) => D.int ((i + 1 + k : Nat) : Int)).length) = fromL (i + 1) n from List.take_of_length_le (by unfold fromL; simp)]
      rfl
  · rintro s ⟨x0, y0, rfl⟩
    rw [nats_len]
    have pln := pl n (Nat.le_refl _)
    (repeat with_reducible (first | refine we_v (by with_unfolding_all rfl) ?_ | refine we_o (by with_unfolding_all rfl) ?_ | refine we_c ?_ | refine we_op2 ?_ | refine we_op1 ?_ | refine we_meth ?_ | refine we_meth2 ?_ | refine we_to ?_ | refine we_from ?_ | refine we_fromto ?_ | refine we_and ?_ | refine we_or ?_ | refine we_not ?_ | refine we_ite ?_ | refine we_chain ?_ | refine we_tup ?_ | refine we_lst ?_ | refine we_dict0 ?_ | refine wv_nil ?_ | refine wv_cons ?_ | refine wa_nil ?_ | refine wa_cons ?_ | refine wi_seq ?_ | refine wi_enum ?_ | refine wi_zip ?_ | refine wi_rng1 ?_ | refine wi_rng2 ?_ | refine wx_set ?_ | refine wx_unpack ?_ | refine wx_par ?_ | refine wp_nil' ?_ | refine wp_cons' ?_ | refine wx_ex ?_ | refine wx_ret ?_ | refine wx_ite ?_ | refine wx_setItem ?_ | refine wx_nil ?_ | refine we_app (by with_unfolding_all rfl) ?_ | refine we_ext (by with_unfolding_all rfl) ?_ | refine we_call (by assumption) ?_ | refine ⟨_, (by first | assumption | with_unfolding_all rfl), ?_⟩ | refine ⟨_, _, (by with_unfolding_all rfl), ?_⟩ | refine ⟨_, _, _, (by with_unfolding_all rfl), ?_⟩ | refine ⟨(by with_unfolding_all rfl), ?_⟩ | refine br_f (by first | assumption | with_unfolding_all rfl) ?_ | refine br_t (by first | assumption | with_unfolding_all rfl) ?_ | refine rb_f (by first | assumption | with_unfolding_all rfl) ?_ | refine rb_t (by first | assumption | with_unfolding_all rfl) ?_ | refine ⟨noOwn1 (by first | with_unfolding_all rfl | with_unfolding_all assumption), ?_⟩ | refine ⟨noOwn2 (by first | with_unfolding_all rfl | with_unfolding_all assumption) (by first | with_unfolding_all rfl | with_unfolding_all assumption), ?_⟩ | refine ⟨noOwn3 (by first | with_unfolding_all rfl | with_unfolding_all assumption) (by first | with_unfolding_all rfl | with_unfolding_all assumption) (by first | with_unfolding_all rfl | with_unfolding_all assumption), ?_⟩))
    refine we_compM (ringsL n w) ordD (fun r => decide (2 < r.length)) rgF ?_
    (repeat with_reducible (first | refine we_v (by with_unfolding_all rfl) ?_ | refine we_o (by with_unfolding_all rfl) ?_ | refine we_c ?_ | refine we_op2 ?_ | refine we_op1 ?_ | refine we_meth ?_ | refine we_meth2 ?_ | refine we_to ?_ | refine we_from ?_ | refine we_fromto ?_ | refine we_and ?_ | refine we_or ?_ | refine we_not ?_ | refine we_ite ?_ | refine we_chain ?_ | refine we_tup ?_ | refine we_lst ?_ | refine we_dict0 ?_ | refine wv_nil ?_ | refine wv_cons ?_ | refine wa_nil ?_ | refine wa_cons ?_ | refine wi_seq ?_ | refine wi_enum ?_ | refine wi_zip ?_ | refine wi_rng1 ?_ | refine wi_rng2 ?_ | refine wx_set ?_ | refine wx_unpack ?_ | refine wx_par ?_ | refine wp_nil' ?_ | refine wp_cons' ?_ | refine wx_ex ?_ | refine wx_ret ?_ | refine wx_ite ?_ | refine wx_setItem ?_ | refine wx_nil ?_ | refine we_app (by with_unfolding_all rfl) ?_ | refine we_ext (by with_unfolding_all rfl) ?_ | refine we_call (by assumption) ?_ | refine ⟨_, (by first | assumption | with_unfolding_all rfl), ?_⟩ | refine ⟨_, _, (by with_unfolding_all rfl), ?_⟩ | refine ⟨_, _, _, (by with_unfolding_all rfl), ?_⟩ | refine ⟨(by with_unfolding_all rfl), ?_⟩ | refine br_f (by first | assumption | with_unfolding_all rfl) ?_ | refine br_t (by first | assumption | with_unfolding_all rfl) ?_ | refine rb_f (by first | assumption | with_unfolding_all rfl) ?_ | refine rb_t (by first | assumption | with_unfolding_all rfl) ?_ | refine ⟨noOwn1 (by first | with_unfolding_all rfl | with_unfolding_all assumption), ?_⟩ | refine ⟨noOwn2 (by first | with_unfolding_all rfl | with_unfolding_all assumption) (by first | with_unfolding_all rfl | with_unfolding_all assumption), ?_⟩ | refine ⟨noOwn3 (by first | with_unfolding_all rfl | with_unfolding_all assumption) (by first | with_unfolding_all rfl | with_unfolding_all assumption) (by first | with_unfolding_all rfl | with_unfolding_all assumption), ?_⟩))
    refine wc_ok (R n w hw h1 h5) rfl ?_
    (repeat with_reducible (first | refine we_v (by with_unfolding_all rfl) ?_ | refine we_o (by with_unfolding_all rfl) ?_ | refine we_c ?_ | refine we_op2 ?_ | refine we_op1 ?_ | refine we_meth ?_ | refine we_meth2 ?_ | refine we_to ?_ | refine we_from ?_ | refine we_fromto ?_ | refine we_and ?_ | refine we_or ?_ | refine we_not ?_ | refine we_ite ?_ | refine we_chain ?_ | refine we_tup ?_ | refine we_lst ?_ | refine we_dict0 ?_ | refine wv_nil ?_ | refine wv_cons ?_ | refine wa_nil ?_ | refine wa_cons ?_ | refine wi_seq ?_ | refine wi_enum ?_ | refine wi_zip ?_ | refine wi_rng1 ?_ | refine wi_rng2 ?_ | refine wx_set ?_ | refine wx_unpack ?_ | refine wx_par ?_ | refine wp_nil' ?_ | refine wp_cons' ?_ | refine wx_ex ?_ | refine wx_ret ?_ | refine wx_ite ?_ | refine wx_setItem ?_ | refine wx_nil ?_ | refine we_app (by with_unfolding_all rfl) ?_ | refine we_ext (by with_unfolding_all rfl) ?_ | refine we_call (by assumption) ?_ | refine ⟨_, (by first | assumption | with_unfolding_all rfl), ?_⟩ | refine ⟨_, _, (by with_unfolding_all rfl), ?_⟩ | refine ⟨_, _, _, (by with_unfolding_all rfl), ?_⟩ | refine ⟨(by with_unfolding_all rfl), ?_⟩ | refine br_f (by first | assumption | with_unfolding_all rfl) ?_ | refine br_t (by first | assumption | with_unfolding_all rfl) ?_ | refine rb_f (by first | assumption | with_unfolding_all rfl) ?_ | refine rb_t (by first | assumption | with_unfolding_all rfl) ?_ | refine ⟨noOwn1 (by first | with_unfolding_all rfl | with_unfolding_all assumption), ?_⟩ | refine ⟨noOwn2 (by first | with_unfolding_all rfl | with_unfolding_all assumption) (by first | with_unfolding_all rfl | with_unfolding_all assumption), ?_⟩ | refine ⟨noOwn3 (by first | with_unfolding_all rfl | with_unfolding_all assumption) (by first | with_unfolding_all rfl | with_unfolding_all assumption) (by first | with_unfolding_all rfl | with_unfolding_all assumption), ?_⟩))
    refine ⟨by unfold sizeL; omega, fun r hr => ?_, ?_⟩
    · have il := len_ord r
      have ig : Op.run2 .gt (.int (r.length : Int)) (.int 2) = some (false, .bl (decide (2 < r.length))) := by
        show some (false, D.bl (decide ((2 : Int) < (r.length : Int)))) = _
        rw [show decide ((2 : Int) < (r.length : Int)) = decide (2 < r.length) from by rw [Bool.eq_iff_iff, decide_eq_true_eq, decide_eq_true_eq]; omega]
      (repeat with_reducible (first | refine we_v (by with_unfolding_all rfl) ?_ | refine we_o (by with_unfolding_all rfl) ?_ | refine we_c ?_ | refine we_op2 ?_ | refine we_op1 ?_ | refine we_meth ?_ | refine we_meth2 ?_ | refine we_to ?_ | refine we_from ?_ | refine we_fromto ?_ | refine we_and ?_ | refine we_or ?_ | refine we_not ?_ | refine we_ite ?_ | refine we_chain ?_ | refine we_tup ?_ | refine we_lst ?_ | refine we_dict0 ?_ | refine wv_nil ?_ | refine wv_cons ?_ | refine wa_nil ?_ | refine wa_cons ?_ | refine wi_seq ?_ | refine wi_enum ?_ | refine wi_zip ?_ | refine wi_rng1 ?_ | refine wi_rng2 ?_ | refine wx_set ?_ | refine wx_unpack ?_ | refine wx_par ?_ | refine wp_nil' ?_ | refine wp_cons' ?_ | refine wx_ex ?_ | refine wx_ret ?_ | refine wx_ite ?_ | refine wx_setItem ?_ | refine wx_nil ?_ | refine we_app (by with_unfolding_all rfl) ?_ | refine we_ext (by with_unfolding_all rfl) ?_ | refine we_call (by assumption) ?_ | refine ⟨_, (by first | assumption | exact il | exact ig | with_unfolding_all rfl), ?_⟩ | refine ⟨_, _, (by with_unfolding_all rfl), ?_⟩ | refine ⟨_, _, _, (by with_unfolding_all rfl), ?_⟩ | refine ⟨(by with_unfolding_all rfl), ?_⟩ | refine br_f (by first | assumption | with_unfolding_all rfl) ?_ | refine br_t (by first | assumption | with_unfolding_all rfl) ?_ | refine rb_f (by first | assumption | with_unfolding_all rfl) ?_ | refine rb_t (by first | assumption | with_unfolding_all rfl) ?_ | refine ⟨noOwn1 (by first | with_unfolding_all rfl | with_unfolding_all assumption), ?_⟩ | refine ⟨noOwn2 (by first | with_unfolding_all rfl | with_unfolding_all assumption) (by first | with_unfolding_all rfl | with_unfolding_all assumption), ?_⟩ | refine ⟨noOwn3 (by first | with_unfolding_all rfl | with_unfolding_all assumption) (by first | with_unfolding_all rfl | with_unfolding_all assumption) (by first | with_unfolding_all rfl | with_unfolding_all assumption), ?_⟩))
      refine ⟨fun q => ?_, fun q => ?_⟩
      · (repeat with_reducible (first | refine we_v (by with_unfolding_all rfl) ?_ | refine we_o (by with_unfolding_all rfl) ?_ | refine we_c ?_ | refine we_op2 ?_ | refine we_op1 ?_ | refine we_meth ?_ | refine we_meth2 ?_ | refine we_to ?_ | refine we_from ?_ | refine we_fromto ?_ | refine we_and ?_ | refine we_or ?_ | refine we_not ?_ | refine we_ite ?_ | refine we_chain ?_ | refine we_tup ?_ | refine we_lst ?_ | refine we_dict0 ?_ | refine wv_nil ?_ | refine wv_cons ?_ | refine wa_nil ?_ | refine wa_cons ?_ | refine wi_seq ?_ | refine wi_enum ?_ | refine wi_zip ?_ | refine wi_rng1 ?_ | refine wi_rng2 ?_ | refine wx_set ?_ | refine wx_unpack ?_ | refine wx_par ?_ | refine wp_nil' ?_ | refine wp_cons' ?_ | refine wx_ex ?_ | refine wx_ret ?_ | refine wx_ite ?_ | refine wx_setItem ?_ | refine wx_nil ?_ | refine we_app (by with_unfolding_all rfl) ?_ | refine we_ext (by with_unfolding_all rfl) ?_ | refine we_call (by assumption) ?_ | refine ⟨_, (by first | assumption | with_unfolding_all rfl), ?_⟩ | refine ⟨_, _, (by with_unfolding_all rfl), ?_⟩ | refine ⟨_, _, _, (by with_unfolding_all rfl), ?_⟩ | refine ⟨(by with_unfolding_all rfl), ?_⟩ | refine br_f (by first | assumption | with_unfolding_all rfl) ?_ | refine br_t (by first | assumption | with_unfolding_all rfl) ?_ | refine rb_f (by first | assumption | with_unfolding_all rfl) ?_ | refine rb_t (by first | assumption | with_unfolding_all rfl) ?_ | refine ⟨noOwn1 (by first | with_unfolding_all rfl | with_unfolding_all assumption), ?_⟩ | refine ⟨noOwn2 (by first | with_unfolding_all rfl | with_unfolding_all assumption) (by first | with_unfolding_all rfl | with_unfolding_all assumption), ?_⟩ | refine ⟨noOwn3 (by first | with_unfolding_all rfl | with_unfolding_all assumption) (by first | with_unfolding_all rfl | with_unfolding_all assumption) (by first | with_unfolding_all rfl | with_unfolding_all assumption), ?_⟩))
        rfl
      · rfl
    (repeat with_reducible (first | refine we_v (by with_unfolding_all rfl) ?_ | refine we_o (by with_unfolding_all rfl) ?_ | refine we_c ?_ | refine we_op2 ?_ | refine we_op1 ?_ | refine we_meth ?_ | refine we_meth2 ?_ | refine we_to ?_ | refine we_from ?_ | refine we_fromto ?_ | refine we_and ?_ | refine we_or ?_ | refine we_not ?_ | refine we_ite ?_ | refine we_chain ?_ | refine we_tup ?_ | refine we_lst ?_ | refine we_dict0 ?_ | refine wv_nil ?_ | refine wv_cons ?_ | refine wa_nil ?_ | refine wa_cons ?_ | refine wi_seq ?_ | refine wi_enum ?_ | refine wi_zip ?_ | refine wi_rng1 ?_ | refine wi_rng2 ?_ | refine wx_set ?_ | refine wx_unpack ?_ | refine wx_par ?_ | refine wp_nil' ?_ | refine wp_cons' ?_ | refine wx_ex ?_ | refine wx_ret ?_ | refine wx_ite ?_ | refine wx_setItem ?_ | refine wx_nil ?_ | refine we_app (by with_unfolding_all rfl) ?_ | refine we_ext (by with_unfolding_all rfl) ?_ | refine we_call (by assumption) ?_ | refine ⟨_, (by first | assumption | with_unfolding_all rfl), ?_⟩ | refine ⟨_, _, (by with_unfolding_all rfl), ?_⟩ | refine ⟨_, _, _, (by with_unfolding_all rfl), ?_⟩ | refine ⟨(by with_unfolding_all rfl), ?_⟩ | refine br_f (by first | assumption | with_unfolding_all rfl) ?_ | refine br_t (by first | assumption | with_unfolding_all rfl) ?_ | refine rb_f (by first | assumption | with_unfolding_all rfl) ?_ | refine rb_t (by first | assumption | with_unfolding_all rfl) ?_ | refine ⟨noOwn1 (by first | with_unfolding_all rfl | with_unfolding_all assumption), ?_⟩ | refine ⟨noOwn2 (by first | with_unfolding_all rfl | with_unfolding_all assumption) (by first | with_unfolding_all rfl | with_unfolding_all assumption), ?_⟩ | refine ⟨noOwn3 (by first | with_unfolding_all rfl | with_unfolding_all assumption) (by first | with_unfolding_all rfl | with_unfolding_all assumption) (by first | with_unfolding_all rfl | with_unfolding_all assumption), ?_⟩))
    refine ⟨by have := rfl1; unfold rgL at this; rw [List.length_append]; unfold sizeL; omega, ?_⟩
    (repeat with_reducible (first | refine we_v (by with_unfolding_all rfl) ?_ | refine we_o (by with_unfolding_all rfl) ?_ | refine we_c ?_ | refine we_op2 ?_ | refine we_op1 ?_ | refine we_meth ?_ | refine we_meth2 ?_ | refine we_to ?_ | refine we_from ?_ | refine we_fromto ?_ | refine we_and ?_ | refine we_or ?_ | refine we_not ?_ | refine we_ite ?_ | refine we_chain ?_ | refine we_tup ?_ | refine we_lst ?_ | refine we_dict0 ?_ | refine wv_nil ?_ | refine wv_cons ?_ | refine wa_nil ?_ | refine wa_cons ?_ | refine wi_seq ?_ | refine wi_enum ?_ | refine wi_zip ?_ | refine wi_rng1 ?_ | refine wi_rng2 ?_ | refine wx_set ?_ | refine wx_unpack ?_ | refine wx_par ?_ | refine wp_nil' ?_ | refine wp_cons' ?_ | refine wx_ex ?_ | refine wx_ret ?_ | refine wx_ite ?_ | refine wx_setItem ?_ | refine wx_nil ?_ | refine we_app (by with_unfolding_all rfl) ?_ | refine we_ext (by with_unfolding_all rfl) ?_ | refine we_call (by assumption) ?_ | refine ⟨_, (by first | assumption | with_unfolding_all rfl), ?_⟩ | refine ⟨_, _, (by with_unfolding_all rfl), ?_⟩ | refine ⟨_, _, _, (by with_unfolding_all rfl), ?_⟩ | refine ⟨(by with_unfolding_all rfl), ?_⟩ | refine br_f (by first | assumption | with_unfolding_all rfl) ?_ | refine br_t (by first | assumption | with_unfolding_all rfl) ?_ | refine rb_f (by first | assumption | with_unfolding_all rfl) ?_ | refine rb_t (by first | assumption | with_unfolding_all rfl) ?_ | refine ⟨noOwn1 (by first | with_unfolding_all rfl | with_unfolding_all assumption), ?_⟩ | refine ⟨noOwn2 (by first | with_unfolding_all rfl | with_unfolding_all assumption) (by first | with_unfolding_all rfl | with_unfolding_all assumption), ?_⟩ | refine ⟨noOwn3 (by first | with_unfolding_all rfl | with_unfolding_all assumption) (by first | with_unfolding_all rfl | with_unfolding_all assumption) (by first | with_unfolding_all rfl | with_unfolding_all assumption), ?_⟩))
    refine wc_ok (T false n w hw h5) rfl ?_
    have en : Op.run2 .eq (.lst ((dueOf w (ordL n)).map termD)) (.lst []) = some (false, .bl (dueOf w (ordL n)).isEmpty) := by
      rw [eq_nilD (shs_map fun q _ => sh_term 47 q), List.isEmpty_map]
    (repeat with_reducible (first | refine we_v (by with_unfolding_all rfl) ?_ | refine we_o (by with_unfolding_all rfl) ?_ | refine we_c ?_ | refine we_op2 ?_ | refine we_op1 ?_ | refine we_meth ?_ | refine we_meth2 ?_ | refine we_to ?_ | refine we_from ?_ | refine we_fromto ?_ | refine we_and ?_ | refine we_or ?_ | refine we_not ?_ | refine we_ite ?_ | refine we_chain ?_ | refine we_tup ?_ | refine we_lst ?_ | refine we_dict0 ?_ | refine wv_nil ?_ | refine wv_cons ?_ | refine wa_nil ?_ | refine wa_cons ?_ | refine wi_seq ?_ | refine wi_enum ?_ | refine wi_zip ?_ | refine wi_rng1 ?_ | refine wi_rng2 ?_ | refine wx_set ?_ | refine wx_unpack ?_ | refine wx_par ?_ | refine wp_nil' ?_ | refine wp_cons' ?_ | refine wx_ex ?_ | refine wx_ret ?_ | refine wx_ite ?_ | refine wx_setItem ?_ | refine wx_nil ?_ | refine we_app (by with_unfolding_all rfl) ?_ | refine we_ext (by with_unfolding_all rfl) ?_ | refine we_call (by assumption) ?_ | refine ⟨_, (by first | assumption | exact en | with_unfolding_all rfl), ?_⟩ | refine ⟨_, _, (by with_unfolding_all rfl), ?_⟩ | refine ⟨_, _, _, (by with_unfolding_all rfl), ?_⟩ | refine ⟨(by with_unfolding_all rfl), ?_⟩ | refine br_f (by first | assumption | with_unfolding_all rfl) ?_ | refine br_t (by first | assumption | with_unfolding_all rfl) ?_ | refine rb_f (by first | assumption | with_unfolding_all rfl) ?_ | refine rb_t (by first | assumption | with_unfolding_all rfl) ?_ | refine ⟨noOwn1 (by first | with_unfolding_all rfl | with_unfolding_all assumption), ?_⟩ | refine ⟨noOwn2 (by first | with_unfolding_all rfl | with_unfolding_all assumption) (by first | with_unfolding_all rfl | with_unfolding_all assumption), ?_⟩ | refine ⟨noOwn3 (by first | with_unfolding_all rfl | with_unfolding_all assumption) (by first | with_unfolding_all rfl | with_unfolding_all assumption) (by first | with_unfolding_all rfl | with_unfolding_all assumption), ?_⟩))
    have last : ∀ pre : List D, pre.length ≤ 1000 → pre ++ (whL n w).map wfD = fltL n w → Wx Φ fl (.cons (.ret (.op .add (.cons (.v 3) (.cons (.comp [6] (.one 6) (.seq (.call kw (.cons (.v 0) .nil))) (.c (.bl true)) (.tup (.cons (.c (.str [119, 104, 105, 116, 101])) (.cons (.v 6) .nil)))) .nil)))) .nil) [.val (webD w), .val (.lst (natsD n)), x0, .own none (.lst pre), y0, .none, .none] (fun w' s => finish 1 (w', s) = (.fresh (.lst (fltL n w)), [.val (webD w)])) (fun _ => False) := fun pre hpre he => by
      (repeat with_reducible (first | refine we_v (by with_unfolding_all rfl) ?_ | refine we_o (by with_unfolding_all rfl) ?_ | refine we_c ?_ | refine we_op2 ?_ | refine we_op1 ?_ | refine we_meth ?_ | refine we_meth2 ?_ | refine we_to ?_ | refine we_from ?_ | refine we_fromto ?_ | refine we_and ?_ | refine we_or ?_ | refine we_not ?_ | refine we_ite ?_ | refine we_chain ?_ | refine we_tup ?_ | refine we_lst ?_ | refine we_dict0 ?_ | refine wv_nil ?_ | refine wv_cons ?_ | refine wa_nil ?_ | refine wa_cons ?_ | refine wi_seq ?_ | refine wi_enum ?_ | refine wi_zip ?_ | refine wi_rng1 ?_ | refine wi_rng2 ?_ | refine wx_set ?_ | refine wx_unpack ?_ | refine wx_par ?_ | refine wp_nil' ?_ | refine wp_cons' ?_ | refine wx_ex ?_ | refine wx_ret ?_ | refine wx_ite ?_ | refine wx_setItem ?_ | refine wx_nil ?_ | refine we_app (by with_unfolding_all rfl) ?_ | refine we_ext (by with_unfolding_all rfl) ?_ | refine we_call (by assumption) ?_ | refine ⟨_, (by first | assumption | with_unfolding_all rfl), ?_⟩ | refine ⟨_, _, (by with_unfolding_all rfl), ?_⟩ | refine ⟨_, _, _, (by with_unfolding_all rfl), ?_⟩ | refine ⟨(by with_unfolding_all rfl), ?_⟩ | refine br_f (by first | assumption | with_unfolding_all rfl) ?_ | refine br_t (by first | assumption | with_unfolding_all rfl) ?_ | refine rb_f (by first | assumption | with_unfolding_all rfl) ?_ | refine rb_t (by first | assumption | with_unfolding_all rfl) ?_ | refine ⟨noOwn1 (by first | with_unfolding_all rfl | with_unfolding_all assumption), ?_⟩ | refine ⟨noOwn2 (by first | with_unfolding_all rfl | with_unfolding_all assumption) (by first | with_unfolding_all rfl | with_unfolding_all assumption), ?_⟩ | refine ⟨noOwn3 (by first | with_unfolding_all rfl | with_unfolding_all assumption) (by first | with_unfolding_all rfl | with_unfolding_all assumption) (by first | with_unfolding_all rfl | with_unfolding_all assumption), ?_⟩))
      refine we_compU (whL n w) ordD wfD ?_
      (repeat with_reducible (first | refine we_v (by with_unfolding_all rfl) ?_ | refine we_o (by with_unfolding_all rfl) ?_ | refine we_c ?_ | refine we_op2 ?_ | refine we_op1 ?_ | refine we_meth ?_ | refine we_meth2 ?_ | refine we_to ?_ | refine we_from ?_ | refine we_fromto ?_ | refine we_and ?_ | refine we_or ?_ | refine we_not ?_ | refine we_ite ?_ | refine we_chain ?_ | refine we_tup ?_ | refine we_lst ?_ | refine we_dict0 ?_ | refine wv_nil ?_ | refine wv_cons ?_ | refine wa_nil ?_ | refine wa_cons ?_ | refine wi_seq ?_ | refine wi_enum ?_ | refine wi_zip ?_ | refine wi_rng1 ?_ | refine wi_rng2 ?_ | refine wx_set ?_ | refine wx_unpack ?_ | refine wx_par ?_ | refine wp_nil' ?_ | refine wp_cons' ?_ | refine wx_ex ?_ | refine wx_ret ?_ | refine wx_ite ?_ | refine wx_setItem ?_ | refine wx_nil ?_ | refine we_app (by with_unfolding_all rfl) ?_ | refine we_ext (by with_unfolding_all rfl) ?_ | refine we_call (by assumption) ?_ | refine ⟨_, (by first | assumption | with_unfolding_all rfl), ?_⟩ | refine ⟨_, _, (by with_unfolding_all rfl), ?_⟩ | refine ⟨_, _, _, (by with_unfolding_all rfl), ?_⟩ | refine ⟨(by with_unfolding_all rfl), ?_⟩ | refine br_f (by first | assumption | with_unfolding_all rfl) ?_ | refine br_t (by first | assumption | with_unfolding_all rfl) ?_ | refine rb_f (by first | assumption | with_unfolding_all rfl) ?_ | refine rb_t (by first | assumption | with_unfolding_all rfl) ?_ | refine ⟨noOwn1 (by first | with_unfolding_all rfl | with_unfolding_all assumption), ?_⟩ | refine ⟨noOwn2 (by first | with_unfolding_all rfl | with_unfolding_all assumption) (by first | with_unfolding_all rfl | with_unfolding_all assumption), ?_⟩ | refine ⟨noOwn3 (by first | with_unfolding_all rfl | with_unfolding_all assumption) (by first | with_unfolding_all rfl | with_unfolding_all assumption) (by first | with_unfolding_all rfl | with_unfolding_all assumption), ?_⟩))
      refine wc_ok (Wh n w hw h1 h5) rfl ?_
      (repeat with_reducible (first | refine we_v (by with_unfolding_all rfl) ?_ | refine we_o (by with_unfolding_all rfl) ?_ | refine we_c ?_ | refine we_op2 ?_ | refine we_op1 ?_ | refine we_meth ?_ | refine we_meth2 ?_ | refine we_to ?_ | refine we_from ?_ | refine we_fromto ?_ | refine we_and ?_ | refine we_or ?_ | refine we_not ?_ | refine we_ite ?_ | refine we_chain ?_ | refine we_tup ?_ | refine we_lst ?_ | refine we_dict0 ?_ | refine wv_nil ?_ | refine wv_cons ?_ | refine wa_nil ?_ | refine wa_cons ?_ | refine wi_seq ?_ | refine wi_enum ?_ | refine wi_zip ?_ | refine wi_rng1 ?_ | refine wi_rng2 ?_ | refine wx_set ?_ | refine wx_unpack ?_ | refine wx_par ?_ | refine wp_nil' ?_ | refine wp_cons' ?_ | refine wx_ex ?_ | refine wx_ret ?_ | refine wx_ite ?_ | refine wx_setItem ?_ | refine wx_nil ?_ | refine we_app (by with_unfolding_all rfl) ?_ | refine we_ext (by with_unfolding_all rfl) ?_ | refine we_call (by assumption) ?_ | refine ⟨_, (by first | assumption | with_unfolding_all rfl), ?_⟩ | refine ⟨_, _, (by with_unfolding_all rfl), ?_⟩ | refine ⟨_, _, _, (by with_unfolding_all rfl), ?_⟩ | refine ⟨(by with_unfolding_all rfl), ?_⟩ | refine br_f (by first | assumption | with_unfolding_all rfl) ?_ | refine br_t (by first | assumption | with_unfolding_all rfl) ?_ | refine rb_f (by first | assumption | with_unfolding_all rfl) ?_ | refine rb_t (by first | assumption | with_unfolding_all rfl) ?_ | refine ⟨noOwn1 (by first | with_unfolding_all rfl | with_unfolding_all assumption), ?_⟩ | refine ⟨noOwn2 (by first | with_unfolding_all rfl | with_unfolding_all assumption) (by first | with_unfolding_all rfl | with_unfolding_all assumption), ?_⟩ | refine ⟨noOwn3 (by first | with_unfolding_all rfl | with_unfolding_all assumption) (by first | with_unfolding_all rfl | with_unfolding_all assumption) (by first | with_unfolding_all rfl | with_unfolding_all assumption), ?_⟩))
      refine ⟨by unfold sizeL; omega, fun r hr => ?_, ?_⟩
      · (repeat with_reducible (first | refine we_v (by with_unfolding_all rfl) ?_ | refine we_o (by with_unfolding_all rfl) ?_ | refine we_c ?_ | refine we_op2 ?_ | refine we_op1 ?_ | refine we_meth ?_ | refine we_meth2 ?_ | refine we_to ?_ | refine we_from ?_ | refine we_fromto ?_ | refine we_and ?_ | refine we_or ?_ | refine we_not ?_ | refine we_ite ?_ | refine we_chain ?_ | refine we_tup ?_ | refine we_lst ?_ | refine we_dict0 ?_ | refine wv_nil ?_ | refine wv_cons ?_ | refine wa_nil ?_ | refine wa_cons ?_ | refine wi_seq ?_ | refine wi_enum ?_ | refine wi_zip ?_ | refine wi_rng1 ?_ | refine wi_rng2 ?_ | refine wx_set ?_ | refine wx_unpack ?_ | refine wx_par ?_ | refine wp_nil' ?_ | refine wp_cons' ?_ | refine wx_ex ?_ | refine wx_ret ?_ | refine wx_ite ?_ | refine wx_setItem ?_ | refine wx_nil ?_ | refine we_app (by with_unfolding_all rfl) ?_ | refine we_ext (by with_unfolding_all rfl) ?_ | refine we_call (by assumption) ?_ | refine ⟨_, (by first | assumption | with_unfolding_all rfl), ?_⟩ | refine ⟨_, _, (by with_unfolding_all rfl), ?_⟩ | refine ⟨_, _, _, (by with_unfolding_all rfl), ?_⟩ | refine ⟨(by with_unfolding_all rfl), ?_⟩ | refine br_f (by first | assumption | with_unfolding_all rfl) ?_ | refine br_t (by first | assumption | with_unfolding_all rfl) ?_ | refine rb_f (by first | assumption | with_unfolding_all rfl) ?_ | refine rb_t (by first | assumption | with_unfolding_all rfl) ?_ | refine ⟨noOwn1 (by first | with_unfolding_all rfl | with_unfolding_all assumption), ?_⟩ | refine ⟨noOwn2 (by first | with_unfolding_all rfl | with_unfolding_all assumption) (by first | with_unfolding_all rfl | with_unfolding_all assumption), ?_⟩ | refine ⟨noOwn3 (by first | with_unfolding_all rfl | with_unfolding_all assumption) (by first | with_unfolding_all rfl | with_unfolding_all assumption) (by first | with_unfolding_all rfl | with_unfolding_all assumption), ?_⟩))
        rfl
      have ea : Op.run2 .add (.lst pre) (.lst ((whL n w).map wfD)) = some (true, .lst (pre ++ (whL n w).map wfD)) := add_lst (by rw [List.length_map]; omega)
      (repeat with_reducible (first | refine we_v (by with_unfolding_all rfl) ?_ | refine we_o (by with_unfolding_all rfl) ?_ | refine we_c ?_ | refine we_op2 ?_ | refine we_op1 ?_ | refine we_meth ?_ | refine we_meth2 ?_ | refine we_to ?_ | refine we_from ?_ | refine we_fromto ?_ | refine we_and ?_ | refine we_or ?_ | refine we_not ?_ | refine we_ite ?_ | refine we_chain ?_ | refine we_tup ?_ | refine we_lst ?_ | refine we_dict0 ?_ | refine wv_nil ?_ | refine wv_cons ?_ | refine wa_nil ?_ | refine wa_cons ?_ | refine wi_seq ?_ | refine wi_enum ?_ | refine wi_zip ?_ | refine wi_rng1 ?_ | refine wi_rng2 ?_ | refine wx_set ?_ | refine wx_unpack ?_ | refine wx_par ?_ | refine wp_nil' ?_ | refine wp_cons' ?_ | refine wx_ex ?_ | refine wx_ret ?_ | refine wx_ite ?_ | refine wx_setItem ?_ | refine wx_nil ?_ | refine we_app (by with_unfolding_all rfl) ?_ | refine we_ext (by with_unfolding_all rfl) ?_ | refine we_call (by assumption) ?_ | refine ⟨_, (by first | assumption | exact ea | with_unfolding_all rfl), ?_⟩ | refine ⟨_, _, (by with_unfolding_all rfl), ?_⟩ | refine ⟨_, _, _, (by with_unfolding_all rfl), ?_⟩ | refine ⟨(by with_unfolding_all rfl), ?_⟩ | refine br_f (by first | assumption | with_unfolding_all rfl) ?_ | refine br_t (by first | assumption | with_unfolding_all rfl) ?_ | refine rb_f (by first | assumption | with_unfolding_all rfl) ?_ | refine rb_t (by first | assumption | with_unfolding_all rfl) ?_ | refine ⟨noOwn1 (by first | with_unfolding_all rfl | with_unfolding_all assumption), ?_⟩ | refine ⟨noOwn2 (by first | with_unfolding_all rfl | with_unfolding_all assumption) (by first | with_unfolding_all rfl | with_unfolding_all assumption), ?_⟩ | refine ⟨noOwn3 (by first | with_unfolding_all rfl | with_unfolding_all assumption) (by first | with_unfolding_all rfl | with_unfolding_all assumption) (by first | with_unfolding_all rfl | with_unfolding_all assumption), ?_⟩))
      rw [he]; rfl
    have e0 : (ownsL n w ++ (List.range n).flatMap (prL n w) ++ rgL n w).length ≤ 900 := by rw [List.length_append, List.length_append]; omega
    refine ⟨fun q => ?_, fun q => ?_⟩
    · (repeat with_reducible (first | refine we_v (by with_unfolding_all rfl) ?_ | refine we_o (by with_unfolding_all rfl) ?_ | refine we_c ?_ | refine we_op2 ?_ | refine we_op1 ?_ | refine we_meth ?_ | refine we_meth2 ?_ | refine we_to ?_ | refine we_from ?_ | refine we_fromto ?_ | refine we_and ?_ | refine we_or ?_ | refine we_not ?_ | refine we_ite ?_ | refine we_chain ?_ | refine we_tup ?_ | refine we_lst ?_ | refine we_dict0 ?_ | refine wv_nil ?_ | refine wv_cons ?_ | refine wa_nil ?_ | refine wa_cons ?_ | refine wi_seq ?_ | refine wi_enum ?_ | refine wi_zip ?_ | refine wi_rng1 ?_ | refine wi_rng2 ?_ | refine wx_set ?_ | refine wx_unpack ?_ | refine wx_par ?_ | refine wp_nil' ?_ | refine wp_cons' ?_ | refine wx_ex ?_ | refine wx_ret ?_ | refine wx_ite ?_ | refine wx_setItem ?_ | refine wx_nil ?_ | refine we_app (by with_unfolding_all rfl) ?_ | refine we_ext (by with_unfolding_all rfl) ?_ | refine we_call (by assumption) ?_ | refine ⟨_, (by first | assumption | with_unfolding_all rfl), ?_⟩ | refine ⟨_, _, (by with_unfolding_all rfl), ?_⟩ | refine ⟨_, _, _, (by with_unfolding_all rfl), ?_⟩ | refine ⟨(by with_unfolding_all rfl), ?_⟩ | refine br_f (by first | assumption | with_unfolding_all rfl) ?_ | refine br_t (by first | assumption | with_unfolding_all rfl) ?_ | refine rb_f (by first | assumption | with_unfolding_all rfl) ?_ | refine rb_t (by first | assumption | with_unfolding_all rfl) ?_ | refine ⟨noOwn1 (by first | with_unfolding_all rfl | with_unfolding_all assumption), ?_⟩ | refine ⟨noOwn2 (by first | with_unfolding_all rfl | with_unfolding_all assumption) (by first | with_unfolding_all rfl | with_unfolding_all assumption), ?_⟩ | refine ⟨noOwn3 (by first | with_unfolding_all rfl | with_unfolding_all assumption) (by first | with_unfolding_all rfl | with_unfolding_all assumption) (by first | with_unfolding_all rfl | with_unfolding_all assumption), ?_⟩))
      refine ⟨by unfold sizeL; unfold rgL at e0; omega, ?_⟩
      refine wx_nil ?_
      exact last (ownsL n w ++ (List.range n).flatMap (prL n w) ++ rgL n w ++ [noneF]) (by rw [List.length_append, List.length_singleton]; omega) (by unfold fltL; rw [q]; rfl)
    · refine wx_nil ?_
      exact last (ownsL n w ++ (List.range n).flatMap (prL n w) ++ rgL n w) (by omega) (by unfold fltL; rw [q]; simp)
theorem shs_app {n : Nat} : ∀ {a b : List D}, shs n a = true → shs n b = true → shs n (a ++ b) = true
  | [], _, _, hb => hb
  | x :: a, b, ha, hb => by
    rw [shs, Bool.and_eq_true] at ha
    rw [List.cons_append, shs, ha.1, shs_app ha.2 hb]; rfl
theorem flt_sh (n : Nat) (w : Web) : shs 49 (fltL n w) = true := by
  have hf : ∀ l : List Nat, shs 49 (l.flatMap (prL n w)) = true := by
    intro l
    induction l with
    | nil => rfl
    | cons x l ih =>
      rw [List.flatMap_cons]
      exact shs_app (shs_map fun _ _ => rfl) ih
  have ho : ∀ (s : List Nat) (r : List Nat), sh 49 (.tup [.str s, ordD r]) = true := fun s r => by
    rw [sh, shs, shs, shs, sh_ordN r 47]; rfl
  unfold fltL
  refine shs_app (shs_app (shs_app (shs_app (shs_map fun _ _ => rfl) (hf _)) (shs_map fun r _ => ho _ r)) ?_) (shs_map fun r _ => ho _ r)
  split <;> rfl
theorem firm_s {Φ : Fns} {fl : Nat → List Bool} {kf : Nat} (ff : fl kf = [false]) (Fa : FfX (Φ kf)) : FirmS firm (runFn fl Φ (Fis_firm kf)) := fun n w hw h1 h5 => by
  refine wf_ok rfl ?_
  simp only [Fis_firm, start, Nat.reduceSub, List.reduceReplicate, List.cons_append, List.nil_append, finish]
  (repeat with_reducible (first | refine we_v (by with_unfolding_all rfl) ?_ | refine we_o (by with_unfolding_all rfl) ?_ | refine we_c ?_ | refine we_op2 ?_ | refine we_op1 ?_ | refine we_meth ?_ | refine we_meth2 ?_ | refine we_to ?_ | refine we_from ?_ | refine we_fromto ?_ | refine we_and ?_ | refine we_or ?_ | refine we_not ?_ | refine we_ite ?_ | refine we_chain ?_ | refine we_tup ?_ | refine we_lst ?_ | refine we_dict0 ?_ | refine wv_nil ?_ | refine wv_cons ?_ | refine wa_nil ?_ | refine wa_cons ?_ | refine wi_seq ?_ | refine wi_enum ?_ | refine wi_zip ?_ | refine wi_rng1 ?_ | refine wi_rng2 ?_ | refine wx_set ?_ | refine wx_unpack ?_ | refine wx_par ?_ | refine wp_nil' ?_ | refine wp_cons' ?_ | refine wx_ex ?_ | refine wx_ret ?_ | refine wx_ite ?_ | refine wx_setItem ?_ | refine wx_nil ?_ | refine we_app (by with_unfolding_all rfl) ?_ | refine we_ext (by with_unfolding_all rfl) ?_ | refine we_call (by assumption) ?_ | refine ⟨_, (by first | assumption | with_unfolding_all rfl), ?_⟩ | refine ⟨_, _, (by with_unfolding_all rfl), ?_⟩ | refine ⟨_, _, _, (by with_unfolding_all rfl), ?_⟩ | refine ⟨(by with_unfolding_all rfl), ?_⟩ | refine br_f (by first | assumption | with_unfolding_all rfl) ?_ | refine br_t (by first | assumption | with_unfolding_all rfl) ?_ | refine rb_f (by first | assumption | with_unfolding_all rfl) ?_ | refine rb_t (by first | assumption | with_unfolding_all rfl) ?_ | refine ⟨noOwn1 (by first | with_unfolding_all rfl | with_unfolding_all assumption), ?_⟩ | refine ⟨noOwn2 (by first | with_unfolding_all rfl | with_unfolding_all assumption) (by first | with_unfolding_all rfl | with_unfolding_all assumption), ?_⟩ | refine ⟨noOwn3 (by first | with_unfolding_all rfl | with_unfolding_all assumption) (by first | with_unfolding_all rfl | with_unfolding_all assumption) (by first | with_unfolding_all rfl | with_unfolding_all assumption), ?_⟩))
  refine wc_ok (Fa n w hw h1 h5) rfl ?_
  have en : Op.run2 .eq (.lst (fltL n w)) (.lst []) = some (false, .bl (firm w)) := by
    unfold firm
    rw [hw.1]
    exact eq_nilD (flt_sh n w)
  (repeat with_reducible (first | refine we_v (by with_unfolding_all rfl) ?_ | refine we_o (by with_unfolding_all rfl) ?_ | refine we_c ?_ | refine we_op2 ?_ | refine we_op1 ?_ | refine we_meth ?_ | refine we_meth2 ?_ | refine we_to ?_ | refine we_from ?_ | refine we_fromto ?_ | refine we_and ?_ | refine we_or ?_ | refine we_not ?_ | refine we_ite ?_ | refine we_chain ?_ | refine we_tup ?_ | refine we_lst ?_ | refine we_dict0 ?_ | refine wv_nil ?_ | refine wv_cons ?_ | refine wa_nil ?_ | refine wa_cons ?_ | refine wi_seq ?_ | refine wi_enum ?_ | refine wi_zip ?_ | refine wi_rng1 ?_ | refine wi_rng2 ?_ | refine wx_set ?_ | refine wx_unpack ?_ | refine wx_par ?_ | refine wp_nil' ?_ | refine wp_cons' ?_ | refine wx_ex ?_ | refine wx_ret ?_ | refine wx_ite ?_ | refine wx_setItem ?_ | refine wx_nil ?_ | refine we_app (by with_unfolding_all rfl) ?_ | refine we_ext (by with_unfolding_all rfl) ?_ | refine we_call (by assumption) ?_ | refine ⟨_, (by first | assumption | exact en | with_unfolding_all rfl), ?_⟩ | refine ⟨_, _, (by with_unfolding_all rfl), ?_⟩ | refine ⟨_, _, _, (by with_unfolding_all rfl), ?_⟩ | refine ⟨(by with_unfolding_all rfl), ?_⟩ | refine br_f (by first | assumption | with_unfolding_all rfl) ?_ | refine br_t (by first | assumption | with_unfolding_all rfl) ?_ | refine rb_f (by first | assumption | with_unfolding_all rfl) ?_ | refine rb_t (by first | assumption | with_unfolding_all rfl) ?_ | refine ⟨noOwn1 (by first | with_unfolding_all rfl | with_unfolding_all assumption), ?_⟩ | refine ⟨noOwn2 (by first | with_unfolding_all rfl | with_unfolding_all assumption) (by first | with_unfolding_all rfl | with_unfolding_all assumption), ?_⟩ | refine ⟨noOwn3 (by first | with_unfolding_all rfl | with_unfolding_all assumption) (by first | with_unfolding_all rfl | with_unfolding_all assumption) (by first | with_unfolding_all rfl | with_unfolding_all assumption), ?_⟩))
  rfl
end PV
set_option Elab.async false
set_option linter.all false
set_option maxRecDepth 100000
set_option maxHeartbeats 4000000
namespace PV
/-- no list of its own -/
def nOw : Sl → Bool
  | .own _ _ => false
  | _ => true
theorem noOwn_cons {st : St} {v : Nat} {vs : List Nat} (h : nOw (slot st v) = true) (h2 : noOwn st vs = true) : noOwn st (v :: vs) = true := by
  unfold noOwn at *
  rw [List.all_cons, h2, Bool.and_true]
  cases q : slot st v with
  | own t d => rw [q] at h; cases h
  | none => rfl
  | val d => rfl
theorem noOwn1 {st : St} {v : Nat} (h : nOw (slot st v) = true) : noOwn st [v] = true := noOwn_cons h rfl
theorem noOwn2 {st : St} {v u : Nat} (h : nOw (slot st v) = true) (h2 : nOw (slot st u) = true) : noOwn st [v, u] = true := noOwn_cons h (noOwn1 h2)
theorem noOwn3 {st : St} {v u t : Nat} (h : nOw (slot st v) = true) (h2 : nOw (slot st u) = true) (h3 : nOw (slot st t) = true) : noOwn st [v, u, t] = true := noOwn_cons h (noOwn2 h2 h3)
end PV
set_option Elab.async false
set_option linter.all false
set_option maxRecDepth 100000
set_option maxHeartbeats 4000000
namespace PV
def Fns.mix (fl : Nat → List Bool) (tab : List (Nat × Fn)) (fast : Fns) : Nat → Fns
  | 0, f, as => fast f as
  | n + 1, f, as => match fast f as with
    | .no => (match tab.lookup f with
      | some d => runFn fl (Fns.mix fl tab fast n) d as
      | none => .no)
    | r => r
theorem lookup_in {α : Type} {k : Nat} {a : α} : ∀ {l : List (Nat × α)}, l.lookup k = some a → (k, a) ∈ l
  | [], h => by cases h
  | (k', b) :: l, h => by
    rw [List.lookup] at h
    split at h
    · rename_i q
      have q : k = k' := by simpa using q
      cases h
      rw [q]; simp
    · exact List.mem_cons_of_mem _ (lookup_in h)
theorem mix_le {fl : Nat → List Bool} {tab : Nat → Option Fn} {tl : List (Nat × Fn)} {fast : Fns} (ht : ∀ p ∈ tl, tab p.1 = some p.2) {L0 : Nat} (hf : ∀ L f as, Rle (fast f as) (Fns.at fl tab (L + L0) f as)) : ∀ n f as, Rle (Fns.mix fl tl fast n f as) (Fns.at fl tab (n + L0) f as)
  | 0, f, as => hf 0 f as
  | n + 1, f, as => by
    rw [Fns.mix]
    split
    · split
      · rename_i d q
        have h := ht _ (lookup_in q)
        rw [show n + 1 + L0 = (n + L0) + 1 by omega, Fns.at, h]
        exact m_run (mix_le ht hf n) d as
      · exact rle_no
    · exact hf (n + 1) f as
def fastOf : List (Nat × Rsl) → Fns
  | [], _, _ => .no
  | (k, g) :: r, f, as => if f == k then g as else fastOf r f as
theorem fastOf_le {Φ : Fns} : ∀ {l : List (Nat × Rsl)}, (∀ p ∈ l, ∀ as, Rle (p.2 as) (Φ p.1 as)) → ∀ f as, Rle (fastOf l f as) (Φ f as)
  | [], _, _, _ => rle_no
  | (k, g) :: r, h, f, as => by
    rw [fastOf]
    split
    · rename_i q
      have q : f = k := by simpa using q
      subst q
      exact h (f, g) List.mem_cons_self as
    · exact fastOf_le (fun p hp => h p (List.mem_cons_of_mem _ hp)) f as
def webOf : List D → Option Web
  | [] => some []
  | .str s :: r => (webOf r).map (s :: ·)
  | _ :: _ => none
theorem webOf_ok : ∀ {ds : List D} {w : Web}, webOf ds = some w → ds = w.map .str
  | [], w, h => by rw [webOf] at h; cases h; rfl
  | d :: r, w, h => by
    cases d with
    | str s =>
      rw [webOf] at h
      obtain ⟨v, h1, rfl⟩ := Option.map_eq_some_iff.mp h
      rw [webOf_ok h1]; rfl
    | _ => rw [webOf] at h <;> first | cases h | (intro s z; cases z)
def sgB (c : Nat) : Bool := c == 43 || (c == 45 || c == 48)
def okWb (w : Web) : Bool := w.all fun r => r.length == w.length && r.all sgB
theorem okWb_ok {w : Web} (h : okWb w = true) : okW w.length w := by
  refine ⟨rfl, fun r hr => ?_⟩
  have := List.all_eq_true.mp h r hr
  rw [Bool.and_eq_true] at this
  refine ⟨by simpa using this.1, fun c hc => ?_⟩
  have := List.all_eq_true.mp this.2 c hc
  unfold sgB at this
  simpa [isSg] using this
/-- a def of one web -/
def fastW (g : Nat → Web → Ret) : Rsl
  | [.val (.tup ds)] => match webOf ds with
    | some w => if okWb w && (Nat.ble 1 w.length && Nat.ble w.length 5) then .ok (g w.length w, [.val (.tup ds)]) else .no
    | none => .no
  | _ => .no
def WS (g : Nat → Web → Ret) (F : Rsl) : Prop := ∀ (n : Nat) (w : Web), okW n w → 1 ≤ n → n ≤ 5 → F [.val (webD w)] = .ok (g n w, [.val (webD w)])
theorem fastW_le {g : Nat → Web → Ret} {F : Rsl} (h : WS g F) (as : List Ar) : Rle (fastW g as) (F as) := by
  unfold fastW
  split
  · split
    · rename_i ds w q
      split
      · rename_i q2
        rw [Bool.and_eq_true, Bool.and_eq_true] at q2
        have := h w.length w (okWb_ok q2.1) (Nat.le_of_ble_eq_true q2.2.1) (Nat.le_of_ble_eq_true q2.2.2)
        rw [webOf_ok q]
        exact .inr this.symm
      · exact rle_no
    · exact rle_no
  · exact rle_no
/-- found_terms -/
def fastT : Rsl
  | [.val (.tup ds)] => match webOf ds with
    | some w => if okWb w && Nat.ble w.length 5 then .ok (.fresh (.lst ((dueOf w (ordL w.length)).map termD)), [.val (.tup ds)]) else .no
    | none => .no
  | [.val (.lst ds)] => match webOf ds with
    | some w => if okWb w && Nat.ble w.length 5 then .ok (.fresh (.lst ((dueOf w (ordL w.length)).map termD)), [.val (.lst ds)]) else .no
    | none => .no
  | _ => .no
theorem fastT_le {F : Rsl} (h : FtS F) (as : List Ar) : Rle (fastT as) (F as) := by
  unfold fastT
  split
  · split
    · rename_i ds w q
      split
      · rename_i q2
        rw [Bool.and_eq_true] at q2
        have := h false w.length w (okWb_ok q2.1) (Nat.le_of_ble_eq_true q2.2)
        rw [webOf_ok q]
        exact .inr this.symm
      · exact rle_no
    · exact rle_no
  · split
    · rename_i ds w q
      split
      · rename_i q2
        rw [Bool.and_eq_true] at q2
        have := h true w.length w (okWb_ok q2.1) (Nat.le_of_ble_eq_true q2.2)
        rw [webOf_ok q]
        exact .inr this.symm
      · exact rle_no
    · exact rle_no
  · exact rle_no
/-- true is given back -/
def isT : Res (Fl × St) → Bool
  | .ok (.ret (.val (.bl true)), _) => true
  | _ => false
theorem isT_ok {x : Res (Fl × St)} (h : isT x = true) : ∃ s, x = .ok (.ret (.val (.bl true)), s) := by
  unfold isT at h
  split at h
  · exact ⟨_, rfl⟩
  · cases h
theorem wx_mix {Φ Ψ : Fns} {fl : Nat → List Bool} {ss : Ss} {st : St} {Q : Fl → St → Prop} {X : Nat → Prop} (H : ∀ f as, Rle (Ψ f as) (Φ f as)) (h : isT (exs Ψ fl ss st) = true) (k : ∀ s, Q (.ret (.val (.bl true))) s) : Wx Φ fl ss st Q X := by
  obtain ⟨s, e⟩ := isT_ok h
  unfold Wx
  rw [rle_ok (m_exs H ss st) e]
  exact k s
end PV
set_option Elab.async false
set_option linter.all false
set_option maxRecDepth 100000
set_option maxHeartbeats 4000000
namespace K54
open PV
abbrev kis_between : Nat := 0
abbrev kare_rows : Nat := 1
abbrev kis_web : Nat := 2
abbrev kcheck_web : Nat := 3
abbrev kwith_sign : Nat := 4
abbrev kall_orders : Nat := 5
abbrev kis_uneven : Nat := 6
abbrev kfound_terms : Nat := 7
abbrev ksign_of : Nat := 8
abbrev kfound_sure : Nat := 9
abbrev knegative : Nat := 10
abbrev kwithout : Nat := 11
abbrev kturns : Nat := 12
abbrev kanswer_sign : Nat := 13
abbrev kfound_rings : Nat := 14
abbrev kfound_neighbours : Nat := 15
abbrev kis_white : Nat := 16
abbrev kfound_white : Nat := 17
abbrev kfound_faults : Nat := 18
abbrev kis_firm : Nat := 19
abbrev kstands_firm : Nat := 20
abbrev kis_half : Nat := 21
abbrev kcheck_half : Nat := 22
abbrev kcheck_point : Nat := 23
abbrev kopen_cells : Nat := 24
abbrev kfound_fillings : Nat := 25
abbrev kfillings : Nat := 26
abbrev kfound_state : Nat := 27
abbrev kstate : Nat := 28
abbrev kdoes_settle : Nat := 29
abbrev kis_settled : Nat := 30
abbrev kfewest_for : Nat := 31
abbrev kfewest_questions : Nat := 32
abbrev kplan_for : Nat := 33
abbrev kquestion_plan : Nat := 34
abbrev k_law_town : Nat := 35
abbrev k_law_draw : Nat := 36
abbrev k_law_put : Nat := 37
abbrev k_law_star : Nat := 38
def Fis_between : Fn := ⟨3, 3, (.cons (.ret (.and (.op (.isi .int) (.cons (.v 0) .nil)) (.and (.not (.op (.isi .bool) (.cons (.v 0) .nil))) (.chain .le .le (.v 1) (.v 0) (.v 2)))))
  .nil)⟩
def Fare_rows : Fn := ⟨2, 4, (.cons (.ite (.or (.not (.op (.isi .tuple) (.cons (.v 0) .nil))) (.not (.chain .le .le (.c (.int 1)) (.op .len (.cons (.v 0) .nil)) (.c (.int 5))))) (.cons (.ret (.c (.bl false)))
  .nil) .nil)
  (.cons (.ite (.not (.op .all (.cons (.comp [2] (.one 2) (.seq (.v 0)) (.c (.bl true)) (.and (.op (.isi .str) (.cons (.v 2) .nil)) (.op .eq (.cons (.op .len (.cons (.v 2) .nil)) (.cons (.op .len (.cons (.v 0) .nil)) .nil))))) .nil))) (.cons (.ret (.c (.bl false)))
  .nil) .nil)
  (.cons (.ret (.op .all (.cons (.comp2 [2, 3] [3] (.one 2) (.seq (.v 0)) (.one 3) (.seq (.v 2)) (.c (.bl true)) (.op .mem (.cons (.v 3) (.cons (.v 1) .nil)))) .nil)))
  .nil)))⟩
def Fis_web : Fn := ⟨1, 1, (.cons (.ret (.call kare_rows (.cons (.v 0) (.cons (.c (.str [43, 45, 48])) .nil))))
  .nil)⟩
def Fcheck_web : Fn := ⟨1, 1, (.cons (.ite (.not (.call kis_web (.cons (.v 0) .nil))) (.cons (.raise 1)
  .nil) .nil)
  .nil)⟩
def Fwith_sign : Fn := ⟨4, 5, (.cons (.set 4 true (.op .add (.cons (.op .add (.cons (.slc (.op .idx (.cons (.v 0) (.cons (.v 1) .nil))) false (.c .non) true (.v 2)) (.cons (.v 3) .nil))) (.cons (.slc (.op .idx (.cons (.v 0) (.cons (.v 1) .nil))) true (.op .add (.cons (.v 2) (.cons (.c (.int 1)) .nil))) false (.c .non)) .nil))))
  (.cons (.ret (.op .add (.cons (.op .add (.cons (.slc (.v 0) false (.c .non) true (.v 1)) (.cons (.tup (.cons (.v 4) .nil)) .nil))) (.cons (.slc (.v 0) true (.op .add (.cons (.v 1) (.cons (.c (.int 1)) .nil))) false (.c .non)) .nil))))
  .nil))⟩
def Fall_orders : Fn := ⟨1, 5, (.cons (.set 1 true (.lst (.cons (.tup .nil) .nil)))
  (.cons (.for (.one 2) (.rng1 (.v 0)) (.cons (.set 1 true (.comp2 [3, 4] [4] (.one 3) (.seq (.v 1)) (.one 4) (.rng1 (.v 0)) (.op .nmem (.cons (.v 4) (.cons (.v 3) .nil))) (.op .add (.cons (.v 3) (.cons (.tup (.cons (.v 4) .nil)) .nil)))))
  .nil))
  (.cons (.ret (.v 1))
  .nil)))⟩
def Fis_uneven : Fn := ⟨1, 5, (.cons (.set 1 true (.c (.int 0)))
  (.cons (.for (.many [2, 3]) (.enum (.v 0)) (.cons (.set 1 true (.op .add (.cons (.v 1) (.cons (.op .len (.cons (.comp [4] (.one 4) (.seq (.slc (.v 0) true (.v 2) false (.c .non))) (.op .lt (.cons (.v 4) (.cons (.v 3) .nil))) (.v 4)) .nil)) .nil))))
  .nil))
  (.cons (.ret (.op .eq (.cons (.op .mod (.cons (.v 1) (.cons (.c (.int 2)) .nil))) (.cons (.c (.int 1)) .nil))))
  .nil)))⟩
def Ffound_terms : Fn := ⟨1, 6, (.cons (.set 1 true (.lst .nil))
  (.cons (.for (.one 2) (.seq (.call kall_orders (.cons (.op .len (.cons (.v 0) .nil)) .nil))) (.cons (.set 3 true (.comp [4, 5] (.many [4, 5]) (.enum (.v 2)) (.c (.bl true)) (.op .idx (.cons (.op .idx (.cons (.v 0) (.cons (.v 4) .nil))) (.cons (.v 5) .nil)))))
  (.cons (.ite (.op .nmem (.cons (.c (.str [48])) (.cons (.v 3) .nil))) (.cons (.ex (.app 1 (.tup (.cons (.v 2) (.cons (.ite (.op .ne (.cons (.call kis_uneven (.cons (.v 2) .nil)) (.cons (.op .eq (.cons (.op .mod (.cons (.meth .count (.v 3) (.cons (.c (.str [45])) .nil)) (.cons (.c (.int 2)) .nil))) (.cons (.c (.int 1)) .nil))) .nil))) (.c (.str [45])) (.c (.str [43]))) .nil)))))
  .nil) .nil)
  .nil)))
  (.cons (.ret (.v 1))
  .nil)))⟩
def Fsign_of : Fn := ⟨1, 4, (.cons (.set 1 true (.op .sortedSet (.cons (.comp [2, 3] (.many [2, 3]) (.seq (.v 0)) (.c (.bl true)) (.v 3)) .nil)))
  (.cons (.ite (.op .eq (.cons (.v 1) (.cons (.lst .nil) .nil))) (.cons (.ret (.c (.str [48])))
  .nil) .nil)
  (.cons (.ret (.ite (.op .eq (.cons (.op .len (.cons (.v 1) .nil)) (.cons (.c (.int 1)) .nil))) (.op .idx (.cons (.v 1) (.cons (.c (.int 0)) .nil))) (.c .non)))
  .nil)))⟩
def Ffound_sure : Fn := ⟨1, 1, (.cons (.ret (.call ksign_of (.cons (.call kfound_terms (.cons (.v 0) .nil)) .nil)))
  .nil)⟩
def Fnegative : Fn := ⟨1, 1, (.cons (.ret (.ite (.op .isN (.cons (.v 0) .nil)) (.c .non) (.op (.gget [([43], (.str [45])), ([45], (.str [43])), ([48], (.str [48]))]) (.cons (.v 0) .nil))))
  .nil)⟩
def Fwithout : Fn := ⟨3, 5, (.cons (.ret (.comp [3, 4] (.many [3, 4]) (.enum (.v 0)) (.op .ne (.cons (.v 3) (.cons (.v 1) .nil))) (.op .add (.cons (.slc (.v 4) false (.c .non) true (.v 2)) (.cons (.slc (.v 4) true (.op .add (.cons (.v 2) (.cons (.c (.int 1)) .nil))) false (.c .non)) .nil)))))
  .nil)⟩
def Fturns : Fn := ⟨4, 4, (.cons (.ret (.op .eq (.cons (.op .eq (.cons (.v 3) (.cons (.c (.str [43])) .nil))) (.cons (.op .eq (.cons (.op .mod (.cons (.op .add (.cons (.v 1) (.cons (.v 2) .nil))) (.cons (.c (.int 2)) .nil))) (.cons (.c (.int 0)) .nil))) .nil))))
  .nil)⟩
def Fanswer_sign : Fn := ⟨4, 5, (.cons (.set 4 true (.call kfound_sure (.cons (.call kwithout (.cons (.v 0) (.cons (.v 2) (.cons (.v 1) .nil)))) .nil)))
  (.cons (.ret (.ite (.call kturns (.cons (.v 0) (.cons (.v 1) (.cons (.v 2) (.cons (.v 3) .nil))))) (.call knegative (.cons (.v 4) .nil)) (.v 4)))
  .nil))⟩
def Ffound_rings : Fn := ⟨1, 5, (.cons (.par [(2, true), (3, true)] (.cons (.comp [1] (.one 1) (.rng1 (.op .len (.cons (.v 0) .nil))) (.c (.bl true)) (.tup (.cons (.v 1) .nil))) (.cons (.lst .nil) .nil)))
  (.cons (.while (.op .ne (.cons (.v 2) (.cons (.lst .nil) .nil))) (.cons (.set 4 true (.pop 2))
  (.cons (.ite (.and (.op .gt (.cons (.op .len (.cons (.v 4) .nil)) (.cons (.c (.int 1)) .nil))) (.op .ne (.cons (.op .idx (.cons (.op .idx (.cons (.v 0) (.cons (.op .idx (.cons (.v 4) (.cons (.c (.int 0)) .nil))) .nil))) (.cons (.op .idx (.cons (.v 4) (.cons (.op .neg (.cons (.c (.int 1)) .nil)) .nil))) .nil))) (.cons (.c (.str [48])) .nil)))) (.cons (.ex (.app 3 (.v 4)))
  .nil) .nil)
  (.cons (.for (.one 1) (.rng2 (.op .add (.cons (.op .idx (.cons (.v 4) (.cons (.c (.int 0)) .nil))) (.cons (.c (.int 1)) .nil))) (.op .len (.cons (.v 0) .nil))) (.cons (.ite (.and (.op .nmem (.cons (.v 1) (.cons (.v 4) .nil))) (.op .ne (.cons (.op .idx (.cons (.op .idx (.cons (.v 0) (.cons (.v 1) .nil))) (.cons (.op .idx (.cons (.v 4) (.cons (.op .neg (.cons (.c (.int 1)) .nil)) .nil))) .nil))) (.cons (.c (.str [48])) .nil)))) (.cons (.ex (.app 2 (.op .add (.cons (.v 4) (.cons (.tup (.cons (.v 1) .nil)) .nil)))))
  .nil) .nil)
  .nil))
  .nil))))
  (.cons (.ret (.op .sortedOf (.cons (.v 3) .nil)))
  .nil)))⟩
def Ffound_neighbours : Fn := ⟨2, 3, (.cons (.ret (.op .tupleOf (.cons (.comp [2] (.one 2) (.rng1 (.op .len (.cons (.v 0) .nil))) (.and (.op .ne (.cons (.v 2) (.cons (.v 1) .nil))) (.op .mem (.cons (.op .add (.cons (.op .idx (.cons (.op .idx (.cons (.v 0) (.cons (.v 1) .nil))) (.cons (.v 2) .nil))) (.cons (.op .idx (.cons (.op .idx (.cons (.v 0) (.cons (.v 2) .nil))) (.cons (.v 1) .nil))) .nil))) (.cons (.tup (.cons (.c (.str [43, 45])) (.cons (.c (.str [45, 43])) .nil))) .nil)))) (.v 2)) .nil)))
  .nil)⟩
def Fis_white : Fn := ⟨2, 5, (.cons (.for (.one 2) (.rng1 (.op .len (.cons (.v 0) .nil))) (.cons (.set 3 true (.op .len (.cons (.comp [4] (.one 4) (.seq (.call kfound_neighbours (.cons (.v 0) (.cons (.v 2) .nil)))) (.op .mem (.cons (.v 4) (.cons (.v 1) .nil))) (.v 4)) .nil)))
  (.cons (.ite (.and (.op .mem (.cons (.v 2) (.cons (.v 1) .nil))) (.or (.op .ne (.cons (.op .idx (.cons (.op .idx (.cons (.v 0) (.cons (.v 2) .nil))) (.cons (.v 2) .nil))) (.cons (.c (.str [48])) .nil))) (.op .eq (.cons (.v 3) (.cons (.c (.int 0)) .nil))))) (.cons (.ret (.c (.bl false)))
  .nil) .nil)
  (.cons (.ite (.and (.op .nmem (.cons (.v 2) (.cons (.v 1) .nil))) (.op .eq (.cons (.v 3) (.cons (.c (.int 1)) .nil)))) (.cons (.ret (.c (.bl false)))
  .nil) .nil)
  .nil))))
  (.cons (.ret (.c (.bl true)))
  .nil))⟩
def Ffound_white : Fn := ⟨1, 4, (.cons (.set 1 true (.lst (.cons (.tup .nil) .nil)))
  (.cons (.for (.one 2) (.rng1 (.op .len (.cons (.v 0) .nil))) (.cons (.set 1 true (.op .add (.cons (.v 1) (.cons (.comp [3] (.one 3) (.seq (.v 1)) (.c (.bl true)) (.op .add (.cons (.v 3) (.cons (.tup (.cons (.v 2) .nil)) .nil)))) .nil))))
  .nil))
  (.cons (.ret (.op .sortedOf (.cons (.comp [3] (.one 3) (.seq (.v 1)) (.and (.op .ge (.cons (.op .len (.cons (.v 3) .nil)) (.cons (.c (.int 2)) .nil))) (.call kis_white (.cons (.v 0) (.cons (.v 3) .nil)))) (.v 3)) .nil)))
  .nil)))⟩
def Ffound_faults : Fn := ⟨1, 7, (.cons (.set 1 true (.op .lrng (.cons (.op .len (.cons (.v 0) .nil)) .nil)))
  (.cons (.set 3 true (.comp [2] (.one 2) (.seq (.v 1)) (.op .eq (.cons (.op .idx (.cons (.op .idx (.cons (.v 0) (.cons (.v 2) .nil))) (.cons (.v 2) .nil))) (.cons (.c (.str [43])) .nil))) (.tup (.cons (.c (.str [111, 119, 110])) (.cons (.v 2) .nil)))))
  (.cons (.for (.one 2) (.seq (.v 1)) (.cons (.for (.one 4) (.rng2 (.op .add (.cons (.v 2) (.cons (.c (.int 1)) .nil))) (.op .len (.cons (.v 0) .nil))) (.cons (.ite (.and (.op .ne (.cons (.op .idx (.cons (.op .idx (.cons (.v 0) (.cons (.v 2) .nil))) (.cons (.v 4) .nil))) (.cons (.c (.str [48])) .nil))) (.and (.op .ne (.cons (.op .idx (.cons (.op .idx (.cons (.v 0) (.cons (.v 4) .nil))) (.cons (.v 2) .nil))) (.cons (.c (.str [48])) .nil))) (.op .eq (.cons (.op .idx (.cons (.op .idx (.cons (.v 0) (.cons (.v 2) .nil))) (.cons (.v 4) .nil))) (.cons (.op .idx (.cons (.op .idx (.cons (.v 0) (.cons (.v 4) .nil))) (.cons (.v 2) .nil))) .nil))))) (.cons (.ex (.app 3 (.tup (.cons (.c (.str [112, 97, 105, 114])) (.cons (.v 2) (.cons (.v 4) .nil))))))
  .nil) .nil)
  .nil))
  .nil))
  (.cons (.ex (.ext 3 (.comp [5] (.one 5) (.seq (.call kfound_rings (.cons (.v 0) .nil))) (.op .gt (.cons (.op .len (.cons (.v 5) .nil)) (.cons (.c (.int 2)) .nil))) (.tup (.cons (.c (.str [114, 105, 110, 103])) (.cons (.v 5) .nil))))))
  (.cons (.ite (.op .eq (.cons (.call kfound_terms (.cons (.v 0) .nil)) (.cons (.lst .nil) .nil))) (.cons (.ex (.app 3 (.tup (.cons (.c (.str [110, 111, 110, 101])) .nil))))
  .nil) .nil)
  (.cons (.ret (.op .add (.cons (.v 3) (.cons (.comp [6] (.one 6) (.seq (.call kfound_white (.cons (.v 0) .nil))) (.c (.bl true)) (.tup (.cons (.c (.str [119, 104, 105, 116, 101])) (.cons (.v 6) .nil)))) .nil))))
  .nil))))))⟩
def Fis_firm : Fn := ⟨1, 1, (.cons (.ret (.op .eq (.cons (.call kfound_faults (.cons (.v 0) .nil)) (.cons (.lst .nil) .nil))))
  .nil)⟩
def Fstands_firm : Fn := ⟨1, 1, (.cons (.ex (.call kcheck_web (.cons (.v 0) .nil)))
  (.cons (.ret (.call kis_firm (.cons (.v 0) .nil)))
  .nil))⟩
def Fis_half : Fn := ⟨1, 1, (.cons (.ite (.not (.call kare_rows (.cons (.v 0) (.cons (.c (.str [43, 45, 48, 63])) .nil)))) (.cons (.ret (.c (.bl false)))
  .nil) .nil)
  (.cons (.ret (.chain .le .le (.c (.int 1)) (.meth .count (.meth .join (.c (.str [])) (.cons (.v 0) .nil)) (.cons (.c (.str [63])) .nil)) (.c (.int 4))))
  .nil))⟩
def Fcheck_half : Fn := ⟨1, 1, (.cons (.ite (.not (.call kis_half (.cons (.v 0) .nil))) (.cons (.raise 2)
  .nil) .nil)
  .nil)⟩
def Fcheck_point : Fn := ⟨2, 3, (.cons (.ite (.or (.not (.op (.isi .tuple) (.cons (.v 1) .nil))) (.op .nmem (.cons (.op .len (.cons (.v 1) .nil)) (.cons (.tup (.cons (.c (.int 1)) (.cons (.c (.int 3)) .nil))) .nil)))) (.cons (.raise 3)
  .nil) .nil)
  (.cons (.ite (.and (.op .eq (.cons (.op .len (.cons (.v 1) .nil)) (.cons (.c (.int 1)) .nil))) (.or (.not (.op (.isi .str) (.cons (.op .idx (.cons (.v 1) (.cons (.c (.int 0)) .nil))) .nil))) (.op .nmem (.cons (.op .idx (.cons (.v 1) (.cons (.c (.int 0)) .nil))) (.cons (.tup (.cons (.c (.str [100, 101, 116])) (.cons (.c (.str [102, 105, 114, 109])) .nil))) .nil))))) (.cons (.raise 3)
  .nil) .nil)
  (.cons (.ite (.op .eq (.cons (.op .len (.cons (.v 1) .nil)) (.cons (.c (.int 3)) .nil))) (.cons (.ite (.or (.not (.op (.isi .str) (.cons (.op .idx (.cons (.v 1) (.cons (.c (.int 0)) .nil))) .nil))) (.op .ne (.cons (.op .idx (.cons (.v 1) (.cons (.c (.int 0)) .nil))) (.cons (.c (.str [97, 110, 115, 119, 101, 114])) .nil)))) (.cons (.raise 3)
  .nil) .nil)
  (.cons (.ite (.not (.op .all (.cons (.comp [2] (.one 2) (.seq (.slc (.v 1) true (.c (.int 1)) false (.c .non))) (.c (.bl true)) (.call kis_between (.cons (.v 2) (.cons (.c (.int 0)) (.cons (.op .sub (.cons (.op .len (.cons (.v 0) .nil)) (.cons (.c (.int 1)) .nil))) .nil))))) .nil))) (.cons (.raise 3)
  .nil) .nil)
  .nil)) .nil)
  .nil)))⟩
def Fopen_cells : Fn := ⟨1, 5, (.cons (.ret (.comp2 [1, 2, 3, 4] [3, 4] (.many [1, 2]) (.enum (.v 0)) (.many [3, 4]) (.enum (.v 2)) (.op .eq (.cons (.v 4) (.cons (.c (.str [63])) .nil))) (.tup (.cons (.v 1) (.cons (.v 3) .nil)))))
  .nil)⟩
def Ffound_fillings : Fn := ⟨1, 6, (.cons (.set 1 true (.lst (.cons (.v 0) .nil)))
  (.cons (.for (.many [2, 3]) (.seq (.call kopen_cells (.cons (.v 0) .nil))) (.cons (.set 1 true (.comp2 [4, 5] [5] (.one 4) (.seq (.v 1)) (.one 5) (.seq (.c (.str [43, 45, 48]))) (.c (.bl true)) (.call kwith_sign (.cons (.v 4) (.cons (.v 2) (.cons (.v 3) (.cons (.v 5) .nil)))))))
  .nil))
  (.cons (.ret (.op .sortedOf (.cons (.v 1) .nil)))
  .nil)))⟩
def Ffillings : Fn := ⟨1, 1, (.cons (.ex (.call kcheck_half (.cons (.v 0) .nil)))
  (.cons (.ret (.op .tupleOf (.cons (.call kfound_fillings (.cons (.v 0) .nil)) .nil)))
  .nil))⟩
def Ffound_state : Fn := ⟨2, 3, (.cons (.ite (.op .eq (.cons (.op .idx (.cons (.v 1) (.cons (.c (.int 0)) .nil))) (.cons (.c (.str [102, 105, 114, 109])) .nil))) (.cons (.ret (.call kis_firm (.cons (.v 0) .nil)))
  .nil) .nil)
  (.cons (.set 2 true (.call kfound_sure (.cons (.v 0) .nil)))
  (.cons (.ite (.op .eq (.cons (.op .idx (.cons (.v 1) (.cons (.c (.int 0)) .nil))) (.cons (.c (.str [100, 101, 116])) .nil))) (.cons (.ret (.v 2))
  .nil) .nil)
  (.cons (.ret (.ite (.or (.op .isN (.cons (.v 2) .nil)) (.op .eq (.cons (.v 2) (.cons (.c (.str [48])) .nil)))) (.c (.str [117, 110, 115, 117, 114, 101])) (.call kanswer_sign (.cons (.v 0) (.cons (.op .idx (.cons (.v 1) (.cons (.c (.int 1)) .nil))) (.cons (.op .idx (.cons (.v 1) (.cons (.c (.int 2)) .nil))) (.cons (.v 2) .nil)))))))
  .nil))))⟩
def Fstate : Fn := ⟨2, 2, (.cons (.ex (.call kcheck_web (.cons (.v 0) .nil)))
  (.cons (.ex (.call kcheck_point (.cons (.v 0) (.cons (.v 1) .nil))))
  (.cons (.ret (.call kfound_state (.cons (.v 0) (.cons (.v 1) .nil))))
  .nil)))⟩
def Fdoes_settle : Fn := ⟨2, 5, (.cons (.set 2 true (.comp [3] (.one 3) (.seq (.call kfound_fillings (.cons (.v 0) .nil))) (.c (.bl true)) (.call kfound_state (.cons (.v 3) (.cons (.v 1) .nil)))))
  (.cons (.ret (.op .all (.cons (.comp [4] (.one 4) (.seq (.v 2)) (.c (.bl true)) (.op .eq (.cons (.v 4) (.cons (.op .idx (.cons (.v 2) (.cons (.c (.int 0)) .nil))) .nil)))) .nil)))
  .nil))⟩
def Fis_settled : Fn := ⟨2, 2, (.cons (.ex (.call kcheck_half (.cons (.v 0) .nil)))
  (.cons (.ex (.call kcheck_point (.cons (.v 0) (.cons (.v 1) .nil))))
  (.cons (.ret (.call kdoes_settle (.cons (.v 0) (.cons (.v 1) .nil))))
  .nil)))⟩
def Ffewest_for : Fn := ⟨3, 9, (.cons (.ite (.op .nmem (.cons (.v 0) (.cons (.v 2) .nil))) (.cons (.ite (.call kdoes_settle (.cons (.v 0) (.cons (.v 1) .nil))) (.cons (.setItem 2 (.v 0) (.c (.int 0)))
  .nil) (.cons (.set 3 true (.comp [4, 5] (.many [4, 5]) (.seq (.call kopen_cells (.cons (.v 0) .nil))) (.c (.bl true)) (.comp [6] (.one 6) (.seq (.c (.str [43, 45, 48]))) (.c (.bl true)) (.call kwith_sign (.cons (.v 0) (.cons (.v 4) (.cons (.v 5) (.cons (.v 6) .nil))))))))
  (.cons (.setItem 2 (.v 0) (.op .min1 (.cons (.comp [7] (.one 7) (.seq (.v 3)) (.c (.bl true)) (.op .add (.cons (.c (.int 1)) (.cons (.op .max1 (.cons (.comp [8] (.one 8) (.seq (.v 7)) (.c (.bl true)) (.call kfewest_for (.cons (.v 8) (.cons (.v 1) (.cons (.v 2) .nil))))) .nil)) .nil)))) .nil)))
  .nil)))
  .nil) .nil)
  (.cons (.ret (.op .idx (.cons (.v 2) (.cons (.v 0) .nil))))
  .nil))⟩
def Ffewest_questions : Fn := ⟨2, 2, (.cons (.ex (.call kcheck_half (.cons (.v 0) .nil)))
  (.cons (.ex (.call kcheck_point (.cons (.v 0) (.cons (.v 1) .nil))))
  (.cons (.ret (.call kfewest_for (.cons (.v 0) (.cons (.v 1) (.cons (.dict .nil) .nil)))))
  .nil)))⟩
def Fplan_for : Fn := ⟨3, 9, (.cons (.set 3 true (.call kfewest_for (.cons (.v 0) (.cons (.v 1) (.cons (.v 2) .nil)))))
  (.cons (.ite (.op .eq (.cons (.v 3) (.cons (.c (.int 0)) .nil))) (.cons (.ret (.c .non))
  .nil) .nil)
  (.cons (.for (.many [4, 5]) (.seq (.call kopen_cells (.cons (.v 0) .nil))) (.cons (.set 6 true (.comp [7] (.one 7) (.seq (.c (.str [43, 45, 48]))) (.c (.bl true)) (.call kwith_sign (.cons (.v 0) (.cons (.v 4) (.cons (.v 5) (.cons (.v 7) .nil)))))))
  (.cons (.ite (.op .eq (.cons (.op .add (.cons (.c (.int 1)) (.cons (.op .max1 (.cons (.comp [8] (.one 8) (.seq (.v 6)) (.c (.bl true)) (.call kfewest_for (.cons (.v 8) (.cons (.v 1) (.cons (.v 2) .nil))))) .nil)) .nil))) (.cons (.v 3) .nil))) (.cons (.ret (.op .add (.cons (.tup (.cons (.tup (.cons (.v 4) (.cons (.v 5) .nil))) .nil)) (.cons (.op .tupleOf (.cons (.comp [8] (.one 8) (.seq (.v 6)) (.c (.bl true)) (.call kplan_for (.cons (.v 8) (.cons (.v 1) (.cons (.v 2) .nil))))) .nil)) .nil))))
  .nil) .nil)
  .nil)))
  (.cons (.ret (.c .non))
  .nil))))⟩
def Fquestion_plan : Fn := ⟨2, 2, (.cons (.ex (.call kcheck_half (.cons (.v 0) .nil)))
  (.cons (.ex (.call kcheck_point (.cons (.v 0) (.cons (.v 1) .nil))))
  (.cons (.ret (.call kplan_for (.cons (.v 0) (.cons (.v 1) (.cons (.dict .nil) .nil)))))
  .nil)))⟩
def F_law_town : Fn := ⟨1, 1, (.cons (.ret (.op .add (.cons (.lst (.cons (.c (.int 0)) .nil)) (.cons (.op .listOf (.cons (.v 0) .nil)) .nil))))
  .nil)⟩
def F_law_draw : Fn := ⟨3, 6, (.cons (.setItem 1 (.c (.int 0)) (.op .add (.cons (.op .idx (.cons (.v 1) (.cons (.c (.int 0)) .nil))) (.cons (.c (.int 1)) .nil))))
  (.cons (.ite (.op .eq (.cons (.v 0) (.cons (.lst .nil) .nil))) (.cons (.ret (.op .mod (.cons (.op .fdiv (.cons (.op .mul (.cons (.op .mul (.cons (.op .idx (.cons (.v 1) (.cons (.c (.int 0)) .nil))) (.cons (.op .idx (.cons (.v 1) (.cons (.c (.int 0)) .nil))) .nil))) (.cons (.c (.int 7)) .nil))) (.cons (.c (.int 3)) .nil))) (.cons (.v 2) .nil))))
  .nil) .nil)
  (.cons (.set 3 true (.op .mod (.cons (.op .idx (.cons (.v 1) (.cons (.c (.int 0)) .nil))) (.cons (.op .len (.cons (.v 0) .nil)) .nil))))
  (.cons (.set 4 true (.op .idx (.cons (.v 1) (.cons (.op .add (.cons (.c (.int 1)) (.cons (.v 3) .nil))) .nil))))
  (.cons (.ite (.and (.op .ge (.cons (.op .idx (.cons (.v 0) (.cons (.v 3) .nil))) (.cons (.op .pow (.cons (.c (.int 10)) (.cons (.c (.int 18)) .nil))) .nil))) (.op .gt (.cons (.v 4) (.cons (.c (.int 0)) .nil)))) (.cons (.setItem 1 (.op .add (.cons (.c (.int 1)) (.cons (.v 3) .nil))) (.op .fdiv (.cons (.v 4) (.cons (.v 2) .nil))))
  (.cons (.ret (.op .mod (.cons (.v 4) (.cons (.v 2) .nil))))
  .nil)) .nil)
  (.cons (.set 5 true (.op .mod (.cons (.op .add (.cons (.op .idx (.cons (.v 0) (.cons (.v 3) .nil))) (.cons (.op .mul (.cons (.c (.int 104729)) (.cons (.op .idx (.cons (.v 1) (.cons (.c (.int 0)) .nil))) .nil))) .nil))) (.cons (.c (.int 4294967291)) .nil))))
  (.cons (.set 5 true (.op .mod (.cons (.op .pow (.cons (.v 5) (.cons (.c (.int 5)) .nil))) (.cons (.c (.int 4294967279)) .nil))))
  (.cons (.ret (.op .mod (.cons (.op .fdiv (.cons (.op .mod (.cons (.op .add (.cons (.op .mul (.cons (.op .fdiv (.cons (.v 5) (.cons (.c (.int 64)) .nil))) (.cons (.c (.int 69621)) .nil))) (.cons (.v 5) .nil))) (.cons (.c (.int 4294967231)) .nil))) (.cons (.c (.int 8)) .nil))) (.cons (.v 2) .nil))))
  .nil))))))))⟩
def F_law_put : Fn := ⟨4, 5, (.cons (.set 4 true (.op .add (.cons (.op .add (.cons (.slc (.op .idx (.cons (.v 0) (.cons (.v 1) .nil))) false (.c .non) true (.v 2)) (.cons (.v 3) .nil))) (.cons (.slc (.op .idx (.cons (.v 0) (.cons (.v 1) .nil))) true (.op .add (.cons (.v 2) (.cons (.c (.int 1)) .nil))) false (.c .non)) .nil))))
  (.cons (.ret (.op .add (.cons (.op .add (.cons (.slc (.v 0) false (.c .non) true (.v 1)) (.cons (.tup (.cons (.v 4) .nil)) .nil))) (.cons (.slc (.v 0) true (.op .add (.cons (.v 1) (.cons (.c (.int 1)) .nil))) false (.c .non)) .nil))))
  .nil))⟩
def F_law_star : Fn := ⟨1, 3, (.cons (.set 1 true (.op .add (.cons (.tup (.cons (.op .mul (.cons (.c (.str [45])) (.cons (.v 0) .nil))) .nil)) (.cons (.op .mul (.cons (.tup (.cons (.op .add (.cons (.c (.str [43])) (.cons (.op .mul (.cons (.c (.str [48])) (.cons (.op .sub (.cons (.v 0) (.cons (.c (.int 1)) .nil))) .nil))) .nil))) .nil)) (.cons (.op .sub (.cons (.v 0) (.cons (.c (.int 1)) .nil))) .nil))) .nil))))
  (.cons (.for (.one 2) (.rng1 (.v 0)) (.cons (.set 1 true (.call k_law_put (.cons (.v 1) (.cons (.v 2) (.cons (.v 2) (.cons (.c (.str [45])) .nil))))))
  .nil))
  (.cons (.ret (.v 1))
  .nil)))⟩
def Flaw : Fn := ⟨1, 13, (.cons (.set 1 true (.call k_law_town (.cons (.v 0) .nil)))
  (.cons (.set 2 true (.op .add (.cons (.c (.int 2)) (.cons (.call k_law_draw (.cons (.v 0) (.cons (.v 1) (.cons (.c (.int 4)) .nil)))) .nil))))
  (.cons (.par [(3, true), (4, true)] (.cons (.call k_law_star (.cons (.v 2) .nil)) (.cons (.call k_law_draw (.cons (.v 0) (.cons (.v 1) (.cons (.v 2) .nil)))) .nil)))
  (.cons (.ite (.op .notB (.cons (.call kstands_firm (.cons (.v 3) .nil)) (.cons (.c (.bl true)) .nil))) (.cons (.ret (.c (.bl false)))
  .nil) .nil)
  (.cons (.set 5 true (.call k_law_put (.cons (.v 3) (.cons (.v 4) (.cons (.v 4) (.cons (.c (.str [63])) .nil))))))
  (.cons (.ite (.or (.call kis_settled (.cons (.v 5) (.cons (.tup (.cons (.c (.str [102, 105, 114, 109])) .nil)) .nil))) (.op .ne (.cons (.call kfewest_questions (.cons (.v 5) (.cons (.tup (.cons (.c (.str [102, 105, 114, 109])) .nil)) .nil))) (.cons (.c (.int 1)) .nil)))) (.cons (.ret (.c (.bl false)))
  .nil) .nil)
  (.cons (.ite (.op .ne (.cons (.call kquestion_plan (.cons (.v 5) (.cons (.tup (.cons (.c (.str [102, 105, 114, 109])) .nil)) .nil))) (.cons (.tup (.cons (.tup (.cons (.v 4) (.cons (.v 4) .nil))) (.cons (.c .non) (.cons (.c .non) (.cons (.c .non) .nil))))) .nil))) (.cons (.ret (.c (.bl false)))
  .nil) .nil)
  (.cons (.par [(6, true), (7, true)] (.cons (.op .add (.cons (.c (.int 1)) (.cons (.call k_law_draw (.cons (.v 0) (.cons (.v 1) (.cons (.op .sub (.cons (.v 2) (.cons (.c (.int 1)) .nil))) .nil)))) .nil))) (.cons (.c (.int 0)) .nil)))
  (.cons (.set 5 true (.call k_law_put (.cons (.v 3) (.cons (.v 6) (.cons (.v 7) (.cons (.c (.str [63])) .nil))))))
  (.cons (.ite (.or (.op .ne (.cons (.call kfewest_questions (.cons (.v 5) (.cons (.tup (.cons (.c (.str [102, 105, 114, 109])) .nil)) .nil))) (.cons (.c (.int 1)) .nil))) (.op .ne (.cons (.call kfewest_questions (.cons (.v 5) (.cons (.tup (.cons (.c (.str [100, 101, 116])) .nil)) .nil))) (.cons (.c (.int 1)) .nil)))) (.cons (.ret (.c (.bl false)))
  .nil) .nil)
  (.cons (.set 8 true (.call k_law_put (.cons (.v 5) (.cons (.c (.int 0)) (.cons (.v 6) (.cons (.c (.str [63])) .nil))))))
  (.cons (.ite (.or (.op .ne (.cons (.call kfewest_questions (.cons (.v 8) (.cons (.tup (.cons (.c (.str [100, 101, 116])) .nil)) .nil))) (.cons (.c (.int 2)) .nil))) (.op .ne (.cons (.op .idx (.cons (.call kquestion_plan (.cons (.v 8) (.cons (.tup (.cons (.c (.str [100, 101, 116])) .nil)) .nil))) (.cons (.c (.int 0)) .nil))) (.cons (.tup (.cons (.c (.int 0)) (.cons (.v 6) .nil))) .nil)))) (.cons (.ret (.c (.bl false)))
  .nil) .nil)
  (.cons (.set 9 true (.call kquestion_plan (.cons (.v 8) (.cons (.tup (.cons (.c (.str [100, 101, 116])) .nil)) .nil))))
  (.cons (.ite (.or (.op .notN (.cons (.op .idx (.cons (.v 9) (.cons (.c (.int 3)) .nil))) .nil)) (.or (.op .isN (.cons (.op .idx (.cons (.v 9) (.cons (.c (.int 1)) .nil))) .nil)) (.op .isN (.cons (.op .idx (.cons (.v 9) (.cons (.c (.int 2)) .nil))) .nil)))) (.cons (.ret (.c (.bl false)))
  .nil) .nil)
  (.cons (.set 10 true (.tup (.cons (.op .add (.cons (.op .add (.cons (.c (.str [45])) (.cons (.op .mul (.cons (.c (.str [63])) (.cons (.op .min2 (.cons (.op .sub (.cons (.v 2) (.cons (.c (.int 1)) .nil))) (.cons (.c (.int 3)) .nil))) .nil))) .nil))) (.cons (.op .mul (.cons (.c (.str [48])) (.cons (.op .sub (.cons (.op .sub (.cons (.v 2) (.cons (.c (.int 1)) .nil))) (.cons (.op .min2 (.cons (.op .sub (.cons (.v 2) (.cons (.c (.int 1)) .nil))) (.cons (.c (.int 3)) .nil))) .nil))) .nil))) .nil))) .nil)))
  (.cons (.for (.one 11) (.rng2 (.c (.int 1)) (.v 2)) (.cons (.set 10 true (.op .add (.cons (.v 10) (.cons (.tup (.cons (.op .add (.cons (.op .add (.cons (.op .mul (.cons (.c (.str [48])) (.cons (.v 11) .nil))) (.cons (.c (.str [45])) .nil))) (.cons (.op .mul (.cons (.c (.str [48])) (.cons (.op .sub (.cons (.op .sub (.cons (.v 2) (.cons (.c (.int 1)) .nil))) (.cons (.v 11) .nil))) .nil))) .nil))) .nil)) .nil))))
  .nil))
  (.cons (.ite (.or (.op .notB (.cons (.call kis_settled (.cons (.v 10) (.cons (.tup (.cons (.c (.str [102, 105, 114, 109])) .nil)) .nil))) (.cons (.c (.bl true)) .nil))) (.op .notB (.cons (.call kis_settled (.cons (.v 10) (.cons (.tup (.cons (.c (.str [100, 101, 116])) .nil)) .nil))) (.cons (.c (.bl true)) .nil)))) (.cons (.ret (.c (.bl false)))
  .nil) .nil)
  (.cons (.ite (.or (.op .ne (.cons (.call kfewest_questions (.cons (.v 10) (.cons (.tup (.cons (.c (.str [97, 110, 115, 119, 101, 114])) (.cons (.c (.int 0)) (.cons (.c (.int 1)) .nil)))) .nil))) (.cons (.c (.int 1)) .nil))) (.op .ne (.cons (.op .idx (.cons (.call kquestion_plan (.cons (.v 10) (.cons (.tup (.cons (.c (.str [97, 110, 115, 119, 101, 114])) (.cons (.c (.int 0)) (.cons (.c (.int 1)) .nil)))) .nil))) (.cons (.c (.int 0)) .nil))) (.cons (.tup (.cons (.c (.int 0)) (.cons (.c (.int 1)) .nil))) .nil)))) (.cons (.ret (.c (.bl false)))
  .nil) .nil)
  (.cons (.ite (.or (.op .notB (.cons (.call kis_settled (.cons (.v 10) (.cons (.tup (.cons (.c (.str [97, 110, 115, 119, 101, 114])) (.cons (.c (.int 1)) (.cons (.c (.int 0)) .nil)))) .nil))) (.cons (.c (.bl true)) .nil))) (.op .ne (.cons (.call kstate (.cons (.op .idx (.cons (.call kfillings (.cons (.v 10) .nil)) (.cons (.c (.int 0)) .nil))) (.cons (.tup (.cons (.c (.str [97, 110, 115, 119, 101, 114])) (.cons (.c (.int 0)) (.cons (.c (.int 1)) .nil)))) .nil))) (.cons (.c (.str [43])) .nil)))) (.cons (.ret (.c (.bl false)))
  .nil) .nil)
  (.cons (.set 12 true (.tup (.cons (.c (.str [63])) .nil)))
  (.cons (.ret (.and (.op .eq (.cons (.call kfewest_questions (.cons (.v 12) (.cons (.tup (.cons (.c (.str [102, 105, 114, 109])) .nil)) .nil))) (.cons (.c (.int 1)) .nil))) (.op .eq (.cons (.call kfewest_questions (.cons (.tup (.cons (.c (.str [48, 63])) (.cons (.c (.str [63, 48])) .nil))) (.cons (.tup (.cons (.c (.str [100, 101, 116])) .nil)) .nil))) (.cons (.c (.int 2)) .nil)))))
  .nil)))))))))))))))))))))⟩
def tl : List (Nat × Fn) := [(0, Fis_between), (1, Fare_rows), (2, Fis_web), (3, Fcheck_web), (4, Fwith_sign), (5, Fall_orders), (6, Fis_uneven), (7, Ffound_terms), (8, Fsign_of), (9, Ffound_sure), (10, Fnegative), (11, Fwithout), (12, Fturns), (13, Fanswer_sign), (14, Ffound_rings), (15, Ffound_neighbours), (16, Fis_white), (17, Ffound_white), (18, Ffound_faults), (19, Fis_firm), (20, Fstands_firm), (21, Fis_half), (22, Fcheck_half), (23, Fcheck_point), (24, Fopen_cells), (25, Ffound_fillings), (26, Ffillings), (27, Ffound_state), (28, Fstate), (29, Fdoes_settle), (30, Fis_settled), (31, Ffewest_for), (32, Ffewest_questions), (33, Fplan_for), (34, Fquestion_plan), (35, F_law_town), (36, F_law_draw), (37, F_law_put), (38, F_law_star)]
def flP : Nat → List Bool := fun k => [[false, false, false], [false, false], [false], [false], [false, false, false, false], [false], [false], [false], [false], [false], [false], [false, false, false], [false, false, false, false], [false, false, false, false], [false], [false, false], [false, false], [false], [false], [false], [false], [false], [false], [false, false], [false], [false], [false], [false, false], [false, false], [false, false], [false, false], [false, false, true], [false, false], [false, false, true], [false, false], [false], [false, true, false], [false, false, false, false], [false], [false]].getD k []
end K54
namespace K54
open PV
def fast : Fns := fastOf [(kcheck_web, fastW fun _ _ => .val .non), (kfound_terms, fastT), (kfound_rings, fastW fun n w => .fresh (.lst ((ringsL n w).map ordD))), (kfound_white, fastW fun n w => .fresh (.lst ((whL n w).map ordD))), (kfound_faults, fastW fun n w => .fresh (.lst (fltL n w))), (kis_firm, fastW fun _ w => .val (.bl (firm w)))]
def drop : Nat → Ss → Ss
  | 0, s => s
  | n + 1, .cons _ r => drop n r
  | _, _ => .nil
def take : Nat → Ss → Ss
  | n + 1, .cons s r => .cons s (take n r)
  | _, _ => .nil
def A : Ss := take 4 (drop 3 Flaw.body)
def B : Ss := drop 8 Flaw.body
def starW (n : Nat) : Web := (List.range n).map fun i => (List.range n).map fun j => if i = j then 45 else if i = 0 then 45 else if j = 0 then 43 else 48
def stA (S T : Sl) (n p : Nat) : St := [S, T, .val (.int n), .val (webD (starW n)), .val (.int p), .none, .none, .none, .none, .none, .none, .none, .none]
def stB (S T : Sl) (n p : Nat) : St := [S, T, .val (.int n), .val (webD (starW n)), .val (.int p), .val (webD (putW (starW n) p p 63)), .none, .none, .none, .none, .none, .none, .none]
def stC (S T P Hf : Sl) (n i : Nat) : St := [S, T, .val (.int n), .val (webD (starW n)), P, Hf, .val (.int i), .val (.int 0), .none, .none, .none, .none, .none]
theorem a20 (S T : Sl) : exs (Fns.mix flP tl fast 12) flP A (stA S T 2 0) = .ok (.next, stB S T 2 0) := by kernel_rfl
theorem a21 (S T : Sl) : exs (Fns.mix flP tl fast 12) flP A (stA S T 2 1) = .ok (.next, stB S T 2 1) := by kernel_rfl
theorem a30 (S T : Sl) : exs (Fns.mix flP tl fast 12) flP A (stA S T 3 0) = .ok (.next, stB S T 3 0) := by kernel_rfl
theorem a31 (S T : Sl) : exs (Fns.mix flP tl fast 12) flP A (stA S T 3 1) = .ok (.next, stB S T 3 1) := by kernel_rfl
theorem a32 (S T : Sl) : exs (Fns.mix flP tl fast 12) flP A (stA S T 3 2) = .ok (.next, stB S T 3 2) := by kernel_rfl
theorem a40 (S T : Sl) : exs (Fns.mix flP tl fast 12) flP A (stA S T 4 0) = .ok (.next, stB S T 4 0) := by kernel_rfl
theorem a41 (S T : Sl) : exs (Fns.mix flP tl fast 12) flP A (stA S T 4 1) = .ok (.next, stB S T 4 1) := by kernel_rfl
theorem a42 (S T : Sl) : exs (Fns.mix flP tl fast 12) flP A (stA S T 4 2) = .ok (.next, stB S T 4 2) := by kernel_rfl
theorem a43 (S T : Sl) : exs (Fns.mix flP tl fast 12) flP A (stA S T 4 3) = .ok (.next, stB S T 4 3) := by kernel_rfl
theorem a50 (S T : Sl) : exs (Fns.mix flP tl fast 12) flP A (stA S T 5 0) = .ok (.next, stB S T 5 0) := by kernel_rfl
theorem a51 (S T : Sl) : exs (Fns.mix flP tl fast 12) flP A (stA S T 5 1) = .ok (.next, stB S T 5 1) := by kernel_rfl
theorem a52 (S T : Sl) : exs (Fns.mix flP tl fast 12) flP A (stA S T 5 2) = .ok (.next, stB S T 5 2) := by kernel_rfl
theorem a53 (S T : Sl) : exs (Fns.mix flP tl fast 12) flP A (stA S T 5 3) = .ok (.next, stB S T 5 3) := by kernel_rfl
theorem a54 (S T : Sl) : exs (Fns.mix flP tl fast 12) flP A (stA S T 5 4) = .ok (.next, stB S T 5 4) := by kernel_rfl
theorem b21 (S T P Hf : Sl) : isT (exs (Fns.mix flP tl fast 12) flP B (stC S T P Hf 2 1)) = true := by kernel_rfl
theorem b31 (S T P Hf : Sl) : isT (exs (Fns.mix flP tl fast 12) flP B (stC S T P Hf 3 1)) = true := by kernel_rfl
theorem b32 (S T P Hf : Sl) : isT (exs (Fns.mix flP tl fast 12) flP B (stC S T P Hf 3 2)) = true := by kernel_rfl
theorem b41 (S T P Hf : Sl) : isT (exs (Fns.mix flP tl fast 12) flP B (stC S T P Hf 4 1)) = true := by kernel_rfl
theorem b42 (S T P Hf : Sl) : isT (exs (Fns.mix flP tl fast 12) flP B (stC S T P Hf 4 2)) = true := by kernel_rfl
theorem b43 (S T P Hf : Sl) : isT (exs (Fns.mix flP tl fast 12) flP B (stC S T P Hf 4 3)) = true := by kernel_rfl
theorem b51 (S T P Hf : Sl) : isT (exs (Fns.mix flP tl fast 12) flP B (stC S T P Hf 5 1)) = true := by kernel_rfl
theorem b52 (S T P Hf : Sl) : isT (exs (Fns.mix flP tl fast 12) flP B (stC S T P Hf 5 2)) = true := by kernel_rfl
theorem b53 (S T P Hf : Sl) : isT (exs (Fns.mix flP tl fast 12) flP B (stC S T P Hf 5 3)) = true := by kernel_rfl
theorem b54 (S T P Hf : Sl) : isT (exs (Fns.mix flP tl fast 12) flP B (stC S T P Hf 5 4)) = true := by kernel_rfl
theorem c2 : Fns.mix flP tl fast 12 k_law_star [.val (.int 2)] = .ok (.val (webD (starW 2)), [.val (.int 2)]) := by kernel_rfl
theorem c3 : Fns.mix flP tl fast 12 k_law_star [.val (.int 3)] = .ok (.val (webD (starW 3)), [.val (.int 3)]) := by kernel_rfl
theorem c4 : Fns.mix flP tl fast 12 k_law_star [.val (.int 4)] = .ok (.val (webD (starW 4)), [.val (.int 4)]) := by kernel_rfl
theorem c5 : Fns.mix flP tl fast 12 k_law_star [.val (.int 5)] = .ok (.val (webD (starW 5)), [.val (.int 5)]) := by kernel_rfl
theorem all_a (S T : Sl) : ∀ n p : Nat, 2 ≤ n → n ≤ 5 → 0 ≤ p → p < n → exs (Fns.mix flP tl fast 12) flP A (stA S T n p) = .ok (.next, stB S T n p) := by
  intro n p h2 h5 h1 hp
  rcases (by omega : n = 2 ∨ n = 3 ∨ n = 4 ∨ n = 5) with rfl | rfl | rfl | rfl
  · rcases (by omega : p = 0 ∨ p = 1) with rfl | rfl
    · exact a20 S T
    · exact a21 S T
  · rcases (by omega : p = 0 ∨ p = 1 ∨ p = 2) with rfl | rfl | rfl
    · exact a30 S T
    · exact a31 S T
    · exact a32 S T
  · rcases (by omega : p = 0 ∨ p = 1 ∨ p = 2 ∨ p = 3) with rfl | rfl | rfl | rfl
    · exact a40 S T
    · exact a41 S T
    · exact a42 S T
    · exact a43 S T
  · rcases (by omega : p = 0 ∨ p = 1 ∨ p = 2 ∨ p = 3 ∨ p = 4) with rfl | rfl | rfl | rfl | rfl
    · exact a50 S T
    · exact a51 S T
    · exact a52 S T
    · exact a53 S T
    · exact a54 S T
theorem all_b (S T P Hf : Sl) : ∀ n p : Nat, 2 ≤ n → n ≤ 5 → 1 ≤ p → p < n → isT (exs (Fns.mix flP tl fast 12) flP B (stC S T P Hf n p)) = true := by
  intro n p h2 h5 h1 hp
  rcases (by omega : n = 2 ∨ n = 3 ∨ n = 4 ∨ n = 5) with rfl | rfl | rfl | rfl
  · obtain rfl : p = 1 := by omega
    exact b21 S T P Hf
  · rcases (by omega : p = 1 ∨ p = 2) with rfl | rfl
    · exact b31 S T P Hf
    · exact b32 S T P Hf
  · rcases (by omega : p = 1 ∨ p = 2 ∨ p = 3) with rfl | rfl | rfl
    · exact b41 S T P Hf
    · exact b42 S T P Hf
    · exact b43 S T P Hf
  · rcases (by omega : p = 1 ∨ p = 2 ∨ p = 3 ∨ p = 4) with rfl | rfl | rfl | rfl
    · exact b51 S T P Hf
    · exact b52 S T P Hf
    · exact b53 S T P Hf
    · exact b54 S T P Hf
theorem all_c : ∀ n : Nat, 2 ≤ n → n ≤ 5 → Fns.mix flP tl fast 12 k_law_star [.val (.int n)] = .ok (.val (webD (starW n)), [.val (.int n)]) := by
  intro n h2 h5
  have hn : n = 2 ∨ n = 3 ∨ n = 4 ∨ n = 5 := by omega
  rcases hn with rfl | rfl | rfl | rfl
  · exact c2
  · exact c3
  · exact c4
  · exact c5
end K54
set_option Elab.async false
set_option linter.all false
set_option maxRecDepth 100000
set_option maxHeartbeats 4000000
namespace PV
def app : Ss → Ss → Ss
  | .nil, b => b
  | .cons s r, b => .cons s (app r b)
theorem wx_app {Φ : Fns} {fl : Nat → List Bool} {b : Ss} {st' : St} {Q : Fl → St → Prop} {X : Nat → Prop} : ∀ (a : Ss) (st : St), exs Φ fl a st = .ok (.next, st') → Wx Φ fl b st' Q X → Wx Φ fl (app a b) st Q X
  | .nil, st, h, k => by
    rw [exs] at h
    cases h
    exact k
  | .cons s r, st, h, k => by
    rw [exs] at h
    refine wx_cons ?_
    cases q : ex Φ fl s st with
    | ok x =>
      obtain ⟨f, s1⟩ := x
      rw [q] at h
      cases f with
      | next => exact wx_app r s1 h k
      | ret v => cases h
    | exc c => rw [q] at h; cases h
    | no => rw [q] at h; cases h
end PV
namespace K54
open PV
theorem k54_law {Φ : Fns} (Tn : TownS (Φ k_law_town)) (Dr : DrawS (Φ k_law_draw)) (H : ∀ f as, Rle (Fns.mix flP tl fast 12 f as) (Φ f as)) : ∀ ns : List Int, ns.length ≤ 63 → ∃ os, runFn flP Φ Flaw [.val (.scr ns)] = .ok (.val (.bl true), os) := fun ns hns => by
  have fto : flP k_law_town = [false] := rfl
  have fdr : flP k_law_draw = [false, true, false] := rfl
  have fst : flP k_law_star = [false] := rfl
  refine wf_ex rfl ?_
  show Wx Φ flP (.cons (.set 1 true (.call k_law_town (.cons (.v 0) .nil))) (.cons (.set 2 true (.op .add (.cons (.c (.int 2)) (.cons (.call k_law_draw (.cons (.v 0) (.cons (.v 1) (.cons (.c (.int 4)) .nil)))) .nil)))) (.cons (.par [(3, true), (4, true)] (.cons (.call k_law_star (.cons (.v 2) .nil)) (.cons (.call k_law_draw (.cons (.v 0) (.cons (.v 1) (.cons (.v 2) .nil)))) .nil))) (app A (.cons (.par [(6, true), (7, true)] (.cons (.op .add (.cons (.c (.int 1)) (.cons (.call k_law_draw (.cons (.v 0) (.cons (.v 1) (.cons (.op .sub (.cons (.v 2) (.cons (.c (.int 1)) .nil))) .nil)))) .nil))) (.cons (.c (.int 0)) .nil))) B))))) [.val (.scr ns), .none, .none, .none, .none, .none, .none, .none, .none, .none, .none, .none, .none] _ _
  (repeat with_reducible (first | refine we_v (by with_unfolding_all rfl) ?_ | refine we_o (by with_unfolding_all rfl) ?_ | refine we_c ?_ | refine we_op2 ?_ | refine we_op1 ?_ | refine we_meth ?_ | refine we_meth2 ?_ | refine we_to ?_ | refine we_from ?_ | refine we_fromto ?_ | refine we_and ?_ | refine we_or ?_ | refine we_not ?_ | refine we_ite ?_ | refine we_chain ?_ | refine we_tup ?_ | refine we_lst ?_ | refine we_dict0 ?_ | refine wv_nil ?_ | refine wv_cons ?_ | refine wa_nil ?_ | refine wa_cons ?_ | refine wi_seq ?_ | refine wi_enum ?_ | refine wi_zip ?_ | refine wi_rng1 ?_ | refine wi_rng2 ?_ | refine wx_set ?_ | refine wx_unpack ?_ | refine wx_par ?_ | refine wp_nil' ?_ | refine wp_cons' ?_ | refine wx_ex ?_ | refine wx_ret ?_ | refine wx_ite ?_ | refine wx_setItem ?_ | refine wx_nil ?_ | refine we_app (by with_unfolding_all rfl) ?_ | refine we_ext (by with_unfolding_all rfl) ?_ | refine we_call (by assumption) ?_ | refine ⟨_, (by first | assumption | with_unfolding_all rfl), ?_⟩ | refine ⟨_, _, (by with_unfolding_all rfl), ?_⟩ | refine ⟨_, _, _, (by with_unfolding_all rfl), ?_⟩ | refine ⟨(by with_unfolding_all rfl), ?_⟩ | refine br_f (by first | assumption | with_unfolding_all rfl) ?_ | refine br_t (by first | assumption | with_unfolding_all rfl) ?_ | refine rb_f (by first | assumption | with_unfolding_all rfl) ?_ | refine rb_t (by first | assumption | with_unfolding_all rfl) ?_ | refine ⟨noOwn1 (by first | with_unfolding_all rfl | with_unfolding_all assumption), ?_⟩ | refine ⟨noOwn2 (by first | with_unfolding_all rfl | with_unfolding_all assumption) (by first | with_unfolding_all rfl | with_unfolding_all assumption), ?_⟩ | refine ⟨noOwn3 (by first | with_unfolding_all rfl | with_unfolding_all assumption) (by first | with_unfolding_all rfl | with_unfolding_all assumption) (by first | with_unfolding_all rfl | with_unfolding_all assumption), ?_⟩))
  refine wc_ok (Tn ns hns) rfl ?_
  (repeat with_reducible (first | refine we_v (by with_unfolding_all rfl) ?_ | refine we_o (by with_unfolding_all rfl) ?_ | refine we_c ?_ | refine we_op2 ?_ | refine we_op1 ?_ | refine we_meth ?_ | refine we_meth2 ?_ | refine we_to ?_ | refine we_from ?_ | refine we_fromto ?_ | refine we_and ?_ | refine we_or ?_ | refine we_not ?_ | refine we_ite ?_ | refine we_chain ?_ | refine we_tup ?_ | refine we_lst ?_ | refine we_dict0 ?_ | refine wv_nil ?_ | refine wv_cons ?_ | refine wa_nil ?_ | refine wa_cons ?_ | refine wi_seq ?_ | refine wi_enum ?_ | refine wi_zip ?_ | refine wi_rng1 ?_ | refine wi_rng2 ?_ | refine wx_set ?_ | refine wx_unpack ?_ | refine wx_par ?_ | refine wp_nil' ?_ | refine wp_cons' ?_ | refine wx_ex ?_ | refine wx_ret ?_ | refine wx_ite ?_ | refine wx_setItem ?_ | refine wx_nil ?_ | refine we_app (by with_unfolding_all rfl) ?_ | refine we_ext (by with_unfolding_all rfl) ?_ | refine we_call (by assumption) ?_ | refine ⟨_, (by first | assumption | with_unfolding_all rfl), ?_⟩ | refine ⟨_, _, (by with_unfolding_all rfl), ?_⟩ | refine ⟨_, _, _, (by with_unfolding_all rfl), ?_⟩ | refine ⟨(by with_unfolding_all rfl), ?_⟩ | refine br_f (by first | assumption | with_unfolding_all rfl) ?_ | refine br_t (by first | assumption | with_unfolding_all rfl) ?_ | refine rb_f (by first | assumption | with_unfolding_all rfl) ?_ | refine rb_t (by first | assumption | with_unfolding_all rfl) ?_ | refine ⟨noOwn1 (by first | with_unfolding_all rfl | with_unfolding_all assumption), ?_⟩ | refine ⟨noOwn2 (by first | with_unfolding_all rfl | with_unfolding_all assumption) (by first | with_unfolding_all rfl | with_unfolding_all assumption), ?_⟩ | refine ⟨noOwn3 (by first | with_unfolding_all rfl | with_unfolding_all assumption) (by first | with_unfolding_all rfl | with_unfolding_all assumption) (by first | with_unfolding_all rfl | with_unfolding_all assumption), ?_⟩))
  obtain ⟨v, T1, h1, h2, hT, e⟩ := Dr ns 0 (twn 0 ns) 4 (town_tw ns) (by omega) (by omega) (by omega)
  refine wc_ok e rfl ?_
  obtain ⟨n, hn⟩ := Int.eq_ofNat_of_zero_le (show 0 ≤ 2 + v by omega)
  have ea : Op.run2 .add (.int 2) (.int v) = some (false, .int (n : Int)) := by rw [← hn]; rfl
  (repeat with_reducible (first | refine we_v (by with_unfolding_all rfl) ?_ | refine we_o (by with_unfolding_all rfl) ?_ | refine we_c ?_ | refine we_op2 ?_ | refine we_op1 ?_ | refine we_meth ?_ | refine we_meth2 ?_ | refine we_to ?_ | refine we_from ?_ | refine we_fromto ?_ | refine we_and ?_ | refine we_or ?_ | refine we_not ?_ | refine we_ite ?_ | refine we_chain ?_ | refine we_tup ?_ | refine we_lst ?_ | refine we_dict0 ?_ | refine wv_nil ?_ | refine wv_cons ?_ | refine wa_nil ?_ | refine wa_cons ?_ | refine wi_seq ?_ | refine wi_enum ?_ | refine wi_zip ?_ | refine wi_rng1 ?_ | refine wi_rng2 ?_ | refine wx_set ?_ | refine wx_unpack ?_ | refine wx_par ?_ | refine wp_nil' ?_ | refine wp_cons' ?_ | refine wx_ex ?_ | refine wx_ret ?_ | refine wx_ite ?_ | refine wx_setItem ?_ | refine wx_nil ?_ | refine we_app (by with_unfolding_all rfl) ?_ | refine we_ext (by with_unfolding_all rfl) ?_ | refine we_call (by assumption) ?_ | refine ⟨_, (by first | assumption | exact ea | with_unfolding_all rfl), ?_⟩ | refine ⟨_, _, (by with_unfolding_all rfl), ?_⟩ | refine ⟨_, _, _, (by with_unfolding_all rfl), ?_⟩ | refine ⟨(by with_unfolding_all rfl), ?_⟩ | refine br_f (by first | assumption | with_unfolding_all rfl) ?_ | refine br_t (by first | assumption | with_unfolding_all rfl) ?_ | refine rb_f (by first | assumption | with_unfolding_all rfl) ?_ | refine rb_t (by first | assumption | with_unfolding_all rfl) ?_ | refine ⟨noOwn1 (by first | with_unfolding_all rfl | with_unfolding_all assumption), ?_⟩ | refine ⟨noOwn2 (by first | with_unfolding_all rfl | with_unfolding_all assumption) (by first | with_unfolding_all rfl | with_unfolding_all assumption), ?_⟩ | refine ⟨noOwn3 (by first | with_unfolding_all rfl | with_unfolding_all assumption) (by first | with_unfolding_all rfl | with_unfolding_all assumption) (by first | with_unfolding_all rfl | with_unfolding_all assumption), ?_⟩))
  refine wc_ok (rle_ok (H _ _) (all_c n (by omega) (by omega))) rfl ?_
  (repeat with_reducible (first | refine we_v (by with_unfolding_all rfl) ?_ | refine we_o (by with_unfolding_all rfl) ?_ | refine we_c ?_ | refine we_op2 ?_ | refine we_op1 ?_ | refine we_meth ?_ | refine we_meth2 ?_ | refine we_to ?_ | refine we_from ?_ | refine we_fromto ?_ | refine we_and ?_ | refine we_or ?_ | refine we_not ?_ | refine we_ite ?_ | refine we_chain ?_ | refine we_tup ?_ | refine we_lst ?_ | refine we_dict0 ?_ | refine wv_nil ?_ | refine wv_cons ?_ | refine wa_nil ?_ | refine wa_cons ?_ | refine wi_seq ?_ | refine wi_enum ?_ | refine wi_zip ?_ | refine wi_rng1 ?_ | refine wi_rng2 ?_ | refine wx_set ?_ | refine wx_unpack ?_ | refine wx_par ?_ | refine wp_nil' ?_ | refine wp_cons' ?_ | refine wx_ex ?_ | refine wx_ret ?_ | refine wx_ite ?_ | refine wx_setItem ?_ | refine wx_nil ?_ | refine we_app (by with_unfolding_all rfl) ?_ | refine we_ext (by with_unfolding_all rfl) ?_ | refine we_call (by assumption) ?_ | refine ⟨_, (by first | assumption | with_unfolding_all rfl), ?_⟩ | refine ⟨_, _, (by with_unfolding_all rfl), ?_⟩ | refine ⟨_, _, _, (by with_unfolding_all rfl), ?_⟩ | refine ⟨(by with_unfolding_all rfl), ?_⟩ | refine br_f (by first | assumption | with_unfolding_all rfl) ?_ | refine br_t (by first | assumption | with_unfolding_all rfl) ?_ | refine rb_f (by first | assumption | with_unfolding_all rfl) ?_ | refine rb_t (by first | assumption | with_unfolding_all rfl) ?_ | refine ⟨noOwn1 (by first | with_unfolding_all rfl | with_unfolding_all assumption), ?_⟩ | refine ⟨noOwn2 (by first | with_unfolding_all rfl | with_unfolding_all assumption) (by first | with_unfolding_all rfl | with_unfolding_all assumption), ?_⟩ | refine ⟨noOwn3 (by first | with_unfolding_all rfl | with_unfolding_all assumption) (by first | with_unfolding_all rfl | with_unfolding_all assumption) (by first | with_unfolding_all rfl | with_unfolding_all assumption), ?_⟩))
  obtain ⟨u, T2, g1, g2, hT2, e2⟩ := Dr ns _ T1 n hT (by omega) (by omega) (by omega)
  refine wc_ok e2 rfl ?_
  obtain ⟨p, hp⟩ := Int.eq_ofNat_of_zero_le g1
  subst hp
  (repeat with_reducible (first | refine we_v (by with_unfolding_all rfl) ?_ | refine we_o (by with_unfolding_all rfl) ?_ | refine we_c ?_ | refine we_op2 ?_ | refine we_op1 ?_ | refine we_meth ?_ | refine we_meth2 ?_ | refine we_to ?_ | refine we_from ?_ | refine we_fromto ?_ | refine we_and ?_ | refine we_or ?_ | refine we_not ?_ | refine we_ite ?_ | refine we_chain ?_ | refine we_tup ?_ | refine we_lst ?_ | refine we_dict0 ?_ | refine wv_nil ?_ | refine wv_cons ?_ | refine wa_nil ?_ | refine wa_cons ?_ | refine wi_seq ?_ | refine wi_enum ?_ | refine wi_zip ?_ | refine wi_rng1 ?_ | refine wi_rng2 ?_ | refine wx_set ?_ | refine wx_unpack ?_ | refine wx_par ?_ | refine wp_nil' ?_ | refine wp_cons' ?_ | refine wx_ex ?_ | refine wx_ret ?_ | refine wx_ite ?_ | refine wx_setItem ?_ | refine wx_nil ?_ | refine we_app (by with_unfolding_all rfl) ?_ | refine we_ext (by with_unfolding_all rfl) ?_ | refine we_call (by assumption) ?_ | refine ⟨_, (by first | assumption | with_unfolding_all rfl), ?_⟩ | refine ⟨_, _, (by with_unfolding_all rfl), ?_⟩ | refine ⟨_, _, _, (by with_unfolding_all rfl), ?_⟩ | refine ⟨(by with_unfolding_all rfl), ?_⟩ | refine br_f (by first | assumption | with_unfolding_all rfl) ?_ | refine br_t (by first | assumption | with_unfolding_all rfl) ?_ | refine rb_f (by first | assumption | with_unfolding_all rfl) ?_ | refine rb_t (by first | assumption | with_unfolding_all rfl) ?_ | refine ⟨noOwn1 (by first | with_unfolding_all rfl | with_unfolding_all assumption), ?_⟩ | refine ⟨noOwn2 (by first | with_unfolding_all rfl | with_unfolding_all assumption) (by first | with_unfolding_all rfl | with_unfolding_all assumption), ?_⟩ | refine ⟨noOwn3 (by first | with_unfolding_all rfl | with_unfolding_all assumption) (by first | with_unfolding_all rfl | with_unfolding_all assumption) (by first | with_unfolding_all rfl | with_unfolding_all assumption), ?_⟩))
  refine wx_app A _ (rle_ok (m_exs H A _) (all_a (.val (.scr ns)) (.own none T2) n p (by omega) (by omega) (by omega) (by omega))) ?_
  have es : Op.run2 .sub (.int (n : Int)) (.int 1) = some (false, .int ((n : Int) - 1)) := rfl
  unfold stB
  (repeat with_reducible (first | refine we_v (by with_unfolding_all rfl) ?_ | refine we_o (by with_unfolding_all rfl) ?_ | refine we_c ?_ | refine we_op2 ?_ | refine we_op1 ?_ | refine we_meth ?_ | refine we_meth2 ?_ | refine we_to ?_ | refine we_from ?_ | refine we_fromto ?_ | refine we_and ?_ | refine we_or ?_ | refine we_not ?_ | refine we_ite ?_ | refine we_chain ?_ | refine we_tup ?_ | refine we_lst ?_ | refine we_dict0 ?_ | refine wv_nil ?_ | refine wv_cons ?_ | refine wa_nil ?_ | refine wa_cons ?_ | refine wi_seq ?_ | refine wi_enum ?_ | refine wi_zip ?_ | refine wi_rng1 ?_ | refine wi_rng2 ?_ | refine wx_set ?_ | refine wx_unpack ?_ | refine wx_par ?_ | refine wp_nil' ?_ | refine wp_cons' ?_ | refine wx_ex ?_ | refine wx_ret ?_ | refine wx_ite ?_ | refine wx_setItem ?_ | refine wx_nil ?_ | refine we_app (by with_unfolding_all rfl) ?_ | refine we_ext (by with_unfolding_all rfl) ?_ | refine we_call (by assumption) ?_ | refine ⟨_, (by first | assumption | with_unfolding_all rfl), ?_⟩ | refine ⟨_, _, (by with_unfolding_all rfl), ?_⟩ | refine ⟨_, _, _, (by with_unfolding_all rfl), ?_⟩ | refine ⟨(by with_unfolding_all rfl), ?_⟩ | refine br_f (by first | assumption | with_unfolding_all rfl) ?_ | refine br_t (by first | assumption | with_unfolding_all rfl) ?_ | refine rb_f (by first | assumption | with_unfolding_all rfl) ?_ | refine rb_t (by first | assumption | with_unfolding_all rfl) ?_ | refine ⟨noOwn1 (by first | with_unfolding_all rfl | with_unfolding_all assumption), ?_⟩ | refine ⟨noOwn2 (by first | with_unfolding_all rfl | with_unfolding_all assumption) (by first | with_unfolding_all rfl | with_unfolding_all assumption), ?_⟩ | refine ⟨noOwn3 (by first | with_unfolding_all rfl | with_unfolding_all assumption) (by first | with_unfolding_all rfl | with_unfolding_all assumption) (by first | with_unfolding_all rfl | with_unfolding_all assumption), ?_⟩))
  obtain ⟨x, T3, f1, f2, hT3, e3⟩ := Dr ns _ T2 ((n : Int) - 1) hT2 (by omega) (by omega) (by omega)
  refine wc_ok e3 rfl ?_
  obtain ⟨i, hi⟩ := Int.eq_ofNat_of_zero_le (show 0 ≤ 1 + x by omega)
  have eb : Op.run2 .add (.int 1) (.int x) = some (false, .int (i : Int)) := by rw [← hi]; rfl
  (repeat with_reducible (first | refine we_v (by with_unfolding_all rfl) ?_ | refine we_o (by with_unfolding_all rfl) ?_ | refine we_c ?_ | refine we_op2 ?_ | refine we_op1 ?_ | refine we_meth ?_ | refine we_meth2 ?_ | refine we_to ?_ | refine we_from ?_ | refine we_fromto ?_ | refine we_and ?_ | refine we_or ?_ | refine we_not ?_ | refine we_ite ?_ | refine we_chain ?_ | refine we_tup ?_ | refine we_lst ?_ | refine we_dict0 ?_ | refine wv_nil ?_ | refine wv_cons ?_ | refine wa_nil ?_ | refine wa_cons ?_ | refine wi_seq ?_ | refine wi_enum ?_ | refine wi_zip ?_ | refine wi_rng1 ?_ | refine wi_rng2 ?_ | refine wx_set ?_ | refine wx_unpack ?_ | refine wx_par ?_ | refine wp_nil' ?_ | refine wp_cons' ?_ | refine wx_ex ?_ | refine wx_ret ?_ | refine wx_ite ?_ | refine wx_setItem ?_ | refine wx_nil ?_ | refine we_app (by with_unfolding_all rfl) ?_ | refine we_ext (by with_unfolding_all rfl) ?_ | refine we_call (by assumption) ?_ | refine ⟨_, (by first | assumption | exact eb | with_unfolding_all rfl), ?_⟩ | refine ⟨_, _, (by with_unfolding_all rfl), ?_⟩ | refine ⟨_, _, _, (by with_unfolding_all rfl), ?_⟩ | refine ⟨(by with_unfolding_all rfl), ?_⟩ | refine br_f (by first | assumption | with_unfolding_all rfl) ?_ | refine br_t (by first | assumption | with_unfolding_all rfl) ?_ | refine rb_f (by first | assumption | with_unfolding_all rfl) ?_ | refine rb_t (by first | assumption | with_unfolding_all rfl) ?_ | refine ⟨noOwn1 (by first | with_unfolding_all rfl | with_unfolding_all assumption), ?_⟩ | refine ⟨noOwn2 (by first | with_unfolding_all rfl | with_unfolding_all assumption) (by first | with_unfolding_all rfl | with_unfolding_all assumption), ?_⟩ | refine ⟨noOwn3 (by first | with_unfolding_all rfl | with_unfolding_all assumption) (by first | with_unfolding_all rfl | with_unfolding_all assumption) (by first | with_unfolding_all rfl | with_unfolding_all assumption), ?_⟩))
  exact wx_mix H (all_b (.val (.scr ns)) (.own none T3) (.val (.int p)) (.val (webD (putW (starW n) p p 63))) n i (by omega) (by omega) (by omega) (by omega)) fun s => rfl
end K54
set_option maxHeartbeats 0
set_option maxRecDepth 100000
set_option Elab.async false
set_option linter.all false
namespace Hd
open PySem PySem.Spec PyProof.Rows L2 PV
def body : List Stmt := PySem.Challenge.pw_signsure_k54_questions_by_hand.main.body
def fn : List He.DefD := fnsOf body
def bt : List Str := ["len", "tuple", "list", "sorted", "range", "isinstance", "all", "str", "int", "bool", "enumerate", "max", "min", "set"]
def xs : List (Str × Nat) := [("SignError", 0), ("InvalidWeb", 1), ("InvalidHalf", 2), ("InvalidPoint", 3)]
def cd : Cds := [("OPPOSITE", [([43], .str [45]), ([45], .str [43]), ([48], .str [48])])]
def xi : List (Str × List Nat) := []
def tr : List (Str × Nat) := []
def nf : Nf := ⟨bt, xs, cd, xi, tr⟩
def dfs : List Df := fn.map dfD
abbrev tab : Nat → Option Fn := tabOf nf dfs
end Hd
namespace Hd
open PV
abbrev fl : Nat → List Bool := K54.flP
theorem at_eq {k n : Nat} {F : Fn} (h : tab k = some F) : Fns.at fl tab (n + 1) k = runFn fl (Fns.at fl tab n) F := by funext as; rw [Fns.at, h]
theorem t__law_town : tab 35 = some F_law_town := by kernel_rfl
theorem s__law_town (L : Nat) : TownS (Fns.at fl tab (L + 1) 35) := by
  rw [at_eq (n := L + 0) t__law_town]
  exact fun ns h => town_ok _ _ ns h
theorem t__law_draw : tab 36 = some F_law_draw := by kernel_rfl
theorem s__law_draw (L : Nat) : DrawS (Fns.at fl tab (L + 1) 36) := by
  rw [at_eq (n := L + 0) t__law_draw]
  exact draw_s _ _
theorem t_are_rows : tab 1 = some Fare_rows := by kernel_rfl
theorem s_are_rows (L : Nat) : RowsS (Fns.at fl tab (L + 1) 1) := by
  rw [at_eq (n := L + 0) t_are_rows]
  exact rows_s _ _
theorem t_is_web : tab 2 = some (Fis_web 1) := by kernel_rfl
theorem s_is_web (L : Nat) : IsW (Fns.at fl tab (L + 2) 2) := by
  rw [at_eq (n := L + 1) t_is_web]
  exact isw_s rfl (s_are_rows (L + 0))
theorem t_check_web : tab 3 = some (Fcheck_web 2) := by kernel_rfl
theorem s_check_web (L : Nat) : ChkW (Fns.at fl tab (L + 3) 3) := by
  rw [at_eq (n := L + 2) t_check_web]
  exact chkw_s rfl (s_is_web (L + 0))
theorem t_all_orders : tab 5 = some Fall_orders := by kernel_rfl
theorem s_all_orders (L : Nat) : AllOS (Fns.at fl tab (L + 1) 5) := by
  rw [at_eq (n := L + 0) t_all_orders]
  exact allo_s _ _
theorem t_is_uneven : tab 6 = some Fis_uneven := by kernel_rfl
theorem s_is_uneven (L : Nat) : UnevS (Fns.at fl tab (L + 1) 6) := by
  rw [at_eq (n := L + 0) t_is_uneven]
  exact unev_s _ _
theorem t_found_terms : tab 7 = some (Ffound_terms 5 6) := by kernel_rfl
theorem s_found_terms (L : Nat) : FtS (Fns.at fl tab (L + 2) 7) := by
  rw [at_eq (n := L + 1) t_found_terms]
  exact ft_s rfl rfl (s_all_orders (L + 0)) (s_is_uneven (L + 0))
theorem t_found_rings : tab 14 = some Ffound_rings := by kernel_rfl
theorem s_found_rings (L : Nat) : FrxS (Fns.at fl tab (L + 1) 14) := by
  rw [at_eq (n := L + 0) t_found_rings]
  exact frx_s _ _
theorem t_found_neighbours : tab 15 = some Ffound_neighbours := by kernel_rfl
theorem s_found_neighbours (L : Nat) : NbS (Fns.at fl tab (L + 1) 15) := by
  rw [at_eq (n := L + 0) t_found_neighbours]
  exact fnb_s _ _
theorem t_is_white : tab 16 = some (Fis_white 15) := by kernel_rfl
theorem s_is_white (L : Nat) : IsWhS (Fns.at fl tab (L + 2) 16) := by
  rw [at_eq (n := L + 1) t_is_white]
  exact iswh_s rfl (s_found_neighbours (L + 0))
theorem t_found_white : tab 17 = some (Ffound_white 16) := by kernel_rfl
theorem s_found_white (L : Nat) : FwS (Fns.at fl tab (L + 3) 17) := by
  rw [at_eq (n := L + 2) t_found_white]
  exact fw_s rfl (s_is_white (L + 0))
theorem t_found_faults : tab 18 = some (Ffound_faults 14 7 17) := by kernel_rfl
theorem s_found_faults (L : Nat) : FfX (Fns.at fl tab (L + 4) 18) := by
  rw [at_eq (n := L + 3) t_found_faults]
  exact ffx_s rfl rfl rfl (s_found_rings (L + 2)) (s_found_terms (L + 1)) (s_found_white (L + 0))
theorem t_is_firm : tab 19 = some (Fis_firm 18) := by kernel_rfl
theorem s_is_firm (L : Nat) : FirmS firm (Fns.at fl tab (L + 5) 19) := by
  rw [at_eq (n := L + 4) t_is_firm]
  exact firm_s rfl (s_found_faults (L + 0))
theorem tl_eq : K54.tl.map (fun p => tab p.1) = K54.tl.map (fun p => some p.2) := by kernel_rfl
theorem tl_ok : ∀ p ∈ K54.tl, tab p.1 = some p.2 := fun p hp => List.map_inj_left.mp tl_eq p hp
theorem hf (L : Nat) : ∀ f as, Rle (K54.fast f as) (Fns.at fl tab (L + 5) f as) := fastOf_le (List.forall_mem_cons.mpr ⟨fun as => fastW_le (s_check_web (L + 2)) as, List.forall_mem_cons.mpr ⟨fun as => fastT_le (s_found_terms (L + 3)) as, List.forall_mem_cons.mpr ⟨fun as => fastW_le (s_found_rings (L + 4)) as, List.forall_mem_cons.mpr ⟨fun as => fastW_le (s_found_white (L + 2)) as, List.forall_mem_cons.mpr ⟨fun as => fastW_le (s_found_faults (L + 1)) as, List.forall_mem_cons.mpr ⟨fun as => fastW_le (s_is_firm (L + 0)) as, fun _ h => nomatch h⟩⟩⟩⟩⟩⟩)
theorem t_law : tab 39 = some K54.Flaw := by kernel_rfl
theorem pure (ns : List Int) (h : ns.length ≤ 63) : ∃ os, Fns.at fl tab 18 39 [.val (.scr ns)] = .ok (.val (.bl true), os) := by
  rw [at_eq (n := 17) t_law]
  exact K54.k54_law (s__law_town 16) (s__law_draw 16) (mix_le (L0 := 5) tl_ok hf 12) ns h
end Hd
namespace Hd
open HandSHeadRun PySem.W PySem PySem.Spec PyProof.Rows L2 PV
abbrev R : PySem.W.OpenRow := PySem.W.OpenLaw.row PySem.Challenge.rw_signsure_k54_questions_by_hand
abbrev hk : PySem.W.Hook := He.hookX 4 (faOf fn nf) fn (tsOf cd) [] (exOf nf)
def ob (s : PySem.W.SharedT) : He.AlX := He.obsX 4 (faOf fn nf) fn (tsOf cd) [] (exOf nf) (HandSHeadRun.getT s)
theorem ob_eq (s : PySem.W.SharedT) : ob s = hk.obs s.abs := He.obsX_eq (HandSHeadRun.getT_eq s)
def names : List PySem.Str := "SignError" :: "InvalidWeb" :: "InvalidHalf" :: "InvalidPoint" :: "OPPOSITE" :: "is_between" :: "are_rows" :: "is_web" :: "check_web" :: "with_sign" :: "all_orders" :: "is_uneven" :: "found_terms" :: "sign_of" :: "found_sure" :: "negative" :: "without" :: "turns" :: "answer_sign" :: "found_rings" :: "found_neighbours" :: "is_white" :: "found_white" :: "found_faults" :: "is_firm" :: "stands_firm" :: "is_half" :: "check_half" :: "check_point" :: "open_cells" :: "found_fillings" :: "fillings" :: "found_state" :: "state" :: "does_settle" :: "is_settled" :: "fewest_for" :: "fewest_questions" :: "plan_for" :: "question_plan" :: "_law_town" :: "_law_draw" :: "_law_put" :: "_law_star" :: []
theorem run (w : World) : HandSHeadRun.RunEq R (PySem.W.view R.prog [52]) hk ob 20000 names w := by
  refine byRow2 "special-get-raises" (P := fun w => HandSHeadRun.RunEq R (PySem.W.view R.prog [52]) hk ob 20000 names w) (fun w => ?_) (fun w => ?_) w
  · intro os; kernel_rfl
  · intro os; kernel_rfl
theorem bns : Bns fn := by
  refine ⟨fun kV doc pm an cdv ct us hl => ?_, ?_⟩
  · obtain ⟨a0, a1, a2, rfl⟩ := len3 (us := us) hl; kernel_rfl
  refine ⟨fun kV doc pm an cdv ct us hl => ?_, ?_⟩
  · obtain ⟨a0, a1, rfl⟩ := len2 (us := us) hl; kernel_rfl
  refine ⟨fun kV doc pm an cdv ct us hl => ?_, ?_⟩
  · obtain ⟨a0, rfl⟩ := len1 (us := us) hl; kernel_rfl
  refine ⟨fun kV doc pm an cdv ct us hl => ?_, ?_⟩
  · obtain ⟨a0, rfl⟩ := len1 (us := us) hl; kernel_rfl
  refine ⟨fun kV doc pm an cdv ct us hl => ?_, ?_⟩
  · obtain ⟨a0, a1, a2, a3, rfl⟩ := len4 (us := us) hl; kernel_rfl
  refine ⟨fun kV doc pm an cdv ct us hl => ?_, ?_⟩
  · obtain ⟨a0, rfl⟩ := len1 (us := us) hl; kernel_rfl
  refine ⟨fun kV doc pm an cdv ct us hl => ?_, ?_⟩
  · obtain ⟨a0, rfl⟩ := len1 (us := us) hl; kernel_rfl
  refine ⟨fun kV doc pm an cdv ct us hl => ?_, ?_⟩
  · obtain ⟨a0, rfl⟩ := len1 (us := us) hl; kernel_rfl
  refine ⟨fun kV doc pm an cdv ct us hl => ?_, ?_⟩
  · obtain ⟨a0, rfl⟩ := len1 (us := us) hl; kernel_rfl
  refine ⟨fun kV doc pm an cdv ct us hl => ?_, ?_⟩
  · obtain ⟨a0, rfl⟩ := len1 (us := us) hl; kernel_rfl
  refine ⟨fun kV doc pm an cdv ct us hl => ?_, ?_⟩
  · obtain ⟨a0, rfl⟩ := len1 (us := us) hl; kernel_rfl
  refine ⟨fun kV doc pm an cdv ct us hl => ?_, ?_⟩
  · obtain ⟨a0, a1, a2, rfl⟩ := len3 (us := us) hl; kernel_rfl
  refine ⟨fun kV doc pm an cdv ct us hl => ?_, ?_⟩
  · obtain ⟨a0, a1, a2, a3, rfl⟩ := len4 (us := us) hl; kernel_rfl
  refine ⟨fun kV doc pm an cdv ct us hl => ?_, ?_⟩
  · obtain ⟨a0, a1, a2, a3, rfl⟩ := len4 (us := us) hl; kernel_rfl
  refine ⟨fun kV doc pm an cdv ct us hl => ?_, ?_⟩
  · obtain ⟨a0, rfl⟩ := len1 (us := us) hl; kernel_rfl
  refine ⟨fun kV doc pm an cdv ct us hl => ?_, ?_⟩
  · obtain ⟨a0, a1, rfl⟩ := len2 (us := us) hl; kernel_rfl
  refine ⟨fun kV doc pm an cdv ct us hl => ?_, ?_⟩
  · obtain ⟨a0, a1, rfl⟩ := len2 (us := us) hl; kernel_rfl
  refine ⟨fun kV doc pm an cdv ct us hl => ?_, ?_⟩
  · obtain ⟨a0, rfl⟩ := len1 (us := us) hl; kernel_rfl
  refine ⟨fun kV doc pm an cdv ct us hl => ?_, ?_⟩
  · obtain ⟨a0, rfl⟩ := len1 (us := us) hl; kernel_rfl
  refine ⟨fun kV doc pm an cdv ct us hl => ?_, ?_⟩
  · obtain ⟨a0, rfl⟩ := len1 (us := us) hl; kernel_rfl
  refine ⟨fun kV doc pm an cdv ct us hl => ?_, ?_⟩
  · obtain ⟨a0, rfl⟩ := len1 (us := us) hl; kernel_rfl
  refine ⟨fun kV doc pm an cdv ct us hl => ?_, ?_⟩
  · obtain ⟨a0, rfl⟩ := len1 (us := us) hl; kernel_rfl
  refine ⟨fun kV doc pm an cdv ct us hl => ?_, ?_⟩
  · obtain ⟨a0, rfl⟩ := len1 (us := us) hl; kernel_rfl
  refine ⟨fun kV doc pm an cdv ct us hl => ?_, ?_⟩
  · obtain ⟨a0, a1, rfl⟩ := len2 (us := us) hl; kernel_rfl
  refine ⟨fun kV doc pm an cdv ct us hl => ?_, ?_⟩
  · obtain ⟨a0, rfl⟩ := len1 (us := us) hl; kernel_rfl
  refine ⟨fun kV doc pm an cdv ct us hl => ?_, ?_⟩
  · obtain ⟨a0, rfl⟩ := len1 (us := us) hl; kernel_rfl
  refine ⟨fun kV doc pm an cdv ct us hl => ?_, ?_⟩
  · obtain ⟨a0, rfl⟩ := len1 (us := us) hl; kernel_rfl
  refine ⟨fun kV doc pm an cdv ct us hl => ?_, ?_⟩
  · obtain ⟨a0, a1, rfl⟩ := len2 (us := us) hl; kernel_rfl
  refine ⟨fun kV doc pm an cdv ct us hl => ?_, ?_⟩
  · obtain ⟨a0, a1, rfl⟩ := len2 (us := us) hl; kernel_rfl
  refine ⟨fun kV doc pm an cdv ct us hl => ?_, ?_⟩
  · obtain ⟨a0, a1, rfl⟩ := len2 (us := us) hl; kernel_rfl
  refine ⟨fun kV doc pm an cdv ct us hl => ?_, ?_⟩
  · obtain ⟨a0, a1, rfl⟩ := len2 (us := us) hl; kernel_rfl
  refine ⟨fun kV doc pm an cdv ct us hl => ?_, ?_⟩
  · obtain ⟨a0, a1, a2, rfl⟩ := len3 (us := us) hl; kernel_rfl
  refine ⟨fun kV doc pm an cdv ct us hl => ?_, ?_⟩
  · obtain ⟨a0, a1, rfl⟩ := len2 (us := us) hl; kernel_rfl
  refine ⟨fun kV doc pm an cdv ct us hl => ?_, ?_⟩
  · obtain ⟨a0, a1, a2, rfl⟩ := len3 (us := us) hl; kernel_rfl
  refine ⟨fun kV doc pm an cdv ct us hl => ?_, ?_⟩
  · obtain ⟨a0, a1, rfl⟩ := len2 (us := us) hl; kernel_rfl
  refine ⟨fun kV doc pm an cdv ct us hl => ?_, ?_⟩
  · obtain ⟨a0, rfl⟩ := len1 (us := us) hl; kernel_rfl
  refine ⟨fun kV doc pm an cdv ct us hl => ?_, ?_⟩
  · obtain ⟨a0, a1, a2, rfl⟩ := len3 (us := us) hl; kernel_rfl
  refine ⟨fun kV doc pm an cdv ct us hl => ?_, ?_⟩
  · obtain ⟨a0, a1, a2, a3, rfl⟩ := len4 (us := us) hl; kernel_rfl
  refine ⟨fun kV doc pm an cdv ct us hl => ?_, ?_⟩
  · obtain ⟨a0, rfl⟩ := len1 (us := us) hl; kernel_rfl
  refine ⟨fun kV doc pm an cdv ct us hl => ?_, ?_⟩
  · obtain ⟨a0, rfl⟩ := len1 (us := us) hl; kernel_rfl
  trivial
theorem xsd : ∀ p ∈ xs, ∀ q ∈ xs, p.2 = q.2 → p = q := by decide +kernel
theorem facts {P : Program} {w : World} {K : PySem.W.Frag} {h : Heap} {mg : Str → Option Value} {f : Addr} (X : K.In h) (G : h.Ns mainGlobals mg) (hfa : mg ("law" : Str) = some (.ref f)) (c : He.SaysX (faOf fn nf) fn (tsOf cd) [] (exOf nf) w h K) :
    ∃ fd : FuncData, (∀ (s : Shared) (v : Value), BindsTo s fd ⟨[v], []⟩ [("script", v)]) ∧ ∀ base : Heap, K.In base → base.Ns mainGlobals mg → FnOk P w K mg base L2.CX0 18 f fd ["script"] (spLaw K) := by
  obtain ⟨d, hd, hn, hp⟩ : ∃ d, fn[39]? = some d ∧ d.name = ("law" : Str) ∧ (dfD d).ps = [("script" : Str)] := ⟨_, rfl, by kernel_rfl, by kernel_rfl⟩
  obtain ⟨a, fd, e1, F, hb⟩ := law_fn X G rfl c bns.mem hd hp
  rw [hn] at e1
  have e := hfa.symm.trans e1
  cases e
  have wd := wd_of X G rfl c bns.mem xsd
  refine ⟨fd, hb, fun base _ _ => ?_⟩
  have hk : dfs[39]? = some (dfD d) := by
    show (fn.map dfD)[39]? = _
    rw [List.getElem?_map, hd]; rfl
  have ok := FnOk.calm0 (fn_ok (P := P) (base := base) (fl := fl) wd 18 39 (dfD d) f fd d.params hk F)
  rw [hp] at ok
  refine L2.FnOk.imp ok fun vs H Q E hs => ?_
  obtain ⟨a', ns, rfl, hl, hS, hQ⟩ := hs
  obtain ⟨os, hr⟩ := pure ns hl
  exact law_says hS hr hQ
end Hd
open PySem PySem.W PySem.Calls PyProof.Rows in
theorem PySem.Challenge.cw_signsure_k54_questions_by_hand_holds : PySem.Challenge.rw_signsure_k54_questions_by_hand.Holds := by
  w_on; o_law
  refine HandSHeadRun.head_any (r := OpenLaw.row PySem.Challenge.rw_signsure_k54_questions_by_hand) (q := view (OpenLaw.row PySem.Challenge.rw_signsure_k54_questions_by_hand).prog [52]) (H := Hd.hk) (ob := Hd.ob) (M := 20000) (loose := Hd.names) (d := HandSHeadRun.topDef (OpenLaw.row PySem.Challenge.rw_signsure_k54_questions_by_hand).prog 52) (kwd := []) Hd.ob_eq
    (by kernel_rfl) (fun s => by kernel_rfl) Hd.run (by kernel_rfl) (by kernel_rfl) (by kernel_rfl) (by rfl) (by first | assumption | decide +kernel) (by decide +kernel) ⟨rfl, rfl, rfl, rfl, rfl, by decide +kernel⟩ ?hw ?hc
  case hw => w_witness2
  case hc =>
    refine L2.walk_ofE (l := PySem.Challenge.rw_signsure_k54_questions_by_hand) (n := 63) (k := 18) (x := "script") (CX := L2.CX0) rfl (by decide) (by kernel_rfl) ⟨rfl, by decide, by decide⟩ ?F (fun _ _ _ _ z => z)
    intro w mg fa h Y G hmg0
    obtain ⟨K, KX, c⟩ := Y
    have hmg : mg ("law" : PySem.Str) = some (.ref fa) := by
      have e : (HandSHeadRun.topDef (OpenLaw.row PySem.Challenge.rw_signsure_k54_questions_by_hand).prog 52).name = ("law" : PySem.Str) := by kernel_rfl
      rw [← e]
      exact hmg0
    obtain ⟨fd, hb, hF⟩ := Hd.facts (P := (PySem.Challenge.rw_signsure_k54_questions_by_hand).prog) (w := w) KX G hmg c
    exact ⟨K, fd, PV.spLaw K, KX, hb, fun H a ns hl _ hS => ⟨a, ns, rfl, hl, hS, fun _ => rfl⟩, hF⟩
