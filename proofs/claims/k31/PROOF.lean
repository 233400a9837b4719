import PyProof.Rows.All
import Wide.All
import OpenK.AllK
import Wide.FinOn
import HandS.ForMost
import HandS.Conv
import HandS.Deep
import HandS.TupAny
import PyProof.SeqIndex
import HandS.Wide
import HandS.TupLe
import HandS.IsInst
import HandS.Iter
import KE.KxField
import HandS.FStr
import KE.SortData
import KE.DataMinMax
import HandS.More
import HandS.Style
import KE.KRevSl
import HandS.DictComp
import PySem.Challenge.RW_routesrest_k31_orders_and_wheels_bent
set_option Elab.async false
set_option linter.all false
set_option maxRecDepth 100000
set_option maxHeartbeats 1000000
/-! The layer Pd, part Z: new tuples, known to the object or not; the index of a tuple. -/
namespace Pd
open PySem PySem.Spec PyProof.Rows L2
/-- a new tuple: a plain one, or one whose object stays known -/
def TupQ (H : Hp) (xs : List V) (Q : VK) : Prop := (∀ p, H p = none → Q (.ref p) (upd H p (.tup xs))) ∨ (∀ p o, H p = none → o.cls = .type "tuple" → o.dict = none → Q (.ref p) (upd H p (.frz o (.tup xs))))
section
variable {X : Cx} {pos : Pos}
theorem TupQ.run {pins : List (Addr × Obj)} {σ : L2.St} {H : Hp} {s : Shared} {xs : List V} {its : List Value} {Q : VK} (I : Inv X pins σ H s) (hz : xs.length ≤ sizeLine) (r : Vals xs its) (h : TupQ H xs Q) :
    EP X pins σ Q (.ref s.heap.objs.size) { s with heap := s.heap.push { cls := .type "tuple", data := .seq its.toArray } } := by
  rcases h with h | h
  · exact ⟨.ref _, _, I.laid (t' := s.toks) (o := .tup xs) (fun b u e => Heap.get?_push_of_some _ e) (Nat.le_refl _) ⟨hz, its, r, IsTup.new _ _⟩, rfl, h _ (I.hok.fresh (Nat.le_refl _))⟩
  · exact ⟨.ref _, _, I.laid (t' := s.toks) (o := .frz { cls := .type "tuple", data := .seq its.toArray } (.tup xs)) (fun b u e => Heap.get?_push_of_some _ e) (Nat.le_refl _) ⟨Heap.get?_push_size _ rfl, hz, its, r, IsTup.new _ _⟩, rfl, h _ _ (I.hok.fresh (Nat.le_refl _)) rfl rfl⟩
/-- (a, b, ..) -/
def tTupQ (t : TA) : TE := fun σ H Q => t σ H fun xs H1 => xs.length ≤ sizeLine ∧ TupQ H1 xs Q
theorem pe_tupQ {es : List Expr} {t : TA} {x1} (h : PA X es t) : PE X (.Tuple es x1 pos) (tTupQ t) := by
  refine ⟨fun pins s σ H Q I hq => ?_⟩
  refine wpAny_Tuple_spliced (thn (h.run pos pins s σ H _ I hq) fun us s1 ⟨xs, H1, I1, r, z, q⟩ => ⟨by rw [← r.length]; exact z, ?_⟩)
  exact q.run I1 z r
/-- t + u -/
def rCatQ (K : PySem.W.Frag) : R2 := fun x y H Q => ∃ a b xs ys, x = .ref a ∧ y = .ref b ∧ SqT K H a xs ∧ SqT K H b ys ∧ xs.length + ys.length ≤ sizeLine ∧
  (xs = [] → Q (.ref b) H) ∧ (xs ≠ [] → ys = [] → Q (.ref a) H) ∧ (xs ≠ [] → ys ≠ [] → TupQ H (xs ++ ys) Q)
theorem op_catQ : OpR X (binaryOp .Add) (rCatQ X.K) := by
  intro pins s σ H x y v u Q I rx ry h
  obtain ⟨a, b, xs, ys, rfl, rfl, ha, hb, hz, q0, q1, q2⟩ := h
  by_cases hx : xs = []
  · subst hx
    cases rx
    cases ry
    obtain ⟨its, r1, p1, _⟩ := I.tuple ha
    obtain ⟨its2, r2, p2, _⟩ := I.tuple hb
    cases r1
    exact cat_tup0 p1 p2 ⟨.ref b, H, I, rfl, q0 rfl⟩
  · cases rx
    cases ry
    obtain ⟨its, r1, p1, _⟩ := I.tuple ha
    obtain ⟨its2, r2, p2, _⟩ := I.tuple hb
    refine HT.cat_tup p1 p2 (fun z => hx (r1.nil_iff.mp z)) (fun z => ⟨.ref a, H, I, rfl, q1 hx (r2.nil_iff.mp z)⟩) (fun z => ?_) (by rw [← r1.length, ← r2.length]; exact hz)
    exact (q2 hx (fun w => z (r2.nil_iff.mpr w))).run I (by rw [List.length_append]; exact hz) (r1.append r2)
/-- t[lo:hi] -/
def rSlQ (K : PySem.W.Frag) : V → Option Int → Option Int → Hp → VK → Prop := fun x lo hi H Q => ∃ a xs, x = .ref a ∧ SqT K H a xs ∧
  (HT.sIx xs.length 0 lo = 0 ∧ HT.sIx xs.length xs.length hi = xs.length → Q (.ref a) H) ∧ (¬ (HT.sIx xs.length 0 lo = 0 ∧ HT.sIx xs.length xs.length hi = xs.length) → TupQ H (cutV xs lo hi) Q)
theorem sl_tupQ : SlR X (rSlQ X.K) := by
  intro pins s σ H x v vl vu lo hi sl Q I rx hs pl pu h
  obtain ⟨a, xs, rfl, hx, q1, q2⟩ := h
  cases rx
  obtain ⟨its, r, ht, hz⟩ := I.tuple hx
  have hlen : its.toArray.size = xs.length := by rw [List.size_toArray]; exact r.length.symm
  refine ⟨"tuple", _, PyProof.Rows.slot_tuple_getitem.lookup, ht.typeIs, ?_⟩
  by_cases hw : HT.sIx xs.length 0 lo = 0 ∧ HT.sIx xs.length xs.length hi = xs.length
  · exact getItem_tuple_whole ht hs pl pu (by rw [hlen]; exact hw) ⟨.ref a, H, I, rfl, q1 hw⟩
  · refine HT.getItem_tuple_cut ht hs pl pu (by rw [hlen]; exact hw) ?_ (by rw [hlen]; exact hz)
    rw [hlen]
    exact (q2 hw).run I (Nat.le_trans (cutV_length xs lo hi) hz) ((r.drop (HT.sIx xs.length 0 lo)).take (HT.sIx xs.length xs.length hi - HT.sIx xs.length 0 lo))
/-- tuple(x) -/
theorem call_tupleQ : CallR X (.type "tuple") (fun xs H Q => ∃ p ys, xs = [.ref p] ∧ ((SqL X.K H p ys ∧ TupQ H ys Q) ∨ (SqT X.K H p ys ∧ Q (.ref p) H))) := by
  intro pins s σ H xs us Q I r h
  obtain ⟨p, ys, rfl, h⟩ := h
  obtain ⟨u, rfl, rx⟩ := vals1 r
  cases rx
  rcases h with ⟨hq, q⟩ | ⟨hq, q⟩
  · obtain ⟨its, r', pl, hz⟩ := I.list hq
    have hlen := r'.length
    refine call_tuple_list pl.isList (fun h' kp => ?_) (by simp only [List.size_toArray] <;> omega)
    have I1 : Inv X pins σ H { s with heap := h' } := I.kept (t' := s.toks) kp
    exact q.run I1 hz r'
  · obtain ⟨its, r', pl, hz⟩ := I.tuple hq
    exact call_tuple_same pl ⟨.ref p, H, I, rfl, q⟩
/-! ### l.index(x), t.index(x): the first place of an equal one -/
def rIndexT (K : PySem.W.Frag) : V → List V → Hp → VK → Prop := fun x xs H Q => ∃ (a : Addr) (y : V) (d : PyData) (ds : List PyData) (j : Nat) (z : PyData), x = V.ref a ∧ xs = [y] ∧ Dp K H (V.ref a) (.tuple ds) ∧ Dp K H y d ∧
  SeqAt.shaped (.tuple ds) = true ∧ SeqAt.shaped d = true ∧ ds[j]? = some z ∧ PyData.eqv z d = true ∧ (∀ (m : Nat) (z' : PyData), m < j → ds[m]? = some z' → PyData.eqv z' d = false) ∧ Q (.int (j : Nat)) H
theorem mt_indexT (hu : X.A.units + 65 < cLine) : MtR X "tuple.index" (rIndexT X.K) := by
  intro pins s σ H x xs v us Q I rx rxs h
  obtain ⟨a, y, d, ds, j, z, rfl, rfl, hl, hy, sl, sd, hz, hzj, hno, q⟩ := h
  cases rx
  cases rxs with
  | cons ry rt =>
    rename_i uy ut
    cases rt
    obtain ⟨bs, r1⟩ := Dp.reads I d y uy hy ry
    have hxs : PyData.canLayAll0 ds = true := SeqAt.canLay_of_shaped sl
    have hroom : X.A.units + 1 + min (PyData.depthAll ds) d.depth < cLine := room_in_shaped sd hu
    cases hl with
    | tup hs ha =>
      obtain ⟨its, rv, ⟨⟨cls, dd, data, sls⟩, ho, hc, n, hdt⟩, hlen⟩ := I.tuple hs
      simp only at hc hdt
      subst hc hdt
      obtain ⟨as, h4⟩ := Dp.readsAll I ds _ its ha rv
      have hn : its.length = ds.length := SeqAt.ReadsAll.length ds its as h4
      have hmap : its.map (SeqAt.readOf s.heap) = ds := SeqAt.readsAll_map ds its as hxs h4
      have hvl := rv.length
      have hsl := sizeLine_eq
      obtain ⟨hjd, _⟩ := List.getElem?_eq_some_iff.mp hz
      have hjl : j < its.length := by omega
      have hj : j < its.toArray.size := by simpa using hjl
      have at_ : ∀ (m : Nat) (hm : m < its.toArray.size) (z' : PyData), ds[m]? = some z' → SeqAt.readOf s.heap its.toArray[m] = z' := by
        intro m hm z' hz'
        have hml : m < its.length := by simpa using hm
        rw [← hmap, List.getElem?_map, List.getElem?_eq_getElem hml] at hz'
        have e1 : SeqAt.readOf s.heap its[m] = z' := Option.some.inj (show some (SeqAt.readOf s.heap its[m]) = some z' from hz')
        simpa using e1
      have heq := SeqAt.items_eqAt (A := X.A) (vs := its.toArray) (show ReadsAll s.heap its.toArray.toList ds as from h4) r1 hxs (SeqAt.canLay_of_shaped sd) hroom
      refine call_meets PySem.F.slot_tuple_index ⟨_, ho, rfl⟩ PySem.F.entry_tuple_index (PySem.F.args_tuple_index_2 _ _)
        (SeqAt.tuple_index2_found a its.toArray n dd sls uy (fun m => match its.toArray[m]? with | some u => PyData.eqv (SeqAt.readOf s.heap u) d | none => false) j hj (Nat.zero_le _) hj ?_ ?_) ⟨ho, fun m hm => ?_, ?_⟩
      · simp only [Array.getElem?_eq_getElem hj]
        rw [at_ j hj z hz]
        exact hzj
      · intro m hm _ hmj
        have hmd : m < ds.length := by omega
        have hz' : ds[m]? = some ds[m] := List.getElem?_eq_getElem hmd
        simp only [Array.getElem?_eq_getElem hm]
        rw [at_ m hm _ hz']
        exact hno m _ hmj hz'
      · simp only [Array.getElem?_eq_getElem hm]
        exact heq _ (Array.getElem_mem hm)
      · exact ⟨.int (j : Nat), H, I.tok _, ⟨_, rfl⟩, q⟩
def tIdx (K : PySem.W.Frag) (to : TE) (t : TA) : TE := fun σ H Q => to σ H fun x H1 => ∃ a xs, x = .ref a ∧
  ((SqL K H1 a xs ∧ t σ H1 fun ys H2 => rIndexD K x ys H2 Q) ∨ (∃ o, H1 a = some (.frz o (.tup xs)) ∧ o.cls = .type "tuple" ∧ o.dict = none ∧ t σ H1 fun ys H2 => rIndexT K x ys H2 Q))
theorem pe_idx {o e : Expr} {to : TE} {t : TA} {apos cpos : Pos} (hu : X.A.units + 65 < cLine) (ho : PE X o to) (ha : PA X [e] t)
    (hbase : attributeBase o "index" X.env (eval o X.env) = eval o X.env := by rfl)
    (hfew : ((backTo cpos (starEach [e] X.env)).all (fun x => !x.1) && (backToKw cpos (keywordEach [] X.env)).all (fun x => x.1.isSome) && decide ([e].length + ([] : List Keyword).length + (if ([] : List Keyword).isEmpty then 0 else 1) < 30)) = true := by rfl)
    (hline : (apos.endLine == cpos.line) = true := by rfl) (hs : starEach [e] X.env = (false, eval e X.env) :: starEach [] X.env := by rfl) (hplain : (backTo cpos (starEach [] X.env)).any (·.1) = false := by rfl) :
    PE X (.Call (.Attribute o "index" apos) [e] [] cpos) (tIdx X.K to t) := by
  refine ⟨fun pins s σ H Q I h => ?_⟩
  refine wpAny_Call_method_late hbase hfew hline rfl (thn (ho.run pins s σ H _ I h) fun v s1 ⟨x, H1, I1, r1, a, xs, ex, hx⟩ => ?_)
  subst ex
  cases r1
  rcases hx with ⟨hx, q1⟩ | ⟨ob, hx, hc, hd, q1⟩
  · obtain ⟨h1, h2⟩ := tyV_is (T := "list") I1 (x := .ref a) rfl (.inl ⟨rfl, xs, hx⟩)
    refine ⟨"list", "list.index", PySem.F.plainAttrs_list, PySem.F.slot_list_index, PySem.F.type_list_index, h1, h2, ?_⟩
    have hA := ha.run cpos pins s1 σ H1 _ I1 q1
    rw [hs] at hA ⊢
    refine Calls.callWith_builtin (by show (false || (backTo cpos (starEach [] X.env)).any (·.1)) = false; rw [hplain] <;> rfl) (Calls.evalArgs_plain ?_)
    exact thn hA fun us s2 ⟨vs, H2, I2, r2, q2⟩ => mt_indexD hu pins s2 σ H2 (.ref a) vs _ us Q I2 rfl r2 q2
  · have hob := (I1.hok a _ hx).1
    refine ⟨"tuple", "tuple.index", PySem.F.plainAttrs_tuple, PySem.F.slot_tuple_index, PySem.F.type_tuple_index, ⟨ob, hob, hc⟩, fun b eb => by cases eb; exact ⟨ob, hob, hd⟩, ?_⟩
    have hA := ha.run cpos pins s1 σ H1 _ I1 q1
    rw [hs] at hA ⊢
    refine Calls.callWith_builtin (by show (false || (backTo cpos (starEach [] X.env)).any (·.1)) = false; rw [hplain] <;> rfl) (Calls.evalArgs_plain ?_)
    exact thn hA fun us s2 ⟨vs, H2, I2, r2, q2⟩ => mt_indexT hu pins s2 σ H2 (.ref a) vs _ us Q I2 rfl r2 q2
end
end Pd

set_option Elab.async false
set_option linter.all false
set_option maxRecDepth 100000
set_option maxHeartbeats 1000000

/-! The layer Pd, part A: data, the store, the relation. -/
namespace Pd
open PySem PySem.Spec PyProof.Rows L2

def keyD : Key → PyData
  | .inl i => .int i
  | .inr x => .str x

/-- a tuple of ints and texts may be a key of a dict: it stays plain; of any other one the object is known -/
def keyAtom : PyData → Bool
  | .int _ => true
  | .str _ => true
  | _ => false
def keyAll (ds : List PyData) : Bool := ds.all keyAtom
def TupAt (F : Hp) (a : Addr) (xs : List V) (ds : List PyData) : Prop := (keyAll ds = true ∧ F a = some (.tup xs)) ∨ (keyAll ds = false ∧ ∃ o, F a = some (.frz o (.tup xs)) ∧ o.cls = .type "tuple" ∧ o.dict = none)
theorem TupAt.rd {F : Hp} {a : Addr} {xs : List V} {ds : List PyData} (h : TupAt F a xs ds) : Rd F a (.tup xs) := by
  rcases h with ⟨_, h⟩ | ⟨_, o, h, _⟩
  · exact .inl h
  · exact .inr ⟨o, h⟩
theorem TupAt.sqT {K : PySem.W.Frag} {F : Hp} {a : Addr} {xs : List V} {ds : List PyData} (h : TupAt F a xs ds) : SqT K F a xs := .inl h.rd
theorem TupAt.key {F : Hp} {a : Addr} {xs : List V} {ds : List PyData} (h : TupAt F a xs ds) (k : keyAll ds = true) : F a = some (.tup xs) := by
  rcases h with ⟨_, h⟩ | ⟨n, _⟩
  · exact h
  · rw [k] at n; cases n
theorem TupAt.known {F : Hp} {a : Addr} {xs : List V} {ds : List PyData} (h : TupAt F a xs ds) (k : keyAll ds = false) : ∃ o, F a = some (.frz o (.tup xs)) ∧ o.cls = .type "tuple" ∧ o.dict = none := by
  rcases h with ⟨n, _⟩ | ⟨_, h⟩
  · rw [k] at n; cases n
  · exact h
theorem keyAll_keys (k : List Key) : keyAll (k.map keyD) = true := by
  simp only [keyAll, List.all_map, List.all_eq_true]
  intro x _
  cases x <;> rfl
mutual
/-- the frozen heap F holds the data d at v -/
inductive Fz (K : PySem.W.Frag) (F : Hp) : V → PyData → Prop
  | non : Fz K F .non .none
  | bl (b : Bool) : Fz K F (.bl b) (.bool b)
  | int (i : Int) : Fz K F (.int i) (.int i)
  | str (x : Str) : Fz K F (.str x) (.str x)
  | lst {a : Addr} {xs : List V} {ds : List PyData} : SqL K F a xs → FzA K F xs ds → Fz K F (.ref a) (.list ds)
  | tup {a : Addr} {xs : List V} {ds : List PyData} : TupAt F a xs ds → FzA K F xs ds → Fz K F (.ref a) (.tuple ds)
  | dK {a : Addr} {ks : List Key} {xs : List V} {ds : List PyData} : Rd F a (.dK (ks.zip xs)) → ks.length = xs.length → FzA K F xs ds → Fz K F (.ref a) (.dict ((ks.map keyD).zip ds))
  | dT {a : Addr} {ks : List (List Key)} {xs : List V} {ds : List PyData} : F a = some (.dT (ks.zip xs)) → ks.length = xs.length → ks ≠ [] → FzA K F xs ds → Fz K F (.ref a) (.dict ((ks.map fun k => .tuple (k.map keyD)).zip ds))
inductive FzA (K : PySem.W.Frag) (F : Hp) : List V → List PyData → Prop
  | nil : FzA K F [] []
  | cons {v : V} {vs : List V} {d : PyData} {ds : List PyData} : Fz K F v d → FzA K F vs ds → FzA K F (v :: vs) (d :: ds)
end

theorem FzA.length {K : PySem.W.Frag} {F : Hp} : ∀ {vs : List V} {ds : List PyData}, FzA K F vs ds → vs.length = ds.length
  | _, _, .nil => rfl
  | _, _, .cons _ t => congrArg (· + 1) (FzA.length t)
theorem FzA.append {K : PySem.W.Frag} {F : Hp} : ∀ {vs ws : List V} {ds es : List PyData}, FzA K F vs ds → FzA K F ws es → FzA K F (vs ++ ws) (ds ++ es)
  | _, _, _, _, .nil, h => h
  | _, _, _, _, .cons a t, h => .cons a (FzA.append t h)
theorem FzA.get {K : PySem.W.Frag} {F : Hp} : ∀ {vs : List V} {ds : List PyData} {i : Nat} {v : V}, FzA K F vs ds → vs[i]? = some v → ∃ d, ds[i]? = some d ∧ Fz K F v d
  | _, _, i, _, .nil, e => by simp at e
  | _, _, 0, _, .cons a _, e => by simp at e; subst e; exact ⟨_, rfl, a⟩
  | _, _, i + 1, _, .cons _ t, e => by
    obtain ⟨d, h1, h2⟩ := FzA.get (i := i) t (by simpa using e)
    exact ⟨d, by simpa using h1, h2⟩
theorem FzA.getD {K : PySem.W.Frag} {F : Hp} : ∀ {vs : List V} {ds : List PyData} {i : Nat} {d : PyData}, FzA K F vs ds → ds[i]? = some d → ∃ v, vs[i]? = some v ∧ Fz K F v d
  | _, _, i, _, .nil, e => by simp at e
  | _, _, 0, _, .cons a _, e => by simp at e; subst e; exact ⟨_, rfl, a⟩
  | _, _, i + 1, _, .cons _ t, e => by
    obtain ⟨d, h1, h2⟩ := FzA.getD (i := i) t (by simpa using e)
    exact ⟨d, by simpa using h1, h2⟩
theorem FzA.take {K : PySem.W.Frag} {F : Hp} : ∀ {vs : List V} {ds : List PyData} (n : Nat), FzA K F vs ds → FzA K F (vs.take n) (ds.take n)
  | _, _, 0, _ => .nil
  | _, _, _ + 1, .nil => .nil
  | _, _, n + 1, .cons a t => .cons a (FzA.take n t)
theorem FzA.drop {K : PySem.W.Frag} {F : Hp} : ∀ {vs : List V} {ds : List PyData} (n : Nat), FzA K F vs ds → FzA K F (vs.drop n) (ds.drop n)
  | _, _, 0, h => h
  | _, _, _ + 1, .nil => .nil
  | _, _, n + 1, .cons _ t => FzA.drop n t

/-- F is a part of the heap (a dict may be locked) -/
def IsDct : HO → Bool
  | .dK _ => true
  | _ => false
def Sub (F H : Hp) : Prop := ∀ a u, F a = some u → H a = some u ∨ (IsDct u = true ∧ ∃ o, H a = some (.frz o u))
/-- .. it grows; a dict may get locked, for good -/
def Le (F G : Hp) : Prop := ∀ a u, F a = some u → G a = some u ∨ (IsDct u = true ∧ ∃ o, G a = some (.frz o u))
theorem Le.refl (F : Hp) : Le F F := fun _ _ h => .inl h
theorem Le.trans {F G J : Hp} (a : Le F G) (b : Le G J) : Le F J := fun x u h => by
  rcases a x u h with e | ⟨n, o, e⟩
  · exact b x u e
  · rcases b x _ e with e | ⟨n', _⟩
    · exact .inr ⟨n, o, e⟩
    · cases n'
theorem Le.frz {F G : Hp} (s : Le F G) {a : Addr} {o : Obj} {u : HO} (h : F a = some (.frz o u)) : G a = some (.frz o u) := by
  rcases s a _ h with e | ⟨n, _⟩
  · exact e
  · cases n
theorem Le.tup {F G : Hp} (s : Le F G) {a : Addr} {xs : List V} {ds : List PyData} (h : TupAt F a xs ds) : TupAt G a xs ds := by
  rcases h with ⟨k, h⟩ | ⟨k, o, h, c, d⟩
  · rcases s a _ h with e | ⟨n, _⟩
    · exact .inl ⟨k, e⟩
    · cases n
  · exact .inr ⟨k, o, s.frz h, c, d⟩
theorem Sub.rd {F H : Hp} (s : Sub F H) {a : Addr} {u : HO} (hu : ∀ o x, u ≠ .frz o x) (h : Rd F a u) : Rd H a u := by
  rcases h with h | ⟨o, h⟩
  · rcases s a u h with e | ⟨_, o, e⟩
    · exact .inl e
    · exact .inr ⟨o, e⟩
  · rcases s a _ h with e | ⟨n, _⟩
    · exact .inr ⟨o, e⟩
    · cases n
theorem Sub.sqL {K : PySem.W.Frag} {F H : Hp} (s : Sub F H) {a : Addr} {xs : List V} (h : SqL K F a xs) : SqL K H a xs := by
  rcases h with h | h
  · exact .inl (s.rd (fun _ _ z => by cases z) h)
  · exact .inr h
theorem Sub.tup {F H : Hp} (s : Sub F H) {a : Addr} {xs : List V} {ds : List PyData} (h : TupAt F a xs ds) : TupAt H a xs ds := by
  rcases h with ⟨k, h⟩ | ⟨k, o, h, c, d⟩
  · rcases s a _ h with e | ⟨n, _⟩
    · exact .inl ⟨k, e⟩
    · cases n
  · rcases s a _ h with e | ⟨n, _⟩
    · exact .inr ⟨k, o, e, c, d⟩
    · cases n
theorem Le.dt {F G : Hp} (s : Le F G) {a : Addr} {xs : List (List Key × V)} (h : F a = some (.dT xs)) : G a = some (.dT xs) := by
  rcases s a _ h with e | ⟨n, _⟩
  · exact e
  · cases n
theorem Le.rd {F H : Hp} (s : Le F H) {a : Addr} {u : HO} (h : Rd F a u) : Rd H a u := by
  rcases h with h | ⟨o, h⟩
  · rcases s _ _ h with e | ⟨_, o, e⟩
    · exact .inl e
    · exact .inr ⟨o, e⟩
  · exact .inr ⟨o, s.frz h⟩
theorem Le.sqL {K : PySem.W.Frag} {F H : Hp} (s : Le F H) {a : Addr} {xs : List V} (h : SqL K F a xs) : SqL K H a xs := by
  rcases h with h | h
  · exact .inl (s.rd h)
  · exact .inr h
mutual
theorem Fz.mono {K : PySem.W.Frag} {F G : Hp} (l : Le F G) : ∀ {v : V} {d : PyData}, Fz K F v d → Fz K G v d
  | _, _, .non => .non
  | _, _, .bl b => .bl b
  | _, _, .int i => .int i
  | _, _, .str x => .str x
  | _, _, .lst h t => .lst (l.sqL h) (FzA.mono l t)
  | _, _, .tup h t => .tup (l.tup h) (FzA.mono l t)
  | _, _, .dK h e t => .dK (l.rd h) e (FzA.mono l t)
  | _, _, .dT h e n t => .dT (l.dt h) e n (FzA.mono l t)
theorem FzA.mono {K : PySem.W.Frag} {F G : Hp} (l : Le F G) : ∀ {v : List V} {d : List PyData}, FzA K F v d → FzA K G v d
  | _, _, .nil => .nil
  | _, _, .cons a t => .cons (Fz.mono l a) (FzA.mono l t)
end
mutual
theorem Fz.dp {K : PySem.W.Frag} {F H : Hp} (s : Sub F H) : ∀ {v : V} {d : PyData}, Fz K F v d → d.canLay0 = true → Dp K H v d
  | _, _, .non, _ => .non
  | _, _, .bl b, _ => .bl b
  | _, _, .int i, _ => .int i
  | _, _, .str x, _ => .str x
  | _, _, .lst h t, e => .lst (s.sqL h) (FzA.dp s t (by simpa [PyData.canLay0] using e))
  | _, _, .tup h t, e => .tup (s.tup h).sqT (FzA.dp s t (by simpa [PyData.canLay0] using e))
  | _, _, .dK h _ t, e => by simp [PyData.canLay0] at e
  | _, _, .dT h _ _ t, e => by simp [PyData.canLay0] at e
theorem FzA.dp {K : PySem.W.Frag} {F H : Hp} (s : Sub F H) : ∀ {v : List V} {d : List PyData}, FzA K F v d → PyData.canLayAll0 d = true → DpAll K H v d
  | _, _, .nil, _ => .nil
  | _, _, .cons a t, e => by
    simp only [PyData.canLayAll0, Bool.and_eq_true] at e
    exact .cons (Fz.dp s a e.1) (FzA.dp s t e.2)
end

/-! ### the store of what may change -/
/-- a value of the mirror: data that never changes, or the k-th cell -/
inductive SV where
  | fz (d : PyData)
  | ptr (k : Nat)
  /-- (a loop's own) a dict that stays locked -/
  | lk (a : Addr) (o : Obj) (u : HO)
inductive Cell where
  | fz (d : PyData)
  | lst (l : List SV)
  | dK (l : List (Key × SV))
  | dT (l : List (List Key × SV))
abbrev Store := List Cell

def SVR (K : PySem.W.Frag) (F : Hp) (ad : List Addr) : V → SV → Prop
  | v, .fz d => Fz K F v d
  | v, .ptr k => ∃ a, ad[k]? = some a ∧ v = .ref a
  | _, .lk a o u => F a = some (.frz o u)
inductive SVA (K : PySem.W.Frag) (F : Hp) (ad : List Addr) : List V → List SV → Prop
  | nil : SVA K F ad [] []
  | cons {v : V} {vs : List V} {d : SV} {ds : List SV} : SVR K F ad v d → SVA K F ad vs ds → SVA K F ad (v :: vs) (d :: ds)
def CellR (K : PySem.W.Frag) (F H : Hp) (ad : List Addr) (a : Addr) : Cell → Prop
  | .fz d => Fz K F (.ref a) d
  | .lst l => F a = none ∧ ∃ xs, H a = some (.lst xs) ∧ SVA K F ad xs l
  | .dK l => F a = none ∧ ∃ xs, H a = some (.dK ((l.map (·.1)).zip xs)) ∧ SVA K F ad xs (l.map (·.2))
  | .dT l => F a = none ∧ ∃ xs, H a = some (.dT ((l.map (·.1)).zip xs)) ∧ SVA K F ad xs (l.map (·.2))

theorem SVA.length {K : PySem.W.Frag} {F : Hp} {ad : List Addr} : ∀ {vs : List V} {ds : List SV}, SVA K F ad vs ds → vs.length = ds.length
  | _, _, .nil => rfl
  | _, _, .cons _ t => congrArg (· + 1) (SVA.length t)
theorem SVA.append {K : PySem.W.Frag} {F : Hp} {ad : List Addr} : ∀ {vs ws : List V} {ds es : List SV}, SVA K F ad vs ds → SVA K F ad ws es → SVA K F ad (vs ++ ws) (ds ++ es)
  | _, _, _, _, .nil, h => h
  | _, _, _, _, .cons a t, h => .cons a (SVA.append t h)
theorem SVA.get {K : PySem.W.Frag} {F : Hp} {ad : List Addr} : ∀ {vs : List V} {ds : List SV} {i : Nat} {d : SV}, SVA K F ad vs ds → ds[i]? = some d → ∃ v, vs[i]? = some v ∧ SVR K F ad v d
  | _, _, i, _, .nil, e => by simp at e
  | _, _, 0, _, .cons a _, e => by simp at e; subst e; exact ⟨_, rfl, a⟩
  | _, _, i + 1, _, .cons _ t, e => by
    obtain ⟨d, h1, h2⟩ := SVA.get (i := i) t (by simpa using e)
    exact ⟨d, by simpa using h1, h2⟩
theorem SVA.set {K : PySem.W.Frag} {F : Hp} {ad : List Addr} {v : V} {d : SV} (h : SVR K F ad v d) : ∀ {vs : List V} {ds : List SV} (i : Nat), SVA K F ad vs ds → SVA K F ad (vs.set i v) (ds.set i d)
  | _, _, _, .nil => .nil
  | _, _, 0, .cons _ t => .cons h t
  | _, _, i + 1, .cons a t => .cons a (SVA.set h i t)
theorem SVA.dropLast {K : PySem.W.Frag} {F : Hp} {ad : List Addr} {vs : List V} {ds : List SV} (h : SVA K F ad vs ds) : SVA K F ad vs.dropLast ds.dropLast := by
  induction h with
  | nil => exact .nil
  | cons a t ih =>
    cases t with
    | nil => exact .nil
    | cons b t => exact .cons a ih

/-- pointers grow, the frozen part grows -/
def Pre (ad ad' : List Addr) : Prop := ∀ (k : Nat) (a : Addr), ad[k]? = some a → ad'[k]? = some a
theorem Pre.refl (ad : List Addr) : Pre ad ad := fun _ _ h => h
theorem Pre.push (ad : List Addr) (a : Addr) : Pre ad (ad ++ [a]) := fun k b h => by
  have hk : k < ad.length := (List.getElem?_eq_some_iff.mp h).1
  rw [List.getElem?_append_left hk]; exact h
theorem SVR.mono {K : PySem.W.Frag} {F G : Hp} {ad ad' : List Addr} (l : Le F G) (p : Pre ad ad') {v : V} : ∀ {s : SV}, SVR K F ad v s → SVR K G ad' v s
  | .fz _, h => Fz.mono l h
  | .ptr _, ⟨a, h1, h2⟩ => ⟨a, p _ _ h1, h2⟩
  | .lk a o u, h => by
    have h1 : F a = some (.frz o u) := h
    have h2 : G a = some (.frz o u) := l.frz h1
    exact h2
theorem SVA.mono {K : PySem.W.Frag} {F G : Hp} {ad ad' : List Addr} (l : Le F G) (p : Pre ad ad') : ∀ {vs : List V} {ds : List SV}, SVA K F ad vs ds → SVA K G ad' vs ds
  | _, _, .nil => .nil
  | _, _, .cons a t => .cons (a.mono l p) (SVA.mono l p t)

/-- the cells that a cell points to -/
def SV.ps : SV → List Nat
  | .fz _ => []
  | .ptr k => [k]
  | .lk _ _ _ => []
def Cell.ps : Cell → List Nat
  | .fz _ => []
  | .lst l => l.flatMap SV.ps
  | .dK l => l.flatMap fun p => p.2.ps
  | .dT l => l.flatMap fun p => p.2.ps

/-- the slots of a def: b, the length of the store at its entry; sl, what each name holds -/
structure EV where
  b : Nat
  sl : List (Option SV)
def SlR (K : PySem.W.Frag) (F : Hp) (ad : List Addr) (sl : List (Option SV)) (σ : L2.St) : Prop :=
  σ.length = sl.length ∧ ∀ (i : Nat) (s : SV), sl[i]? = some (some s) → ∃ v, σ[i]? = some (some v) ∧ SVR K F ad v s
/-- the entries' lengths of the defs that run: bs, the newest first -/
structure Bas (bs : List Nat) (P : Store) : Prop where
  le : ∀ c ∈ bs, c ≤ P.length
  low : ∀ c ∈ bs, ∀ (k : Nat) (x : Cell), k < c → P[k]? = some x → ∀ j ∈ x.ps, j < c

structure RelX (K : PySem.W.Frag) (bs : List Nat) (ρ : EV) (σ : L2.St) (os : List SV) (vs : List V) (P : Store) (H F : Hp) (ad : List Addr) : Prop where
  sub : Sub F H
  len : ad.length = P.length
  nd : ad.Nodup
  there : ∀ a ∈ ad, ∃ o, H a = some o
  cells : ∀ (k : Nat) (c : Cell) (a : Addr), P[k]? = some c → ad[k]? = some a → CellR K F H ad a c
  slots : SlR K F ad ρ.sl σ
  tops : SVA K F ad vs os
  bas : Bas bs P
  bb : ∀ c ∈ bs, c ≤ ρ.b
def Rel (K : PySem.W.Frag) (bs : List Nat) (ρ : EV) (σ : L2.St) (os : List SV) (vs : List V) (P : Store) (H : Hp) : Prop := ∃ F ad, RelX K bs ρ σ os vs P H F ad

section
variable {K : PySem.W.Frag} {bs : List Nat} {ρ : EV} {σ : L2.St} {os : List SV} {vs : List V} {P : Store} {H F : Hp} {ad : List Addr}
theorem RelX.tops_of (R : RelX K bs ρ σ os vs P H F ad) {os' : List SV} {vs' : List V} (t : SVA K F ad vs' os') : RelX K bs ρ σ os' vs' P H F ad := { R with tops := t }
theorem RelX.push (R : RelX K bs ρ σ os vs P H F ad) {d : SV} {v : V} (h : SVR K F ad v d) : RelX K bs ρ σ (d :: os) (v :: vs) P H F ad := R.tops_of (.cons h R.tops)
theorem RelX.atom (R : RelX K bs ρ σ os vs P H F ad) {d : PyData} {v : V} (h : Fz K F v d) : Rel K bs ρ σ (.fz d :: os) (v :: vs) P H := ⟨F, ad, R.push h⟩
theorem RelX.pop {d : SV} {v : V} (R : RelX K bs ρ σ (d :: os) (v :: vs) P H F ad) : SVR K F ad v d ∧ RelX K bs ρ σ os vs P H F ad := by
  have t := R.tops
  cases t with
  | cons h t => exact ⟨h, { R with tops := t }⟩

/-- a new frozen object is laid -/
theorem upd_le {F : Hp} {p : Addr} {o : HO} (n : F p = none) : Le F (upd F p o) := fun a u e => by
  rw [upd_ne (ne_of_none e n)]; exact .inl e
theorem RelX.free (R : RelX K bs ρ σ os vs P H F ad) {p : Addr} (n : H p = none) : F p = none := by
  cases e : F p with
  | none => rfl
  | some u =>
    rcases R.sub p u e with q | ⟨_, o, q⟩ <;> (rw [n] at q; cases q)
theorem CellR.grow {G H' : Hp} {ad' : List Addr} {a : Addr} {c : Cell} (l : Le F G) (p : Pre ad ad') (hH : H' a = H a) (hF : F a = none → G a = none) (h : CellR K F H ad a c) : CellR K G H' ad' a c := by
  cases c with
  | fz d => exact Fz.mono l h
  | lst _ => obtain ⟨n, xs, e, t⟩ := h; exact ⟨hF n, xs, hH.trans e, t.mono l p⟩
  | dK _ => obtain ⟨n, xs, e, t⟩ := h; exact ⟨hF n, xs, hH.trans e, t.mono l p⟩
  | dT _ => obtain ⟨n, xs, e, t⟩ := h; exact ⟨hF n, xs, hH.trans e, t.mono l p⟩
theorem SlR.mono {G : Hp} {ad' : List Addr} {sl : List (Option SV)} (l : Le F G) (p : Pre ad ad') (h : SlR K F ad sl σ) : SlR K G ad' sl σ :=
  ⟨h.1, fun i s e => let ⟨v, e1, r⟩ := h.2 i s e; ⟨v, e1, r.mono l p⟩⟩
/-- a new object o at p, frozen -/
theorem RelX.lay (R : RelX K bs ρ σ os vs P H F ad) {p : Addr} {o : HO} (n : H p = none) : RelX K bs ρ σ os vs P (upd H p o) (upd F p o) ad := by
  have l : Le F (upd F p o) := upd_le (R.free n)
  refine ⟨fun a u e => ?_, R.len, R.nd, fun a ha => ?_, fun k c a e1 e2 => ?_, R.slots.mono l (.refl _), R.tops.mono l (.refl _), R.bas, R.bb⟩
  · by_cases h : a = p
    · subst h; rw [upd_same] at e ⊢; exact .inl e
    · rw [upd_ne h] at e
      rw [upd_ne h]
      exact R.sub a u e
  · obtain ⟨u, e⟩ := R.there a ha
    exact ⟨u, by rw [upd_ne (ne_of_none e n)]; exact e⟩
  · obtain ⟨u, e⟩ := R.there a (List.mem_of_getElem? e2)
    have ne := ne_of_none e n
    exact (R.cells k c a e1 e2).grow l (.refl _) (upd_ne ne) fun z => by rw [upd_ne ne]; exact z
/-- a new object at p, a new cell -/
theorem RelX.cell (R : RelX K bs ρ σ os vs P H F ad) {p : Addr} {o : HO} {c : Cell} (n : H p = none) (h : ∀ ad', Pre ad ad' → CellR K F (upd H p o) ad' p c) :
    RelX K bs ρ σ (.ptr P.length :: os) (.ref p :: vs) (P ++ [c]) (upd H p o) F (ad ++ [p]) := by
  have fr := R.free n
  have pr : Pre ad (ad ++ [p]) := .push _ _
  refine ⟨fun a u e => ?_, by simp [R.len], ?_, fun a ha => ?_, fun k x a e1 e2 => ?_, R.slots.mono (.refl _) pr, .cons ⟨p, by rw [← R.len]; simp, rfl⟩ (R.tops.mono (.refl _) pr), ⟨fun c hc => ?_, fun c hc k x hk e j hj => ?_⟩, R.bb⟩
  · rw [upd_ne (ne_of_none e fr)]; exact R.sub a u e
  · rw [List.nodup_append]
    refine ⟨R.nd, by simp, fun a ha b hb e => ?_⟩
    obtain ⟨u, q⟩ := R.there a ha
    have : b = p := by simpa using hb
    subst this; subst e
    rw [n] at q; cases q
  · rcases List.mem_append.mp ha with ha | ha
    · obtain ⟨u, e⟩ := R.there a ha
      exact ⟨u, by rw [upd_ne (ne_of_none e n)]; exact e⟩
    · have : a = p := by simpa using ha
      subst this
      exact ⟨_, upd_same⟩
  · by_cases hk : k < P.length
    · rw [List.getElem?_append_left hk] at e1
      rw [List.getElem?_append_left (by rw [R.len]; exact hk)] at e2
      obtain ⟨u, e⟩ := R.there a (List.mem_of_getElem? e2)
      exact (R.cells k x a e1 e2).grow (.refl _) pr (upd_ne (ne_of_none e n)) id
    · have hk' : k = P.length := by
        have := (List.getElem?_eq_some_iff.mp e1).1
        simp at this
        omega
      subst hk'
      have e1' : c = x := by simpa using e1
      have e2' : p = a := by rw [← R.len] at e2; simpa using e2
      subst e1'; subst e2'
      exact h _ pr
  · have := R.bas.le c hc
    simp; omega
  · have hl := R.bas.le c hc
    rw [List.getElem?_append_left (by omega)] at e
    exact R.bas.low c hc k x hk e j hj
/-- a cell is written -/
theorem RelX.put (R : RelX K bs ρ σ os vs P H F ad) {k : Nat} {a : Addr} {o : HO} {c c0 : Cell} (hk : P[k]? = some c0) (ha : ad[k]? = some a) (hF : F a = none) (hc : CellR K F (upd H a o) ad a c)
    (hp : ∀ j ∈ c.ps, j ∈ c0.ps ∨ ρ.b ≤ k) : RelX K bs ρ σ os vs (P.set k c) (upd H a o) F ad := by
  refine ⟨fun x u e => ?_, by simp [R.len], R.nd, fun x hx => ?_, fun j x b e1 e2 => ?_, R.slots, R.tops, ⟨fun c hc => by simpa using R.bas.le c hc, fun d hd j x hj e i hi => ?_⟩, R.bb⟩
  · rw [upd_ne (ne_of_none e hF)]; exact R.sub x u e
  · by_cases h : x = a
    · subst h; exact ⟨_, upd_same⟩
    · rw [upd_ne h]; exact R.there x hx
  · by_cases hj : j = k
    · subst hj
      have hl := (List.getElem?_eq_some_iff.mp hk).1
      rw [List.getElem?_set_self hl] at e1
      cases e1
      rw [ha] at e2; cases e2
      exact hc
    · rw [List.getElem?_set_ne (Ne.symm hj)] at e1
      have ne : b ≠ a := fun z => by
        subst z
        obtain ⟨h1, q1⟩ := List.getElem?_eq_some_iff.mp e2
        obtain ⟨h2, q2⟩ := List.getElem?_eq_some_iff.mp ha
        exact hj ((List.getElem_inj R.nd).mp (q1.trans q2.symm))
      exact (R.cells j x b e1 e2).grow (.refl _) (.refl _) (upd_ne ne) id
  · by_cases hjk : j = k
    · subst hjk
      have hl := (List.getElem?_eq_some_iff.mp hk).1
      rw [List.getElem?_set_self hl] at e
      cases e
      rcases hp i hi with z | z
      · exact R.bas.low d hd j c0 hj hk i z
      · have := R.bb d hd
        omega
    · rw [List.getElem?_set_ne (Ne.symm hjk)] at e
      exact R.bas.low d hd j x hj e i hi
end
end Pd

set_option Elab.async false
set_option linter.all false
set_option maxRecDepth 100000
set_option maxHeartbeats 1000000
/-! The layer Pd, part B: what a value shows, new objects, expressions. -/
namespace Pd
open PySem PySem.Spec PyProof.Rows L2

/-! ### what a value shows -/
inductive Vw (K : PySem.W.Frag) (F H : Hp) : V → PyData → Prop
  | fz {v : V} {d : PyData} : Fz K F v d → Vw K F H v d
  | lst {a : Addr} {xs : List V} {ds : List PyData} : H a = some (.lst xs) → FzA K F xs ds → Vw K F H (.ref a) (.list ds)
  | dK {a : Addr} {ks : List Key} {xs : List V} {ds : List PyData} : Rd H a (.dK (ks.zip xs)) → ks.length = xs.length → FzA K F xs ds → Vw K F H (.ref a) (.dict ((ks.map keyD).zip ds))
  | dT {a : Addr} {ks : List (List Key)} {xs : List V} {ds : List PyData} : H a = some (.dT (ks.zip xs)) → ks.length = xs.length → ks ≠ [] → FzA K F xs ds → Vw K F H (.ref a) (.dict ((ks.map fun k => .tuple (k.map keyD)).zip ds))
section
variable {K : PySem.W.Frag} {F H : Hp} {v : V}
theorem Vw.lists {ds : List PyData} (h : Vw K F H v (.list ds)) (s : Sub F H) : ∃ a xs, v = .ref a ∧ SqL K H a xs ∧ FzA K F xs ds := by
  cases h with
  | fz h => cases h with
    | lst h t => exact ⟨_, _, rfl, s.sqL h, t⟩
  | lst h t => exact ⟨_, _, rfl, .of h, t⟩
theorem Vw.tups {ds : List PyData} (h : Vw K F H v (.tuple ds)) (s : Sub F H) : ∃ a xs, v = .ref a ∧ TupAt H a xs ds ∧ FzA K F xs ds ∧ Fz K F v (.tuple ds) := by
  cases h with
  | fz h => cases h with
    | tup h t => exact ⟨_, _, rfl, s.tup h, t, .tup h t⟩
theorem Vw.ints {i : Int} (h : Vw K F H v (.int i)) : v = .int i := by cases h with | fz h => cases h; rfl
theorem Vw.strs {i : Str} (h : Vw K F H v (.str i)) : v = .str i := by cases h with | fz h => cases h; rfl
theorem Vw.bls {i : Bool} (h : Vw K F H v (.bool i)) : v = .bl i := by cases h with | fz h => cases h; rfl
theorem Vw.nons (h : Vw K F H v .none) : v = .non := by cases h with | fz h => cases h; rfl
theorem Vw.dp {d : PyData} (h : Vw K F H v d) (s : Sub F H) (e : d.canLay0 = true) : Dp K H v d := by
  cases h with
  | fz h => exact h.dp s e
  | lst h t => exact .lst (.inl (.inl h)) (t.dp s (by simpa [PyData.canLay0] using e))
  | dK => simp [PyData.canLay0] at e
  | dT => simp [PyData.canLay0] at e
end

def SV.fz? : SV → Option PyData
  | .fz d => some d
  | .ptr _ => none
  | .lk _ _ _ => none
def fzs : List SV → Option (List PyData)
  | [] => some []
  | .fz d :: r => (fzs r).map (d :: ·)
  | .ptr _ :: _ => none
  | .lk _ _ _ :: _ => none
/-- what a cell holds, where all its parts are frozen -/
def Cell.dat : Cell → Option PyData
  | .fz d => some d
  | .lst l => (fzs l).map .list
  | .dK l => (fzs (l.map (·.2))).map fun ds => .dict ((l.map fun p => keyD p.1).zip ds)
  | .dT l => if l.isEmpty = true then none else (fzs (l.map (·.2))).map fun ds => .dict ((l.map fun p => .tuple (p.1.map keyD)).zip ds)
/-- what a value shows now -/
def flat (P : Store) : SV → Option PyData
  | .fz d => some d
  | .ptr k => P[k]?.bind Cell.dat
  | .lk _ _ _ => none
/-- .. and does not change any more -/
def frz (P : Store) : SV → Option (PyData × Store)
  | .fz d => some (d, P)
  | .ptr k => (P[k]?.bind Cell.dat).map fun d => (d, P.set k (.fz d))
  | .lk _ _ _ => none

theorem fzs_some {K : PySem.W.Frag} {F : Hp} {ad : List Addr} : ∀ {vs : List V} {l : List SV} {ds : List PyData}, SVA K F ad vs l → fzs l = some ds → FzA K F vs ds
  | _, _, _, .nil, e => by
    simp only [fzs, Option.some.injEq] at e
    subst e; exact .nil
  | _, _, _, .cons (d := .fz d) a t, e => by
    simp only [fzs, Option.map_eq_some_iff] at e
    obtain ⟨r, e1, e2⟩ := e
    subst e2
    exact .cons a (fzs_some t e1)
  | _, _, _, .cons (d := .ptr _) a t, e => by simp [fzs] at e
  | _, _, _, .cons (d := .lk _ _ _) a t, e => by simp [fzs] at e
theorem fzs_len : ∀ {l : List SV} {ds : List PyData}, fzs l = some ds → ds.length = l.length
  | [], _, e => by simp only [fzs, Option.some.injEq] at e; subst e; rfl
  | .fz d :: r, _, e => by
    simp only [fzs, Option.map_eq_some_iff] at e
    obtain ⟨x, e1, e2⟩ := e
    subst e2
    simp [fzs_len e1]
  | .ptr _ :: _, _, e => by simp [fzs] at e
  | .lk _ _ _ :: _, _, e => by simp [fzs] at e

section
variable {K : PySem.W.Frag} {bs : List Nat} {ρ : EV} {σ : L2.St} {os : List SV} {vs : List V} {P : Store} {H F : Hp} {ad : List Addr}
theorem RelX.at (R : RelX K bs ρ σ os vs P H F ad) {v : V} {k : Nat} {c : Cell} (h : SVR K F ad v (.ptr k)) (e : P[k]? = some c) : ∃ a, ad[k]? = some a ∧ v = .ref a ∧ CellR K F H ad a c :=
  let ⟨a, h1, h2⟩ := h; ⟨a, h1, h2, R.cells k c a e h1⟩
theorem RelX.view (R : RelX K bs ρ σ os vs P H F ad) {v : V} {s : SV} {d : PyData} (h : SVR K F ad v s) (e : flat P s = some d) : Vw K F H v d := by
  cases s with
  | fz d' =>
    simp only [flat, Option.some.injEq] at e
    subst e
    exact .fz h
  | lk _ _ _ => simp [flat] at e
  | ptr k =>
    simp only [flat, Option.bind_eq_some_iff] at e
    obtain ⟨c, e1, e2⟩ := e
    obtain ⟨a, ha, rfl, hc⟩ := R.at h e1
    cases c with
    | fz d' => simp only [Cell.dat, Option.some.injEq] at e2; subst e2; exact .fz hc
    | lst l =>
      simp only [Cell.dat, Option.map_eq_some_iff] at e2
      obtain ⟨ds, e3, rfl⟩ := e2
      obtain ⟨_, xs, hx, t⟩ := hc
      exact .lst hx (fzs_some t e3)
    | dK l =>
      simp only [Cell.dat, Option.map_eq_some_iff] at e2
      obtain ⟨ds, e3, rfl⟩ := e2
      obtain ⟨_, xs, hx, t⟩ := hc
      have := Vw.dK (K := K) (F := F) (.of hx) (by have := t.length; simp at this ⊢; omega) (fzs_some t e3)
      simpa [List.map_map, Function.comp_def] using this
    | dT l =>
      have hne : l ≠ [] := fun z => by subst z; simp [Cell.dat] at e2
      have hne2 : ¬ l.isEmpty = true := by simpa using hne
      simp only [Cell.dat, if_neg hne2, Option.map_eq_some_iff] at e2
      obtain ⟨ds, e3, rfl⟩ := e2
      obtain ⟨_, xs, hx, t⟩ := hc
      have := Vw.dT (K := K) (F := F) hx (by have := t.length; simp at this ⊢; omega) (by simpa using hne) (fzs_some t e3)
      simpa [List.map_map, Function.comp_def] using this
/-- a cell is frozen -/
theorem RelX.freezeC (R : RelX K bs ρ σ os vs P H F ad) {k : Nat} {a : Addr} {c : Cell} {o : HO} {d : PyData} (e : P[k]? = some c) (ha : ad[k]? = some a) (hF : F a = none) (ho : H a = some o) (hd : ∀ G, Le F G → G a = some o → Fz K G (.ref a) d) :
    RelX K bs ρ σ os vs (P.set k (.fz d)) H (upd F a o) ad ∧ Le F (upd F a o) ∧ Fz K (upd F a o) (.ref a) d := by
  have l : Le F (upd F a o) := upd_le hF
  have fd := hd (upd F a o) l upd_same
  refine ⟨⟨fun x u q => ?_, by simp [R.len], R.nd, R.there, fun j x b e1 e2 => ?_, R.slots.mono l (.refl _), R.tops.mono l (.refl _), ⟨fun c hc => by simpa using R.bas.le c hc, fun q hq j x hj e i hi => ?_⟩, R.bb⟩, l, fd⟩
  · by_cases h : x = a
    · subst h; rw [upd_same] at q; cases q; exact .inl ho
    · rw [upd_ne h] at q; exact R.sub x u q
  · by_cases hj : j = k
    · subst hj
      have hl := (List.getElem?_eq_some_iff.mp e).1
      rw [List.getElem?_set_self hl] at e1
      cases e1
      rw [ha] at e2; cases e2
      exact fd
    · rw [List.getElem?_set_ne (Ne.symm hj)] at e1
      have ne : b ≠ a := fun z => by
        subst z
        obtain ⟨h1, q1⟩ := List.getElem?_eq_some_iff.mp e2
        obtain ⟨h2, q2⟩ := List.getElem?_eq_some_iff.mp ha
        exact hj ((List.getElem_inj R.nd).mp (q1.trans q2.symm))
      exact (R.cells j x b e1 e2).grow l (.refl _) rfl fun z => by rw [upd_ne ne]; exact z
  · by_cases hjk : j = k
    · subst hjk
      have hl := (List.getElem?_eq_some_iff.mp (by assumption : P[j]? = some c)).1
      rw [List.getElem?_set_self hl] at e
      cases e
      simp [Cell.ps] at hi
    · rw [List.getElem?_set_ne (Ne.symm hjk)] at e
      exact R.bas.low q hq j x hj e i hi
theorem RelX.freeze (R : RelX K bs ρ σ os vs P H F ad) {v : V} {s : SV} {d : PyData} {P' : Store} (h : SVR K F ad v s) (e : frz P s = some (d, P')) : ∃ G, RelX K bs ρ σ os vs P' H G ad ∧ Le F G ∧ Fz K G v d := by
  cases s with
  | fz d' =>
    simp only [frz, Option.some.injEq, Prod.mk.injEq] at e
    obtain ⟨rfl, rfl⟩ := e
    exact ⟨F, R, .refl _, h⟩
  | lk _ _ _ => simp [frz] at e
  | ptr k =>
    simp only [frz, Option.map_eq_some_iff, Prod.mk.injEq, Option.bind_eq_some_iff] at e
    obtain ⟨d', ⟨c, e1, e2⟩, rfl, rfl⟩ := e
    obtain ⟨a, ha, rfl, hc⟩ := R.at h e1
    cases c with
    | fz d2 =>
      simp only [Cell.dat, Option.some.injEq] at e2
      subst e2
      refine ⟨F, ?_, .refl _, hc⟩
      have : P.set k (.fz d2) = P := by
        apply List.ext_getElem?
        intro i
        by_cases hi : i = k
        · subst hi
          rw [List.getElem?_set_self (List.getElem?_eq_some_iff.mp e1).1, e1]
        · rw [List.getElem?_set_ne (Ne.symm hi)]
      rw [this]; exact R
    | lst l =>
      simp only [Cell.dat, Option.map_eq_some_iff] at e2
      obtain ⟨ds, e3, rfl⟩ := e2
      obtain ⟨hF, xs, hx, t⟩ := hc
      exact ⟨_, R.freezeC e1 ha hF hx fun G l g => .lst (.of g) ((fzs_some t e3).mono l)⟩
    | dK l =>
      simp only [Cell.dat, Option.map_eq_some_iff] at e2
      obtain ⟨ds, e3, rfl⟩ := e2
      obtain ⟨hF, xs, hx, t⟩ := hc
      refine ⟨_, R.freezeC e1 ha hF hx fun G le g => ?_⟩
      have := Fz.dK (K := K) (F := G) (.of g) (by have := t.length; simp at this ⊢; omega) ((fzs_some t e3).mono le)
      simpa [List.map_map, Function.comp_def] using this
    | dT l =>
      have hne : l ≠ [] := fun z => by subst z; simp [Cell.dat] at e2
      have hne2 : ¬ l.isEmpty = true := by simpa using hne
      simp only [Cell.dat, if_neg hne2, Option.map_eq_some_iff] at e2
      obtain ⟨ds, e3, rfl⟩ := e2
      obtain ⟨hF, xs, hx, t⟩ := hc
      refine ⟨_, R.freezeC e1 ha hF hx fun G le g => ?_⟩
      have := Fz.dT (K := K) (F := G) g (by have := t.length; simp at this ⊢; omega) (by simpa using hne) ((fzs_some t e3).mono le)
      simpa [List.map_map, Function.comp_def] using this
end

/-- new frozen objects -/
inductive Ext : Hp → Hp → Hp → Hp → Prop
  | refl {F H : Hp} : Ext F H F H
  | lay {F H F1 H1 : Hp} {p : Addr} {o : HO} : Ext F H F1 H1 → H1 p = none → Ext F H (upd F1 p o) (upd H1 p o)
theorem RelX.ext {K : PySem.W.Frag} {bs : List Nat} {ρ : EV} {σ : L2.St} {os : List SV} {vs : List V} {P : Store} {H F F1 H1 : Hp} {ad : List Addr} (R : RelX K bs ρ σ os vs P H F ad) (x : Ext F H F1 H1) : RelX K bs ρ σ os vs P H1 F1 ad := by
  induction x with
  | refl => exact R
  | lay x n ih => exact ih.lay n
theorem Ext.one {F H : Hp} {p : Addr} {o : HO} (n : H p = none) : Ext F H (upd F p o) (upd H p o) := .lay .refl n

/-! ### expressions -/
abbrev XM := EV → Store → Option (SV × Store)
abbrev BM := EV → Store → Option (Bool × Store)
abbrev AM := EV → Store → Option (List SV × Store)
/-- what the end of a part wants -/
def PEd (X : Cx) (e : Expr) (f : XM) : Prop := ∃ t, PE X e t ∧ ∀ (bs : List Nat) (ρ : EV) (σ : L2.St) (os : List SV) (vs : List V) (P : Store) (H : Hp) (Q : VK) (r : SV) (P' : Store), Rel X.K bs ρ σ os vs P H → f ρ P = some (r, P') →
  (∀ v H', Rel X.K bs ρ σ (r :: os) (v :: vs) P' H' → Q v H') → t σ H Q
def PTd (X : Cx) (e : Expr) (f : BM) : Prop := ∃ t, PT X e t ∧ ∀ (bs : List Nat) (ρ : EV) (σ : L2.St) (os : List SV) (vs : List V) (P : Store) (H : Hp) (Q : Bool → Hp → Prop) (r : Bool) (P' : Store), Rel X.K bs ρ σ os vs P H → f ρ P = some (r, P') →
  (∀ H', Rel X.K bs ρ σ os vs P' H' → Q r H') → t σ H Q
/-- arguments: pushed from the left -/
def PAd (X : Cx) (es : List Expr) (f : AM) : Prop := ∃ t, PA X es t ∧ ∀ (bs : List Nat) (ρ : EV) (σ : L2.St) (os : List SV) (vs : List V) (P : Store) (H : Hp) (Q : List V → Hp → Prop) (r : List SV) (P' : Store), Rel X.K bs ρ σ os vs P H → f ρ P = some (r, P') →
  (∀ ws H', ws.length = r.length → Rel X.K bs ρ σ (r.reverse ++ os) (ws.reverse ++ vs) P' H' → Q ws H') → t σ H Q

def mC (d : PyData) : XM := fun _ P => some (.fz d, P)
def mVar (i : Nat) : XM := fun ρ P => match ρ.sl[i]? with
  | some (some s) => some (s, P)
  | _ => none
section
variable {X : Cx} {pos : Pos}
theorem ped_atom {e : Expr} {v : V} {d : PyData} (h : PE X e (tC v)) (hd : ∀ F, Fz X.K F v d) : PEd X e (mC d) := ⟨_, h, fun bs ρ σ os vs P H Q r P' R e q => by
  simp only [mC, Option.some.injEq, Prod.mk.injEq] at e
  obtain ⟨rfl, rfl⟩ := e
  obtain ⟨F, ad, R⟩ := R
  exact q _ _ (R.atom (hd F))⟩
theorem ped_int {i : Int} {j} : PEd X (.Constant (.int i) j pos) (mC (.int i)) := ped_atom pe_int fun _ => .int i
theorem ped_bl {b : Bool} {j} : PEd X (.Constant (.bool b) j pos) (mC (.bool b)) := ped_atom pe_bl fun _ => .bl b
theorem ped_non {j} : PEd X (.Constant .none j pos) (mC .none) := ped_atom pe_non fun _ => .non
theorem ped_str {x : Str} {j} : PEd X (.Constant (.str x) j pos) (mC (.str x)) := ped_atom pe_str fun _ => .str x
theorem ped_glob {x : Str} {v : V} {u : Value} {d : PyData} (hg : Gl X x) (hm : X.mg x = some u) (r : RelV v u) (hd : ∀ F, Fz X.K F v d) (hdb : (x == ("__debug__" : Str)) = false := by decide) : PEd X (.Name x pos) (mC d) := ped_atom (pe_glob hg hm r hdb) hd
theorem ped_var (i : Nat) {x : Str} (hN : X.N[i]? = some x := by rfl) (hv : Vis X.env.scope x := by first | exact Or.inl rfl | exact Or.inr (Or.inl rfl) | exact Or.inr (Or.inr rfl)) (hd : (x == ("__debug__" : Str)) = false := by decide)
    (hcd : (x == ("__classdict__" : Str)) = false := by decide) : PEd X (.Name x pos) (mVar i) := ⟨_, pe_var hN hv hd hcd, fun bs ρ σ os vs P H Q r P' R e q => by
  obtain ⟨F, ad, R⟩ := R
  unfold mVar at e
  cases h : ρ.sl[i]? with
  | none => rw [h] at e; cases e
  | some s =>
    cases s with
    | none => rw [h] at e; cases e
    | some s =>
      rw [h] at e
      simp only [Option.some.injEq, Prod.mk.injEq] at e
      obtain ⟨rfl, rfl⟩ := e
      obtain ⟨v, hv, r⟩ := R.slots.2 i s h
      exact ⟨v, hv, q v H ⟨F, ad, R.push r⟩⟩⟩

/-! two-place operations -/
def OpD (X : Cx) (f : Value → Value → Sem Value) (g : PyData → PyData → Option PyData) : Prop := ∃ r, OpR X f r ∧ ∀ (F H : Hp) (x y : V) (d e z : PyData) (Q : VK), Sub F H → Vw X.K F H x d → Vw X.K F H y e → g d e = some z →
  (∀ v H' F', Ext F H F' H' → Fz X.K F' v z → Q v H') → r x y H Q
def mBin (g : PyData → PyData → Option PyData) (f1 f2 : XM) : XM := fun ρ P => (f1 ρ P).bind fun (a, P1) => (f2 ρ P1).bind fun (b, P2) => (flat P2 a).bind fun d => (flat P2 b).bind fun e => (g d e).map fun z => (.fz z, P2)
theorem bin_d {a b : Expr} {f : Value → Value → Sem Value} {g : PyData → PyData → Option PyData} {f1 f2 : XM} {t1 t2 : TE} {r : R2}
    (hr : ∀ (F H : Hp) (x y : V) (d e z : PyData) (Q : VK), Sub F H → Vw X.K F H x d → Vw X.K F H y e → g d e = some z → (∀ v H' F', Ext F H F' H' → Fz X.K F' v z → Q v H') → r x y H Q)
    (h1 : ∀ (bs : List Nat) (ρ : EV) (σ : L2.St) (os : List SV) (vs : List V) (P : Store) (H : Hp) (Q : VK) (r : SV) (P' : Store), Rel X.K bs ρ σ os vs P H → f1 ρ P = some (r, P') → (∀ v H', Rel X.K bs ρ σ (r :: os) (v :: vs) P' H' → Q v H') → t1 σ H Q)
    (h2 : ∀ (bs : List Nat) (ρ : EV) (σ : L2.St) (os : List SV) (vs : List V) (P : Store) (H : Hp) (Q : VK) (r : SV) (P' : Store), Rel X.K bs ρ σ os vs P H → f2 ρ P = some (r, P') → (∀ v H', Rel X.K bs ρ σ (r :: os) (v :: vs) P' H' → Q v H') → t2 σ H Q)
    (bs : List Nat) (ρ : EV) (σ : L2.St) (os : List SV) (vs : List V) (P : Store) (H : Hp) (Q : VK) (w : SV) (P' : Store) (R : Rel X.K bs ρ σ os vs P H) (e : mBin g f1 f2 ρ P = some (w, P'))
    (q : ∀ v H', Rel X.K bs ρ σ (w :: os) (v :: vs) P' H' → Q v H') : tOp r t1 t2 σ H Q := by
  simp only [mBin, Option.bind_eq_some_iff, Option.map_eq_some_iff, Prod.mk.injEq] at e
  obtain ⟨⟨s1, P1⟩, e1, ⟨s2, P2⟩, e2, d1, e3, d2, e4, z, e5, rfl, rfl⟩ := e
  refine h1 bs ρ σ os vs P H _ s1 P1 R e1 fun x H1 R1 => ?_
  refine h2 bs ρ σ _ _ P1 H1 _ s2 P2 R1 e2 fun y H2 R2 => ?_
  obtain ⟨F, ad, R2⟩ := R2
  obtain ⟨r2, R2⟩ := R2.pop
  obtain ⟨r1, R2⟩ := R2.pop
  refine hr F H2 x y d1 d2 z Q R2.sub (R2.view r1 e3) (R2.view r2 e4) e5 fun v H' F' x f => ?_
  exact q v H' ((R2.ext x).atom f)
theorem ped_bin {a b : Expr} {op : Operator} {g : PyData → PyData → Option PyData} {f1 f2 : XM} (ho : OpD X (binaryOp op) g) (ha : PEd X a f1) (hb : PEd X b f2) : PEd X (.BinOp a op b pos) (mBin g f1 f2) := by
  obtain ⟨r, h, hr⟩ := ho
  obtain ⟨t1, p1, h1⟩ := ha
  obtain ⟨t2, p2, h2⟩ := hb
  exact ⟨_, pe_op h p1 p2, bin_d (a := a) (b := b) (f := binaryOp op) hr h1 h2⟩
theorem ped_cmp {a b : Expr} {op : CmpOp} {g : PyData → PyData → Option PyData} {f1 f2 : XM} (ho : OpD X (compareOp op) g) (ha : PEd X a f1) (hb : PEd X b f2) (hm : behindInMarks op b = false) : PEd X (.Compare a [op] [b] pos) (mBin g f1 f2) := by
  obtain ⟨r, h, hr⟩ := ho
  obtain ⟨t1, p1, h1⟩ := ha
  obtain ⟨t2, p2, h2⟩ := hb
  exact ⟨_, pe_cmpR h p1 p2 hm, bin_d (a := a) (b := b) (f := compareOp op) hr h1 h2⟩
theorem OpD.or {f : Value → Value → Sem Value} {g g' : PyData → PyData → Option PyData} (h : OpD X f g) (h' : OpD X f g') : OpD X f (fun d e => (g d e).or (g' d e)) := by
  obtain ⟨r, h, hr⟩ := h
  obtain ⟨r', h', hr'⟩ := h'
  refine ⟨_, h.or h', fun F H x y d e z Q s vx vy eq q => ?_⟩
  have eq : (g d e).or (g' d e) = some z := eq
  cases hz : g d e with
  | some w =>
    rw [hz] at eq
    simp only [Option.some_or, Option.some.injEq] at eq
    subst eq
    exact .inl (hr F H x y d e w Q s vx vy hz q)
  | none =>
    rw [hz] at eq
    exact .inr (hr' F H x y d e z Q s vx vy (by simpa using eq) q)
end
end Pd

set_option Elab.async false
set_option linter.all false
set_option maxRecDepth 100000
set_option maxHeartbeats 1000000
/-! The layer Pd, part C: operations on data. -/
namespace Pd
open PySem PySem.Spec PyProof.Rows L2
section
variable {X : Cx}

/-- two ints -/
def dI (g : Int → Int → Option PyData) : PyData → PyData → Option PyData
  | .int i, .int j => g i j
  | _, _ => none
theorem dI_some {g : Int → Int → Option PyData} {d e z : PyData} (h : dI g d e = some z) : ∃ i j, d = .int i ∧ e = .int j ∧ g i j = some z := by
  unfold dI at h
  split at h
  · exact ⟨_, _, rfl, rfl, h⟩
  · cases h
def dIC (C : Int → Int → Bool) (g : Int → Int → PyData) : PyData → PyData → Option PyData := dI fun i j => if C i j = true then some (g i j) else none
theorem dIC_some {C : Int → Int → Bool} {g : Int → Int → PyData} {d e z : PyData} (h : dIC C g d e = some z) : ∃ i j, d = .int i ∧ e = .int j ∧ C i j = true ∧ z = g i j := by
  obtain ⟨i, j, e1, e2, h⟩ := dI_some h
  by_cases hc : C i j = true
  · rw [if_pos hc] at h
    exact ⟨i, j, e1, e2, hc, (Option.some.inj h).symm⟩
  · rw [if_neg hc] at h; cases h
theorem opd_int {f : Value → Value → Sem Value} {C : Int → Int → Prop} {c : Int → Int → Bool} {g : Int → Int → V} {g' : Int → Int → PyData} (h : OpR X f (rI C g)) (hc : ∀ i j, c i j = true → C i j) (hg : ∀ F i j, Fz X.K F (g i j) (g' i j)) : OpD X f (dIC c g') := by
  refine ⟨_, h, fun F H x y d e z Q s vx vy eq q => ?_⟩
  obtain ⟨i, j, rfl, rfl, hcc, rfl⟩ := dIC_some eq
  exact ⟨i, j, vx.ints, vy.ints, hc i j hcc, q _ _ _ .refl (hg F i j)⟩
theorem opd_int0 {f : Value → Value → Sem Value} {g : Int → Int → V} {g' : Int → Int → PyData} (h : OpR X f (rI0 g)) (hg : ∀ F i j, Fz X.K F (g i j) (g' i j)) : OpD X f (dI fun i j => some (g' i j)) := by
  refine ⟨_, h, fun F H x y d e z Q s vx vy eq q => ?_⟩
  obtain ⟨i, j, rfl, rfl, hz⟩ := dI_some eq
  cases hz
  exact ⟨i, j, vx.ints, vy.ints, q _ _ _ .refl (hg F i j)⟩

/-- two texts -/
def dS (g : Str → Str → Option PyData) : PyData → PyData → Option PyData
  | .str i, .str j => g i j
  | _, _ => none
theorem dS_some {g : Str → Str → Option PyData} {d e z : PyData} (h : dS g d e = some z) : ∃ i j, d = .str i ∧ e = .str j ∧ g i j = some z := by
  unfold dS at h
  split at h
  · exact ⟨_, _, rfl, rfl, h⟩
  · cases h

/-! ### + -/
def dAddS : PyData → PyData → Option PyData := dS fun x y => if x.length + y.length ≤ sizeLine then some (.str (x ++ y)) else none
def dAddL : PyData → PyData → Option PyData
  | .list xs, .list ys => if xs.length + ys.length ≤ sizeLine then some (.list (xs ++ ys)) else none
  | _, _ => none
def dAddT : PyData → PyData → Option PyData
  | .tuple xs, .tuple ys => if xs.length + ys.length ≤ sizeLine then some (.tuple (xs ++ ys)) else none
  | _, _ => none
def rCatR (K : PySem.W.Frag) : R2 := fun x y H Q => ∃ l b xs zs, x = .ref l ∧ y = .ref b ∧ SqL K H l xs ∧ SqL K H b zs ∧ xs.length + zs.length ≤ sizeLine ∧ ∀ p, H p = none → Q (.ref p) (upd H p (.lst (xs ++ zs)))
theorem op_catR : OpR X (binaryOp .Add) (rCatR X.K) := by
  intro pins s σ H x y v u Q I rx ry h
  obtain ⟨l, b, xs, zs, rfl, rfl, hH, hB, hz, q⟩ := h
  cases rx
  cases ry
  obtain ⟨vs, r, hl, z1⟩ := I.list hH
  obtain ⟨ws, r2, hb, z2⟩ := I.list hB
  have hlen := r.length
  have hlen2 := r2.length
  obtain ⟨⟨cls, dd, data, sl⟩, ho, hc, n, hd⟩ := hl.isList
  obtain ⟨⟨cls2, dd2, data2, sl2⟩, ho2, hc2, n2, hd2⟩ := hb.isList
  simp only at hc hd hc2 hd2
  subst hc hd hc2 hd2
  have ea : vs.toArray ++ ws.toArray = (vs ++ ws).toArray := by simp
  refine concat_meets ⟨_, ho, rfl⟩ ⟨_, ho2, rfl⟩ noFill_list_add seq_list_add PySem.F.slot_list_add PySem.F.entry_list_add (PySem.F.args_list_add_2 _ _) (list_addW l b vs.toArray ws.toArray n n2 dd dd2 sl sl2 (by simp; omega)) ⟨ho, ho2, ?_⟩
  rw [ea]
  exact ⟨.ref _, _, I.lnew (t' := s.toks) (r.append r2) (by rw [List.length_append]; omega), rfl, q _ I.fresh⟩
theorem opd_addS : OpD X (binaryOp .Add) dAddS := by
  refine ⟨_, op_add_str, fun F H x y d e z Q s vx vy eq q => ?_⟩
  obtain ⟨i, j, rfl, rfl, hz⟩ := dS_some eq
  by_cases hl : i.length + j.length ≤ sizeLine
  · rw [if_pos hl] at hz
    cases hz
    exact ⟨i, j, vx.strs, vy.strs, hl, q _ _ _ .refl (.str _)⟩
  · rw [if_neg hl] at hz; cases hz
theorem opd_addL : OpD X (binaryOp .Add) dAddL := by
  refine ⟨_, op_catR, fun F H x y d e z Q s vx vy eq q => ?_⟩
  unfold dAddL at eq
  split at eq
  · rename_i xs ys
    split at eq
    · rename_i hl
      cases eq
      obtain ⟨a, us, rfl, ha, ta⟩ := vx.lists s
      obtain ⟨b, ws, rfl, hb, tb⟩ := vy.lists s
      refine ⟨a, b, us, ws, rfl, rfl, ha, hb, by rw [ta.length, tb.length]; exact hl, fun p n => ?_⟩
      refine q _ _ _ (.one n) (.lst (.of upd_same) ?_)
      have fr : F p = none := by
        cases e : F p with
        | none => rfl
        | some u => rcases s p u e with z | ⟨_, o, z⟩ <;> (rw [n] at z; cases z)
      exact (ta.append tb).mono (upd_le fr)
    · cases eq
  · cases eq
theorem Sub.none {F H : Hp} (s : Sub F H) {p : Addr} (n : H p = none) : F p = none := by
  cases e : F p with
  | none => rfl
  | some u => rcases s p u e with z | ⟨_, o, z⟩ <;> (rw [n] at z; cases z)
theorem tupQ_ext {K : PySem.W.Frag} {F H : Hp} {xs : List V} {ds : List PyData} {Q : VK} (s : Sub F H) (t : FzA K F xs ds) (q : ∀ v H' F', Ext F H F' H' → Fz K F' v (.tuple ds) → Q v H') : TupQ H xs Q := by
  cases hk : keyAll ds with
  | true => exact .inl fun p n => q _ _ _ (.one n) (.tup (.inl ⟨hk, upd_same⟩) (t.mono (upd_le (s.none n))))
  | false => exact .inr fun p o n hc hd => q _ _ _ (.one n) (.tup (.inr ⟨hk, o, upd_same, hc, hd⟩) (t.mono (upd_le (s.none n))))
theorem tupQ_rel {K : PySem.W.Frag} {bs : List Nat} {ρ : EV} {σ : L2.St} {os : List SV} {vs : List V} {P : Store} {H F : Hp} {ad : List Addr} {xs : List V} {ds : List PyData} {Q : VK} (R : RelX K bs ρ σ os vs P H F ad) (t : FzA K F xs ds)
    (q : ∀ v H', Rel K bs ρ σ (.fz (.tuple ds) :: os) (v :: vs) P H' → Q v H') : TupQ H xs Q := by
  cases hk : keyAll ds with
  | true => exact .inl fun p n => q _ _ ⟨_, ad, (R.lay n).push (show Fz K _ _ _ from .tup (.inl ⟨hk, upd_same⟩) (t.mono (upd_le (R.free n))))⟩
  | false => exact .inr fun p o n hc hd => q _ _ ⟨_, ad, (R.lay n).push (show Fz K _ _ _ from .tup (.inr ⟨hk, o, upd_same, hc, hd⟩) (t.mono (upd_le (R.free n))))⟩
theorem opd_addT : OpD X (binaryOp .Add) dAddT := by
  refine ⟨_, op_catQ, fun F H x y d e z Q s vx vy eq q => ?_⟩
  unfold dAddT at eq
  split at eq
  · rename_i xs ys
    split at eq
    · rename_i hl
      cases eq
      obtain ⟨a, us, rfl, ha, ta, fa⟩ := vx.tups s
      obtain ⟨b, ws, rfl, hb, tb, fb⟩ := vy.tups s
      refine ⟨a, b, us, ws, rfl, rfl, ha.sqT, hb.sqT, by rw [ta.length, tb.length]; exact hl, fun e0 => ?_, fun _ e0 => ?_, fun _ _ => ?_⟩
      · have : xs = [] := List.eq_nil_of_length_eq_zero (by rw [← ta.length, e0]; rfl)
        subst this
        exact q _ _ _ .refl fb
      · have : ys = [] := List.eq_nil_of_length_eq_zero (by rw [← tb.length, e0]; rfl)
        subst this
        rw [List.append_nil] at q
        exact q _ _ _ .refl fa
      · exact tupQ_ext s (ta.append tb) q
    · cases eq
  · cases eq
def dAdd : PyData → PyData → Option PyData := fun d e => (dI (fun i j => some (.int (i + j))) d e).or ((dAddS d e).or ((dAddL d e).or (dAddT d e)))
theorem opd_add : OpD X (binaryOp .Add) dAdd := (opd_int0 op_add fun _ _ _ => .int _).or (opd_addS.or (opd_addL.or opd_addT))
def dSub : PyData → PyData → Option PyData := dI fun i j => some (.int (i - j))
theorem opd_sub : OpD X (binaryOp .Sub) dSub := opd_int0 op_sub fun _ _ _ => .int _
/-- * of ints of which one is below 2 ^ 64 -/
def cMul (i j : Int) : Bool := (decide (-(2 ^ 64) < i) && decide (i < 2 ^ 64)) || (decide (-(2 ^ 64) < j) && decide (j < 2 ^ 64))
def dMulI : PyData → PyData → Option PyData := dIC cMul fun i j => .int (i * j)
theorem opd_mulI : OpD X (binaryOp .Mult) dMulI := opd_int op_mul (fun i j h => by simpa [cMul, CMul] using h) fun _ _ _ => .int _
def cDiv (i j : Int) : Bool := decide (j ≠ 0) && decide (j.natAbs < 1073741824)
def dDiv : PyData → PyData → Option PyData := dIC cDiv fun i j => .int (i.fdiv j)
theorem opd_div : OpD X (binaryOp .FloorDiv) dDiv := opd_int op_fdivN (fun i j h => by simpa [cDiv, CDivN] using h) fun _ _ _ => .int _
def dMod : PyData → PyData → Option PyData := dIC (fun _ j => decide (j ≠ 0)) fun i j => .int (i.fmod j)
theorem opd_mod : OpD X (binaryOp .Mod) dMod := opd_int op_modN (fun i j h => by simpa using h) fun _ _ _ => .int _
def cPow (i j : Int) : Bool := decide (0 ≤ j) && (decide (j ≤ 1000000) && decide (i.natAbs < 2 ^ 64))
def dShl : PyData → PyData → Option PyData := dIC cPow fun i j => .int (i * 2 ^ j.toNat)
theorem opd_shl : OpD X (binaryOp .LShift) dShl := opd_int op_shl (fun i j h => by simpa [cPow, CPow] using h) fun _ _ _ => .int _

/-! ### order -/
def dLt : PyData → PyData → Option PyData := fun d e => (dI (fun i j => some (.bool (decide (i < j)))) d e).or (dS (fun x y => some (.bool (decide (x.cps.toList < y.cps.toList)))) d e)
def dLe : PyData → PyData → Option PyData := fun d e => (dI (fun i j => some (.bool (decide (i ≤ j)))) d e).or (dS (fun x y => some (.bool (!decide (y.cps.toList < x.cps.toList)))) d e)
def dGt : PyData → PyData → Option PyData := fun d e => (dI (fun i j => some (.bool (decide (j < i)))) d e)
def dGe : PyData → PyData → Option PyData := fun d e => (dI (fun i j => some (.bool (decide (j ≤ i)))) d e)
theorem opd_strs {f : Value → Value → Sem Value} {g : Str → Str → V} {g' : Str → Str → PyData} (h : OpR X f (fun x y H Q => ∃ i j, x = .str i ∧ y = .str j ∧ Q (g i j) H)) (hg : ∀ F i j, Fz X.K F (g i j) (g' i j)) : OpD X f (dS fun i j => some (g' i j)) := by
  refine ⟨_, h, fun F H x y d e z Q s vx vy eq q => ?_⟩
  obtain ⟨i, j, rfl, rfl, hz⟩ := dS_some eq
  cases hz
  exact ⟨i, j, vx.strs, vy.strs, q _ _ _ .refl (hg F i j)⟩
theorem opd_lt : OpD X (compareOp .Lt) dLt := (opd_int0 op_lt fun _ _ _ => .bl _).or (opd_strs op_lt_str fun _ _ _ => .bl _)
theorem opd_le : OpD X (compareOp .LtE) dLe := (opd_int0 op_le fun _ _ _ => .bl _).or (opd_strs op_le_str fun _ _ _ => .bl _)
theorem opd_gt : OpD X (compareOp .Gt) dGt := opd_int0 op_gt fun _ _ _ => .bl _
theorem opd_ge : OpD X (compareOp .GtE) dGe := opd_int0 op_ge fun _ _ _ => .bl _

/-! ### ==, is -/
def atom : PyData → Option V
  | .none => some .non
  | .bool b => some (.bl b)
  | .int i => some (.int i)
  | .str x => some (.str x)
  | _ => none
theorem Vw.atom {K : PySem.W.Frag} {F H : Hp} {v w : V} {d : PyData} (h : Vw K F H v d) (e : atom d = some w) : v = w := by
  cases d with
  | none => rw [h.nons]; exact Option.some.inj e
  | bool b => rw [h.bls]; exact Option.some.inj e
  | int i => rw [h.ints]; exact Option.some.inj e
  | str x => rw [h.strs]; exact Option.some.inj e
  | list _ => cases e
  | tuple _ => cases e
  | dict _ => cases e
def dEqA (n : Bool) : PyData → PyData → Option PyData := fun d e => match atom d, atom e with
  | some x, some y => if scal x y = true then some (.bool (n != decide (x = y))) else none
  | _, _ => none
def dEqD (n : Bool) : PyData → PyData → Option PyData := fun d e => if SeqAt.shaped d = true ∧ SeqAt.shaped e = true then some (.bool (n != PyData.eqv d e)) else none
def dEq : PyData → PyData → Option PyData := fun d e => (dEqA false d e).or (dEqD false d e)
def dNe : PyData → PyData → Option PyData := fun d e => (dEqA true d e).or (dEqD true d e)
theorem opd_eqA : OpD X (compareOp .Eq) (dEqA false) := by
  refine ⟨_, op_eq, fun F H x y d e z Q s vx vy eq q => ?_⟩
  unfold dEqA at eq
  split at eq
  · rename_i u w h1 h2
    split at eq
    · rename_i hs
      cases eq
      have e1 := vx.atom h1
      have e2 := vy.atom h2
      subst e1; subst e2
      exact ⟨hs, q _ _ _ .refl (by simpa using Fz.bl _)⟩
    · cases eq
  · cases eq
theorem opd_neA : OpD X (compareOp .NotEq) (dEqA true) := by
  refine ⟨_, op_ne, fun F H x y d e z Q s vx vy eq q => ?_⟩
  unfold dEqA at eq
  split at eq
  · rename_i u w h1 h2
    split at eq
    · rename_i hs
      cases eq
      have e1 := vx.atom h1
      have e2 := vy.atom h2
      subst e1; subst e2
      exact ⟨hs, q _ _ _ .refl (by simpa using Fz.bl _)⟩
    · cases eq
  · cases eq
theorem shaped_lay {d : PyData} (h : SeqAt.shaped d = true) : d.canLay0 = true := SeqAt.canLay_of_shaped h
theorem opd_eqD (hu : X.A.units + 65 < cLine) : OpD X (compareOp .Eq) (dEqD false) := by
  refine ⟨_, op_eqD (by omega), fun F H x y d e z Q s vx vy eq q => ?_⟩
  unfold dEqD at eq
  split at eq
  · rename_i h
    cases eq
    exact ⟨d, e, vx.dp s (shaped_lay h.1), vy.dp s (shaped_lay h.2), h.1, h.2, q _ _ _ .refl (by simpa using Fz.bl _)⟩
  · cases eq
theorem opd_neD (hu : X.A.units + 65 < cLine) : OpD X (compareOp .NotEq) (dEqD true) := by
  refine ⟨_, op_neD (by omega), fun F H x y d e z Q s vx vy eq q => ?_⟩
  unfold dEqD at eq
  split at eq
  · rename_i h
    cases eq
    exact ⟨d, e, vx.dp s (shaped_lay h.1), vy.dp s (shaped_lay h.2), h.1, h.2, q _ _ _ .refl (by simpa using Fz.bl _)⟩
  · cases eq
theorem opd_eq (hu : X.A.units + 65 < cLine) : OpD X (compareOp .Eq) dEq := opd_eqA.or (opd_eqD hu)
theorem opd_ne (hu : X.A.units + 65 < cLine) : OpD X (compareOp .NotEq) dNe := opd_neA.or (opd_neD hu)
def isNon : PyData → Bool
  | .none => true
  | _ => false
def dIs (n : Bool) : PyData → PyData → Option PyData
  | d, .none => some (.bool (n != isNon d))
  | .bool a, .bool b => some (.bool (n != decide (a = b)))
  | _, _ => none
theorem Fz.isNon {K : PySem.W.Frag} {F : Hp} {v : V} {d : PyData} (h : Fz K F v d) : decide (v = .non) = isNon d := by cases h <;> simp [Pd.isNon]
theorem Vw.isNon {K : PySem.W.Frag} {F H : Hp} {v : V} {d : PyData} (h : Vw K F H v d) : decide (v = .non) = Pd.isNon d := by
  cases h with
  | fz h => exact h.isNon
  | lst => simp [Pd.isNon]
  | dK => simp [Pd.isNon]
  | dT => simp [Pd.isNon]
theorem opd_is : OpD X (compareOp .Is) (dIs false) := by
  refine ⟨_, op_isN.or op_is_bl, fun F H x y d e z Q s vx vy eq q => ?_⟩
  unfold dIs at eq
  split at eq
  · cases eq
    refine .inl ⟨vy.nons, ?_⟩
    rw [vx.isNon]
    exact q _ _ _ .refl (by simpa using Fz.bl _)
  · cases eq
    exact .inr ⟨_, _, vx.bls, vy.bls, q _ _ _ .refl (by simpa using Fz.bl _)⟩
  · cases eq
theorem opd_isnot : OpD X (compareOp .IsNot) (dIs true) := by
  refine ⟨_, op_notN.or op_isnot_bl, fun F H x y d e z Q s vx vy eq q => ?_⟩
  unfold dIs at eq
  split at eq
  · cases eq
    refine .inl ⟨vy.nons, ?_⟩
    rw [vx.isNon]
    exact q _ _ _ .refl (by simpa using Fz.bl _)
  · cases eq
    exact .inr ⟨_, _, vx.bls, vy.bls, q _ _ _ .refl (by simpa using Fz.bl _)⟩
  · cases eq

/-! ### in -/
/-- an item of a list or tuple of data; a part of a text; a key of a dict -/
def dInS (n : Bool) : PyData → PyData → Option PyData
  | d, .list ds => if SeqAt.shaped d = true ∧ SeqAt.shaped (.list ds) = true then some (.bool (n != ds.any fun y => PyData.eqv y d)) else none
  | d, .tuple ds => if SeqAt.shaped d = true ∧ SeqAt.shaped (.tuple ds) = true then some (.bool (n != ds.any fun y => PyData.eqv y d)) else none
  | .str x, .str y => some (.bool (n != !(Builtin.Str.occurrences y x 0 y.length 1).isEmpty))
  | _, _ => none
def rInTD (K : PySem.W.Frag) (neg : Bool) : R2 := fun x y H Q => ∃ (d : PyData) (ds : List PyData), Dp K H x d ∧ Dp K H y (.tuple ds) ∧ SeqAt.shaped d = true ∧ SeqAt.shaped (.tuple ds) = true ∧ Q (.bl (neg != ds.any fun z => PyData.eqv z d)) H
theorem roomT {A : Around} {ds : List PyData} {d : PyData} (sd : SeqAt.shaped d = true) (hu : A.units + 65 < cLine) : A.units + 1 + min (PyData.depthAll ds) d.depth < cLine := by
  have h : d.depth ≤ 64 := by
    have := (Bool.and_eq_true_iff.mp sd).2
    simpa using this
  omega
theorem op_inTD (hu : X.A.units + 65 < cLine) : OpR X (compareOp .In) (rInTD X.K false) := by
  intro pins s σ H x y v u Q I rx ry h
  obtain ⟨d, ds, hd, he, sd, se, q⟩ := h
  obtain ⟨as, r1⟩ := Dp.reads I d x v hd rx
  obtain ⟨bs, r2⟩ := Dp.reads I (.tuple ds) y u he ry
  exact SeqAt.in_tuple_reads r2 r1 (by simpa [PyData.canLay0] using SeqAt.canLay_of_shaped se) (SeqAt.canLay_of_shaped sd) (roomT sd hu) ⟨.bl _, H, I, rfl, by simpa using q⟩
theorem op_notInTD (hu : X.A.units + 65 < cLine) : OpR X (compareOp .NotIn) (rInTD X.K true) := by
  intro pins s σ H x y v u Q I rx ry h
  obtain ⟨d, ds, hd, he, sd, se, q⟩ := h
  obtain ⟨as, r1⟩ := Dp.reads I d x v hd rx
  obtain ⟨bs, r2⟩ := Dp.reads I (.tuple ds) y u he ry
  exact SeqAt.notIn_tuple_reads r2 r1 (by simpa [PyData.canLay0] using SeqAt.canLay_of_shaped se) (SeqAt.canLay_of_shaped sd) (roomT sd hu) ⟨.bl _, H, I, rfl, by simpa using q⟩
theorem opd_in (hu : X.A.units + 65 < cLine) : OpD X (compareOp .In) (dInS false) := by
  refine ⟨_, (op_inD hu).or ((op_inTD hu).or op_in_str), fun F H x y d e z Q s vx vy eq q => ?_⟩
  unfold dInS at eq
  split at eq
  · split at eq
    · rename_i h
      cases eq
      exact .inl ⟨_, _, vx.dp s (shaped_lay h.1), vy.dp s (shaped_lay h.2), h.1, h.2, q _ _ _ .refl (by simpa using Fz.bl _)⟩
    · cases eq
  · split at eq
    · rename_i h
      cases eq
      exact .inr (.inl ⟨_, _, vx.dp s (shaped_lay h.1), vy.dp s (shaped_lay h.2), h.1, h.2, q _ _ _ .refl (by simpa using Fz.bl _)⟩)
    · cases eq
  · cases eq
    exact .inr (.inr ⟨_, _, vx.strs, vy.strs, q _ _ _ .refl (by simpa using Fz.bl _)⟩)
  · cases eq
theorem opd_notin (hu : X.A.units + 65 < cLine) : OpD X (compareOp .NotIn) (dInS true) := by
  refine ⟨_, (op_notInD hu).or ((op_notInTD hu).or L2.op_notin_str), fun F H x y d e z Q s vx vy eq q => ?_⟩
  unfold dInS at eq
  split at eq
  · split at eq
    · rename_i h
      cases eq
      exact .inl ⟨_, _, vx.dp s (shaped_lay h.1), vy.dp s (shaped_lay h.2), h.1, h.2, q _ _ _ .refl (by simpa using Fz.bl _)⟩
    · cases eq
  · split at eq
    · rename_i h
      cases eq
      exact .inr (.inl ⟨_, _, vx.dp s (shaped_lay h.1), vy.dp s (shaped_lay h.2), h.1, h.2, q _ _ _ .refl (by simpa using Fz.bl _)⟩)
    · cases eq
  · cases eq
    exact .inr (.inr ⟨_, _, vx.strs, vy.strs, q _ _ _ .refl (by simpa using Fz.bl _)⟩)
  · cases eq

/-! ### an item -/
def dIx : PyData → PyData → Option PyData
  | .list ds, .int i => atI ds i
  | .tuple ds, .int i => atI ds i
  | .str z, .int i => if z.length ≤ sizeLine then (atI z.cps.toList i).map fun c => .str ⟨#[c]⟩ else none
  | _, _ => none
theorem FzA.atI {K : PySem.W.Frag} {F : Hp} {vs : List V} {ds : List PyData} {i : Int} {d : PyData} (h : FzA K F vs ds) (e : L2.atI ds i = some d) : ∃ v, L2.atI vs i = some v ∧ Fz K F v d := by
  unfold L2.atI at e ⊢
  rw [h.length]
  cases hn : ixN ds.length i with
  | none => rw [hn] at e; cases e
  | some j =>
    rw [hn] at e
    exact h.getD e
def IxD (X : Cx) (g : PyData → PyData → Option PyData) : Prop := ∃ r, IxR X r ∧ ∀ (F H : Hp) (x y : V) (d e z : PyData) (Q : VK), Sub F H → Vw X.K F H x d → Vw X.K F H y e → g d e = some z →
  (∀ v H' F', Ext F H F' H' → Fz X.K F' v z → Q v H') → r x y H Q
theorem ixd_seq : IxD X dIx := by
  refine ⟨_, ix_seq, fun F H x y d e z Q s vx vy eq q => ?_⟩
  unfold dIx at eq
  split at eq
  · obtain ⟨a, us, rfl, ha, ta⟩ := vx.lists s
    obtain ⟨v, hv, fv⟩ := ta.atI eq
    exact .inl ⟨a, us, _, v, rfl, vy.ints, ha, hv, q _ _ _ .refl fv⟩
  · obtain ⟨a, us, rfl, ha, ta, _⟩ := vx.tups s
    obtain ⟨v, hv, fv⟩ := ta.atI eq
    exact .inr (.inl ⟨a, us, _, v, rfl, vy.ints, ha.sqT, hv, q _ _ _ .refl fv⟩)
  · split at eq
    · rename_i hl
      simp only [Option.map_eq_some_iff] at eq
      obtain ⟨c, hc, rfl⟩ := eq
      exact .inr (.inr ⟨_, _, c, vx.strs, vy.ints, hl, hc, q _ _ _ .refl (.str _)⟩)
    · cases eq
  · cases eq
theorem ped_ix {a b : Expr} {g : PyData → PyData → Option PyData} {f1 f2 : XM} {pos : Pos} (ho : IxD X g) (ha : PEd X a f1) (hb : PEd X b f2) (hs : PlainIx b) : PEd X (.Subscript a b pos) (mBin g f1 f2) := by
  obtain ⟨r, h, hr⟩ := ho
  obtain ⟨t1, p1, h1⟩ := ha
  obtain ⟨t2, p2, h2⟩ := hb
  exact ⟨_, pe_ix h p1 p2 hs, bin_d (a := a) (b := b) (f := fun x y => getItem x y) hr h1 h2⟩

/-! ### one-place operations -/
def mUn (g : PyData → Option PyData) (f : XM) : XM := fun ρ P => (f ρ P).bind fun (a, P1) => (flat P1 a).bind fun d => (g d).map fun z => (.fz z, P1)
def dNeg : PyData → Option PyData
  | .int i => some (.int (-i))
  | _ => none
theorem ped_neg {a : Expr} {f : XM} {pos : Pos} (ha : PEd X a f) : PEd X (.UnaryOp .USub a pos) (mUn dNeg f) := by
  obtain ⟨t1, p1, h1⟩ := ha
  refine ⟨_, pe_un un_neg p1, fun bs ρ σ os vs P H Q r P' R e q => ?_⟩
  simp only [mUn, Option.bind_eq_some_iff, Option.map_eq_some_iff, Prod.mk.injEq] at e
  obtain ⟨⟨s1, P1⟩, e1, d1, e3, z, e5, rfl, rfl⟩ := e
  refine h1 bs ρ σ os vs P H _ s1 P1 R e1 fun x H1 R1 => ?_
  obtain ⟨F, ad, R1⟩ := R1
  obtain ⟨r1, R1⟩ := R1.pop
  have vw := R1.view r1 e3
  unfold dNeg at e5
  split at e5
  · cases e5
    exact ⟨_, vw.ints, q _ _ (R1.atom (.int _))⟩
  · cases e5

/-! ### conditions -/
def mTB (f : XM) : BM := fun ρ P => (f ρ P).bind fun (a, P1) => match a with
  | .fz (.bool b) => some (b, P1)
  | _ => none
/-- an expression whose value is True or False -/
theorem ptd_val {e : Expr} {f : XM} (h : PEd X e f) (he : ∀ whole, isTrue e X.env whole = (do let v ← whole; standAt e.pos; holding [v] (truthy v)) := by intro _; rfl) : PTd X e (mTB f) := by
  obtain ⟨t, p, h1⟩ := h
  refine ⟨_, pt_val p he, fun bs ρ σ os vs P H Q r P' R e q => ?_⟩
  simp only [mTB, Option.bind_eq_some_iff] at e
  obtain ⟨⟨s1, P1⟩, e1, e2⟩ := e
  refine h1 bs ρ σ os vs P H _ s1 P1 R e1 fun x H1 R1 => ?_
  simp only at e2
  split at e2
  · cases e2
    obtain ⟨F, ad, R0⟩ := R1
    obtain ⟨r1, R2⟩ := R0.pop
    cases r1
    exact ⟨_, rfl, q _ ⟨F, ad, R2⟩⟩
  · cases e2
theorem ptd_cmp {a b : Expr} {op : CmpOp} {g : PyData → PyData → Option PyData} {f1 f2 : XM} {pos : Pos} (ho : OpD X (compareOp op) g) (ha : PEd X a f1) (hb : PEd X b f2) (hm : behindInMarks op b = false) : PTd X (.Compare a [op] [b] pos) (mTB (mBin g f1 f2)) := by
  obtain ⟨r, h, hr⟩ := ho
  obtain ⟨t1, p1, h1⟩ := ha
  obtain ⟨t2, p2, h2⟩ := hb
  refine ⟨_, pt_cmpR h p1 p2 hm, fun bs ρ σ os vs P H Q w P' R e q => ?_⟩
  simp only [mTB, Option.bind_eq_some_iff] at e
  obtain ⟨⟨s1, P1⟩, e1, e2⟩ := e
  refine bin_d (a := a) (b := b) (f := compareOp op) hr h1 h2 bs ρ σ os vs P H _ s1 P1 R e1 fun x H1 R1 => ?_
  simp only at e2
  split at e2
  · cases e2
    obtain ⟨F, ad, R0⟩ := R1
    obtain ⟨r1, R2⟩ := R0.pop
    cases r1
    exact ⟨_, rfl, q _ ⟨F, ad, R2⟩⟩
  · cases e2
def mNotB (f : BM) : BM := fun ρ P => (f ρ P).map fun (a, P1) => (!a, P1)
def mAndB (f g : BM) : BM := fun ρ P => (f ρ P).bind fun (a, P1) => if a = true then g ρ P1 else some (false, P1)
def mOrB (f g : BM) : BM := fun ρ P => (f ρ P).bind fun (a, P1) => if a = true then some (true, P1) else g ρ P1
theorem ptd_not {a : Expr} {f : BM} {pos : Pos} (h : PTd X a f) : PTd X (.UnaryOp .Not a pos) (mNotB f) := by
  obtain ⟨t, p, h1⟩ := h
  refine ⟨_, pt_not p, fun bs ρ σ os vs P H Q r P' R e q => ?_⟩
  simp only [mNotB, Option.map_eq_some_iff, Prod.mk.injEq] at e
  obtain ⟨⟨s1, P1⟩, e1, rfl, rfl⟩ := e
  exact h1 bs ρ σ os vs P H _ s1 P1 R e1 fun H1 R1 => q _ R1
/-- a chain of and, of or, as a test -/
def PWd (X : Cx) (e : Expr) (f : BM) : Prop := ∃ t, PW X e t ∧ ∀ (bs : List Nat) (ρ : EV) (σ : L2.St) (os : List SV) (vs : List V) (P : Store) (H : Hp) (Q : Bool → Hp → Prop) (r : Bool) (P' : Store), Rel X.K bs ρ σ os vs P H → f ρ P = some (r, P') →
  (∀ H', Rel X.K bs ρ σ os vs P' H' → Q r H') → t σ H Q
theorem PWd.pt {e : Expr} {f : BM} (h : PWd X e f) : PTd X e f := let ⟨t, p, q⟩ := h; ⟨t, p.pt, q⟩
theorem pwd_and1 {a : Expr} {f : BM} {pos : Pos} (h : PTd X a f) : PWd X (.BoolOp .And [a] pos) f := let ⟨t, p, q⟩ := h; ⟨t, pw_and1 p, q⟩
theorem pwd_or1 {a : Expr} {f : BM} {pos : Pos} (h : PTd X a f) : PWd X (.BoolOp .Or [a] pos) f := let ⟨t, p, q⟩ := h; ⟨t, pw_or1 p, q⟩
theorem and_d {f g : BM} {t u : TT}
    (h1 : ∀ (bs : List Nat) (ρ : EV) (σ : L2.St) (os : List SV) (vs : List V) (P : Store) (H : Hp) (Q : Bool → Hp → Prop) (r : Bool) (P' : Store), Rel X.K bs ρ σ os vs P H → f ρ P = some (r, P') → (∀ H', Rel X.K bs ρ σ os vs P' H' → Q r H') → t σ H Q)
    (h2 : ∀ (bs : List Nat) (ρ : EV) (σ : L2.St) (os : List SV) (vs : List V) (P : Store) (H : Hp) (Q : Bool → Hp → Prop) (r : Bool) (P' : Store), Rel X.K bs ρ σ os vs P H → g ρ P = some (r, P') → (∀ H', Rel X.K bs ρ σ os vs P' H' → Q r H') → u σ H Q)
    (bs : List Nat) (ρ : EV) (σ : L2.St) (os : List SV) (vs : List V) (P : Store) (H : Hp) (Q : Bool → Hp → Prop) (r : Bool) (P' : Store) (R : Rel X.K bs ρ σ os vs P H) (e : mAndB f g ρ P = some (r, P')) (q : ∀ H', Rel X.K bs ρ σ os vs P' H' → Q r H') : tAnd t u σ H Q := by
  simp only [mAndB, Option.bind_eq_some_iff] at e
  obtain ⟨⟨s1, P1⟩, e1, e2⟩ := e
  refine h1 bs ρ σ os vs P H _ s1 P1 R e1 fun H1 R1 => ?_
  simp only at e2
  cases s1 with
  | true =>
    rw [if_pos rfl] at e2 ⊢
    exact h2 bs ρ σ os vs P1 H1 _ r P' R1 e2 q
  | false =>
    rw [if_neg Bool.false_ne_true] at e2 ⊢
    cases e2
    exact q _ R1
theorem or_d {f g : BM} {t u : TT}
    (h1 : ∀ (bs : List Nat) (ρ : EV) (σ : L2.St) (os : List SV) (vs : List V) (P : Store) (H : Hp) (Q : Bool → Hp → Prop) (r : Bool) (P' : Store), Rel X.K bs ρ σ os vs P H → f ρ P = some (r, P') → (∀ H', Rel X.K bs ρ σ os vs P' H' → Q r H') → t σ H Q)
    (h2 : ∀ (bs : List Nat) (ρ : EV) (σ : L2.St) (os : List SV) (vs : List V) (P : Store) (H : Hp) (Q : Bool → Hp → Prop) (r : Bool) (P' : Store), Rel X.K bs ρ σ os vs P H → g ρ P = some (r, P') → (∀ H', Rel X.K bs ρ σ os vs P' H' → Q r H') → u σ H Q)
    (bs : List Nat) (ρ : EV) (σ : L2.St) (os : List SV) (vs : List V) (P : Store) (H : Hp) (Q : Bool → Hp → Prop) (r : Bool) (P' : Store) (R : Rel X.K bs ρ σ os vs P H) (e : mOrB f g ρ P = some (r, P')) (q : ∀ H', Rel X.K bs ρ σ os vs P' H' → Q r H') : tOr t u σ H Q := by
  simp only [mOrB, Option.bind_eq_some_iff] at e
  obtain ⟨⟨s1, P1⟩, e1, e2⟩ := e
  refine h1 bs ρ σ os vs P H _ s1 P1 R e1 fun H1 R1 => ?_
  simp only at e2
  cases s1 with
  | false =>
    rw [if_neg Bool.false_ne_true] at e2 ⊢
    exact h2 bs ρ σ os vs P1 H1 _ r P' R1 e2 q
  | true =>
    rw [if_pos rfl] at e2 ⊢
    cases e2
    exact q _ R1
theorem pwd_and {a b : Expr} {rest : List Expr} {f g : BM} {pos : Pos} (h : PTd X a f) (h' : PWd X (.BoolOp .And (b :: rest) pos) g) : PWd X (.BoolOp .And (a :: b :: rest) pos) (mAndB f g) := by
  obtain ⟨t, p, h1⟩ := h
  obtain ⟨u, p', h2⟩ := h'
  exact ⟨_, pw_and p p', and_d h1 h2⟩
theorem pwd_or {a b : Expr} {rest : List Expr} {f g : BM} {pos : Pos} (h : PTd X a f) (h' : PWd X (.BoolOp .Or (b :: rest) pos) g) : PWd X (.BoolOp .Or (a :: b :: rest) pos) (mOrB f g) := by
  obtain ⟨t, p, h1⟩ := h
  obtain ⟨u, p', h2⟩ := h'
  exact ⟨_, pw_or p p', or_d h1 h2⟩
/-- .. as values (bools) -/
def mAndV (f g : XM) : XM := fun ρ P => (f ρ P).bind fun (a, P1) => match a with
  | .fz (.bool true) => g ρ P1
  | .fz (.bool false) => some (.fz (.bool false), P1)
  | _ => none
def mOrV (f g : XM) : XM := fun ρ P => (f ρ P).bind fun (a, P1) => match a with
  | .fz (.bool false) => g ρ P1
  | .fz (.bool true) => some (.fz (.bool true), P1)
  | _ => none
def mNotV (f : XM) : XM := fun ρ P => (f ρ P).bind fun (a, P1) => match a with
  | .fz (.bool b) => some (.fz (.bool (!b)), P1)
  | _ => none
theorem ped_one {op} {a : Expr} {f : XM} {pos : Pos} (h : PEd X a f) : PEd X (.BoolOp op [a] pos) f := let ⟨t, p, q⟩ := h; ⟨t, pe_one p, q⟩
theorem ped_and {a b : Expr} {rest : List Expr} {f g : XM} {pos : Pos} (h : PEd X a f) (h' : PEd X (.BoolOp .And (b :: rest) pos) g) : PEd X (.BoolOp .And (a :: b :: rest) pos) (mAndV f g) := by
  obtain ⟨t, p, h1⟩ := h
  obtain ⟨u, p', h2⟩ := h'
  refine ⟨_, pe_and p p', fun bs ρ σ os vs P H Q r P' R e q => ?_⟩
  simp only [mAndV, Option.bind_eq_some_iff] at e
  obtain ⟨⟨s1, P1⟩, e1, e2⟩ := e
  refine h1 bs ρ σ os vs P H _ s1 P1 R e1 fun x H1 R1 => ?_
  simp only at e2
  obtain ⟨F, ad, R0⟩ := R1
  obtain ⟨r1, R2⟩ := R0.pop
  split at e2
  · cases r1
    exact ⟨true, rfl, by rw [if_pos rfl]; exact h2 bs ρ σ os vs P1 H1 _ r P' ⟨F, ad, R2⟩ e2 q⟩
  · cases r1
    cases e2
    exact ⟨false, rfl, by rw [if_neg Bool.false_ne_true]; exact q _ _ (R2.atom (.bl _))⟩
  · cases e2
theorem ped_or {a b : Expr} {rest : List Expr} {f g : XM} {pos : Pos} (h : PEd X a f) (h' : PEd X (.BoolOp .Or (b :: rest) pos) g) : PEd X (.BoolOp .Or (a :: b :: rest) pos) (mOrV f g) := by
  obtain ⟨t, p, h1⟩ := h
  obtain ⟨u, p', h2⟩ := h'
  refine ⟨_, pe_or p p', fun bs ρ σ os vs P H Q r P' R e q => ?_⟩
  simp only [mOrV, Option.bind_eq_some_iff] at e
  obtain ⟨⟨s1, P1⟩, e1, e2⟩ := e
  refine h1 bs ρ σ os vs P H _ s1 P1 R e1 fun x H1 R1 => ?_
  simp only at e2
  obtain ⟨F, ad, R0⟩ := R1
  obtain ⟨r1, R2⟩ := R0.pop
  split at e2
  · cases r1
    exact ⟨false, rfl, by rw [if_neg Bool.false_ne_true]; exact h2 bs ρ σ os vs P1 H1 _ r P' ⟨F, ad, R2⟩ e2 q⟩
  · cases r1
    cases e2
    exact ⟨true, rfl, by rw [if_pos rfl]; exact q _ _ (R2.atom (.bl _))⟩
  · cases e2
theorem ped_not {a : Expr} {f : XM} {pos : Pos} (h : PEd X a f) : PEd X (.UnaryOp .Not a pos) (mNotV f) := by
  obtain ⟨t, p, h1⟩ := h
  refine ⟨_, pe_not p, fun bs ρ σ os vs P H Q r P' R e q => ?_⟩
  simp only [mNotV, Option.bind_eq_some_iff] at e
  obtain ⟨⟨s1, P1⟩, e1, e2⟩ := e
  refine h1 bs ρ σ os vs P H _ s1 P1 R e1 fun x H1 R1 => ?_
  simp only at e2
  obtain ⟨F, ad, R0⟩ := R1
  obtain ⟨r1, R2⟩ := R0.pop
  split at e2
  · cases r1
    cases e2
    exact ⟨_, rfl, q _ _ (R2.atom (.bl _))⟩
  · cases e2
def mIfE (c : BM) (f g : XM) : XM := fun ρ P => (c ρ P).bind fun (b, P1) => if b = true then f ρ P1 else g ρ P1
theorem ped_if {c a b : Expr} {fc : BM} {f g : XM} {pos : Pos} (hc : PTd X c fc) (ha : PEd X a f) (hb : PEd X b g) : PEd X (.IfExp c a b pos) (mIfE fc f g) := by
  obtain ⟨t0, p0, h0⟩ := hc
  obtain ⟨t, p, h1⟩ := ha
  obtain ⟨u, p', h2⟩ := hb
  refine ⟨_, pe_ifExp p0 p p', fun bs ρ σ os vs P H Q r P' R e q => ?_⟩
  simp only [mIfE, Option.bind_eq_some_iff] at e
  obtain ⟨⟨s1, P1⟩, e1, e2⟩ := e
  refine h0 bs ρ σ os vs P H _ s1 P1 R e1 fun H1 R1 => ?_
  simp only at e2
  cases s1 with
  | true => rw [if_pos rfl] at e2 ⊢; exact h1 bs ρ σ os vs P1 H1 _ r P' R1 e2 q
  | false => rw [if_neg Bool.false_ne_true] at e2 ⊢; exact h2 bs ρ σ os vs P1 H1 _ r P' R1 e2 q
/-- a < b < c -/
def mChain (g g' : PyData → PyData → Option PyData) (f1 f2 f3 : XM) : XM := fun ρ P => (f1 ρ P).bind fun (a, P1) => (f2 ρ P1).bind fun (b, P2) => (flat P2 a).bind fun d => (flat P2 b).bind fun e => (g d e).bind fun z => match z with
  | .bool true => (f3 ρ P2).bind fun (c, P3) => (flat P3 b).bind fun e' => (flat P3 c).bind fun k => (g' e' k).map fun z' => (.fz z', P3)
  | .bool false => some (.fz (.bool false), P2)
  | _ => none
theorem chain_d {g g' : PyData → PyData → Option PyData} {f1 f2 f3 : XM} {t1 t2 t3 : TE} {r r' : R2}
    (hr : ∀ (F H : Hp) (x y : V) (d e z : PyData) (Q : VK), Sub F H → Vw X.K F H x d → Vw X.K F H y e → g d e = some z → (∀ v H' F', Ext F H F' H' → Fz X.K F' v z → Q v H') → r x y H Q)
    (hr' : ∀ (F H : Hp) (x y : V) (d e z : PyData) (Q : VK), Sub F H → Vw X.K F H x d → Vw X.K F H y e → g' d e = some z → (∀ v H' F', Ext F H F' H' → Fz X.K F' v z → Q v H') → r' x y H Q)
    (h1 : ∀ (bs : List Nat) (ρ : EV) (σ : L2.St) (os : List SV) (vs : List V) (P : Store) (H : Hp) (Q : VK) (r : SV) (P' : Store), Rel X.K bs ρ σ os vs P H → f1 ρ P = some (r, P') → (∀ v H', Rel X.K bs ρ σ (r :: os) (v :: vs) P' H' → Q v H') → t1 σ H Q)
    (h2 : ∀ (bs : List Nat) (ρ : EV) (σ : L2.St) (os : List SV) (vs : List V) (P : Store) (H : Hp) (Q : VK) (r : SV) (P' : Store), Rel X.K bs ρ σ os vs P H → f2 ρ P = some (r, P') → (∀ v H', Rel X.K bs ρ σ (r :: os) (v :: vs) P' H' → Q v H') → t2 σ H Q)
    (h3 : ∀ (bs : List Nat) (ρ : EV) (σ : L2.St) (os : List SV) (vs : List V) (P : Store) (H : Hp) (Q : VK) (r : SV) (P' : Store), Rel X.K bs ρ σ os vs P H → f3 ρ P = some (r, P') → (∀ v H', Rel X.K bs ρ σ (r :: os) (v :: vs) P' H' → Q v H') → t3 σ H Q)
    (bs : List Nat) (ρ : EV) (σ : L2.St) (os : List SV) (vs : List V) (P : Store) (H : Hp) (Q : VK) (w : SV) (P' : Store) (R : Rel X.K bs ρ σ os vs P H) (e : mChain g g' f1 f2 f3 ρ P = some (w, P'))
    (q : ∀ v H', Rel X.K bs ρ σ (w :: os) (v :: vs) P' H' → Q v H') : tChain r r' t1 t2 t3 σ H Q := by
  simp only [mChain, Option.bind_eq_some_iff] at e
  obtain ⟨⟨s1, P1⟩, e1, ⟨s2, P2⟩, e2, d1, e3, d2, e4, z, e5, e6⟩ := e
  refine h1 bs ρ σ os vs P H _ s1 P1 R e1 fun x H1 R1 => ?_
  refine h2 bs ρ σ _ _ P1 H1 _ s2 P2 R1 e2 fun y H2 R2 => ?_
  obtain ⟨F, ad, R2⟩ := R2
  obtain ⟨r2, R3⟩ := R2.pop
  obtain ⟨r1, R4⟩ := R3.pop
  refine hr F H2 x y d1 d2 z _ R2.sub (R2.view r1 e3) (R2.view r2 e4) e5 fun v H' F' xx f => ?_
  simp only at e6
  split at e6
  · cases f
    refine ⟨true, rfl, ?_⟩
    rw [if_pos rfl]
    simp only [Option.bind_eq_some_iff, Option.map_eq_some_iff, Prod.mk.injEq] at e6
    obtain ⟨⟨s3, P3⟩, e7, d3, e8, d4, e9, z', e10, rfl, rfl⟩ := e6
    refine h3 bs ρ σ _ _ P2 H' _ s3 P3 ⟨F', ad, R2.ext xx⟩ e7 fun y3 H3 R5 => ?_
    obtain ⟨F3, ad3, R5⟩ := R5
    obtain ⟨r3, R6⟩ := R5.pop
    obtain ⟨r4, R7⟩ := R6.pop
    obtain ⟨_, R8⟩ := R7.pop
    exact hr' F3 H3 y y3 d3 d4 z' _ R5.sub (R5.view r4 e8) (R5.view r3 e9) e10 fun v H' F' x f => q v H' ((R8.ext x).atom f)
  · cases f
    refine ⟨false, rfl, ?_⟩
    rw [if_neg Bool.false_ne_true]
    cases e6
    exact q _ _ ((R4.ext xx).atom (.bl _))
  · cases e6
theorem ped_chain {a b c : Expr} {op op' : CmpOp} {g g' : PyData → PyData → Option PyData} {f1 f2 f3 : XM} {pos : Pos} (ho : OpD X (compareOp op) g) (ho' : OpD X (compareOp op') g') (ha : PEd X a f1) (hb : PEd X b f2) (hc : PEd X c f3)
    (hm : lastMarks [op, op'] [b, c] = false := by with_unfolding_all rfl) : PEd X (.Compare a [op, op'] [b, c] pos) (mChain g g' f1 f2 f3) := by
  obtain ⟨r, h, hr⟩ := ho
  obtain ⟨r', h', hr'⟩ := ho'
  obtain ⟨t1, p1, h1⟩ := ha
  obtain ⟨t2, p2, h2⟩ := hb
  obtain ⟨t3, p3, h3⟩ := hc
  exact ⟨_, pe_chain h h' p1 p2 p3 hm, chain_d hr hr' h1 h2 h3⟩
theorem ptd_chain {a b c : Expr} {op op' : CmpOp} {g g' : PyData → PyData → Option PyData} {f1 f2 f3 : XM} {pos : Pos} (ho : OpD X (compareOp op) g) (ho' : OpD X (compareOp op') g') (ha : PEd X a f1) (hb : PEd X b f2) (hc : PEd X c f3)
    (hm : lastMarks [op, op'] [b, c] = false := by with_unfolding_all rfl) : PTd X (.Compare a [op, op'] [b, c] pos) (mTB (mChain g g' f1 f2 f3)) := by
  obtain ⟨r, h, hr⟩ := ho
  obtain ⟨r', h', hr'⟩ := ho'
  obtain ⟨t1, p1, h1⟩ := ha
  obtain ⟨t2, p2, h2⟩ := hb
  obtain ⟨t3, p3, h3⟩ := hc
  refine ⟨_, pt_chain h h' p1 p2 p3 hm, fun bs ρ σ os vs P H Q w P' R e q => ?_⟩
  simp only [mTB, Option.bind_eq_some_iff] at e
  obtain ⟨⟨s1, P1⟩, e1, e2⟩ := e
  refine chain_d hr hr' h1 h2 h3 bs ρ σ os vs P H _ s1 P1 R e1 fun x H1 R1 => ?_
  simp only at e2
  split at e2
  · cases e2
    obtain ⟨F, ad, R0⟩ := R1
    obtain ⟨r1, R2⟩ := R0.pop
    cases r1
    exact ⟨_, rfl, q _ ⟨F, ad, R2⟩⟩
  · cases e2
end
end Pd

set_option Elab.async false
set_option linter.all false
set_option maxRecDepth 100000
set_option maxHeartbeats 1000000
/-! The layer Pd, part D: arguments, displays, built-in calls, slices. -/
namespace Pd
open PySem PySem.Spec PyProof.Rows L2
section
variable {X : Cx} {pos : Pos}

/-- the value is frozen -/
def mFz (f : XM) : XM := fun ρ P => (f ρ P).bind fun (a, P1) => (frz P1 a).map fun (d, P2) => (.fz d, P2)
theorem ped_fz {e : Expr} {f : XM} (h : PEd X e f) : PEd X e (mFz f) := by
  obtain ⟨t, p, h1⟩ := h
  refine ⟨t, p, fun bs ρ σ os vs P H Q r P' R e q => ?_⟩
  simp only [mFz, Option.bind_eq_some_iff, Option.map_eq_some_iff, Prod.mk.injEq] at e
  obtain ⟨⟨s1, P1⟩, e1, ⟨d, P2⟩, e2, rfl, rfl⟩ := e
  refine h1 bs ρ σ os vs P H _ s1 P1 R e1 fun x H1 R1 => ?_
  obtain ⟨F, ad, R0⟩ := R1
  obtain ⟨r1, R2⟩ := R0.pop
  obtain ⟨G, R3, _, fd⟩ := R2.freeze r1 e2
  exact q _ _ ⟨G, ad, R3.push fd⟩

def aNil : AM := fun _ P => some ([], P)
def aCons (f : XM) (g : AM) : AM := fun ρ P => (f ρ P).bind fun (a, P1) => (g ρ P1).map fun (l, P2) => (a :: l, P2)
theorem pad_nil : PAd X [] aNil := ⟨_, pa_nil, fun bs ρ σ os vs P H Q r P' R e q => by
  simp only [aNil, Option.some.injEq, Prod.mk.injEq] at e
  obtain ⟨rfl, rfl⟩ := e
  exact q [] H rfl R⟩
theorem pad_cons {e : Expr} {es : List Expr} {f : XM} {g : AM} (h : PEd X e f) (h' : PAd X es g) (hs : starEach (e :: es) X.env = (false, eval e X.env) :: starEach es X.env := by rfl) : PAd X (e :: es) (aCons f g) := by
  obtain ⟨t, p, h1⟩ := h
  obtain ⟨u, p', h2⟩ := h'
  refine ⟨_, pa_cons p p' hs, fun bs ρ σ os vs P H Q r P' R e q => ?_⟩
  simp only [aCons, Option.bind_eq_some_iff, Option.map_eq_some_iff, Prod.mk.injEq] at e
  obtain ⟨⟨s1, P1⟩, e1, ⟨l, P2⟩, e2, rfl, rfl⟩ := e
  refine h1 bs ρ σ os vs P H _ s1 P1 R e1 fun x H1 R1 => ?_
  refine h2 bs ρ σ _ _ P1 H1 _ l P2 R1 e2 fun ws H2 hl R2 => ?_
  refine q (x :: ws) H2 (by simp [hl]) ?_
  simpa using R2
theorem SVA.rev {K : PySem.W.Frag} {F : Hp} {ad : List Addr} : ∀ {l : List SV} {ws : List V} {os : List SV} {vs : List V}, ws.length = l.length → SVA K F ad (ws.reverse ++ vs) (l.reverse ++ os) → SVA K F ad ws l ∧ SVA K F ad vs os
  | [], [], os, vs, _, h => ⟨.nil, by simpa using h⟩
  | a :: l, w :: ws, os, vs, e, h => by
    have h' : SVA K F ad (ws.reverse ++ (w :: vs)) (l.reverse ++ (a :: os)) := by simpa using h
    obtain ⟨h1, h2⟩ := SVA.rev (l := l) (ws := ws) (by simpa using e) h'
    cases h2 with
    | cons a b => exact ⟨.cons a h1, b⟩
  | [], _ :: _, _, _, e, _ => by simp at e
  | _ :: _, [], _, _, e, _ => by simp at e
theorem RelX.args {K : PySem.W.Frag} {bs : List Nat} {ρ : EV} {σ : L2.St} {os : List SV} {vs : List V} {P : Store} {H F : Hp} {ad : List Addr} {l : List SV} {ws : List V} (R : RelX K bs ρ σ (l.reverse ++ os) (ws.reverse ++ vs) P H F ad) (e : ws.length = l.length) :
    SVA K F ad ws l ∧ RelX K bs ρ σ os vs P H F ad := let ⟨a, b⟩ := SVA.rev e R.tops; ⟨a, R.tops_of b⟩

/-! ### displays -/
def mTup (g : AM) : XM := fun ρ P => (g ρ P).bind fun (l, P1) => (fzs l).bind fun ds => if ds.length ≤ sizeLine then some (.fz (.tuple ds), P1) else none
def mLst (g : AM) : XM := fun ρ P => (g ρ P).bind fun (l, P1) => (fzs l).bind fun ds => if ds.length ≤ sizeLine then some (.fz (.list ds), P1) else none
/-- a list that may change -/
def mLstC (g : AM) : XM := fun ρ P => (g ρ P).bind fun (l, P1) => if l.length ≤ sizeLine then some (.ptr P1.length, P1 ++ [.lst l]) else none
theorem ped_tup {es : List Expr} {x1} {g : AM} (h : PAd X es g) : PEd X (.Tuple es x1 pos) (mTup g) := by
  obtain ⟨t, p, h1⟩ := h
  refine ⟨_, pe_tupQ p, fun bs ρ σ os vs P H Q r P' R e q => ?_⟩
  simp only [mTup, Option.bind_eq_some_iff] at e
  obtain ⟨⟨l, P1⟩, e1, ds, e2, e3⟩ := e
  split at e3
  · rename_i hz
    cases e3
    refine h1 bs ρ σ os vs P H _ l P1 R e1 fun ws H1 hl R1 => ?_
    obtain ⟨F, ad, R1⟩ := R1
    obtain ⟨a, R2⟩ := R1.args hl
    have fa := fzs_some a e2
    exact ⟨by rw [fa.length]; exact hz, tupQ_rel R2 fa q⟩
  · cases e3
theorem ped_lst {es : List Expr} {g : AM} (h : PAd X es g) : PEd X (.List es pos) (mLst g) := by
  obtain ⟨t, p, h1⟩ := h
  refine ⟨_, pe_lst p, fun bs ρ σ os vs P H Q r P' R e q => ?_⟩
  simp only [mLst, Option.bind_eq_some_iff] at e
  obtain ⟨⟨l, P1⟩, e1, ds, e2, e3⟩ := e
  split at e3
  · rename_i hz
    cases e3
    refine h1 bs ρ σ os vs P H _ l P1 R e1 fun ws H1 hl R1 => ?_
    obtain ⟨F, ad, R1⟩ := R1
    obtain ⟨a, R2⟩ := R1.args hl
    have fa := fzs_some a e2
    refine ⟨by rw [fa.length]; exact hz, fun p n => q _ _ ⟨_, ad, (R2.lay n).push ?_⟩⟩
    exact .lst (.of upd_same) (fa.mono (upd_le (R2.free n)))
  · cases e3
theorem ped_lstC {es : List Expr} {g : AM} (h : PAd X es g) : PEd X (.List es pos) (mLstC g) := by
  obtain ⟨t, p, h1⟩ := h
  refine ⟨_, pe_lst p, fun bs ρ σ os vs P H Q r P' R e q => ?_⟩
  simp only [mLstC, Option.bind_eq_some_iff] at e
  obtain ⟨⟨l, P1⟩, e1, e3⟩ := e
  split at e3
  · rename_i hz
    cases e3
    refine h1 bs ρ σ os vs P H _ l P1 R e1 fun ws H1 hl R1 => ?_
    obtain ⟨F, ad, R1⟩ := R1
    obtain ⟨a, R2⟩ := R1.args hl
    refine ⟨by rw [a.length]; exact hz, fun p n => q _ _ ⟨F, ad ++ [p], R2.cell n fun ad' pr => ⟨R2.free n, ws, upd_same, a.mono (.refl _) pr⟩⟩⟩
  · cases e3

/-! ### calls of built-ins -/
inductive VwA (K : PySem.W.Frag) (F H : Hp) : List V → List PyData → Prop
  | nil : VwA K F H [] []
  | cons {v : V} {vs : List V} {d : PyData} {ds : List PyData} : Vw K F H v d → VwA K F H vs ds → VwA K F H (v :: vs) (d :: ds)
def flats (P : Store) : List SV → Option (List PyData)
  | [] => some []
  | a :: l => (flat P a).bind fun d => (flats P l).map (d :: ·)
theorem RelX.views {K : PySem.W.Frag} {bs : List Nat} {ρ : EV} {σ : L2.St} {os : List SV} {vs : List V} {P : Store} {H F : Hp} {ad : List Addr} (R : RelX K bs ρ σ os vs P H F ad) :
    ∀ {ws : List V} {l : List SV} {ds : List PyData}, SVA K F ad ws l → flats P l = some ds → VwA K F H ws ds
  | _, _, _, .nil, e => by simp only [flats, Option.some.injEq] at e; subst e; exact .nil
  | _, _, _, .cons a t, e => by
    simp only [flats, Option.bind_eq_some_iff, Option.map_eq_some_iff] at e
    obtain ⟨d, e1, r, e2, rfl⟩ := e
    exact .cons (R.view a e1) (R.views t e2)
def CallD (X : Cx) (f : Value) (g : List PyData → Option PyData) : Prop := ∃ r, CallR X f r ∧ ∀ (F H : Hp) (xs : List V) (ds : List PyData) (z : PyData) (Q : VK), Sub F H → VwA X.K F H xs ds → g ds = some z →
  (∀ v H' F', Ext F H F' H' → Fz X.K F' v z → Q v H') → r xs H Q
def mCall (g : List PyData → Option PyData) (fs : AM) : XM := fun ρ P => (fs ρ P).bind fun (l, P1) => (flats P1 l).bind fun ds => (g ds).map fun z => (.fz z, P1)
theorem CallD.or {f : Value} {g g' : List PyData → Option PyData} (h : CallD X f g) (h' : CallD X f g') : CallD X f (fun ds => (g ds).or (g' ds)) := by
  obtain ⟨r, h, hr⟩ := h
  obtain ⟨r', h', hr'⟩ := h'
  refine ⟨_, h.or h', fun F H xs ds z Q s vx eq q => ?_⟩
  have eq : (g ds).or (g' ds) = some z := eq
  cases hz : g ds with
  | some w =>
    rw [hz] at eq
    simp only [Option.some_or, Option.some.injEq] at eq
    subst eq
    exact .inl (hr F H xs ds w Q s vx hz q)
  | none =>
    rw [hz] at eq
    exact .inr (hr' F H xs ds z Q s vx (by simpa using eq) q)
theorem call_d {g : List PyData → Option PyData} {fs : AM} {t : TA} {r : List V → Hp → VK → Prop}
    (hr : ∀ (F H : Hp) (xs : List V) (ds : List PyData) (z : PyData) (Q : VK), Sub F H → VwA X.K F H xs ds → g ds = some z → (∀ v H' F', Ext F H F' H' → Fz X.K F' v z → Q v H') → r xs H Q)
    (h1 : ∀ (bs : List Nat) (ρ : EV) (σ : L2.St) (os : List SV) (vs : List V) (P : Store) (H : Hp) (Q : List V → Hp → Prop) (r : List SV) (P' : Store), Rel X.K bs ρ σ os vs P H → fs ρ P = some (r, P') →
      (∀ ws H', ws.length = r.length → Rel X.K bs ρ σ (r.reverse ++ os) (ws.reverse ++ vs) P' H' → Q ws H') → t σ H Q)
    (bs : List Nat) (ρ : EV) (σ : L2.St) (os : List SV) (vs : List V) (P : Store) (H : Hp) (Q : VK) (w : SV) (P' : Store) (R : Rel X.K bs ρ σ os vs P H) (e : mCall g fs ρ P = some (w, P'))
    (q : ∀ v H', Rel X.K bs ρ σ (w :: os) (v :: vs) P' H' → Q v H') : t σ H fun xs H1 => r xs H1 Q := by
  simp only [mCall, Option.bind_eq_some_iff, Option.map_eq_some_iff, Prod.mk.injEq] at e
  obtain ⟨⟨l, P1⟩, e1, ds, e2, z, e3, rfl, rfl⟩ := e
  refine h1 bs ρ σ os vs P H _ l P1 R e1 fun ws H1 hl R1 => ?_
  obtain ⟨F, ad, R1⟩ := R1
  obtain ⟨a, R2⟩ := R1.args hl
  exact hr F H1 ws ds z Q R2.sub (R2.views a e2) e3 fun v H' F' x f => q v H' ((R2.ext x).atom f)
theorem ped_callB {x : Str} {id : String} {e : Expr} {es : List Expr} {g : List PyData → Option PyData} {fs : AM} {p : Pos} (hc : CallD X (.builtin id) g) (hg : Gl X x) (hm : X.mg x = none) (hv : bootBuiltins x = some (.builtin id)) (ha : PAd X (e :: es) fs)
    (hn : x ≠ "__name__" := by decide) (hdb : (x == ("__debug__" : Str)) = false := by decide)
    (he : starEach (e :: es) X.env = (false, eval e X.env) :: starEach es X.env := by rfl) (hpl : (backTo pos (starEach es X.env)).any (·.1) = false := by rfl) : PEd X (.Call (.Name x p) (e :: es) [] pos) (mCall g fs) := by
  obtain ⟨r, h, hr⟩ := hc
  obtain ⟨t, p, h1⟩ := ha
  exact ⟨_, pe_callB h hg hm hv p hn hdb he hpl, call_d hr h1⟩
theorem ped_callT {x : Str} {T : String} {e : Expr} {es : List Expr} {g : List PyData → Option PyData} {fs : AM} {p : Pos} (hc : CallD X (.type T) g) (hg : Gl X x) (hm : X.mg x = none) (hv : bootBuiltins x = some (.type T)) (ha : PAd X (e :: es) fs)
    (hn : x ≠ "__name__" := by decide) (hdb : (x == ("__debug__" : Str)) = false := by decide)
    (he : starEach (e :: es) X.env = (false, eval e X.env) :: starEach es X.env := by rfl) (hpl : (backTo pos (starEach es X.env)).any (·.1) = false := by rfl) : PEd X (.Call (.Name x p) (e :: es) [] pos) (mCall g fs) := by
  obtain ⟨r, h, hr⟩ := hc
  obtain ⟨t, p, h1⟩ := ha
  exact ⟨_, pe_callTy h hg hm hv p hn hdb he hpl, call_d hr h1⟩

/-! the built-ins -/
def gLen : List PyData → Option PyData
  | [.list ds] => some (.int ds.length)
  | [.tuple ds] => some (.int ds.length)
  | [.str z] => if z.length ≤ sizeLine then some (.int z.length) else none
  | _ => none
theorem calld_len : CallD X (.builtin "len") gLen := by
  refine ⟨_, call_len_seq.or call_len_str, fun F H xs ds z Q s vx eq q => ?_⟩
  unfold gLen at eq
  split at eq
  · cases eq
    cases vx with | cons a t => cases t; obtain ⟨p, us, rfl, hp, t⟩ := a.lists s; exact .inl ⟨p, us, rfl, .inl hp, by rw [t.length]; exact q _ _ _ .refl (.int _)⟩
  · cases eq
    cases vx with | cons a t => cases t; obtain ⟨p, us, rfl, hp, t, _⟩ := a.tups s; exact .inl ⟨p, us, rfl, .inr hp.sqT, by rw [t.length]; exact q _ _ _ .refl (.int _)⟩
  · split at eq
    · rename_i hl
      cases eq
      cases vx with | cons a t => cases t; exact .inr ⟨_, by rw [a.strs], hl, q _ _ _ .refl (.int _)⟩
    · cases eq
  · cases eq
def gList : List PyData → Option PyData
  | [.list ds] => some (.list ds)
  | [.tuple ds] => some (.list ds)
  | _ => none
theorem calld_list : CallD X (.type "list") gList := by
  refine ⟨_, call_list_of, fun F H xs ds z Q s vx eq q => ?_⟩
  unfold gList at eq
  split at eq
  · cases eq
    cases vx with | cons a t => cases t; obtain ⟨p, us, rfl, hp, t⟩ := a.lists s; exact ⟨p, us, rfl, .inl hp, fun l n => q _ _ _ (.one n) (.lst (.of upd_same) (t.mono (upd_le (s.none n))))⟩
  · cases eq
    cases vx with | cons a t => cases t; obtain ⟨p, us, rfl, hp, t, _⟩ := a.tups s; exact ⟨p, us, rfl, .inr hp.sqT, fun l n => q _ _ _ (.one n) (.lst (.of upd_same) (t.mono (upd_le (s.none n))))⟩
  · cases eq
def gTuple : List PyData → Option PyData
  | [.list ds] => some (.tuple ds)
  | [.tuple ds] => some (.tuple ds)
  | _ => none
theorem calld_tuple : CallD X (.type "tuple") gTuple := by
  refine ⟨_, call_tupleQ, fun F H xs ds z Q s vx eq q => ?_⟩
  unfold gTuple at eq
  split at eq
  · cases eq
    cases vx with | cons a t => cases t; obtain ⟨p, us, rfl, hp, t⟩ := a.lists s; exact ⟨p, us, rfl, .inl ⟨hp, tupQ_ext s t q⟩⟩
  · cases eq
    cases vx with | cons a t => cases t; obtain ⟨p, us, rfl, hp, t, f⟩ := a.tups s; exact ⟨p, us, rfl, .inr ⟨hp.sqT, q _ _ _ .refl f⟩⟩
  · cases eq
def gInt : List PyData → Option PyData
  | [.int i] => some (.int i)
  | _ => none
theorem calld_int : CallD X (.type "int") gInt := by
  refine ⟨_, call_int1, fun F H xs ds z Q s vx eq q => ?_⟩
  unfold gInt at eq
  split at eq
  · cases eq
    cases vx with | cons a t => cases t; exact .inl ⟨_, by rw [a.ints], q _ _ _ .refl (.int _)⟩
  · cases eq
def bools : List PyData → Option (List Bool)
  | [] => some []
  | .bool b :: r => (bools r).map (b :: ·)
  | _ :: _ => none
def intsD : List PyData → Option (List Int)
  | [] => some []
  | .int b :: r => (intsD r).map (b :: ·)
  | _ :: _ => none
def strsD : List PyData → Option (List Str)
  | [] => some []
  | .str b :: r => (strsD r).map (b :: ·)
  | _ :: _ => none
theorem FzA.bools {K : PySem.W.Frag} {F : Hp} : ∀ {ds : List PyData} {vs : List V} {bs : List Bool}, FzA K F vs ds → Pd.bools ds = some bs → vs = bs.map V.bl
  | [], _, _, .nil, e => by simp only [Pd.bools, Option.some.injEq] at e; subst e; rfl
  | .bool b :: r, _, _, .cons a t, e => by
    simp only [Pd.bools, Option.map_eq_some_iff] at e
    obtain ⟨l, e1, rfl⟩ := e
    cases a
    rw [FzA.bools t e1]; rfl
  | .none :: _, _, _, _, e => by simp [Pd.bools] at e
  | .int _ :: _, _, _, _, e => by simp [Pd.bools] at e
  | .str _ :: _, _, _, _, e => by simp [Pd.bools] at e
  | .list _ :: _, _, _, _, e => by simp [Pd.bools] at e
  | .tuple _ :: _, _, _, _, e => by simp [Pd.bools] at e
  | .dict _ :: _, _, _, _, e => by simp [Pd.bools] at e
theorem FzA.intsD {K : PySem.W.Frag} {F : Hp} : ∀ {ds : List PyData} {vs : List V} {bs : List Int}, FzA K F vs ds → Pd.intsD ds = some bs → vs = bs.map V.int
  | [], _, _, .nil, e => by simp only [Pd.intsD, Option.some.injEq] at e; subst e; rfl
  | .int b :: r, _, _, .cons a t, e => by
    simp only [Pd.intsD, Option.map_eq_some_iff] at e
    obtain ⟨l, e1, rfl⟩ := e
    cases a
    rw [FzA.intsD t e1]; rfl
  | .none :: _, _, _, _, e => by simp [Pd.intsD] at e
  | .bool _ :: _, _, _, _, e => by simp [Pd.intsD] at e
  | .str _ :: _, _, _, _, e => by simp [Pd.intsD] at e
  | .list _ :: _, _, _, _, e => by simp [Pd.intsD] at e
  | .tuple _ :: _, _, _, _, e => by simp [Pd.intsD] at e
  | .dict _ :: _, _, _, _, e => by simp [Pd.intsD] at e
theorem FzA.strs {K : PySem.W.Frag} {F : Hp} : ∀ {ds : List PyData} {vs : List V} {bs : List Str}, FzA K F vs ds → Pd.strsD ds = some bs → vs = bs.map V.str
  | [], _, _, .nil, e => by simp only [Pd.strsD, Option.some.injEq] at e; subst e; rfl
  | .str b :: r, _, _, .cons a t, e => by
    simp only [Pd.strsD, Option.map_eq_some_iff] at e
    obtain ⟨l, e1, rfl⟩ := e
    cases a
    rw [FzA.strs t e1]; rfl
  | .none :: _, _, _, _, e => by simp [Pd.strsD] at e
  | .bool _ :: _, _, _, _, e => by simp [Pd.strsD] at e
  | .int _ :: _, _, _, _, e => by simp [Pd.strsD] at e
  | .list _ :: _, _, _, _, e => by simp [Pd.strsD] at e
  | .tuple _ :: _, _, _, _, e => by simp [Pd.strsD] at e
  | .dict _ :: _, _, _, _, e => by simp [Pd.strsD] at e
def gAll : List PyData → Option PyData
  | [.list ds] => (bools ds).map fun bs => .bool (bs.all id)
  | _ => none
theorem calld_all (hc : X.calm = true) : CallD X (.builtin "all") gAll := by
  refine ⟨_, cr_all hc, fun F H xs ds z Q s vx eq q => ?_⟩
  unfold gAll at eq
  split at eq
  · simp only [Option.map_eq_some_iff] at eq
    obtain ⟨bs, e1, rfl⟩ := eq
    cases vx with | cons a t => cases t; obtain ⟨p, us, rfl, hp, t⟩ := a.lists s; exact ⟨p, bs, rfl, by rw [← t.bools e1]; exact hp, q _ _ _ .refl (.bl _)⟩
  · cases eq
def gAny : List PyData → Option PyData
  | [.list ds] => (bools ds).map fun bs => .bool (bs.any id)
  | _ => none
theorem calld_any (hc : X.calm = true) : CallD X (.builtin "any") gAny := by
  refine ⟨_, cr_any hc, fun F H xs ds z Q s vx eq q => ?_⟩
  unfold gAny at eq
  split at eq
  · simp only [Option.map_eq_some_iff] at eq
    obtain ⟨bs, e1, rfl⟩ := eq
    cases vx with | cons a t => cases t; obtain ⟨p, us, rfl, hp, t⟩ := a.lists s; exact ⟨p, bs, rfl, by rw [← t.bools e1]; exact hp, q _ _ _ .refl (.bl _)⟩
  · cases eq
def gSum : List PyData → Option PyData
  | [.list ds] => (intsD ds).map fun bs => .int bs.sum
  | _ => none
theorem calld_sum (hc : X.calm = true) : CallD X (.builtin "sum") gSum := by
  refine ⟨_, cr_sum hc, fun F H xs ds z Q s vx eq q => ?_⟩
  unfold gSum at eq
  split at eq
  · simp only [Option.map_eq_some_iff] at eq
    obtain ⟨bs, e1, rfl⟩ := eq
    cases vx with | cons a t => cases t; obtain ⟨p, us, rfl, hp, t⟩ := a.lists s; exact ⟨p, bs, rfl, by rw [← t.intsD e1]; exact hp, q _ _ _ .refl (.int _)⟩
  · cases eq
def gMax2 : List PyData → Option PyData
  | [.int i, .int j] => some (.int (if j > i then j else i))
  | _ => none
theorem calld_max2 (hc : X.calm = true) : CallD X (.builtin "max") gMax2 := by
  refine ⟨_, call_max2 hc, fun F H xs ds z Q s vx eq q => ?_⟩
  unfold gMax2 at eq
  split at eq
  · cases eq
    cases vx with | cons a t => cases t with | cons b t => cases t; exact ⟨_, _, by rw [a.ints, b.ints], q _ _ _ .refl (.int _)⟩
  · cases eq
def gMin2 : List PyData → Option PyData
  | [.int i, .int j] => some (.int (if j < i then j else i))
  | _ => none
theorem calld_min2 (hc : X.calm = true) : CallD X (.builtin "min") gMin2 := by
  refine ⟨_, call_min2 hc, fun F H xs ds z Q s vx eq q => ?_⟩
  unfold gMin2 at eq
  split at eq
  · cases eq
    cases vx with | cons a t => cases t with | cons b t => cases t; exact ⟨_, _, by rw [a.ints, b.ints], q _ _ _ .refl (.int _)⟩
  · cases eq

/-! ### isinstance -/
def tyOf : PyData → String
  | .none => "NoneType"
  | .bool _ => "bool"
  | .int _ => "int"
  | .str _ => "str"
  | .list _ => "list"
  | .tuple _ => "tuple"
  | .dict _ => "dict"
theorem Vw.ty {K : PySem.W.Frag} {F H : Hp} {v : V} {d : PyData} (h : Vw K F H v d) (s : Sub F H) : TyX K H v (.type (tyOf d)) := by
  cases d with
  | none => rw [h.nons]; exact .base .non
  | bool b => rw [h.bls]; exact .base (.bl b)
  | int i => rw [h.ints]; exact .base (.int i)
  | str x => rw [h.strs]; exact .base (.str x)
  | list ds =>
    obtain ⟨a, xs, rfl, hp, _⟩ := h.lists s
    rcases hp with (hp | ⟨o, hp⟩) | ⟨o, _, _, hp, hc, _⟩
    · exact .base (.lst hp)
    · exact .base (.frz hp)
    · exact .kList hp hc
  | tuple ds =>
    obtain ⟨a, xs, rfl, hp, _⟩ := h.tups s
    rcases hp.rd with hp | ⟨o, hp⟩
    · exact .base (.tup hp)
    · exact .fTuple hp
  | dict ds =>
    cases h with
    | fz h =>
      cases h with
      | dK h _ _ =>
        rcases s.rd (fun _ _ z => by cases z) h with e | ⟨o, e⟩
        · exact .base (.dK e)
        · exact .fDict e
      | dT h _ _ _ =>
        rcases s _ _ h with e | ⟨z, _⟩
        · exact .base (.dT e)
        · cases z
    | dK h _ _ =>
      rcases h with e | ⟨o, e⟩
      · exact .base (.dK e)
      · exact .fDict e
    | dT h _ _ _ => exact .base (.dT h)
end
end Pd

set_option Elab.async false
set_option linter.all false
set_option maxRecDepth 100000
set_option maxHeartbeats 1000000
/-! The layer Pd, part E: isinstance, slices, methods, statements. -/
namespace Pd
open PySem PySem.Spec PyProof.Rows L2
theorem _root_.List.mem_of_mem_dropLast' {α : Type} {a : α} : ∀ {l : List α}, a ∈ l.dropLast → a ∈ l := fun {l} h => (List.dropLast_sublist l).subset h
section
variable {X : Cx} {pos : Pos}

/-! ### isinstance -/
inductive Ty | int | str | bool | list | tuple | dict
def Ty.nm : Ty → String
  | .int => "int" | .str => "str" | .bool => "bool" | .list => "list" | .tuple => "tuple" | .dict => "dict"
def inst : Ty → PyData → Bool
  | .int, .int _ => true
  | .int, .bool _ => true
  | .str, .str _ => true
  | .bool, .bool _ => true
  | .list, .list _ => true
  | .tuple, .tuple _ => true
  | .dict, .dict _ => true
  | _, _ => false
theorem kit_inst (T : Ty) (d : PyData) : kitB (tyOf d) T.nm = some (inst T d) := by
  cases T <;> cases d <;> (simp only [tyOf, Ty.nm, inst]; decide +kernel)
theorem kitAny_inst {K : PySem.W.Frag} (d : PyData) : ∀ Ts : List Ty, PySem.W.kitAny K (.type (tyOf d)) (Ts.map fun T => .type T.nm) = some (Ts.any fun T => inst T d)
  | [] => rfl
  | T :: r => by
    have h := kit_ty (K := K) (kit_inst T d)
    refine kitAny_cons (b := inst T d) h (fun e => ?_) fun e => by simp [e]
    rw [kitAny_inst d r]; simp [e]
def mIs (g : PyData → Bool) (f : XM) : XM := fun ρ P => (f ρ P).bind fun (a, P1) => (flat P1 a).map fun d => (.fz (.bool (g d)), P1)
theorem ped_isi {a : Expr} {f : XM} {p q : Pos} (T : Ty) (hg : Gl X "isinstance") (hm : X.mg "isinstance" = none) (hgT : Gl X T.nm) (hmT : X.mg T.nm = none) (hv : bootBuiltins T.nm = some (.type T.nm)) (ha : PEd X a f)
    (he : starEach [a, .Name T.nm q] X.env = (false, eval a X.env) :: starEach [.Name T.nm q] X.env := by rfl) (hpl : (backTo pos (starEach [.Name T.nm q] X.env)).any (·.1) = false := by rfl)
    (hs2 : starEach [.Name T.nm q] X.env = (false, eval (.Name T.nm q) X.env) :: starEach [] X.env := by rfl) (hn : (T.nm : Str) ≠ "__name__" := by decide) (hdb : ((T.nm : Str) == ("__debug__" : Str)) = false := by decide) :
    PEd X (.Call (.Name "isinstance" p) [a, .Name T.nm q] [] pos) (mIs (inst T) f) := by
  obtain ⟨t, pa, h1⟩ := ha
  refine ⟨_, pe_callB call_isi hg hm (by decide +kernel) (pa_cons pa (pa_cons (pe_bltn (v := .ty T.nm) hgT hmT hv rfl hn hdb) pa_nil hs2) he) (he := he) (hpl := hpl), fun bs ρ σ os vs P H Q r P' R e q => ?_⟩
  simp only [mIs, Option.bind_eq_some_iff, Option.map_eq_some_iff, Prod.mk.injEq] at e
  obtain ⟨⟨s1, P1⟩, e1, d, e2, rfl, rfl⟩ := e
  refine h1 bs ρ σ os vs P H _ s1 P1 R e1 fun x H1 R1 => ?_
  obtain ⟨F, ad, R1⟩ := R1
  obtain ⟨r1, R2⟩ := R1.pop
  exact ⟨x, .ty T.nm, _, _, _, rfl, .ty _, (R1.view r1 e2).ty R1.sub, kit_ty (kit_inst T d), q _ _ (R2.atom (.bl _))⟩

/-! ### slices -/
abbrev OM := EV → Store → Option (Option Int × Store)
def POd (X : Cx) (e : Option Expr) (f : OM) : Prop := ∃ t, PO X e t ∧ ∀ (bs : List Nat) (ρ : EV) (σ : L2.St) (os : List SV) (vs : List V) (P : Store) (H : Hp) (Q : Option Int → Hp → Prop) (r : Option Int) (P' : Store), Rel X.K bs ρ σ os vs P H → f ρ P = some (r, P') →
  (∀ H', Rel X.K bs ρ σ os vs P' H' → Q r H') → t σ H Q
def oNone : OM := fun _ P => some (none, P)
def oSome (f : XM) : OM := fun ρ P => (f ρ P).bind fun (a, P1) => match a with
  | .fz (.int i) => some (some i, P1)
  | _ => none
theorem pod_none : POd X none oNone := ⟨_, po_none, fun bs ρ σ os vs P H Q r P' R e q => by
  simp only [oNone, Option.some.injEq, Prod.mk.injEq] at e
  obtain ⟨rfl, rfl⟩ := e
  exact q H R⟩
theorem pod_some {e : Expr} {f : XM} (h : PEd X e f) : POd X (some e) (oSome f) := by
  obtain ⟨t, p, h1⟩ := h
  refine ⟨_, po_some p, fun bs ρ σ os vs P H Q r P' R e q => ?_⟩
  simp only [oSome, Option.bind_eq_some_iff] at e
  obtain ⟨⟨s1, P1⟩, e1, e2⟩ := e
  refine h1 bs ρ σ os vs P H _ s1 P1 R e1 fun x H1 R1 => ?_
  obtain ⟨F, ad, R1⟩ := R1
  obtain ⟨r1, R2⟩ := R1.pop
  simp only at e2
  split at e2
  · cases r1
    cases e2
    exact ⟨_, rfl, q _ ⟨F, ad, R2⟩⟩
  · cases e2
def cutL {α : Type} (xs : List α) (lo hi : Option Int) : List α := (xs.drop (HT.sIx xs.length 0 lo)).take (HT.sIx xs.length xs.length hi - HT.sIx xs.length 0 lo)
theorem FzA.cut {K : PySem.W.Frag} {F : Hp} {vs : List V} {ds : List PyData} (h : FzA K F vs ds) (lo hi : Option Int) : FzA K F (cutV vs lo hi) (cutL ds lo hi) := by
  unfold cutV cutL
  rw [h.length]
  exact (h.drop _).take _
def dSl : PyData → Option Int → Option Int → Option PyData
  | .list ds, lo, hi => some (.list (cutL ds lo hi))
  | .tuple ds, lo, hi => some (.tuple (cutL ds lo hi))
  | .str z, lo, hi => if z.length ≤ sizeLine then some (.str (cutS z lo hi)) else none
  | _, _, _ => none
def mSl (f : XM) (lo hi : OM) : XM := fun ρ P => (f ρ P).bind fun (a, P1) => (lo ρ P1).bind fun (l, P2) => (hi ρ P2).bind fun (u, P3) => (flat P3 a).bind fun d => (dSl d l u).map fun z => (.fz z, P3)
theorem cut_whole {ds : List PyData} {lo hi : Option Int} (h : HT.sIx ds.length 0 lo = 0 ∧ HT.sIx ds.length ds.length hi = ds.length) : cutL ds lo hi = ds := by
  unfold cutL
  rw [h.1, h.2]
  simp
theorem ped_sl {e : Expr} {lo hi : Option Expr} {f : XM} {g h : OM} {p2 : Pos} (he : PEd X e f) (hl : POd X lo g) (hh : POd X hi h) : PEd X (.Subscript e (.Slice lo hi none p2) pos) (mSl f g h) := by
  obtain ⟨t, p, h1⟩ := he
  obtain ⟨u, pl, h2⟩ := hl
  obtain ⟨w, ph, h3⟩ := hh
  refine ⟨_, pe_slice (sl_list.or (sl_tupQ.or sl_str)) p pl ph, fun bs ρ σ os vs P H Q r P' R e q => ?_⟩
  simp only [mSl, Option.bind_eq_some_iff, Option.map_eq_some_iff, Prod.mk.injEq] at e
  obtain ⟨⟨s1, P1⟩, e1, ⟨l, P2⟩, e2, ⟨u, P3⟩, e3, d, e4, z, e5, rfl, rfl⟩ := e
  refine h1 bs ρ σ os vs P H _ s1 P1 R e1 fun x H1 R1 => ?_
  refine h2 bs ρ σ _ _ P1 H1 _ l P2 R1 e2 fun H2 R2 => ?_
  refine h3 bs ρ σ _ _ P2 H2 _ u P3 R2 e3 fun H3 R3 => ?_
  obtain ⟨F, ad, R3⟩ := R3
  obtain ⟨r3, R4⟩ := R3.pop
  have vw := R3.view r3 e4
  unfold dSl at e5
  split at e5
  · cases e5
    obtain ⟨a, xs, rfl, hp, t⟩ := vw.lists R3.sub
    exact .inl ⟨a, xs, rfl, hp, fun p n => q _ _ ⟨_, ad, (R4.lay n).push (show Fz X.K _ _ _ from .lst (.of upd_same) ((t.cut l u).mono (upd_le (R4.free n))))⟩⟩
  · cases e5
    obtain ⟨a, xs, rfl, hp, t, ff⟩ := vw.tups R3.sub
    refine .inr (.inl ⟨a, xs, rfl, hp.sqT, fun hw => ?_, fun _ => tupQ_rel R4 (t.cut l u) q⟩)
    rw [t.length] at hw
    rw [cut_whole hw] at q
    exact q _ _ (R4.atom ff)
  · split at e5
    · rename_i hz
      cases e5
      exact .inr (.inr ⟨_, vw.strs, hz, q _ _ (R4.atom (.str _))⟩)
    · cases e5
  · cases e5

/-! ### x.append(e), x.pop() of a cell -/
def okPtr (b k : Nat) : SV → Bool
  | .fz _ => true
  | .ptr _ => decide (b ≤ k)
  | .lk _ _ _ => false
theorem okPtr_ps {b k : Nat} {s : SV} (h : okPtr b k s = true) : ∀ j ∈ s.ps, b ≤ k := by
  cases s with
  | fz d => intro j hj; simp [SV.ps] at hj
  | ptr i => intro j _; simpa [okPtr] using h
  | lk _ _ _ => simp [okPtr] at h
def isLst : Option Cell → Bool
  | some (.lst _) => true
  | _ => false
def mApp (fo fe : XM) : XM := fun ρ P => (fo ρ P).bind fun (o, P1) => (fe ρ P1).bind fun (r, P2) => match o with
  | .ptr k => match P2[k]? with
    | some (.lst l) => if l.length < sizeLine ∧ okPtr ρ.b k r = true ∧ isLst P1[k]? = true then some (.fz .none, P2.set k (.lst (l ++ [r]))) else none
    | _ => none
  | _ => none
theorem lst_at {K : PySem.W.Frag} {bs : List Nat} {ρ : EV} {σ : L2.St} {os : List SV} {x : V} {vs : List V} {P : Store} {H : Hp} {k : Nat} (R : Rel K bs ρ σ (.ptr k :: os) (x :: vs) P H) (h : isLst P[k]? = true) : ∃ a, tyV K "list" (.ref a) H ∧ x = .ref a := by
  obtain ⟨F, ad, R⟩ := R
  obtain ⟨r, R1⟩ := R.pop
  cases e : P[k]? with
  | none => rw [e] at h; cases h
  | some c =>
    cases c with
    | lst l =>
      obtain ⟨a, _, rfl, _, xs, hx, _⟩ := R1.at r e
      exact ⟨a, .inl ⟨rfl, xs, .of hx⟩, rfl⟩
    | fz => rw [e] at h; cases h
    | dK => rw [e] at h; cases h
    | dT => rw [e] at h; cases h
def mPop (fo : XM) : XM := fun ρ P => (fo ρ P).bind fun (o, P1) => match o with
  | .ptr k => match P1[k]? with
    | some (.lst l) => (l[l.length - 1]?).map fun r => (r, P1.set k (.lst l.dropLast))
    | _ => none
  | _ => none
theorem ped_pop {o : Expr} {fo : XM} {apos cpos : Pos} (ho : PEd X o fo)
    (hbase : attributeBase o "pop" X.env (eval o X.env) = eval o X.env := by rfl) (hline : (apos.endLine == cpos.line) = true := by rfl) :
    PEd X (.Call (.Attribute o "pop" apos) [] [] cpos) (mPop fo) := by
  obtain ⟨t, p, h1⟩ := ho
  refine ⟨_, pe_bm0 PySem.F.plainAttrs_list PySem.F.slot_list_pop PySem.F.type_list_pop mt_pop p (hbase := hbase) (hline := hline), fun bs ρ σ os vs P H Q r P' R e q => ?_⟩
  simp only [mPop, Option.bind_eq_some_iff] at e
  obtain ⟨⟨s1, P1⟩, e1, e3⟩ := e
  simp only at e3
  split at e3
  · rename_i k
    split at e3
    · rename_i l hk
      simp only [Option.map_eq_some_iff, Prod.mk.injEq] at e3
      obtain ⟨s, hl, rfl, rfl⟩ := e3
      refine h1 bs ρ σ os vs P H _ _ P1 R e1 fun x H1 R1 => ?_
      obtain ⟨a, ty, rfl⟩ := lst_at R1 (by rw [hk]; rfl)
      refine ⟨ty, ?_⟩
      obtain ⟨F, ad, R2⟩ := R1
      obtain ⟨r1, R4⟩ := R2.pop
      obtain ⟨a', ha, e', hc⟩ := R4.at r1 hk
      cases e'
      obtain ⟨hF, xs, hx, tx⟩ := hc
      obtain ⟨v, hv, rv⟩ := tx.get hl
      refine ⟨a, xs, v, rfl, rfl, hx, by rw [tx.length]; exact hv, q _ _ ⟨F, ad, (R4.put (c := .lst l.dropLast) hk ha hF ⟨hF, _, upd_same, tx.dropLast⟩ ?_).push rv⟩⟩
      intro j hj
      simp only [Cell.ps, List.mem_flatMap] at hj ⊢
      obtain ⟨x, hx, hj⟩ := hj
      exact .inl ⟨x, List.mem_of_mem_dropLast' hx, hj⟩
    · cases e3
  · cases e3
theorem ped_append {o e : Expr} {fo fe : XM} {apos cpos : Pos} (ho : PEd X o fo) (he : PEd X e fe)
    (hbase : attributeBase o "append" X.env (eval o X.env) = eval o X.env := by rfl)
    (hfew : ((backTo cpos (starEach [e] X.env)).all (fun x => !x.1) && (backToKw cpos (keywordEach [] X.env)).all (fun x => x.1.isSome)
      && decide ([e].length + ([] : List Keyword).length + (if ([] : List Keyword).isEmpty then 0 else 1) < 30)) = true := by rfl)
    (hline : (apos.endLine == cpos.line) = true := by rfl) (hs : starEach [e] X.env = (false, eval e X.env) :: starEach [] X.env := by rfl) (hplain : (backTo cpos (starEach [] X.env)).any (·.1) = false := by rfl) :
    PEd X (.Call (.Attribute o "append" apos) [e] [] cpos) (mApp fo fe) := by
  obtain ⟨t, p, h1⟩ := ho
  obtain ⟨u, p', h2⟩ := he
  refine ⟨_, pe_bm PySem.F.plainAttrs_list PySem.F.slot_list_append PySem.F.type_list_append mt_append p (pa_cons p' pa_nil hs) (hbase := hbase) (hfew := hfew) (hline := hline) (hs := hs) (hplain := hplain), fun bs ρ σ os vs P H Q r P' R e q => ?_⟩
  simp only [mApp, Option.bind_eq_some_iff] at e
  obtain ⟨⟨s1, P1⟩, e1, ⟨s2, P2⟩, e2, e3⟩ := e
  simp only at e3
  split at e3
  · rename_i k
    split at e3
    · rename_i l hk
      split at e3
      · rename_i hz
        cases e3
        refine h1 bs ρ σ os vs P H _ _ P1 R e1 fun x H1 R1 => ?_
        obtain ⟨a, ty, rfl⟩ := lst_at R1 hz.2.2
        refine ⟨ty, ?_⟩
        refine h2 bs ρ σ _ _ P1 H1 _ s2 P2 R1 e2 fun y H2 R2 => ?_
        obtain ⟨F, ad, R2⟩ := R2
        obtain ⟨r2, R3⟩ := R2.pop
        obtain ⟨r1, R4⟩ := R3.pop
        obtain ⟨a', ha, e', hc⟩ := R4.at r1 hk
        cases e'
        obtain ⟨hF, xs, hx, tx⟩ := hc
        refine ⟨a, xs, y, rfl, rfl, hx, by rw [tx.length]; exact hz.1, q _ _ ⟨F, ad, (R4.put (c := .lst (l ++ [s2])) hk ha hF ⟨hF, _, upd_same, tx.append (.cons r2 .nil)⟩ ?_).push (show Fz X.K F _ _ from .non)⟩⟩
        intro j hj
        simp only [Cell.ps, List.flatMap_append, List.flatMap_cons, List.flatMap_nil, List.append_nil, List.mem_append] at hj
        rcases hj with hj | hj
        · exact .inl hj
        · exact .inr (okPtr_ps hz.2.1 j hj)
      · cases e3
    · cases e3
  · cases e3
end
end Pd

set_option Elab.async false
set_option linter.all false
set_option maxRecDepth 100000
set_option maxHeartbeats 1000000
/-! The layer Pd, part F: statements. -/
namespace Pd
open PySem PySem.Spec PyProof.Rows L2

inductive Fl
  | nx | rt (r : SV) | bk | ct
abbrev SM := EV → Store → Option (Fl × EV × Store)
def EV.put (ρ : EV) (i : Nat) (s : SV) : EV := { ρ with sl := ρ.sl.set i (some s) }
/-- what is asked behind a statement -/
def After (K : PySem.W.Frag) (bs : List Nat) (os : List SV) (vs : List V) (D : Ends) : Fl × EV × Store → Prop
  | (.nx, ρ, P) => ∀ σ H, Rel K bs ρ σ os vs P H → D.nx σ H
  | (.bk, ρ, P) => ∀ σ H, Rel K bs ρ σ os vs P H → D.bk σ H
  | (.ct, ρ, P) => ∀ σ H, Rel K bs ρ σ os vs P H → D.ct σ H
  | (.rt r, ρ, P) => ∀ σ v H, Rel K bs ρ σ (r :: os) (v :: vs) P H → D.rt v H
def PSd (X : Cx) (st : Stmt) (m : SM) : Prop := ∃ t, PS X st t ∧ ∀ (bs : List Nat) (ρ : EV) (σ : L2.St) (os : List SV) (vs : List V) (P : Store) (H : Hp) (D : Ends) (r : Fl × EV × Store), Rel X.K bs ρ σ os vs P H → m ρ P = some r → After X.K bs os vs D r → t D σ H
def PSsd (X : Cx) (st : List Stmt) (m : SM) : Prop := ∃ t, PSs X st t ∧ ∀ (bs : List Nat) (ρ : EV) (σ : L2.St) (os : List SV) (vs : List V) (P : Store) (H : Hp) (D : Ends) (r : Fl × EV × Store), Rel X.K bs ρ σ os vs P H → m ρ P = some r → After X.K bs os vs D r → t D σ H
section
variable {K : PySem.W.Frag} {bs : List Nat} {ρ : EV} {σ : L2.St} {os : List SV} {vs : List V} {P : Store} {H F : Hp} {ad : List Addr}
theorem RelX.store (R : RelX K bs ρ σ os vs P H F ad) {s : SV} {v : V} (h : SVR K F ad v s) (i : Nat) : RelX K bs (ρ.put i s) (σ.set i (some v)) os vs P H F ad := by
  refine { R with slots := ⟨by simp [EV.put, R.slots.1], fun j t e => ?_⟩, bb := R.bb }
  by_cases hj : i = j
  · subst hj
    by_cases hl : i < ρ.sl.length
    · have e : (ρ.sl.set i (some s))[i]? = some (some t) := e
      rw [List.getElem?_set_self hl] at e
      cases e
      exact ⟨v, by rw [List.getElem?_set_self (by rw [R.slots.1]; exact hl)], h⟩
    · have e : (ρ.sl.set i (some s))[i]? = some (some t) := e
      rw [List.getElem?_eq_none (by simpa using hl)] at e; cases e
  · have e : (ρ.sl.set i (some s))[j]? = some (some t) := e
    rw [List.getElem?_set_ne hj] at e
    obtain ⟨w, hw, r⟩ := R.slots.2 j t e
    exact ⟨w, by rw [List.getElem?_set_ne hj]; exact hw, r⟩
theorem Rel.store {s : SV} {v : V} (R : Rel K bs ρ σ (s :: os) (v :: vs) P H) (i : Nat) : Rel K bs (ρ.put i s) (σ.set i (some v)) os vs P H := by
  obtain ⟨F, ad, R⟩ := R
  obtain ⟨r, R1⟩ := R.pop
  exact ⟨F, ad, R1.store r i⟩
theorem Rel.pop {s : SV} {v : V} (R : Rel K bs ρ σ (s :: os) (v :: vs) P H) : Rel K bs ρ σ os vs P H := by
  obtain ⟨F, ad, R⟩ := R
  exact ⟨F, ad, R.pop.2⟩
end

section
variable {X : Cx} {pos : Pos}
def sNx : SM := fun ρ P => some (.nx, ρ, P)
def sSeq (m n : SM) : SM := fun ρ P => (m ρ P).bind fun r => match r with
  | (.nx, ρ1, P1) => n ρ1 P1
  | r => some r
theorem pssd_nil : PSsd X [] sNx := ⟨_, pss_nil, fun bs ρ σ os vs P H D r R e q => by
  simp only [sNx, Option.some.injEq] at e
  subst e
  exact q σ H R⟩
theorem pssd_one {st : Stmt} {m : SM} (h : PSd X st m) : PSsd X [st] m := let ⟨t, p, q⟩ := h; ⟨t, pss_one p, q⟩
theorem pssd_cons {st : Stmt} {rest : List Stmt} {m n : SM} (h : PSd X st m) (h' : PSsd X rest n) : PSsd X (st :: rest) (sSeq m n) := by
  obtain ⟨t, p, h1⟩ := h
  obtain ⟨u, p', h2⟩ := h'
  refine ⟨_, pss_cons p p', fun bs ρ σ os vs P H D r R e q => ?_⟩
  simp only [sSeq, Option.bind_eq_some_iff] at e
  obtain ⟨⟨f, ρ1, P1⟩, e1, e2⟩ := e
  refine h1 bs ρ σ os vs P H { D with nx := u D } _ R e1 ?_
  cases f with
  | nx => exact fun σ1 H1 R1 => h2 bs ρ1 σ1 os vs P1 H1 D r R1 e2 q
  | rt s => cases e2; exact q
  | bk => cases e2; exact q
  | ct => cases e2; exact q
def sRet (f : XM) : SM := fun ρ P => (f ρ P).map fun (s, P1) => (.rt s, ρ, P1)
theorem psd_ret {e : Expr} {f : XM} (h : PEd X e f) : PSd X (.Return (some e) pos) (sRet f) := by
  obtain ⟨t, p, h1⟩ := h
  refine ⟨_, ps_ret p, fun bs ρ σ os vs P H D r R e q => ?_⟩
  simp only [sRet, Option.map_eq_some_iff] at e
  obtain ⟨⟨s, P1⟩, e1, rfl⟩ := e
  exact h1 bs ρ σ os vs P H D.rt s P1 R e1 fun v H1 R1 => q σ v H1 R1
theorem psd_retN : PSd X (.Return none pos) (sRet (mC .none)) := ⟨_, ps_retN, fun bs ρ σ os vs P H D r R e q => by
  simp only [sRet, mC, Option.map_some, Option.some.injEq] at e
  subst e
  obtain ⟨F, ad, R⟩ := R
  exact q σ .non H (R.atom .non)⟩
def sEx (f : XM) : SM := fun ρ P => (f ρ P).map fun (_, P1) => (.nx, ρ, P1)
theorem psd_expr {e : Expr} {f : XM} (h : PEd X e f) (hs : swapsWith e none pos.line X.env = pure false := by rfl) : PSd X (.Expr e pos) (sEx f) := by
  obtain ⟨t, p, h1⟩ := h
  refine ⟨_, ps_expr p hs, fun bs ρ σ os vs P H D r R e q => ?_⟩
  simp only [sEx, Option.map_eq_some_iff] at e
  obtain ⟨⟨s, P1⟩, e1, rfl⟩ := e
  exact h1 bs ρ σ os vs P H _ s P1 R e1 fun v H1 R1 => q σ H1 R1.pop
theorem psd_pass : PSd X (.Pass pos) sNx := ⟨_, ps_pass, fun bs ρ σ os vs P H D r R e q => by
  simp only [sNx, Option.some.injEq] at e
  subst e
  exact q σ H R⟩
def sBk : SM := fun ρ P => some (.bk, ρ, P)
def sCt : SM := fun ρ P => some (.ct, ρ, P)
theorem psd_break : PSd X (.Break pos) sBk := ⟨_, ps_break, fun bs ρ σ os vs P H D r R e q => by
  simp only [sBk, Option.some.injEq] at e
  subst e
  exact q σ H R⟩
theorem psd_continue : PSd X (.Continue pos) sCt := ⟨_, ps_continue, fun bs ρ σ os vs P H D r R e q => by
  simp only [sCt, Option.some.injEq] at e
  subst e
  exact q σ H R⟩
/-- code that is never come to -/
def sNo : SM := fun _ _ => none
theorem psd_never {st : Stmt} : PSd X st sNo := ⟨_, ps_never, fun bs ρ σ os vs P H D r R e q => by simp [sNo] at e⟩
theorem pssd_never {st : List Stmt} : PSsd X st sNo := ⟨_, pss_never, fun bs ρ σ os vs P H D r R e q => by simp [sNo] at e⟩
def sIf (c : BM) (m n : SM) : SM := fun ρ P => (c ρ P).bind fun (b, P1) => if b = true then m ρ P1 else n ρ P1
theorem psd_if {c : Expr} {a b : List Stmt} {fc : BM} {m n : SM} (hc : PTd X c fc) (ha : PSsd X a m) (hb : PSsd X b n) : PSd X (.If c a b pos) (sIf fc m n) := by
  obtain ⟨t0, p0, h0⟩ := hc
  obtain ⟨t, p, h1⟩ := ha
  obtain ⟨u, p', h2⟩ := hb
  refine ⟨_, ps_if p0 p p', fun bs ρ σ os vs P H D r R e q => ?_⟩
  simp only [sIf, Option.bind_eq_some_iff] at e
  obtain ⟨⟨s1, P1⟩, e1, e2⟩ := e
  refine h0 bs ρ σ os vs P H _ s1 P1 R e1 fun H1 R1 => ?_
  simp only at e2
  cases s1 with
  | true => rw [if_pos rfl] at e2 ⊢; exact h1 bs ρ σ os vs P1 H1 D r R1 e2 q
  | false => rw [if_neg Bool.false_ne_true] at e2 ⊢; exact h2 bs ρ σ os vs P1 H1 D r R1 e2 q

/-! ### assignments -/
def sSet (i : Nat) (f : XM) : SM := fun ρ P => (f ρ P).map fun (s, P1) => (.nx, ρ.put i s, P1)
theorem psd_set {i : Nat} {x : Str} {e : Expr} {f : XM} {pos' : Pos} (hN : X.N.Nodup) (hi : X.N[i]? = some x) (hx : Loc X.env.scope x) (h : PEd X e f) (hs : swapsWith e (some (.Name x pos')) pos.line X.env = pure false := by rfl)
    (hf : X.fn x = true ∨ X.env.scope.names.lookup x = some .local := by first | exact .inl rfl | exact .inr rfl | assumption) : PSd X (.Assign [.Name x pos'] e pos) (sSet i f) := by
  obtain ⟨t, p, h1⟩ := h
  refine ⟨_, ps_set hN hi hx p hs hf, fun bs ρ σ os vs P H D r R e q => ?_⟩
  simp only [sSet, Option.map_eq_some_iff] at e
  obtain ⟨⟨s, P1⟩, e1, rfl⟩ := e
  exact h1 bs ρ σ os vs P H _ s P1 R e1 fun v H1 R1 => q _ H1 (R1.store i)
/-- targets: a value, the slots and the store behind -/
abbrev GM := SV → EV → Store → Option (EV × Store)
def Keeps (ts : List Nat) (σ σ' : L2.St) : Prop := σ'.length = σ.length ∧ ∀ i, i ∉ ts → σ'[i]? = σ[i]?
def PGd (X : Cx) (tg : Expr) (ts : List Nat) (g : GM) : Prop := ∃ t, PG X tg t ∧ ∀ (bs : List Nat) (ρ : EV) (σ : L2.St) (os : List SV) (vs : List V) (P : Store) (H : Hp) (s : SV) (v : V) (Q : L2.St → Hp → Prop) (ρ' : EV) (P' : Store), Rel X.K bs ρ σ (s :: os) (v :: vs) P H → g s ρ P = some (ρ', P') →
  (∀ σ' H', Rel X.K bs ρ' σ' os vs P' H' → Keeps ts σ σ' → Q σ' H') → t v σ H Q
def PGsd (X : Cx) (tgs : List Expr) (ts : List Nat) (g : List PyData → EV → Store → Option (EV × Store)) : Prop := ∃ t, PGs X tgs t ∧ ∀ (bs : List Nat) (ρ : EV) (σ : L2.St) (os : List SV) (vs : List V) (P : Store) (H : Hp) (ds : List PyData) (ws : List V) (Q : L2.St → Hp → Prop) (ρ' : EV) (P' : Store),
  Rel X.K bs ρ σ ((ds.map SV.fz) ++ os) (ws ++ vs) P H → ws.length = ds.length → g ds ρ P = some (ρ', P') → (∀ σ' H', Rel X.K bs ρ' σ' os vs P' H' → Keeps ts σ σ' → Q σ' H') → t ws σ H Q
def gNm (i : Nat) : GM := fun s ρ P => some (ρ.put i s, P)
theorem pgd_name {i : Nat} {x : Str} (hN : X.N.Nodup) (hi : X.N[i]? = some x) (hx : Loc X.env.scope x) (hf : X.fn x = true ∨ X.env.scope.names.lookup x = some .local := by first | exact .inl rfl | exact .inr rfl | assumption) : PGd X (.Name x pos) [i] (gNm i) :=
  ⟨_, pg_name hN hi hx hf, fun bs ρ σ os vs P H s v Q ρ' P' R e q => by
    simp only [gNm, Option.some.injEq, Prod.mk.injEq] at e
    obtain ⟨rfl, rfl⟩ := e
    exact q _ H (R.store i) ⟨List.length_set, fun j hj => List.getElem?_set_ne (fun z => hj (by simp [z]))⟩⟩
def gsNil : List PyData → EV → Store → Option (EV × Store)
  | [], ρ, P => some (ρ, P)
  | _, _, _ => none
def gsCons (g : GM) (h : List PyData → EV → Store → Option (EV × Store)) : List PyData → EV → Store → Option (EV × Store)
  | d :: r, ρ, P => (g (.fz d) ρ P).bind fun (ρ1, P1) => h r ρ1 P1
  | _, _, _ => none
theorem pgsd_nil : PGsd X [] [] gsNil := ⟨_, pgs_nil, fun bs ρ σ os vs P H ds ws Q ρ' P' R hl e q => by
  cases ds with
  | nil =>
    simp only [gsNil, Option.some.injEq, Prod.mk.injEq] at e
    obtain ⟨rfl, rfl⟩ := e
    have : ws = [] := List.eq_nil_of_length_eq_zero hl
    subst this
    exact ⟨rfl, q σ H (by simpa using R) ⟨rfl, fun _ _ => rfl⟩⟩
  | cons => cases e⟩
theorem pgsd_cons {e : Expr} {es : List Expr} {g : GM} {h : List PyData → EV → Store → Option (EV × Store)} {ts1 ts2 : List Nat} (h1 : PGd X e ts1 g) (h2 : PGsd X es ts2 h)
    (hs : (assignEach (e :: es) X.env).map (·.2) = assign e X.env :: (assignEach es X.env).map (·.2) := by rfl) : PGsd X (e :: es) (ts1 ++ ts2) (gsCons g h) := by
  obtain ⟨t, p, q1⟩ := h1
  obtain ⟨u, p', q2⟩ := h2
  refine ⟨_, pgs_cons p p' hs, fun bs ρ σ os vs P H ds ws Q ρ' P' R hl e q => ?_⟩
  cases ds with
  | nil => cases e
  | cons d ds =>
    cases ws with
    | nil => simp at hl
    | cons w ws =>
      simp only [gsCons, Option.bind_eq_some_iff] at e
      obtain ⟨⟨ρ1, P1⟩, e1, e2⟩ := e
      refine ⟨w, ws, rfl, q1 bs ρ σ (ds.map SV.fz ++ os) (ws ++ vs) P H (.fz d) w _ ρ1 P1 R e1 fun σ1 H1 R1 k1 => ?_⟩
      exact q2 bs ρ1 σ1 os vs P1 H1 ds ws Q ρ' P' R1 (by simpa using hl) e2 fun σ2 H2 R2 k2 => q σ2 H2 R2 ⟨k2.1.trans k1.1, fun i hi => (k2.2 i fun z => hi (List.mem_append_right _ z)).trans (k1.2 i fun z => hi (List.mem_append_left _ z))⟩
def gTu (n : Nat) (h : List PyData → EV → Store → Option (EV × Store)) : GM := fun s ρ P => match s with
  | .fz (.tuple ds) => if ds.length = n then h ds ρ P else none
  | _ => none
theorem pgd_tup {es : List Expr} {k : Nat} {h : List PyData → EV → Store → Option (EV × Store)} {n : Nat} {ts : List Nat} (hc : X.calm = true) (h1 : PGsd X es ts h)
    (hn : (assignEach es X.env).length = n := by rfl) (hst : (assignEach es X.env).findIdx? (·.1) = none := by rfl) : PGd X (.Tuple es k pos) ts (gTu n h) := by
  obtain ⟨t, p, q1⟩ := h1
  refine ⟨_, pg_tup hc p hn hst, fun bs ρ σ os vs P H s v Q ρ' P' R e q => ?_⟩
  unfold gTu at e
  split at e
  · split at e
    · rename_i ds hl
      obtain ⟨F, ad, R⟩ := R
      obtain ⟨r, R1⟩ := R.pop
      cases r with
      | tup ht tt =>
        refine ⟨_, _, rfl, (R.sub.tup ht).sqT, by rw [tt.length]; exact hl, q1 bs ρ σ os vs P H ds _ Q ρ' P' ⟨F, ad, R1.tops_of ?_⟩ tt.length e q⟩
        have : ∀ {xs : List V} {ds : List PyData}, FzA X.K F xs ds → SVA X.K F ad (xs ++ vs) (ds.map SV.fz ++ os) := by
          intro xs ds h
          induction xs generalizing ds with
          | nil => cases h; exact R1.tops
          | cons x xs ih => cases h with | cons a b => exact .cons a (ih b)
        exact this tt
    · cases e
  · cases e
def sAsg (f : XM) (g : GM) : SM := fun ρ P => (f ρ P).bind fun (s, P1) => (g s ρ P1).map fun (ρ2, P2) => (.nx, ρ2, P2)
theorem psd_asg {tg e : Expr} {f : XM} {g : GM} {ts : List Nat} (he : PEd X e f) (hg : PGd X tg ts g) (hs : swapsWithSole [tg] e pos.line X.env = pure false := by rfl) (hw : swappedStores [tg] e X.env = pure none := by rfl)
    (h1 : (assignEach [tg] X.env).map (·.2) = [assign tg X.env] := by rfl) : PSd X (.Assign [tg] e pos) (sAsg f g) := by
  obtain ⟨t, p, q1⟩ := he
  obtain ⟨u, p', q2⟩ := hg
  refine ⟨_, ps_asg p p' hs hw h1, fun bs ρ σ os vs P H D r R e q => ?_⟩
  simp only [sAsg, Option.bind_eq_some_iff, Option.map_eq_some_iff] at e
  obtain ⟨⟨s, P1⟩, e1, ⟨ρ2, P2⟩, e2, rfl⟩ := e
  exact q1 bs ρ σ os vs P H _ s P1 R e1 fun v H1 R1 => q2 bs ρ σ os vs P1 H1 s v D.nx ρ2 P2 R1 e2 fun σ' H' R' _ => q σ' H' R'
/-- a, b = x, y: names -/
def sPar (i j : Nat) (g : AM) : SM := fun ρ P => (g ρ P).bind fun (l, P1) => match l with
  | [a, b] => some (.nx, (ρ.put i a).put j b, P1)
  | _ => none
theorem psd_par {i j : Nat} {x y : Str} {a b : Expr} {g : AM} {px py pt : Pos} {kt k2 pt2} (hc : X.calm = true) (hN : X.N.Nodup) (hi : X.N[i]? = some x) (hj : X.N[j]? = some y) (hij : i ≠ j)
    (hx : X.env.scope.names.lookup x = some .local) (hy : X.env.scope.names.lookup y = some .local) (ha : PAd X [a, b] g)
    (hw : swappedStores [.Tuple [.Name x px, .Name y py] kt pt] (.Tuple [a, b] k2 pt2) X.env = pure (some [x, y]))
    (hs : swapsWithSole [.Tuple [.Name x px, .Name y py] kt pt] (.Tuple [a, b] k2 pt2) pos.line X.env = pure false := by rfl) :
    PSd X (.Assign [.Tuple [.Name x px, .Name y py] kt pt] (.Tuple [a, b] k2 pt2) pos) (sPar i j g) := by
  obtain ⟨t, p, q1⟩ := ha
  refine ⟨_, ps_par hc hN hi hj hij hx hy p hw hs, fun bs ρ σ os vs P H D r R e q => ?_⟩
  simp only [sPar, Option.bind_eq_some_iff] at e
  obtain ⟨⟨l, P1⟩, e1, e2⟩ := e
  refine q1 bs ρ σ os vs P H _ l P1 R e1 fun ws H1 hl R1 => ?_
  simp only at e2
  split at e2
  · cases e2
    match ws, hl with
    | [u, w], _ =>
      obtain ⟨F, ad, R1⟩ := R1
      obtain ⟨ra, R2⟩ := R1.args rfl
      cases ra with
      | cons r1 ra =>
        cases ra with
        | cons r2 _ => exact ⟨u, w, rfl, q _ H1 ⟨F, ad, (R2.store r1 i).store r2 j⟩⟩
  · cases e2
/-- x op= e -/
def sAug (i : Nat) (g : PyData → PyData → Option PyData) (f : XM) : SM := fun ρ P => match ρ.sl[i]? with
  | some (some (.fz d)) => (f ρ P).bind fun (a, P1) => (flat P1 a).bind fun e => (g d e).map fun z => (.nx, ρ.put i (.fz z), P1)
  | _ => none
theorem psd_augI {i : Nat} {x : Str} {e : Expr} {op : Operator} {f : XM} {h : Int → Int → Int} {pos' : Pos} (hN : X.N.Nodup) (hi : X.N[i]? = some x) (hx : Loc X.env.scope x) (he : PEd X e f) (ho : PIp X op (ipI h))
    (hf : X.fn x = true ∨ X.env.scope.names.lookup x = some .local := by first | exact .inl rfl | exact .inr rfl | assumption) : PSd X (.AugAssign (.Name x pos') op e pos) (sAug i (dI fun a b => some (.int (h a b))) f) := by
  obtain ⟨t, p, q1⟩ := he
  refine ⟨_, ps_aug hN hi hx p ho hf, fun bs ρ σ os vs P H D r R e q => ?_⟩
  unfold sAug at e
  split at e
  · rename_i d hd
    simp only [Option.bind_eq_some_iff, Option.map_eq_some_iff] at e
    obtain ⟨⟨s, P1⟩, e1, d2, e2, z, e3, rfl⟩ := e
    obtain ⟨a, b, rfl, rfl, hz⟩ := dI_some e3
    cases hz
    have hv : ∃ v, σ[i]? = some (some v) ∧ v = .int a := by
      obtain ⟨F, ad, R⟩ := R
      obtain ⟨v, hv, r⟩ := R.slots.2 i _ hd
      cases r
      exact ⟨_, hv, rfl⟩
    obtain ⟨_, hv, rfl⟩ := hv
    refine ⟨_, hv, q1 bs ρ σ os vs P H _ s P1 R e1 fun v H1 R1 => ?_⟩
    obtain ⟨F, ad, R1⟩ := R1
    obtain ⟨r1, R2⟩ := R1.pop
    exact ⟨a, b, rfl, (R1.view r1 e2).ints, q _ H1 ⟨F, ad, R2.store (s := .fz (.int (h a b))) (v := .int (h a b)) (show Fz X.K F _ _ from .int _) i⟩⟩
  · cases e

/-! ### loops -/
/-- what a loop walks: its items, as data -/
abbrev IM := EV → Store → Option (List PyData × SV × Store)
def ItOk (K : PySem.W.Frag) (J : It) (items : List PyData) (src : SV) (v : V) : Prop := ∀ (bs : List Nat) (ρ : EV) (σ : L2.St) (os : List SV) (vs : List V) (P : Store) (H : Hp) (i : Nat), Rel K bs ρ σ (src :: os) (v :: vs) P H →
  (i < items.length → J.go i H ∧ ∀ x H', J.yld i H x H' → ∃ d, items[i]? = some d ∧ Rel K bs ρ σ (.fz d :: src :: os) (x :: v :: vs) P H') ∧ (items.length ≤ i → J.stop i H)
def PId (X : Cx) (tg iter : Expr) (f : IM) : Prop := ∃ wi, PI X tg iter wi ∧ ∀ (bs : List Nat) (ρ : EV) (σ : L2.St) (os : List SV) (vs : List V) (P : Store) (H : Hp) (R : It → Hp → Prop) (items : List PyData) (src : SV) (P' : Store), Rel X.K bs ρ σ os vs P H → f ρ P = some (items, src, P') →
  (∀ J v H' sr, Rel X.K bs ρ σ (sr :: os) (v :: vs) P' H' → ItOk X.K J items sr v → R J H') → wi σ H R
def forGo (g : GM) (body : SM) : List PyData → SM
  | [], ρ, P => some (.nx, ρ, P)
  | d :: r, ρ, P => (g (.fz d) ρ P).bind fun (ρ1, P1) => (body ρ1 P1).bind fun (fl, ρ2, P2) => match fl with
    | .nx => forGo g body r ρ2 P2
    | .ct => forGo g body r ρ2 P2
    | .bk => some (.nx, ρ2, P2)
    | .rt s => some (.rt s, ρ2, P2)
def sFor (f : IM) (g : GM) (body : SM) : SM := fun ρ P => (f ρ P).bind fun (items, _, P1) => forGo g body items ρ P1
theorem Rel.pop2 {K : PySem.W.Frag} {bs : List Nat} {ρ : EV} {σ : L2.St} {s s2 : SV} {v v2 : V} {os : List SV} {vs : List V} {P : Store} {H : Hp} (R : Rel K bs ρ σ (s :: s2 :: os) (v :: v2 :: vs) P H) : Rel K bs ρ σ (s :: os) (v :: vs) P H := by
  obtain ⟨F, ad, R⟩ := R
  obtain ⟨r, R1⟩ := R.pop
  obtain ⟨_, R2⟩ := R1.pop
  exact ⟨F, ad, R2.push r⟩
theorem psd_for {tg iter : Expr} {body : List Stmt} {f : IM} {g : GM} {m : SM} {ts : List Nat} (hp : PassesOwn (model X.prog X.w) X.A X.env X.xe) (hc : X.calm = true) (hi : PId X tg iter f) (hg : PGd X tg ts g) (hb : PSsd X body m)
    (hs : ∀ x, foldedSetIterable iter X.env x = pure x := by intro _; rfl) : PSd X (.For tg iter body [] pos) (sFor f g m) := by
  obtain ⟨wi, p0, h0⟩ := hi
  obtain ⟨t, p1, h1⟩ := hg
  obtain ⟨u, p2, h2⟩ := hb
  refine ⟨_, ps_for hp hc p0 p1 p2 hs, fun bs ρ σ os vs P H D r R e q => ?_⟩
  simp only [sFor, Option.bind_eq_some_iff] at e
  obtain ⟨⟨items, src, P1⟩, e0, e1⟩ := e
  refine h0 bs ρ σ os vs P H _ items src P1 R e0 fun J v H1 src R1 ok => ?_
  refine ⟨fun i n σ H => ∃ ρ P, n = items.length - i ∧ i ≤ items.length ∧ Rel X.K bs ρ σ (src :: os) (v :: vs) P H ∧ forGo g m (items.drop i) ρ P = some r, ⟨_, ρ, P1, rfl, Nat.zero_le _, R1, by simpa using e1⟩, ?_⟩
  rintro i n σ2 H2 ⟨ρ2, P2, rfl, hle, R2, e2⟩
  obtain ⟨ok1, ok2⟩ := ok bs ρ2 σ2 os vs P2 H2 i R2
  by_cases hlt : i < items.length
  · obtain ⟨go, yl⟩ := ok1 hlt
    refine .inr ⟨go, fun σ H => ∃ ρ P, Rel X.K bs ρ σ (src :: os) (v :: vs) P H ∧ forGo g m (items.drop (i + 1)) ρ P = some r, fun σ3 H3 ⟨ρ3, P3, R3, e3⟩ => ⟨items.length - (i + 1), by omega, ρ3, P3, rfl, hlt, R3, e3⟩, fun x H' hy => ?_⟩
    obtain ⟨d, hd, R3⟩ := yl x H' hy
    rw [List.drop_eq_getElem_cons hlt] at e2
    have ed : items[i] = d := by rw [List.getElem?_eq_getElem hlt] at hd; exact Option.some.inj hd
    rw [ed] at e2
    simp only [forGo, Option.bind_eq_some_iff] at e2
    obtain ⟨⟨ρ4, P4⟩, e4, ⟨fl, ρ5, P5⟩, e5, e6⟩ := e2
    refine h1 bs ρ2 σ2 (src :: os) (v :: vs) P2 H' (.fz d) x _ ρ4 P4 R3 e4 fun σ4 H4 R4 _ => ?_
    refine h2 bs ρ4 σ4 (src :: os) (v :: vs) P4 H4 _ (fl, ρ5, P5) R4 e5 ?_
    cases fl with
    | nx => exact fun σ5 H5 R5 => ⟨ρ5, P5, R5, e6⟩
    | ct => exact fun σ5 H5 R5 => ⟨ρ5, P5, R5, e6⟩
    | bk => cases e6; exact fun σ5 H5 R5 => q σ5 H5 R5.pop
    | rt s => cases e6; exact fun σ5 w H5 R5 => q σ5 w H5 R5.pop2
  · have : i = items.length := by omega
    subst this
    rw [List.drop_length] at e2
    simp only [forGo, Option.some.injEq] at e2
    subst e2
    exact .inl ⟨ok2 (Nat.le_refl _), q σ2 H2 R2.pop⟩
/-- the items of a list or tuple that stands -/
def iSeq (f : XM) : IM := fun ρ P => (f ρ P).bind fun (a, P1) => match a with
  | .fz (.list ds) => some (ds, a, P1)
  | .fz (.tuple ds) => some (ds, a, P1)
  | _ => none
theorem RelX.push2 {K : PySem.W.Frag} {bs : List Nat} {ρ : EV} {σ : L2.St} {os : List SV} {vs : List V} {P : Store} {H F : Hp} {ad : List Addr} (R : RelX K bs ρ σ os vs P H F ad) {d : PyData} {v : V} (h : Fz K F v d) : Rel K bs ρ σ (.fz d :: os) (v :: vs) P H := ⟨F, ad, R.push h⟩
theorem pid_list {tg e : Expr} {f : XM} (h : PEd X e f) : PId X tg e (fun ρ P => (f ρ P).bind fun (a, P1) => match a with | .fz (.list ds) => some (ds, a, P1) | _ => none) := by
  obtain ⟨t, p, h1⟩ := h
  refine ⟨_, pi_list p, fun bs ρ σ os vs P H R items src P' Rl e q => ?_⟩
  simp only [Option.bind_eq_some_iff] at e
  obtain ⟨⟨a, P1⟩, e1, e2⟩ := e
  refine h1 bs ρ σ os vs P H _ a P1 Rl e1 fun v H1 R1 => ?_
  simp only at e2
  split at e2
  · rename_i ds
    cases e2
    have R1' := R1
    obtain ⟨F, ad, R1⟩ := R1
    obtain ⟨r1, R2⟩ := R1.pop
    have hv : ∃ l, v = .ref l := by cases r1; exact ⟨_, rfl⟩
    obtain ⟨l, rfl⟩ := hv
    have hl : ∃ xs, SqL X.K H1 l xs := by
      cases r1 with
      | lst hp _ => exact ⟨_, R1.sub.sqL hp⟩
    refine ⟨l, rfl, hl, q (Itl X.K l) (.ref l) H1 _ R1' fun bs ρ σ os vs P H i R => ?_⟩
    obtain ⟨F, ad, R⟩ := R
    obtain ⟨r, R3⟩ := R.pop
    cases r with
    | lst hp tt =>
      rename_i xs
      have hs : SqL X.K H l xs := R.sub.sqL hp
      have hln := tt.length
      refine ⟨fun hi => ?_, fun hi => ⟨xs, hs, by omega⟩⟩
      have hx : xs[i]? = some xs[i] := List.getElem?_eq_getElem (by omega)
      refine ⟨⟨xs, xs[i], hs, hx⟩, fun x H' ⟨e1, e2⟩ => ?_⟩
      subst e1
      have ex : x = xs[i] := Option.some.inj ((e2 xs hs).symm.trans hx)
      subst ex
      obtain ⟨d, hd, fd⟩ := tt.get hx
      exact ⟨d, hd, R.push2 fd⟩
  · cases e2
theorem pid_tup {tg e : Expr} {f : XM} (h : PEd X e f) : PId X tg e (fun ρ P => (f ρ P).bind fun (a, P1) => match a with | .fz (.tuple ds) => some (ds, a, P1) | _ => none) := by
  obtain ⟨t, p, h1⟩ := h
  refine ⟨_, pi_tup p, fun bs ρ σ os vs P H R items src P' Rl e q => ?_⟩
  simp only [Option.bind_eq_some_iff] at e
  obtain ⟨⟨a, P1⟩, e1, e2⟩ := e
  refine h1 bs ρ σ os vs P H _ a P1 Rl e1 fun v H1 R1 => ?_
  simp only at e2
  split at e2
  · rename_i ds
    cases e2
    have R1' := R1
    obtain ⟨F, ad, R1⟩ := R1
    obtain ⟨r1, R2⟩ := R1.pop
    have hv : ∃ l, v = .ref l := by cases r1; exact ⟨_, rfl⟩
    obtain ⟨l, rfl⟩ := hv
    have hl : ∃ xs, SqT X.K H1 l xs := by
      cases r1 with
      | tup hp _ => exact ⟨_, (R1.sub.tup hp).sqT⟩
    refine ⟨l, rfl, hl, q (Itt X.K l) (.ref l) H1 _ R1' fun bs ρ σ os vs P H i R => ?_⟩
    obtain ⟨F, ad, R⟩ := R
    obtain ⟨r, R3⟩ := R.pop
    cases r with
    | tup hp tt =>
      rename_i xs
      have hs : SqT X.K H l xs := (R.sub.tup hp).sqT
      have hln := tt.length
      refine ⟨fun hi => ?_, fun hi => ⟨xs, hs, by omega⟩⟩
      have hx : xs[i]? = some xs[i] := List.getElem?_eq_getElem (by omega)
      refine ⟨⟨xs, xs[i], hs, hx⟩, fun x H' ⟨e1, e2⟩ => ?_⟩
      subst e1
      have ex : x = xs[i] := Option.some.inj ((e2 xs hs).symm.trans hx)
      subst ex
      obtain ⟨d, hd, fd⟩ := tt.get hx
      exact ⟨d, hd, R.push2 fd⟩
  · cases e2
def whGo (c : BM) (body : SM) : Nat → SM
  | 0, _, _ => none
  | n + 1, ρ, P => (c ρ P).bind fun (b, P1) => if b = true then (body ρ P1).bind fun (fl, ρ2, P2) => match fl with
      | .nx => whGo c body n ρ2 P2
      | .ct => whGo c body n ρ2 P2
      | .bk => some (.nx, ρ2, P2)
      | .rt s => some (.rt s, ρ2, P2)
    else some (.nx, ρ, P1)
theorem psd_while (n : Nat) {c : Expr} {body : List Stmt} {fc : BM} {m : SM} (hp : PassesOwn (model X.prog X.w) X.A X.env X.xe) (hc : PTd X c fc) (hb : PSsd X body m) : PSd X (.While c body [] pos) (whGo fc m n) := by
  obtain ⟨t, p1, h1⟩ := hc
  obtain ⟨u, p2, h2⟩ := hb
  refine ⟨_, ps_while hp p1 p2, fun bs ρ σ os vs P H D r R e q => ?_⟩
  refine ⟨fun k σ H => ∃ ρ P, Rel X.K bs ρ σ os vs P H ∧ whGo fc m k ρ P = some r, ⟨n, ρ, P, R, e⟩, ?_⟩
  rintro k σ2 H2 ⟨ρ2, P2, R2, e2⟩
  cases k with
  | zero => simp [whGo] at e2
  | succ k =>
    simp only [whGo, Option.bind_eq_some_iff] at e2
    obtain ⟨⟨b, P3⟩, e3, e4⟩ := e2
    refine h1 bs ρ2 σ2 os vs P2 H2 _ b P3 R2 e3 fun H3 R3 => ?_
    cases b with
    | true =>
      simp only [if_true, Option.bind_eq_some_iff] at e4
      obtain ⟨⟨fl, ρ5, P5⟩, e5, e6⟩ := e4
      rw [if_pos rfl]
      refine ⟨fun σ H => ∃ ρ P, Rel X.K bs ρ σ os vs P H ∧ whGo fc m k ρ P = some r, fun σ' H' h => ⟨k, Nat.lt_succ_self k, h⟩, ?_⟩
      refine h2 bs ρ2 σ2 os vs P3 H3 _ (fl, ρ5, P5) R3 e5 ?_
      cases fl with
      | nx => exact fun σ5 H5 R5 => ⟨ρ5, P5, R5, e6⟩
      | ct => exact fun σ5 H5 R5 => ⟨ρ5, P5, R5, e6⟩
      | bk => cases e6; exact q
      | rt s => cases e6; exact q
    | false =>
      rw [if_neg Bool.false_ne_true] at e4 ⊢
      cases e4
      exact q σ2 H3 R3
end
end Pd

set_option Elab.async false
set_option linter.all false
set_option maxRecDepth 100000
set_option maxHeartbeats 1000000
/-! The layer Pd, part G: what a loop walks, comprehensions. -/
namespace Pd
open PySem PySem.Spec PyProof.Rows L2

/-! ### cutting the store -/
section
variable {K : PySem.W.Frag} {bs : List Nat} {ρ : EV} {σ : L2.St} {os : List SV} {vs : List V} {P : Store} {H F : Hp} {ad : List Addr} {n : Nat}
def SV.lt (n : Nat) : SV → Prop
  | .fz _ => True
  | .ptr k => k < n
  | .lk _ _ _ => True
theorem SVR.ltOf {v : V} {s : SV} (h : SVR K F ad v s) : s.lt ad.length := by
  cases s with
  | fz d => trivial
  | ptr k => obtain ⟨a, e, _⟩ := h; exact (List.getElem?_eq_some_iff.mp e).1
  | lk _ _ _ => trivial
theorem SVR.take {v : V} {s : SV} (h : SVR K F ad v s) (l : s.lt n) : SVR K F (ad.take n) v s := by
  cases s with
  | fz d => exact h
  | ptr k => obtain ⟨a, e, q⟩ := h; exact ⟨a, by rw [List.getElem?_take_of_lt l]; exact e, q⟩
  | lk _ _ _ => exact h
theorem SVA.ltOf : ∀ {vs : List V} {l : List SV}, SVA K F ad vs l → ∀ s ∈ l, s.lt ad.length
  | _, _, .nil, s, h => by simp at h
  | _, _, .cons a t, s, h => by
    rcases List.mem_cons.mp h with rfl | h
    · exact a.ltOf
    · exact SVA.ltOf t s h
theorem SVA.take : ∀ {vs : List V} {l : List SV}, SVA K F ad vs l → (∀ s ∈ l, s.lt n) → SVA K F (ad.take n) vs l
  | _, _, .nil, _ => .nil
  | _, _, .cons a t, h => .cons (a.take (h _ List.mem_cons_self)) (SVA.take t fun s hs => h s (List.mem_cons_of_mem _ hs))
theorem ps_lt {l : List SV} (h : ∀ j ∈ l.flatMap SV.ps, j < n) : ∀ s ∈ l, s.lt n := fun s hs => by
  cases s with
  | fz d => trivial
  | ptr k => exact h k (List.mem_flatMap.mpr ⟨_, hs, by simp [SV.ps]⟩)
  | lk _ _ _ => trivial
theorem lt_ps {l : List SV} (h : ∀ s ∈ l, s.lt n) : ∀ j ∈ l.flatMap SV.ps, j < n := fun j hj => by
  obtain ⟨s, hs, q⟩ := List.mem_flatMap.mp hj
  cases s with
  | fz d => simp [SV.ps] at q
  | ptr k => simp only [SV.ps, List.mem_singleton] at q; subst q; exact h _ hs
  | lk _ _ _ => simp [SV.ps] at q
theorem CellR.lows {a : Addr} {c : Cell} (h : CellR K F H ad a c) : ∀ j ∈ c.ps, j < ad.length := by
  cases c with
  | fz d => intro j hj; simp [Cell.ps] at hj
  | lst l => obtain ⟨_, xs, _, t⟩ := h; exact lt_ps t.ltOf
  | dK l =>
    obtain ⟨_, xs, _, t⟩ := h
    intro j hj
    refine lt_ps t.ltOf j ?_
    simpa [Cell.ps, List.flatMap_map] using hj
  | dT l =>
    obtain ⟨_, xs, _, t⟩ := h
    intro j hj
    refine lt_ps t.ltOf j ?_
    simpa [Cell.ps, List.flatMap_map] using hj
theorem CellR.take {a : Addr} {c : Cell} (h : CellR K F H ad a c) (l : ∀ j ∈ c.ps, j < n) : CellR K F H (ad.take n) a c := by
  cases c with
  | fz d => exact h
  | lst r => obtain ⟨f, xs, e, t⟩ := h; exact ⟨f, xs, e, t.take (ps_lt l)⟩
  | dK r =>
    obtain ⟨f, xs, e, t⟩ := h
    exact ⟨f, xs, e, t.take (ps_lt (by simpa [Cell.ps, List.flatMap_map] using l))⟩
  | dT r =>
    obtain ⟨f, xs, e, t⟩ := h
    exact ⟨f, xs, e, t.take (ps_lt (by simpa [Cell.ps, List.flatMap_map] using l))⟩
/-- a new base at the store's end -/
theorem RelX.enter (R : RelX K bs ρ σ os vs P H F ad) : RelX K (P.length :: bs) { ρ with b := P.length } σ os vs P H F ad := by
  refine { R with slots := R.slots, bas := ⟨fun c hc => ?_, fun c hc k x hk e j hj => ?_⟩, bb := fun c hc => ?_ }
  · rcases List.mem_cons.mp hc with rfl | hc
    · exact Nat.le_refl _
    · exact R.bas.le c hc
  · rcases List.mem_cons.mp hc with rfl | hc
    · have hl : k < ad.length := by rw [R.len]; exact hk
      have := (R.cells k x ad[k] e (List.getElem?_eq_getElem hl)).lows j hj
      rw [R.len] at this; exact this
    · exact R.bas.low c hc k x hk e j hj
  · rcases List.mem_cons.mp hc with rfl | hc
    · exact Nat.le_refl _
    · exact R.bas.le c hc
theorem RelX.slotsLt (R : RelX K bs ρ σ os vs P H F ad) : ∀ (i : Nat) (s : SV), ρ.sl[i]? = some (some s) → s.lt P.length := fun i s e => by
  obtain ⟨v, _, r⟩ := R.slots.2 i s e
  rw [← R.len]; exact r.ltOf
theorem RelX.topsLt (R : RelX K bs ρ σ os vs P H F ad) : ∀ s ∈ os, s.lt P.length := by rw [← R.len]; exact R.tops.ltOf
/-- .. and back to it -/
theorem RelX.cut (R : RelX K (n :: bs) ρ σ os vs P H F ad) {ρ' : EV} {σ' : L2.St} {os' : List SV} {vs' : List V} (hs : SlR K F ad ρ'.sl σ') (hl : ∀ (i : Nat) (s : SV), ρ'.sl[i]? = some (some s) → s.lt n) (ht : SVA K F ad vs' os') (hlt : ∀ s ∈ os', s.lt n) (hb : ∀ c ∈ bs, c ≤ ρ'.b) (hbn : ∀ c ∈ bs, c ≤ n) :
    RelX K bs ρ' σ' os' vs' (P.take n) H F (ad.take n) := by
  refine ⟨R.sub, by simp [R.len], R.nd.sublist (List.take_sublist _ _), fun a ha => R.there a (List.mem_of_mem_take ha), fun k c a e1 e2 => ?_, ⟨hs.1, fun i s e => ?_⟩, ht.take hlt, ⟨fun c hc => ?_, fun c hc k x hk e j hj => ?_⟩, hb⟩
  · have hk : k < n := by
      have := (List.getElem?_eq_some_iff.mp e1).1
      rw [List.length_take] at this; omega
    rw [List.getElem?_take_of_lt hk] at e1 e2
    exact (R.cells k c a e1 e2).take (R.bas.low n List.mem_cons_self k c hk e1)
  · obtain ⟨v, e1, r⟩ := hs.2 i s e
    exact ⟨v, e1, r.take (hl i s e)⟩
  · have h1 := R.bas.le c (List.mem_cons_of_mem _ hc)
    have h2 := hbn c hc
    rw [List.length_take]; omega
  · have h2 := hbn c hc
    rw [List.getElem?_take_of_lt (by omega)] at e
    exact R.bas.low c (List.mem_cons_of_mem _ hc) k x hk e j hj
end

/-! ### what is walked -/
section
variable {X : Cx} {tg : Expr}
theorem PI.or {iter : Expr} {w w' : TI} (h : PI X tg iter w) (h' : PI X tg iter w') : PI X tg iter (fun σ H R => w σ H R ∨ w' σ H R) :=
  ⟨fun pins s σ H R I q => q.elim (h.run pins s σ H R I) (h'.run pins s σ H R I)⟩
theorem PId.or {iter : Expr} {f g : IM} (h : PId X tg iter f) (h' : PId X tg iter g) : PId X tg iter (fun ρ P => (f ρ P).or (g ρ P)) := by
  obtain ⟨w, p, h1⟩ := h
  obtain ⟨w', p', h2⟩ := h'
  refine ⟨_, PI.or p p', fun bs ρ σ os vs P H R items src P' Rl e q => ?_⟩
  have e : (f ρ P).or (g ρ P) = some (items, src, P') := e
  cases hf : f ρ P with
  | some z =>
    rw [hf] at e
    simp only [Option.some_or, Option.some.injEq] at e
    subst e
    exact .inl (h1 bs ρ σ os vs P H R items src P' Rl hf q)
  | none =>
    rw [hf] at e
    exact .inr (h2 bs ρ σ os vs P H R items src P' Rl (by simpa using e) q)
def signsD (x : Str) : List PyData := x.cps.toList.map fun c => .str ⟨#[c]⟩
theorem pid_str {e : Expr} {f : XM} (h : PEd X e f) : PId X tg e (fun ρ P => (f ρ P).bind fun (a, P1) => match a with | .fz (.str x) => some (signsD x, a, P1) | _ => none) := by
  obtain ⟨t, p, h1⟩ := h
  refine ⟨_, pi_str p, fun bs ρ σ os vs P H R items src P' Rl e q => ?_⟩
  simp only [Option.bind_eq_some_iff] at e
  obtain ⟨⟨a, P1⟩, e1, e2⟩ := e
  refine h1 bs ρ σ os vs P H _ a P1 Rl e1 fun v H1 R1 => ?_
  simp only at e2
  split at e2
  · rename_i x
    cases e2
    have hv : v = .str x := by
      obtain ⟨F, ad, R1⟩ := R1
      obtain ⟨r1, _⟩ := R1.pop
      cases r1; rfl
    subst hv
    refine ⟨x, rfl, q (Its x) (.str x) H1 _ R1 fun bs ρ σ os vs P H i R => ⟨fun hi => ?_, fun hi => ?_⟩⟩
    · have hi' : i < x.cps.size := by simpa [signsD] using hi
      refine ⟨hi', fun y H' ⟨e1, c, hc, ey⟩ => ?_⟩
      subst e1; subst ey
      obtain ⟨F, ad, R⟩ := R
      refine ⟨.str ⟨#[c]⟩, ?_, ⟨F, ad, R.push (show Fz X.K F _ _ from .str _)⟩⟩
      unfold signsD
      rw [List.getElem?_map, Array.getElem?_toList, hc]; rfl
    · show x.cps.size ≤ i
      simpa [signsD] using hi
  · cases e2
/-! ### the keys of a dict: it stays locked -/
def iKeysL (td : TE) : TI := fun σ H R => td σ H fun x H1 => ∃ d kvs, x = .ref d ∧ ((∃ o, H1 d = some (.frz o (.dK kvs)) ∧ R (Itk d o kvs) H1) ∨ (H1 d = some (.dK kvs) ∧ ∀ o, R (Itk d o kvs) (upd H1 d (.frz o (.dK kvs)))))
theorem pi_keysL {e : Expr} {td : TE} (he : PE X e td) : PI X tg e (iKeysL td) := by
  refine ⟨fun pins s σ H R I h => ?_⟩
  refine thn (he.run pins s σ H _ I h) fun u s1 ⟨x, H1, I1, rx, d, kvs, ex, q⟩ => ?_
  subst ex
  obtain rfl : u = Value.ref d := rx
  have key : ∃ (H2 : Hp) (o : Obj), L2.Inv X pins σ H2 s1 ∧ H2 d = some (.frz o (.dK kvs)) ∧ R (Itk d o kvs) H2 := by
    rcases q with ⟨o, hd, q⟩ | ⟨hd, q⟩
    · exact ⟨H1, o, I1, hd, q⟩
    · obtain ⟨o, I2⟩ := I1.lock hd trivial
      exact ⟨_, o, I2, upd_same, q o⟩
  obtain ⟨H2, o, I2, hd, q⟩ := key
  obtain ⟨f1, f2, f3, es, ep, ws, f4, f5, f6, f7⟩ := I2.frzK hd
  refine iter_keys f1 f2 f3 f4 (pi_one (tk := s1.toks) I2 _ (turn_keys _ f4) ⟨_, Heap.get?_push_size _ rfl, rfl, ?_⟩ q)
  rw [f5] <;> rfl
theorem RelX.lockD {K : PySem.W.Frag} {bs : List Nat} {ρ : EV} {σ : L2.St} {os : List SV} {vs : List V} {P : Store} {H F : Hp} {ad : List Addr} (R : RelX K bs ρ σ os vs P H F ad) {d : Addr} {o : Obj} {kvs : List (Key × V)} (hF : F d = some (.dK kvs)) :
    RelX K bs ρ σ os vs P (upd H d (.frz o (.dK kvs))) (upd F d (.frz o (.dK kvs))) ad := by
  have l : Le F (upd F d (.frz o (.dK kvs))) := fun a u e => by
    by_cases h : a = d
    · subst h
      rw [hF] at e
      cases e
      exact .inr ⟨rfl, o, upd_same⟩
    · exact .inl (by rw [upd_ne h]; exact e)
  refine ⟨fun a u e => ?_, R.len, R.nd, fun a ha => ?_, fun k c a e1 e2 => ?_, R.slots.mono l (.refl _), R.tops.mono l (.refl _), R.bas, R.bb⟩
  · by_cases h : a = d
    · subst h
      rw [upd_same] at e ⊢
      exact .inl e
    · rw [upd_ne h] at e ⊢
      exact R.sub a u e
  · by_cases h : a = d
    · subst h; exact ⟨_, upd_same⟩
    · obtain ⟨u, e⟩ := R.there a ha
      exact ⟨u, by rw [upd_ne h]; exact e⟩
  · have hc := R.cells k c a e1 e2
    cases c with
    | fz z => exact Fz.mono l hc
    | lst z =>
      obtain ⟨n, xs, e, t⟩ := hc
      have ne : a ≠ d := fun q => by subst q; rw [hF] at n; cases n
      exact ⟨by rw [upd_ne ne]; exact n, xs, by rw [upd_ne ne]; exact e, t.mono l (.refl _)⟩
    | dK z =>
      obtain ⟨n, xs, e, t⟩ := hc
      have ne : a ≠ d := fun q => by subst q; rw [hF] at n; cases n
      exact ⟨by rw [upd_ne ne]; exact n, xs, by rw [upd_ne ne]; exact e, t.mono l (.refl _)⟩
    | dT z =>
      obtain ⟨n, xs, e, t⟩ := hc
      have ne : a ≠ d := fun q => by subst q; rw [hF] at n; cases n
      exact ⟨by rw [upd_ne ne]; exact n, xs, by rw [upd_ne ne]; exact e, t.mono l (.refl _)⟩
/-- an int or a text -/
def isKD : PyData → Bool
  | .int _ => true
  | .str _ => true
  | _ => false
def keysD (kvs : List (PyData × PyData)) : List PyData := kvs.map (·.1)
theorem keysD_zip (ks : List Key) : ∀ ds : List PyData, ks.length = ds.length → keysD ((ks.map keyD).zip ds) = ks.map keyD := by
  induction ks with
  | nil => intro ds _; rfl
  | cons k ks ih =>
    intro ds h
    cases ds with
    | nil => simp at h
    | cons d ds =>
      have := ih ds (by simpa using h)
      simpa [keysD] using this
theorem Fz.dct {K : PySem.W.Frag} {F : Hp} {v : V} {kvs : List (PyData × PyData)} (h : Fz K F v (.dict kvs)) (hk : kvs.all (fun p => isKD p.1) = true) : ∃ (a : Addr) (ks : List Key) (xs : List V), v = .ref a ∧ Rd F a (.dK (ks.zip xs)) ∧ ks.length = xs.length ∧ keysD kvs = ks.map keyD := by
  cases h with
  | @dK a ks xs ds hp hl t => exact ⟨a, ks, xs, rfl, hp, hl, keysD_zip ks ds (by have := t.length; omega)⟩
  | @dT a ks xs ds hp hl n t =>
    have hn := t.length
    cases ks with
    | nil => exact absurd rfl n
    | cons k ks =>
      cases ds with
      | nil => simp at hn; simp [hn] at hl
      | cons d ds => simp [isKD] at hk
theorem itok_keys {K : PySem.W.Frag} {d : Addr} {o : Obj} {ks : List Key} {xs : List V} {v : V} (hl : ks.length = xs.length) : ItOk K (Itk d o (ks.zip xs)) (ks.map keyD) (.lk d o (.dK (ks.zip xs))) v := fun bs ρ σ os vs P H i R => by
  have hz : (ks.zip xs).length = ks.length := by simp; omega
  have hH : H d = some (.frz o (.dK (ks.zip xs))) := by
    obtain ⟨F, ad, R⟩ := R
    obtain ⟨r, _⟩ := R.pop
    have r : F d = some (.frz o (.dK (ks.zip xs))) := r
    rcases R.sub d _ r with e | ⟨n, _⟩
    · exact e
    · cases n
  refine ⟨fun hi => ?_, fun hi => ⟨hH, by rw [hz]; simpa using hi⟩⟩
  have hi' : i < ks.length := by simpa using hi
  refine ⟨⟨hH, by rw [hz]; exact hi'⟩, fun y H' ⟨e1, k, w, hk, ey⟩ => ?_⟩
  subst e1; subst ey
  obtain ⟨F, ad, R⟩ := R
  have hk2 : ks[i]? = some k := by
    have h3 := congrArg (Option.map Prod.fst) hk
    rw [← List.getElem?_map, List.map_fst_zip (by omega)] at h3
    simpa using h3
  refine ⟨keyD k, by rw [List.getElem?_map, hk2]; rfl, ⟨F, ad, R.push ?_⟩⟩
  cases k with
  | inl n => exact (show Fz K F _ _ from .int _)
  | inr n => exact (show Fz K F _ _ from .str _)
theorem pid_dict {e : Expr} {f : XM} (h : PEd X e f) : PId X tg e (fun ρ P => (f ρ P).bind fun (a, P1) => match a with | .fz (.dict kvs) => if kvs.all (fun p => isKD p.1) = true then some (keysD kvs, a, P1) else none | _ => none) := by
  obtain ⟨t, p, h1⟩ := h
  refine ⟨_, pi_keysL p, fun bs ρ σ os vs P H R items src P' Rl e q => ?_⟩
  simp only [Option.bind_eq_some_iff] at e
  obtain ⟨⟨a, P1⟩, e1, e2⟩ := e
  refine h1 bs ρ σ os vs P H _ a P1 Rl e1 fun v H1 R1 => ?_
  simp only at e2
  split at e2
  · rename_i kvs
    split at e2
    · rename_i hk
      cases e2
      obtain ⟨F, ad, R1⟩ := R1
      obtain ⟨r1, R2⟩ := R1.pop
      obtain ⟨a, ks, xs, rfl, hp, hl, hkeys⟩ := Fz.dct r1 hk
      rw [hkeys] at q
      refine ⟨a, ks.zip xs, rfl, ?_⟩
      rcases hp with hp | ⟨o, hp⟩
      · rcases R1.sub a _ hp with e | ⟨_, o, e⟩
        · refine .inr ⟨e, fun o => ?_⟩
          exact q (Itk a o (ks.zip xs)) (.ref a) _ (.lk a o (.dK (ks.zip xs))) ⟨_, ad, (R2.lockD (o := o) hp).push (show upd F a _ a = _ from upd_same)⟩ (itok_keys hl)
        · refine .inl ⟨o, e, ?_⟩
          have hH : upd H1 a (.frz o (.dK (ks.zip xs))) = H1 := by
            funext b
            by_cases h : b = a
            · subst h; rw [upd_same, e]
            · rw [upd_ne h]
          have R3 := R2.lockD (o := o) hp
          rw [hH] at R3
          exact q (Itk a o (ks.zip xs)) (.ref a) _ (.lk a o (.dK (ks.zip xs))) ⟨_, ad, R3.push (show upd F a _ a = _ from upd_same)⟩ (itok_keys hl)
      · have e : H1 a = some (.frz o (.dK (ks.zip xs))) := by
          rcases R1.sub a _ hp with e | ⟨n, _⟩
          · exact e
          · cases n
        exact .inl ⟨o, e, q (Itk a o (ks.zip xs)) (.ref a) _ (.lk a o (.dK (ks.zip xs))) ⟨_, ad, R2.push (show F a = _ from hp)⟩ (itok_keys hl)⟩
    · cases e2
  · cases e2
/-- a list, a tuple, a text, the keys of a dict -/
def iAny (f : XM) : IM := fun ρ P => (f ρ P).bind fun (a, P1) => match a with
  | .fz (.list ds) => some (ds, a, P1)
  | .fz (.tuple ds) => some (ds, a, P1)
  | .fz (.str x) => some (signsD x, a, P1)
  | .fz (.dict kvs) => if kvs.all (fun p => isKD p.1) = true then some (keysD kvs, a, P1) else none
  | _ => none
theorem pid_any {e : Expr} {f : XM} (h : PEd X e f) : PId X tg e (iAny f) := by
  have h1 := (pid_list (tg := tg) h).or ((pid_tup h).or ((pid_str h).or (pid_dict h)))
  have e1 : (fun ρ P => ((f ρ P).bind fun (a, P1) => match a with | .fz (.list ds) => some (ds, a, P1) | _ => none).or (((f ρ P).bind fun (a, P1) => match a with | .fz (.tuple ds) => some (ds, a, P1) | _ => none).or
      (((f ρ P).bind fun (a, P1) => match a with | .fz (.str x) => some (signsD x, a, P1) | _ => none).or ((f ρ P).bind fun (a, P1) => match a with | .fz (.dict kvs) => if kvs.all (fun p => isKD p.1) = true then some (keysD kvs, a, P1) else none | _ => none)))) = iAny f := by
    funext ρ P
    unfold iAny
    cases f ρ P with
    | none => rfl
    | some z =>
      obtain ⟨a, P1⟩ := z
      cases a with
      | ptr k => rfl
      | lk _ _ _ => rfl
      | fz d => cases d <;> rfl
  rw [← e1]; exact h1
def rangeD (lo : Int) (n : Nat) : List PyData := (List.range n).map fun i => .int (lo + (i : Nat))
theorem rangeD_len (lo : Int) (n : Nat) : (rangeD lo n).length = n := by simp [rangeD]
theorem itok_range {K : PySem.W.Frag} {lo : Int} {n : Nat} {d : SV} {v : V} : ItOk K (Itr lo n) (rangeD lo n) d v := fun bs ρ σ os vs P H i R => by
  refine ⟨fun hi => ?_, fun hi => by rw [rangeD_len] at hi; exact hi⟩
  rw [rangeD_len] at hi
  refine ⟨hi, fun x H' ⟨e1, e2⟩ => ?_⟩
  subst e1; subst e2
  obtain ⟨F, ad, R⟩ := R
  exact ⟨.int (lo + i), by simp [rangeD, hi], ⟨F, ad, R.push (show Fz K F _ _ from .int _)⟩⟩
def iRange (g : AM) : IM := fun ρ P => (g ρ P).bind fun (l, P1) => match l with
  | [.fz (.int j)] => if -(2 ^ 62) ≤ j ∧ j < 2 ^ 62 then some (rangeD 0 j.toNat, .fz .none, P1) else none
  | [.fz (.int i), .fz (.int j)] => if -(2 ^ 62) ≤ i ∧ i < 2 ^ 62 ∧ -(2 ^ 62) ≤ j ∧ j < 2 ^ 62 then some (rangeD i (j - i).toNat, .fz .none, P1) else none
  | _ => none
theorem pid_range1 {a : Expr} {f : XM} {p pos : Pos} (hg : Gl X "range") (hm : X.mg "range" = none) (ha : PEd X a f) (hs : starEach [a] X.env = [(false, eval a X.env)] := by rfl) : PId X tg (.Call (.Name "range" p) [a] [] pos) (iRange (aCons f aNil)) := by
  obtain ⟨t, pa, h1⟩ := pad_cons ha pad_nil (by rw [hs]; rfl)
  refine ⟨_, pi_range1 hg hm pa hs, fun bs ρ σ os vs P H R items src P' Rl e q => ?_⟩
  simp only [iRange, Option.bind_eq_some_iff] at e
  obtain ⟨⟨l, P1⟩, e1, e2⟩ := e
  refine h1 bs ρ σ os vs P H _ l P1 Rl e1 fun ws H1 hl R1 => ?_
  obtain ⟨F, ad, R1⟩ := R1
  obtain ⟨ra, R2⟩ := R1.args hl
  simp only at e2
  split at e2
  · split at e2
    · rename_i hz
      cases e2
      cases ra with
      | cons r1 ra =>
        cases ra
        cases r1
        exact ⟨_, rfl, hz.1, hz.2, q _ .non H1 (.fz .none) ⟨F, ad, R2.push (show Fz X.K F _ _ from .non)⟩ itok_range⟩
    · cases e2
  · simp [aCons, aNil, Option.bind_eq_some_iff] at e1
  · cases e2
theorem pid_range2 {a b : Expr} {f g : XM} {p pos : Pos} (hg : Gl X "range") (hm : X.mg "range" = none) (ha : PEd X a f) (hb : PEd X b g) (hs : starEach [a, b] X.env = [(false, eval a X.env), (false, eval b X.env)] := by rfl) (hs2 : starEach [b] X.env = [(false, eval b X.env)] := by rfl) :
    PId X tg (.Call (.Name "range" p) [a, b] [] pos) (iRange (aCons f (aCons g aNil))) := by
  obtain ⟨t, pa, h1⟩ := pad_cons ha (pad_cons hb pad_nil (by rw [hs2]; rfl)) (by rw [hs, hs2])
  refine ⟨_, pi_range2 hg hm pa hs hs2, fun bs ρ σ os vs P H R items src P' Rl e q => ?_⟩
  simp only [iRange, Option.bind_eq_some_iff] at e
  obtain ⟨⟨l, P1⟩, e1, e2⟩ := e
  refine h1 bs ρ σ os vs P H _ l P1 Rl e1 fun ws H1 hl R1 => ?_
  obtain ⟨F, ad, R1⟩ := R1
  obtain ⟨ra, R2⟩ := R1.args hl
  simp only at e2
  split at e2
  · simp [aCons, aNil, Option.bind_eq_some_iff] at e1
  · split at e2
    · rename_i hz
      cases e2
      cases ra with
      | cons r1 ra =>
        cases ra with
        | cons r2 ra =>
          cases ra
          cases r1
          cases r2
          exact ⟨_, _, rfl, hz, q _ .non H1 (.fz .none) ⟨F, ad, R2.push (show Fz X.K F _ _ from .non)⟩ itok_range⟩
    · cases e2
  · cases e2
end

/-! ### comprehensions -/
def EV.wipe (ρ : EV) (vs : List Nat) : EV := { ρ with sl := vs.foldr (fun v l => l.set v none) ρ.sl }
theorem SlR.wipe {K : PySem.W.Frag} {F : Hp} {ad : List Addr} {sl : List (Option SV)} {σ : L2.St} (h : SlR K F ad sl σ) : ∀ vs : List Nat, SlR K F ad (vs.foldr (fun v l => l.set v none) sl) (L2.wipe σ vs)
  | [] => h
  | v :: vs => by
    have ih := SlR.wipe h vs
    refine ⟨by simp [L2.wipe, ih.1], fun i s e => ?_⟩
    simp only [List.foldr_cons] at e
    by_cases hi : v = i
    · subst hi
      by_cases hl : v < (vs.foldr (fun v l => l.set v none) sl).length
      · rw [List.getElem?_set_self hl] at e; cases e
      · rw [List.getElem?_eq_none (by simpa using hl)] at e; cases e
    · rw [List.getElem?_set_ne hi] at e
      obtain ⟨w, hw, r⟩ := ih.2 i s e
      exact ⟨w, by show ((L2.wipe σ vs).set v none)[i]? = _; rw [List.getElem?_set_ne hi]; exact hw, r⟩
def lcGo (g : GM) (tt : BM) (te : XM) (ρ : EV) (n : Nat) : List PyData → Store → Option Store
  | [], S => some S
  | d :: r, S => (g (.fz d) ρ S).bind fun (ρ1, S1) => (tt ρ1 S1).bind fun (b, S2) =>
    if b = true then (te ρ1 S2).bind fun (s, S3) => match s, S3[n]? with
      | .fz z, some (.lst acc) => if acc.length < sizeLine then lcGo g tt te ρ n r (S3.set n (.lst (acc ++ [.fz z]))) else none
      | _, _ => none
    else lcGo g tt te ρ n r S2
def mLC (own : List Nat) (f : IM) (g : GM) (tt : BM) (te : XM) : XM := fun ρ P => (f ρ P).bind fun (items, _, P1) =>
  (lcGo g tt te { ρ.wipe own with b := P1.length } P1.length items (P1 ++ [.lst []])).bind fun S => match S[P1.length]? with
    | some (.lst acc) => (fzs acc).map fun ds => (.fz (.list ds), S.take P1.length)
    | _ => none
def PTsd (X : Cx) (ifs : List Expr) (f : BM) : Prop := ∃ t, PTs X ifs t ∧ ∀ (bs : List Nat) (ρ : EV) (σ : L2.St) (os : List SV) (vs : List V) (P : Store) (H : Hp) (Q : Bool → Hp → Prop) (r : Bool) (P' : Store), Rel X.K bs ρ σ os vs P H → f ρ P = some (r, P') →
  (∀ H', Rel X.K bs ρ σ os vs P' H' → Q r H') → t σ H Q
def bYes : BM := fun _ P => some (true, P)
theorem ptsd_nil {X : Cx} : PTsd X [] bYes := ⟨_, pts_nil, fun bs ρ σ os vs P H Q r P' R e q => by
  simp only [bYes, Option.some.injEq, Prod.mk.injEq] at e
  obtain ⟨rfl, rfl⟩ := e
  exact q H R⟩
theorem ptsd_one {X : Cx} {c : Expr} {f : BM} (h : PTd X c f) : PTsd X [c] f := let ⟨t, p, q⟩ := h; ⟨t, pts_one p, q⟩
end Pd

set_option Elab.async false
set_option linter.all false
set_option maxRecDepth 100000
set_option maxHeartbeats 1000000
/-! The layer Pd, part H: comprehensions' proof. -/
namespace Pd
open PySem PySem.Spec PyProof.Rows L2

def tM (K : PySem.W.Frag) (f : XM) : TE := fun σ H Q => ∃ (bs : List Nat) (ρ : EV) (os : List SV) (vs : List V) (P : Store) (r : SV) (P' : Store), Rel K bs ρ σ os vs P H ∧ f ρ P = some (r, P') ∧ ∀ v H', Rel K bs ρ σ (r :: os) (v :: vs) P' H' → Q v H'
def tMT (K : PySem.W.Frag) (f : BM) : TT := fun σ H Q => ∃ (bs : List Nat) (ρ : EV) (os : List SV) (vs : List V) (P : Store) (r : Bool) (P' : Store), Rel K bs ρ σ os vs P H ∧ f ρ P = some (r, P') ∧ ∀ H', Rel K bs ρ σ os vs P' H' → Q r H'
def tMG (K : PySem.W.Frag) (ts : List Nat) (g : GM) : TG := fun v σ H Q => ∃ (bs : List Nat) (ρ : EV) (os : List SV) (vs : List V) (P : Store) (s : SV) (ρ' : EV) (P' : Store), Rel K bs ρ σ (s :: os) (v :: vs) P H ∧ g s ρ P = some (ρ', P') ∧
  ∀ σ' H', Rel K bs ρ' σ' os vs P' H' → Keeps ts σ σ' → Q σ' H'
theorem PEd.canon {X : Cx} {e : Expr} {f : XM} (h : PEd X e f) : PE X e (tM X.K f) := by
  obtain ⟨t, p, h1⟩ := h
  exact ⟨fun pins s σ H Q I ⟨bs, ρ, os, vs, P, r, P', R, e, q⟩ => p.run pins s σ H Q I (h1 bs ρ σ os vs P H Q r P' R e q)⟩
theorem PTsd.canon {X : Cx} {e : List Expr} {f : BM} (h : PTsd X e f) : PTs X e (tMT X.K f) := by
  obtain ⟨t, p, h1⟩ := h
  exact ⟨fun pins s σ H Q I ⟨bs, ρ, os, vs, P, r, P', R, e, q⟩ => p.run pins s σ H Q I (h1 bs ρ σ os vs P H Q r P' R e q)⟩
theorem PGd.canon {X : Cx} {e : Expr} {ts : List Nat} {g : GM} (h : PGd X e ts g) : PG X e (tMG X.K ts g) := by
  obtain ⟨t, p, h1⟩ := h
  exact ⟨fun pins s σ H v u Q I r ⟨bs, ρ, os, vs, P, sv, ρ', P', R, e, q⟩ => p.run pins s σ H v u Q I r (h1 bs ρ σ os vs P H sv v Q ρ' P' R e q)⟩

theorem wipe_at {σ : L2.St} {i : Nat} : ∀ {vs : List Nat}, i ∈ vs → (L2.wipe σ vs)[i]? = if i < σ.length then some none else none
  | v :: vs, h => by
    show ((L2.wipe σ vs).set v none)[i]? = _
    by_cases hv : v = i
    · subst hv
      by_cases hl : v < σ.length
      · rw [List.getElem?_set_self (by rw [L2.wipe_length]; exact hl), if_pos hl]
      · rw [List.getElem?_eq_none (by rw [List.length_set, L2.wipe_length]; omega), if_neg hl]
    · rw [List.getElem?_set_ne hv]
      rcases List.mem_cons.mp h with e | h
      · exact absurd e.symm hv
      · exact wipe_at h
theorem wipe_keeps {σ σ' : L2.St} {own ts : List Nat} (h : ∀ i ∈ ts, i ∈ own) (k : Keeps ts (L2.wipe σ own) σ') : L2.wipe σ' own = L2.wipe σ own := by
  have hl : σ'.length = σ.length := k.1.trans (L2.wipe_length _ _)
  apply List.ext_getElem?
  intro i
  by_cases hi : i ∈ own
  · rw [wipe_at hi, wipe_at hi, hl]
  · rw [L2.wipe_out hi, k.2 i fun z => hi (h i z)]
theorem SVA.split {K : PySem.W.Frag} {F : Hp} {ad : List Addr} : ∀ {ws vs : List V} {ls os : List SV}, ws.length = ls.length → SVA K F ad (ws ++ vs) (ls ++ os) → SVA K F ad ws ls ∧ SVA K F ad vs os
  | [], _, [], _, _, h => ⟨.nil, h⟩
  | w :: ws, vs, l :: ls, os, e, h => by
    cases h with
    | cons a t =>
      obtain ⟨h1, h2⟩ := SVA.split (ws := ws) (ls := ls) (by simpa using e) t
      exact ⟨.cons a h1, h2⟩
  | [], _, _ :: _, _, e, _ => by simp at e
  | _ :: _, _, [], _, e, _ => by simp at e
/-- what the slots hold, as a list -/
theorem SlR.list {K : PySem.W.Frag} : ∀ {sl : List (Option SV)} {σ : L2.St} {F : Hp} {ad : List Addr}, SlR K F ad sl σ → ∃ (ls : List SV) (ws : List V), SVA K F ad ws ls ∧ ∀ F' ad', SVA K F' ad' ws ls → SlR K F' ad' sl σ
  | [], σ, F, ad, h => ⟨[], [], .nil, fun F' ad' _ => ⟨h.1, fun i s e => by simp at e⟩⟩
  | o :: sl, [], F, ad, h => by have := h.1; simp at this
  | o :: sl, v :: σ, F, ad, h => by
    have h' : SlR K F ad sl σ := ⟨by simpa using h.1, fun i s e => h.2 (i + 1) s e⟩
    obtain ⟨ls, ws, a, b⟩ := SlR.list h'
    cases o with
    | none =>
      refine ⟨ls, ws, a, fun F' ad' x => ?_⟩
      obtain ⟨c, d⟩ := b F' ad' x
      refine ⟨by simp [c], fun i s e => ?_⟩
      cases i with
      | zero => simp at e
      | succ i => exact d i s (by simpa using e)
    | some s =>
      obtain ⟨w, hw, r⟩ := h.2 0 s rfl
      have hv : v = some w := by simpa using hw
      subst hv
      refine ⟨s :: ls, w :: ws, .cons r a, fun F' ad' x => ?_⟩
      cases x with
      | cons r' x =>
        obtain ⟨c, d⟩ := b F' ad' x
        refine ⟨by simp [c], fun i t e => ?_⟩
        cases i with
        | zero =>
          have : s = t := by simpa using e
          subst this
          exact ⟨w, rfl, r'⟩
        | succ i => exact d i t (by simpa using e)
/-- the turns of a comprehension -/
theorem lc_go {K : PySem.W.Frag} {J : It} {items : List PyData} {src : SV} {w : V} (ok : ItOk K J items src w) {g : GM} {ts : List Nat} {tt : BM} {te : XM} {own : List Nat} {bs : List Nat} {ρ : EV} {σ : L2.St} {os : List SV} {vs : List V} {P : Store} {H1 : Hp} {S : Store} {Df : Hp → Prop} {D : Addr}
    (hts : ∀ i ∈ ts, i ∈ own)
    (R : Rel K bs ρ σ (src :: os) (w :: vs) P H1) (hD : H1 D = none) (e : lcGo g tt te { ρ.wipe own with b := P.length } P.length items (P ++ [.lst []]) = some S)
    (q : ∀ H, Rel K (P.length :: bs) { ρ with b := P.length } σ (.ptr P.length :: src :: os) (.ref D :: w :: vs) S H → Df H) :
    ∃ W : Nat → Nat → Hp → Prop, (∃ m, W 0 m (upd H1 D (.lst []))) ∧ ∀ i m H, W i m H →
      (J.stop i H ∧ Df H) ∨ (J.go i H ∧ ∃ Nx : Hp → Prop, (∀ H', Nx H' → ∃ m', m' < m ∧ W (i + 1) m' H') ∧ ∀ x H', J.yld i H x H' → tMG K ts g x (L2.wipe σ own) H' fun σ2 H2 => L2.wipe σ2 own = L2.wipe σ own ∧ tMT K tt σ2 H2 fun b H3 =>
        if b = true then tM K te σ2 H3 fun y H4 => ∃ acc, H4 D = some (.lst acc) ∧ acc.length < sizeLine ∧ Nx (upd H4 D (.lst (acc ++ [y]))) else Nx H3) := by
  -- what the def's slots hold, on the stack
  have hls : ∃ (ls : List SV) (ws : List V), ws.length = ls.length ∧ (∀ F ad, SVA K F ad ws ls → SlR K F ad ρ.sl σ) ∧ Rel K bs ρ σ (src :: (ls ++ os)) (w :: (ws ++ vs)) P H1 := by
    obtain ⟨F, ad, R⟩ := R
    obtain ⟨ls, ws, a, b⟩ := R.slots.list
    obtain ⟨r, R1⟩ := R.pop
    exact ⟨ls, ws, a.length, b, F, ad, R.tops_of (.cons r (a.append R1.tops))⟩
  obtain ⟨ls, ws, hlen, hb, Rl⟩ := hls
  have start : ∃ ρx σx, ρx.b = P.length ∧ Rel K (P.length :: bs) ρx σx (.ptr P.length :: src :: (ls ++ os)) (.ref D :: w :: (ws ++ vs)) (P ++ [.lst []]) (upd H1 D (.lst [])) := by
    obtain ⟨F, ad, R⟩ := Rl
    exact ⟨_, _, rfl, F, ad ++ [D], R.enter.cell hD fun ad' pr => ⟨R.free hD, [], upd_same, .nil⟩⟩
  refine ⟨fun i m H => m = items.length - i ∧ i ≤ items.length ∧ ∃ T ρx σx, ρx.b = P.length ∧ Rel K (P.length :: bs) ρx σx (.ptr P.length :: src :: (ls ++ os)) (.ref D :: w :: (ws ++ vs)) T H ∧ lcGo g tt te { ρ.wipe own with b := P.length } P.length (items.drop i) T = some S, ⟨_, rfl, Nat.zero_le _, _, start.choose, start.choose_spec.choose, start.choose_spec.choose_spec.1, start.choose_spec.choose_spec.2, by simpa using e⟩, ?_⟩
  rintro i m H ⟨rfl, hle, T, ρx, σx, hbx, RT, eT⟩
  have under : Rel K (P.length :: bs) ρx σx (src :: .ptr P.length :: (ls ++ os)) (w :: .ref D :: (ws ++ vs)) T H := by
    obtain ⟨F, ad, R⟩ := RT
    obtain ⟨r1, R1⟩ := R.pop
    obtain ⟨r2, R2⟩ := R1.pop
    exact ⟨F, ad, (R2.push r1).push r2⟩
  obtain ⟨ok1, ok2⟩ := ok _ _ _ _ _ _ _ i under
  by_cases hlt : i < items.length
  · obtain ⟨go, yl⟩ := ok1 hlt
    refine .inr ⟨go, fun H => ∃ T ρx σx, ρx.b = P.length ∧ Rel K (P.length :: bs) ρx σx (.ptr P.length :: src :: (ls ++ os)) (.ref D :: w :: (ws ++ vs)) T H ∧ lcGo g tt te { ρ.wipe own with b := P.length } P.length (items.drop (i + 1)) T = some S, fun H' ⟨T', ρ', σ', b', R', e'⟩ => ⟨items.length - (i + 1), by omega, rfl, hlt, T', ρ', σ', b', R', e'⟩, fun x H' hy => ?_⟩
    obtain ⟨d, hd, R3⟩ := yl x H' hy
    rw [List.drop_eq_getElem_cons hlt] at eT
    have ed : items[i] = d := by rw [List.getElem?_eq_getElem hlt] at hd; exact Option.some.inj hd
    rw [ed] at eT
    simp only [lcGo, Option.bind_eq_some_iff] at eT
    obtain ⟨⟨ρ4, P4⟩, e4, ⟨b, P5⟩, e5, e6⟩ := eT
    have R4 : Rel K (P.length :: bs) { ρ.wipe own with b := P.length } (L2.wipe σ own) (.fz d :: .ptr P.length :: src :: (ls ++ os)) (x :: .ref D :: w :: (ws ++ vs)) T H' := by
      obtain ⟨F, ad, R⟩ := R3
      obtain ⟨r0, R1⟩ := R.pop
      obtain ⟨r1, R2⟩ := R1.pop
      obtain ⟨r2, R3⟩ := R2.pop
      have sp := (SVA.split hlen R3.tops).1
      refine ⟨F, ad, { R with slots := (hb F ad sp).wipe own, tops := .cons r0 (.cons r2 (.cons r1 R3.tops)), bb := fun c hc => ?_ }⟩
      have := R.bb c hc
      show c ≤ P.length
      rw [hbx] at this; exact this
    refine ⟨_, _, _, _, _, _, ρ4, P4, R4, e4, fun σ4 H4 R5 k4 => ⟨wipe_keeps hts k4, _, _, _, _, _, b, P5, R5, e5, fun H5 R6 => ?_⟩⟩
    simp only at e6
    have hb4 : ∀ {bs : List Nat} {os : List SV} {vs : List V} {P' : Store} {H : Hp}, Rel K (P.length :: bs) ρ4 σ4 os vs P' H → P.length ≤ ρ4.b := fun ⟨F, ad, R⟩ => R.bb _ List.mem_cons_self
    cases b with
    | true =>
      rw [if_pos rfl] at e6 ⊢
      simp only [Option.bind_eq_some_iff] at e6
      obtain ⟨⟨s, P6⟩, e7, e8⟩ := e6
      refine ⟨_, _, _, _, _, s, P6, R6, e7, fun y H6 R7 => ?_⟩
      simp only at e8
      split at e8
      · rename_i z acc hacc
        split at e8
        · rename_i hz
          obtain ⟨F, ad, R7⟩ := R7
          obtain ⟨ry, R8⟩ := R7.pop
          obtain ⟨rD, R9⟩ := R8.pop
          obtain ⟨a, ha, ea, hc⟩ := R8.at rD hacc
          cases ea
          obtain ⟨hF, xs, hx, tx⟩ := hc
          refine ⟨xs, hx, by rw [tx.length]; exact hz, P6.set P.length (.lst (acc ++ [.fz z])), { ρ4 with b := P.length }, σ4, rfl, ⟨F, ad, ?_⟩, e8⟩
          have R10 := R8.put (c := .lst (acc ++ [.fz z])) hacc ha hF ⟨hF, _, upd_same, tx.append (.cons ry .nil)⟩ (fun j hj => by
            refine .inl ?_
            simpa [Cell.ps, SV.ps] using hj)
          refine { R10 with slots := R10.slots, bb := fun c hc => ?_ }
          rcases List.mem_cons.mp hc with rfl | hc
          · exact Nat.le_refl _
          · obtain ⟨F0, ad0, R0⟩ := R
            exact R0.bas.le c hc
        · cases e8
      · cases e8
    | false =>
      rw [if_neg Bool.false_ne_true] at e6 ⊢
      refine ⟨P5, { ρ4 with b := P.length }, σ4, rfl, ?_, e6⟩
      obtain ⟨F, ad, R6⟩ := R6
      refine ⟨F, ad, { R6 with slots := R6.slots, bb := fun c hc => ?_ }⟩
      rcases List.mem_cons.mp hc with rfl | hc
      · exact Nat.le_refl _
      · obtain ⟨F0, ad0, R0⟩ := R
        exact R0.bas.le c hc
  · have : i = items.length := by omega
    subst this
    rw [List.drop_length] at eT
    simp only [lcGo, Option.some.injEq] at eT
    subst eT
    refine .inl ⟨ok2 (Nat.le_refl _), q H ?_⟩
    obtain ⟨F, ad, RX⟩ := RT
    obtain ⟨r1, R1⟩ := RX.pop
    obtain ⟨r2, R2⟩ := R1.pop
    obtain ⟨sp, so⟩ := SVA.split hlen R2.tops
    refine ⟨F, ad, { RX with slots := hb F ad sp, tops := .cons r1 (.cons r2 so), bb := fun c hc => ?_ }⟩
    have := RX.bb c hc
    show c ≤ P.length
    rw [hbx] at this; exact this

section
variable {X : Cx} {pos : Pos}
theorem lc_d {f : IM} {g : GM} {tt : BM} {te : XM} {ts own : List Nat} {wi : TI} (hts : ∀ i ∈ ts, i ∈ own)
    (h0 : ∀ (bs : List Nat) (ρ : EV) (σ : L2.St) (os : List SV) (vs : List V) (P : Store) (H : Hp) (R : It → Hp → Prop) (items : List PyData) (src : SV) (P' : Store), Rel X.K bs ρ σ os vs P H → f ρ P = some (items, src, P') →
      (∀ J v H' sr, Rel X.K bs ρ σ (sr :: os) (v :: vs) P' H' → ItOk X.K J items sr v → R J H') → wi σ H R)
    (bs : List Nat) (ρ : EV) (σ : L2.St) (os : List SV) (vs : List V) (P : Store) (H : Hp) (Q : VK) (r : SV) (P' : Store) (R : Rel X.K bs ρ σ os vs P H) (e : mLC own f g tt te ρ P = some (r, P'))
    (q : ∀ v H', Rel X.K bs ρ σ (r :: os) (v :: vs) P' H' → Q v H') : tLc wi (tMG X.K ts g) (tMT X.K tt) (tM X.K te) own σ H Q := by
  simp only [mLC, Option.bind_eq_some_iff] at e
  obtain ⟨⟨items, src, P1⟩, e0, S, e1, e2⟩ := e
  refine h0 bs ρ σ os vs P H _ items src P1 R e0 fun J w H1 src R1 ok => fun D hD => ?_
  refine lc_go (Df := fun H => Q (.ref D) H) ok hts R1 hD e1 fun H2 R2 => ?_
  simp only at e2
  split at e2
  · rename_i acc hacc
    simp only [Option.map_eq_some_iff, Prod.mk.injEq] at e2
    obtain ⟨ds, hds, rfl, rfl⟩ := e2
    obtain ⟨F, ad, R2⟩ := R2
    obtain ⟨F1, ad1, R1⟩ := R1
    obtain ⟨rD, R3⟩ := R2.pop
    obtain ⟨a, ha, ea, hc⟩ := R3.at rD hacc
    cases ea
    obtain ⟨hF, xs, hx, tx⟩ := hc
    obtain ⟨R4, l4, f4⟩ := R3.freezeC (d := .list ds) hacc ha hF hx fun G l g => .lst (.of g) ((fzs_some tx hds).mono l)
    obtain ⟨_, R5⟩ := R4.pop
    have R6 := R5.cut (ρ' := ρ) R5.slots R1.slotsLt R5.tops (fun s hs => R1.topsLt s (List.mem_cons_of_mem _ hs)) (fun c hc => R1.bb c hc) (fun c hc => R1.bas.le c hc)
    have e5 : (S.set P1.length (.fz (.list ds))).take P1.length = S.take P1.length := by
      rw [List.take_set_of_le (Nat.le_refl _)]
    rw [e5] at R6
    exact q _ _ ⟨_, _, R6.push (d := .fz (.list ds)) (show Fz X.K _ _ _ from f4)⟩
  · cases e2
theorem ped_lc {elt tg iter : Expr} {ifs : List Expr} {scope : Scope} {own : List (Str × Nat)} {f : IM} {g : GM} {tt : BM} {te : XM} {ts : List Nat} (hc : X.calm = true) (hN : X.N.Nodup) (hi : PId X tg iter f) (ok : BlkOk X.N X.env.scope scope own)
    (hg : ∀ (s : Shared) (H : Hp) (C : Addr) (cl : List (Str × Addr)) (fp : List Addr), PGd (X.blk s H scope (compEnvC scope cl C X.env) fp) tg ts g) (ht : ∀ (s : Shared) (H : Hp) (C : Addr) (cl : List (Str × Addr)) (fp : List Addr), PTsd (X.blk s H scope (compEnvC scope cl C X.env) fp) ifs tt)
    (he : ∀ (s : Shared) (H : Hp) (C : Addr) (cl : List (Str × Addr)) (fp : List Addr), PEd (X.blk s H scope (compEnvC scope cl C X.env) fp) elt te) (hts : ∀ i ∈ ts, i ∈ own.map (·.2) := by decide) (hs : ∀ x, foldedSetIterable iter X.env x = pure x := by intro _; rfl) :
    PEd X (.ListComp elt [⟨tg, iter, ifs, 0⟩] scope pos) (mLC (own.map (·.2)) f g tt te) := by
  obtain ⟨wi, p0, h0⟩ := hi
  exact ⟨_, pe_lc (g := tMG X.K ts g) (tt := tMT X.K tt) (te := tM X.K te) hc hN p0 ok (fun s H C cl fp => (hg s H C cl fp).canon) (fun s H C cl fp => (ht s H C cl fp).canon) (fun s H C cl fp => (he s H C cl fp).canon) hs, lc_d hts h0⟩
theorem psd_setLc {i : Nat} {y : Str} {py : Pos} {elt tg iter : Expr} {ifs : List Expr} {scope : Scope} {own : List (Str × Nat)} {spos : Pos} {f : IM} {g : GM} {tt : BM} {te : XM} {ts : List Nat} (hc : X.calm = true) (hN : X.N.Nodup) (hy : X.N[i]? = some y) (hyl : X.env.scope.names.lookup y = some .local)
    (hsw : swapsWith (.ListComp elt [⟨tg, iter, ifs, 0⟩] scope pos) (some (.Name y py)) spos.line X.env = pure true) (hi : PId X tg iter f) (ok : BlkOk X.N X.env.scope scope own)
    (hg : ∀ (s : Shared) (H : Hp) (C : Addr) (cl : List (Str × Addr)) (fp : List Addr), PGd (X.blk s H scope (compEnvC scope cl C X.env) fp) tg ts g) (ht : ∀ (s : Shared) (H : Hp) (C : Addr) (cl : List (Str × Addr)) (fp : List Addr), PTsd (X.blk s H scope (compEnvC scope cl C X.env) fp) ifs tt)
    (he : ∀ (s : Shared) (H : Hp) (C : Addr) (cl : List (Str × Addr)) (fp : List Addr), PEd (X.blk s H scope (compEnvC scope cl C X.env) fp) elt te) (hts : ∀ i ∈ ts, i ∈ own.map (·.2) := by decide) (hs : ∀ x, foldedSetIterable iter X.env x = pure x := by intro _; rfl) :
    PSd X (.Assign [.Name y py] (.ListComp elt [⟨tg, iter, ifs, 0⟩] scope pos) spos) (sSet i (mLC (own.map (·.2)) f g tt te)) := by
  obtain ⟨wi, p0, h0⟩ := hi
  refine ⟨_, ps_setLc (g := tMG X.K ts g) (tt := tMT X.K tt) (te := tM X.K te) hc hN hy hyl hsw p0 ok (fun s H C cl fp => (hg s H C cl fp).canon) (fun s H C cl fp => (ht s H C cl fp).canon) (fun s H C cl fp => (he s H C cl fp).canon) hs, fun bs ρ σ os vs P H D r R e q => ?_⟩
  simp only [sSet, Option.map_eq_some_iff] at e
  obtain ⟨⟨s, P1⟩, e1, rfl⟩ := e
  exact lc_d hts h0 bs ρ σ os vs P H _ s P1 R e1 fun v H1 R1 => q _ H1 (R1.store i)
end
end Pd

set_option Elab.async false
set_option linter.all false
set_option maxRecDepth 100000
set_option maxHeartbeats 1000000
/-! The layer Pd, part I: defs. -/
namespace Pd
open PySem PySem.Spec PyProof.Rows L2

abbrev FM := List SV → Store → Option (SV × Store)
/-- a def's promise: what its mirror tells -/
def spM (K : PySem.W.Frag) (m : FM) (n : Nat) : Sp := fun vs H Q _ => vs.length = n ∧ ∃ (bs : List Nat) (ρ : EV) (σ : L2.St) (os : List SV) (ws : List V) (args : List SV) (P : Store) (r : SV) (P' : Store), args.length = n ∧
  Rel K bs ρ σ (args ++ os) (vs ++ ws) P H ∧ m args P = some (r, P') ∧ ∀ v H', Rel K bs ρ σ (r :: os) (v :: ws) P' H' → Q v H'
theorem spM_imp {K : PySem.W.Frag} {m m' : FM} {n : Nat} (h : ∀ args P r, m' args P = some r → m args P = some r) : ∀ vs H Q E, spM K m' n vs H Q E → spM K m n vs H Q E :=
  fun vs H Q E ⟨e, bs, ρ, σ, os, ws, args, P, r, P', e2, R, em, q⟩ => ⟨e, bs, ρ, σ, os, ws, args, P, r, P', e2, R, h _ _ _ em, q⟩
theorem fn_none {P : Program} {w : World} {K : PySem.W.Frag} {mg : Str → Option Value} {base : Heap} {k n : Nat} {f : Addr} {fd : FuncData} {ps : List Str} {m : FM} (hm : ∀ args P, m args P = none) : FnOk P w K mg base CX0 k f fd ps (spM K m n) :=
  have no : ∀ vs H Q E, ¬ spM K m n vs H Q E := fun vs H Q E h => by
    obtain ⟨_, _, _, _, _, _, _, _, _, _, _, _, e, _⟩ := h
    rw [hm] at e; cases e
  ⟨fun vs H Q E h => absurd h (no vs H Q E), fun A outer s H args us vs Q E _ _ _ _ h => absurd h (no vs H Q E)⟩

/-! ### the body -/
def startE (n : Nat) (args : List SV) : List (Option SV) := args.map some ++ List.replicate (n - args.length) none
/-- what a def hands back: data -/
def exitZ (n : Nat) (r : SV) (P : Store) : Option (SV × Store) := match r with
  | .fz d => some (.fz d, P.take n)
  | .ptr k => if n ≤ k then (P[k]?.bind Cell.dat).map fun d => (.fz d, P.take n) else none
  | .lk _ _ _ => none
/-- .. or a cell -/
def exitC (n : Nat) (r : SV) (P : Store) : Option (SV × Store) := match r with
  | .fz d => some (.fz d, P.take n)
  | .ptr k => if n ≤ k then P[k]?.bind fun c => if c.ps = [] then some (.ptr n, P.take n ++ [c]) else none else some (.ptr k, P.take n)
  | .lk _ _ _ => none
def mFun (ex : Nat → SV → Store → Option (SV × Store)) (nN : Nat) (body : SM) : FM := fun args P => (body { b := P.length, sl := startE nN args } P).bind fun (fl, _, P2) => match fl with
  | .rt r => ex P.length r P2
  | .nx => ex P.length (.fz .none) P2
  | _ => none
abbrev mFunZ := mFun exitZ
abbrev mFunC := mFun exitC
/-- what an exit keeps -/
def ExOk (ex : Nat → SV → Store → Option (SV × Store)) : Prop := ∀ (K : PySem.W.Frag) (bs : List Nat) (ρ ρ' : EV) (σ σ' : L2.St) (os : List SV) (ws : List V) (r : SV) (v : V) (P' P'' : Store) (H F : Hp) (ad : List Addr) (n : Nat) (z : SV),
  RelX K (n :: bs) ρ' σ' (r :: os) (v :: ws) P' H F ad → SlR K F ad ρ.sl σ → (∀ (i : Nat) (s : SV), ρ.sl[i]? = some (some s) → s.lt n) → (∀ s ∈ os, s.lt n) → (∀ c ∈ bs, c ≤ ρ.b) → (∀ c ∈ bs, c ≤ n) → n ≤ P'.length → ex n r P' = some (z, P'') →
  Rel K bs ρ σ (z :: os) (v :: ws) P'' H
theorem exitZ_ok : ExOk exitZ := by
  intro K bs ρ ρ' σ σ' os ws r v P' P'' H F ad n z R hs hl ho hb hbn hn e
  obtain ⟨rr, R1⟩ := R.pop
  cases r with
  | fz d =>
    simp only [exitZ, Option.some.injEq, Prod.mk.injEq] at e
    obtain ⟨rfl, rfl⟩ := e
    have R2 := R1.cut hs hl R1.tops ho hb hbn
    exact ⟨F, _, R2.push (show SVR K F _ _ (.fz d) from rr)⟩
  | ptr k =>
    simp only [exitZ] at e
    split at e
    · rename_i hk
      simp only [Option.map_eq_some_iff, Prod.mk.injEq] at e
      obtain ⟨d, e1, rfl, rfl⟩ := e
      have ef : frz P' (.ptr k) = some (d, P'.set k (.fz d)) := by simp only [frz]; rw [e1]; rfl
      obtain ⟨G, R2, l, fd⟩ := R1.freeze rr ef
      have R3 := R2.cut (hs.mono l (.refl _)) hl R2.tops ho hb hbn
      rw [List.take_set_of_le hk] at R3
      exact ⟨G, _, R3.push (show SVR K G _ _ (.fz d) from fd)⟩
    · cases e
  | lk _ _ _ => cases e
theorem no_ps {K : PySem.W.Frag} {F H : Hp} {ad ad' : List Addr} {a : Addr} {c : Cell} (h : c.ps = []) (x : CellR K F H ad a c) : CellR K F H ad' a c := by
  have h0 : CellR K F H (ad.take 0) a c := x.take (n := 0) fun j hj => by rw [h] at hj; cases hj
  exact h0.grow (.refl _) (fun k b e => by simp at e) rfl id
theorem RelX.adopt {K : PySem.W.Frag} {bs : List Nat} {ρ : EV} {σ : L2.St} {os : List SV} {vs : List V} {P : Store} {H F : Hp} {ad : List Addr} (R : RelX K bs ρ σ os vs P H F ad) {a : Addr} {c : Cell} (na : a ∉ ad) (th : ∃ o, H a = some o) (hc : CellR K F H (ad ++ [a]) a c) (hp : c.ps = []) :
    RelX K bs ρ σ (.ptr P.length :: os) (.ref a :: vs) (P ++ [c]) H F (ad ++ [a]) := by
  have pr : Pre ad (ad ++ [a]) := .push _ _
  refine ⟨R.sub, by simp [R.len], ?_, fun b hb => ?_, fun k x b e1 e2 => ?_, R.slots.mono (.refl _) pr, .cons ⟨a, by rw [← R.len]; simp, rfl⟩ (R.tops.mono (.refl _) pr), ⟨fun c hc => ?_, fun c hc k x hk e j hj => ?_⟩, R.bb⟩
  · rw [List.nodup_append]
    refine ⟨R.nd, by simp, fun b hb d hd e => ?_⟩
    have : d = a := by simpa using hd
    subst this; subst e
    exact na hb
  · rcases List.mem_append.mp hb with hb | hb
    · exact R.there b hb
    · have : b = a := by simpa using hb
      subst this; exact th
  · by_cases hk : k < P.length
    · rw [List.getElem?_append_left hk] at e1
      rw [List.getElem?_append_left (by rw [R.len]; exact hk)] at e2
      exact (R.cells k x b e1 e2).grow (.refl _) pr rfl id
    · have hk' : k = P.length := by
        have := (List.getElem?_eq_some_iff.mp e1).1
        simp at this
        omega
      subst hk'
      have e1' : c = x := by simpa using e1
      have e2' : a = b := by rw [← R.len] at e2; simpa using e2
      subst e1'; subst e2'
      exact hc
  · have := R.bas.le c hc
    simp; omega
  · have hl := R.bas.le c hc
    rw [List.getElem?_append_left (by omega)] at e
    exact R.bas.low c hc k x hk e j hj
theorem exitC_ok : ExOk exitC := by
  intro K bs ρ ρ' σ σ' os ws r v P' P'' H F ad n z R hs hl ho hb hbn hn e
  obtain ⟨rr, R1⟩ := R.pop
  have R2 := R1.cut hs hl R1.tops ho hb hbn
  cases r with
  | fz d =>
    simp only [exitC, Option.some.injEq, Prod.mk.injEq] at e
    obtain ⟨rfl, rfl⟩ := e
    exact ⟨F, _, R2.push (show SVR K F _ _ (.fz d) from rr)⟩
  | ptr k =>
    simp only [exitC] at e
    split at e
    · rename_i hk
      simp only [Option.bind_eq_some_iff] at e
      obtain ⟨c, e1, e2⟩ := e
      split at e2
      · rename_i hp
        cases e2
        obtain ⟨a, ha, rfl, hc⟩ := R1.at rr e1
        have na : a ∉ ad.take n := fun hm => by
          obtain ⟨j, hj, ej⟩ := List.getElem_of_mem hm
          rw [List.length_take] at hj
          rw [List.getElem_take] at ej
          obtain ⟨h2, q2⟩ := List.getElem?_eq_some_iff.mp ha
          have := (List.getElem_inj R.nd).mp (ej.trans q2.symm)
          omega
        have R3 := R2.adopt na (R.there a (List.mem_of_getElem? ha)) (no_ps hp hc) hp
        have en : (P'.take n).length = n := by rw [List.length_take]; omega
        rw [en] at R3
        exact ⟨F, _, R3⟩
      · cases e2
    · rename_i hk
      cases e
      exact ⟨F, _, R2.push (SVR.take rr (show k < n by omega))⟩
  | lk _ _ _ => cases e
section
variable {P : Program} {w : World} {K : PySem.W.Frag} {mg : Str → Option Value} {base : Heap}
theorem startE_len {n : Nat} {args : List SV} (h : args.length ≤ n) : (startE n args).length = n := by simp [startE]; omega
theorem startE_at {n : Nat} {args : List SV} {i : Nat} {s : SV} (e : (startE n args)[i]? = some (some s)) : args[i]? = some s := by
  unfold startE at e
  by_cases hi : i < args.length
  · rw [List.getElem?_append_left (by simpa using hi), List.getElem?_map] at e
    cases h : args[i]? with
    | none => rw [h] at e; cases e
    | some a => rw [h] at e; cases e; rfl
  · rw [List.getElem?_append_right (by simpa using Nat.le_of_not_lt hi), List.getElem?_replicate] at e
    split at e <;> cases e
theorem SVA.slots {K : PySem.W.Frag} {F : Hp} {ad : List Addr} {args : List SV} {vs : List V} {N : List Str} (h : SVA K F ad vs args) (hn : args.length ≤ N.length) : SlR K F ad (startE N.length args) (L2.start N vs) := by
  have hl := h.length
  refine ⟨by rw [startE_len hn]; simp [L2.start]; omega, fun i s e => ?_⟩
  have e2 := startE_at e
  obtain ⟨v, hv, r⟩ := h.get e2
  refine ⟨v, ?_, r⟩
  unfold L2.start
  have hi : i < vs.length := (List.getElem?_eq_some_iff.mp hv).1
  rw [List.getElem?_append_left (by simpa using hi), List.getElem?_map, hv]; rfl
/-- THE RULE for a def -/
theorem fn_m {x qual : Str} {st : Stmt} {f : Addr} {fd : FuncData} {N ps : List Str} {k nN np : Nat} {body : SM} {ex : Nat → SV → Store → Option (SV × Store)} (hex : ExOk ex) (F : L2.Fun K x qual st f fd) (S : FnScope N ps (defScope st)) (hN : N.length = nN) (hp : ps.length = np) (hpn : np ≤ nN)
    (hb : ∀ (cdv : Value) (A : Around) (outer : List Env) (s : Shared) (H : Hp) (E : XK), Room k (A.deeper (envOfC qual (defScope st) s.heap.objs.size f cdv)) → PSsd (cxOf CX0 P w K mg base N qual (defScope st) f cdv A outer s H E).nox (defBody st) body) :
    FnOk P w K mg base CX0 (k + 1) f fd ps (spM K (mFun ex nN body) np) := by
  refine F.ok S (fun vs H Q E h => h.1.trans hp.symm) fun cdv A outer s H vs Q E hr h => ?_
  obtain ⟨hv, bs, ρ, σ, os, ws, args, P0, r, P', ha, R, em, q⟩ := h
  obtain ⟨t, p, h1⟩ := hb cdv A outer s H E hr
  refine ⟨t, p, ?_⟩
  simp only [mFun, Option.bind_eq_some_iff] at em
  obtain ⟨⟨fl, ρ2, P2⟩, e1, e2⟩ := em
  obtain ⟨F0, ad, R⟩ := R
  obtain ⟨ra, ro⟩ := SVA.split (hv.trans ha.symm) R.tops
  obtain ⟨ls, us, la, lb⟩ := R.slots.list
  have hlt := R.slotsLt
  have hto := R.topsLt
  have hbb := R.bb
  have hbl := R.bas.le
  have R1 := (R.tops_of (la.append ro)).enter
  have sl : SlR K F0 ad (startE nN args) (L2.start N vs) := by rw [← hN]; exact SVA.slots ra (by omega)
  have R2 : Rel K (P0.length :: bs) { b := P0.length, sl := startE nN args } (L2.start N vs) (ls ++ os) (us ++ ws) P0 H := ⟨F0, ad, { R1 with slots := sl, bb := R1.bb }⟩
  have out : ∀ {ρ' : EV} {σ' : L2.St} {z : SV} {v : V} {H' : Hp}, Rel K (P0.length :: bs) ρ' σ' (z :: (ls ++ os)) (v :: (us ++ ws)) P2 H' → ex P0.length z P2 = some (r, P') → Rel K bs ρ σ (r :: os) (v :: ws) P' H' := by
    rintro ρ' σ' z v H' ⟨G, ad', R3⟩ ez
    obtain ⟨rz, R4⟩ := R3.pop
    obtain ⟨sa, so⟩ := SVA.split la.length R4.tops
    exact hex K bs ρ ρ' σ σ' os ws z v P2 P' H' G ad' P0.length r (R3.tops_of (.cons rz so)) (lb G ad' sa) hlt (fun s hs => hto s (List.mem_append_right _ hs)) hbb hbl (R3.bas.le _ List.mem_cons_self) ez
  refine h1 (P0.length :: bs) _ (L2.start N vs) (ls ++ os) (us ++ ws) P0 H _ (fl, ρ2, P2) R2 e1 ?_
  cases fl with
  | nx =>
    intro σ' H' R3
    obtain ⟨G, ad', R3⟩ := R3
    exact q _ _ (out ⟨G, ad', R3.push (d := .fz .none) (show Fz K G .non .none from .non)⟩ e2)
  | rt z => exact fun σ' v H' R3 => q _ _ (out R3 e2)
  | bk => cases e2
  | ct => cases e2
end
section
variable {X : Cx} {pos : Pos}
/-- f(e, ..) -/
def mCallF (m : FM) (fs : AM) : XM := fun ρ P => (fs ρ P).bind fun (l, P1) => m l P1
theorem ped_call {x : Str} {p : Pos} {k n : Nat} {f : Addr} {fd : FuncData} {ps : List Str} {e : Expr} {es : List Expr} {m : FM} {fs : AM} (F : FnOk X.prog X.w X.K X.mg X.base CX0 k f fd ps (spM X.K m n)) (hr : Room k X.A) (hg : Gl X x) (hm : X.mg x = some (.ref f)) (hk : PySem.W.keepIn X.K (.ref f) = true) (hb : Binds X.K fd ps [])
    (ha : PAd X (e :: es) fs) (hn : ∀ ρ P l P', fs ρ P = some (l, P') → l.length = n)
    (hs : starEach (e :: es) X.env = (false, eval e X.env) :: starEach es X.env := by rfl) (hpl : (backTo pos (starEach es X.env)).any (·.1) = false := by rfl) (hdb : (x == ("__debug__" : Str)) = false := by decide) : PEd X (.Call (.Name x p) (e :: es) [] pos) (mCallF m fs) := by
  obtain ⟨t, pa, h1⟩ := ha
  refine ⟨_, pe_call F hr hg hm hk hb .nil pass0 pa (he := hs) (hpl := hpl) (hdb := hdb), fun bs ρ σ os vs P H Q r P' R e q => ?_⟩
  simp only [mCallF, Option.bind_eq_some_iff] at e
  obtain ⟨⟨l, P1⟩, e1, e2⟩ := e
  refine h1 bs ρ σ os vs P H _ l P1 R e1 fun ws H1 hl R1 => ?_
  obtain ⟨F, ad, R1⟩ := R1
  obtain ⟨ra, R2⟩ := R1.args hl
  have hln := hn _ _ _ _ e1
  exact ⟨by simp [hl, hln], bs, ρ, σ, os, vs, l, P1, r, P', hln, ⟨F, ad, by rw [List.append_nil]; exact R2.tops_of (ra.append R2.tops)⟩, e2, q⟩
end
end Pd

set_option Elab.async false
set_option linter.all false
set_option maxRecDepth 100000
set_option maxHeartbeats 1000000
/-! The layer Pd, part J: stores to lists, dicts. -/
namespace Pd
open PySem PySem.Spec PyProof.Rows L2
section
variable {X : Cx} {pos : Pos}

/-! ### xs[i] = v -/
def gIx (fo fi : XM) : GM := fun s ρ P => (fo ρ P).bind fun (o, P1) => (fi ρ P1).bind fun (i, P2) => match o, i with
  | .ptr k, .fz (.int i) => match P2[k]? with
    | some (.lst l) => if okPtr ρ.b k s = true then (ixN l.length i).map fun j => (ρ, P2.set k (.lst (l.set j s))) else none
    | _ => none
  | _, _ => none
theorem ps_of_set {l : List SV} {j : Nat} {s : SV} : ∀ i ∈ (l.set j s).flatMap SV.ps, i ∈ l.flatMap SV.ps ∨ i ∈ s.ps := fun i hi => by
  obtain ⟨x, hx, q⟩ := List.mem_flatMap.mp hi
  rcases List.mem_or_eq_of_mem_set hx with h | h
  · exact .inl (List.mem_flatMap.mpr ⟨x, h, q⟩)
  · subst h; exact .inr q
theorem pgd_ix {o i : Expr} {fo fi : XM} (ho : PEd X o fo) (hi : PEd X i fi)
    (ha : ∀ v, assign (.Subscript o i pos) X.env v = (do
      let ov ← holding [v] (eval o X.env)
      let iv ← holding [v, ov] (eval i X.env)
      standAt pos
      holding [v, ov, iv] (setItem ov iv v)
      release [v, ov, iv] []) := by intro _; rfl) : PGd X (.Subscript o i pos) [] (gIx fo fi) := by
  obtain ⟨t, p, h1⟩ := ho
  obtain ⟨u, p', h2⟩ := hi
  refine ⟨_, pg_sub p p' set_list ha, fun bs ρ σ os vs P H s v Q ρ' P' R e q => ?_⟩
  simp only [gIx, Option.bind_eq_some_iff] at e
  obtain ⟨⟨s1, P1⟩, e1, ⟨s2, P2⟩, e2, e3⟩ := e
  simp only at e3
  split at e3
  · rename_i k i
    split at e3
    · rename_i l hk
      split at e3
      · rename_i hz
        simp only [Option.map_eq_some_iff, Prod.mk.injEq] at e3
        obtain ⟨j, hj, rfl, rfl⟩ := e3
        refine h1 bs ρ σ _ _ P H _ _ P1 R e1 fun x H1 R1 => ?_
        refine h2 bs ρ σ _ _ P1 H1 _ _ P2 R1 e2 fun y H2 R2 => ?_
        obtain ⟨F, ad, R2⟩ := R2
        obtain ⟨r2, R3⟩ := R2.pop
        obtain ⟨r1, R4⟩ := R3.pop
        obtain ⟨r0, R5⟩ := R4.pop
        obtain ⟨a, ha, rfl, hc⟩ := R5.at r1 hk
        obtain ⟨hF, xs, hx, tx⟩ := hc
        cases r2
        refine ⟨a, xs, i, j, rfl, rfl, hx, by rw [tx.length]; exact hj, q _ _ ⟨F, ad, R5.put (c := .lst (l.set j s)) hk ha hF ⟨hF, _, upd_same, tx.set r0 j⟩ fun m hm => ?_⟩ ⟨rfl, fun _ _ => rfl⟩⟩
        rcases ps_of_set m hm with h | h
        · exact .inl h
        · exact .inr (okPtr_ps hz m h)
      · cases e3
    · cases e3
  · cases e3

/-! ### dicts -/
def keyOf : PyData → Option Key
  | .int i => some (.inl i)
  | .str x => some (.inr x)
  | _ => none
def keysOf : List PyData → Option (List Key)
  | [] => some []
  | d :: r => (keyOf d).bind fun k => (keysOf r).map (k :: ·)
def tkeyOf : PyData → Option (List Key)
  | .tuple ds => keysOf ds
  | _ => none
theorem keyOf_D (k : Key) : keyOf (keyD k) = some k := by cases k <;> rfl
theorem keysOf_D : ∀ l : List Key, keysOf (l.map keyD) = some l
  | [] => rfl
  | k :: l => by simp [keysOf, keyOf_D, keysOf_D l]
theorem keyOf_some {d : PyData} {k : Key} (h : keyOf d = some k) : d = keyD k := by
  cases d <;> simp only [keyOf, Option.some.injEq] at h <;> first | (subst h; rfl) | cases h
theorem keysOf_some : ∀ {ds : List PyData} {l : List Key}, keysOf ds = some l → ds = l.map keyD
  | [], l, h => by simp only [keysOf, Option.some.injEq] at h; subst h; rfl
  | d :: r, l, h => by
    simp only [keysOf, Option.bind_eq_some_iff, Option.map_eq_some_iff] at h
    obtain ⟨k, h1, m, h2, rfl⟩ := h
    rw [keyOf_some h1, keysOf_some h2]; rfl
def parseK : List (PyData × PyData) → Option (List (Key × SV))
  | [] => some []
  | (k, d) :: r => (keyOf k).bind fun k => (parseK r).map ((k, .fz d) :: ·)
def parseT : List (PyData × PyData) → Option (List (List Key × SV))
  | [] => some []
  | (k, d) :: r => (tkeyOf k).bind fun k => (parseT r).map ((k, .fz d) :: ·)
/-- the pairs of a dict: keys ints and texts, or tuples of them -/
inductive Dct
  | k (l : List (Key × SV))
  | t (l : List (List Key × SV))
def dictOf (P : Store) : SV → Option Dct
  | .fz (.dict kvs) => match parseK kvs with
    | some l => some (.k l)
    | none => (parseT kvs).map .t
  | .fz _ => none
  | .lk _ _ _ => none
  | .ptr k => match P[k]? with
    | some (.dK l) => some (.k l)
    | some (.dT l) => some (.t l)
    | some (.fz (.dict kvs)) => match parseK kvs with
      | some l => some (.k l)
      | none => (parseT kvs).map .t
    | _ => none
def DctR (K : PySem.W.Frag) (F H : Hp) (ad : List Addr) (a : Addr) : Dct → Prop
  | .k l => ∃ xs, Rd H a (.dK ((l.map (·.1)).zip xs)) ∧ SVA K F ad xs (l.map (·.2))
  | .t l => ∃ xs, Rd H a (.dT ((l.map (·.1)).zip xs)) ∧ SVA K F ad xs (l.map (·.2))
theorem parseK_zip : ∀ (ks : List Key) (ds : List PyData), ks.length = ds.length → parseK ((ks.map keyD).zip ds) = some (ks.zip (ds.map SV.fz))
  | [], [], _ => rfl
  | k :: ks, d :: ds, h => by simp [parseK, keyOf_D, parseK_zip ks ds (by simpa using h)]
  | [], _ :: _, h => by simp at h
  | _ :: _, [], h => by simp at h
theorem parseT_zip : ∀ (ks : List (List Key)) (ds : List PyData), ks.length = ds.length → parseT ((ks.map fun k => PyData.tuple (k.map keyD)).zip ds) = some (ks.zip (ds.map SV.fz))
  | [], [], _ => rfl
  | k :: ks, d :: ds, h => by simp [parseT, tkeyOf, keysOf_D, parseT_zip ks ds (by simpa using h)]
  | [], _ :: _, h => by simp at h
  | _ :: _, [], h => by simp at h
theorem FzA.sva {K : PySem.W.Frag} {F : Hp} {ad : List Addr} : ∀ {xs : List V} {ds : List PyData}, FzA K F xs ds → SVA K F ad xs (ds.map SV.fz)
  | _, _, .nil => .nil
  | _, _, .cons a t => .cons a (FzA.sva t)
theorem map_fst_zip {α β : Type} : ∀ (l : List α) (m : List β), l.length = m.length → (l.zip m).map (·.1) = l
  | [], [], _ => rfl
  | a :: l, b :: m, h => by simp [map_fst_zip l m (by simpa using h)]
  | [], _ :: _, h => by simp at h
  | _ :: _, [], h => by simp at h
theorem map_snd_zip {α β : Type} : ∀ (l : List α) (m : List β), l.length = m.length → (l.zip m).map (·.2) = m
  | [], [], _ => rfl
  | a :: l, b :: m, h => by simp [map_snd_zip l m (by simpa using h)]
  | [], _ :: _, h => by simp at h
  | _ :: _, [], h => by simp at h
theorem frz_dct {K : PySem.W.Frag} {F H : Hp} {ad : List Addr} {a : Addr} {kvs : List (PyData × PyData)} {D : Dct} (s : Sub F H) (h : Fz K F (.ref a) (.dict kvs))
    (e : (match parseK kvs with | some l => some (Dct.k l) | none => (parseT kvs).map .t) = some D) : DctR K F H ad a D := by
  cases h with
  | @dK _ ks xs ds hp hl t =>
    have hn := t.length
    rw [parseK_zip ks ds (by omega)] at e
    cases e
    refine ⟨xs, ?_, ?_⟩
    · rw [map_fst_zip _ _ (by simp; omega)]
      exact s.rd (fun _ _ z => by cases z) hp
    · rw [map_snd_zip _ _ (by simp; omega)]
      exact t.sva
  | @dT _ ks xs ds hp hl ne t =>
    have hn := t.length
    have hk : parseK ((ks.map fun k => PyData.tuple (k.map keyD)).zip ds) = none := by
      cases ks with
      | nil => exact absurd rfl ne
      | cons k ks =>
        cases ds with
        | nil => simp at hn; simp [hn] at hl
        | cons d ds => simp [parseK, keyOf]
    rw [hk, parseT_zip ks ds (by omega)] at e
    cases e
    refine ⟨xs, ?_, ?_⟩
    · rw [map_fst_zip _ _ (by simp; omega)]
      rcases s _ _ hp with e | ⟨z, _⟩
      · exact .inl e
      · cases z
    · rw [map_snd_zip _ _ (by simp; omega)]
      exact t.sva
theorem Fz.isRef {K : PySem.W.Frag} {F : Hp} {v : V} {d : PyData} (h : Fz K F v d) : (∃ kvs, d = .dict kvs) → ∃ a, v = .ref a := by
  cases h <;> simp
theorem RelX.dct {K : PySem.W.Frag} {bs : List Nat} {ρ : EV} {σ : L2.St} {os : List SV} {vs : List V} {P : Store} {H F : Hp} {ad : List Addr} (R : RelX K bs ρ σ os vs P H F ad) {v : V} {s : SV} {D : Dct} (h : SVR K F ad v s) (e : dictOf P s = some D) : ∃ a, v = .ref a ∧ DctR K F H ad a D := by
  cases s with
  | fz d =>
    cases d with
    | dict kvs =>
      have hv : ∃ a, v = .ref a := Fz.isRef h ⟨_, rfl⟩
      obtain ⟨a, rfl⟩ := hv
      exact ⟨a, rfl, frz_dct R.sub h e⟩
    | _ => cases e
  | lk _ _ _ => cases e
  | ptr k =>
    unfold dictOf at e
    split at e
    · rename_i heq; cases heq
    · rename_i heq; cases heq
    · rename_i heq; cases heq
    · rename_i k' heq
      cases heq
      split at e
      · rename_i l hk
        cases e
        obtain ⟨a, _, rfl, _, xs, hx, t⟩ := R.at h hk
        exact ⟨a, rfl, xs, .inl hx, t⟩
      · rename_i l hk
        cases e
        obtain ⟨a, _, rfl, _, xs, hx, t⟩ := R.at h hk
        exact ⟨a, rfl, xs, .inl hx, t⟩
      · rename_i kvs hk
        obtain ⟨a, _, rfl, hc⟩ := R.at h hk
        exact ⟨a, rfl, frz_dct R.sub hc e⟩
      · cases e
/-- d.get(k) of pairs -/
def lookS {κ : Type} [DecidableEq κ] (l : List (κ × SV)) (k : κ) : Option SV := (l.find? fun p => decide (p.1 = k)).map (·.2)
theorem look_zip {κ : Type} [DecidableEq κ] {K : PySem.W.Frag} {F : Hp} {ad : List Addr} (k : κ) : ∀ (l : List (κ × SV)) (xs : List V), SVA K F ad xs (l.map (·.2)) →
    (lookS l k = none ∧ valV ((l.map (·.1)).zip xs) k = none) ∨ ∃ s v, lookS l k = some s ∧ valV ((l.map (·.1)).zip xs) k = some v ∧ SVR K F ad v s
  | [], xs, h => .inl ⟨rfl, by cases h; rfl⟩
  | p :: l, xs, h => by
    cases h with
    | cons a t =>
      rename_i v vs
      by_cases e : p.1 = k
      · refine .inr ⟨p.2, v, by simp [lookS, List.find?_cons, e], ?_, a⟩
        exact valV_pos (p := (p.1, v)) e
      · have h1 : lookS (p :: l) k = lookS l k := by simp [lookS, List.find?_cons, e]
        have h2 : valV (((p :: l).map (·.1)).zip (v :: vs)) k = valV ((l.map (·.1)).zip vs) k := valV_neg (p := (p.1, v)) e
        rw [h1, h2]
        exact look_zip k l vs t
def dlook (D : Dct) (kd : PyData) : Option (Option SV) := match D with
  | .k l => (keyOf kd).map fun k => lookS l k
  | .t l => (tkeyOf kd).map fun k => lookS l k
theorem dget_of {K : PySem.W.Frag} {F H : Hp} {ad : List Addr} {a : Addr} {D : Dct} {kd : PyData} {y : V} {o : Option SV} (s : Sub F H) (h : DctR K F H ad a D) (hk : Vw K F H y kd) (e : dlook D kd = some o) :
    (o = none ∧ DGet H a y none) ∨ ∃ z v, o = some z ∧ DGet H a y (some v) ∧ SVR K F ad v z := by
  cases D with
  | k l =>
    simp only [dlook, Option.map_eq_some_iff] at e
    obtain ⟨k, e1, rfl⟩ := e
    obtain ⟨xs, hr, t⟩ := h
    have ey : y = kV k := by
      have e2 := keyOf_some e1
      subst e2
      cases k with
      | inl i => exact hk.ints
      | inr x => exact hk.strs
    rcases look_zip k l xs t with ⟨h1, h2⟩ | ⟨z, v, h1, h2, r⟩
    · exact .inl ⟨h1, .inl ⟨_, k, hr, ey, h2.symm⟩⟩
    · exact .inr ⟨z, v, h1, .inl ⟨_, k, hr, ey, h2.symm⟩, r⟩
  | t l =>
    simp only [dlook, Option.map_eq_some_iff] at e
    obtain ⟨k, e1, rfl⟩ := e
    obtain ⟨xs, hr, t⟩ := h
    cases kd with
    | tuple ds =>
      have e2 := keysOf_some (show keysOf ds = some k from e1)
      subst e2
      obtain ⟨b, ys, rfl, hb, tb, _⟩ := hk.tups s
      replace hb := hb.key (keyAll_keys _)
      have eys : ys = k.map kV := by
        have : ∀ (k : List Key) (ys : List V), FzA K F ys (k.map keyD) → ys = k.map kV := by
          intro k
          induction k with
          | nil => intro ys h; cases h; rfl
          | cons a k ih =>
            intro ys h
            cases h with
            | cons q r =>
              rw [ih _ r]
              cases a <;> (cases q; rfl)
        exact this k ys tb
      subst eys
      rcases look_zip k l xs t with ⟨h1, h2⟩ | ⟨z, v, h1, h2, r⟩
      · exact .inl ⟨h1, .inr ⟨_, k, b, hr, rfl, hb, h2.symm⟩⟩
      · exact .inr ⟨z, v, h1, .inr ⟨_, k, b, hr, rfl, hb, h2.symm⟩, r⟩
    | _ => simp [tkeyOf] at e1
/-- k in d -/
def mDIn (n : Bool) (fk fd : XM) : XM := fun ρ P => (fk ρ P).bind fun (k, P1) => (fd ρ P1).bind fun (d, P2) => (flat P2 k).bind fun kd => (dictOf P2 d).bind fun D => (dlook D kd).map fun o => (.fz (.bool (n != o.isSome)), P2)
theorem din_d {fk fd : XM} {n : Bool} {tk td : TE}
    (h1 : ∀ (bs : List Nat) (ρ : EV) (σ : L2.St) (os : List SV) (vs : List V) (P : Store) (H : Hp) (Q : VK) (r : SV) (P' : Store), Rel X.K bs ρ σ os vs P H → fk ρ P = some (r, P') → (∀ v H', Rel X.K bs ρ σ (r :: os) (v :: vs) P' H' → Q v H') → tk σ H Q)
    (h2 : ∀ (bs : List Nat) (ρ : EV) (σ : L2.St) (os : List SV) (vs : List V) (P : Store) (H : Hp) (Q : VK) (r : SV) (P' : Store), Rel X.K bs ρ σ os vs P H → fd ρ P = some (r, P') → (∀ v H', Rel X.K bs ρ σ (r :: os) (v :: vs) P' H' → Q v H') → td σ H Q)
    (bs : List Nat) (ρ : EV) (σ : L2.St) (os : List SV) (vs : List V) (P : Store) (H : Hp) (Q : VK) (w : SV) (P' : Store) (R : Rel X.K bs ρ σ os vs P H) (e : mDIn n fk fd ρ P = some (w, P')) (q : ∀ v H', Rel X.K bs ρ σ (w :: os) (v :: vs) P' H' → Q v H') :
    tk σ H fun y H1 => td σ H1 fun x H2 => ∃ a o, x = .ref a ∧ DGet H2 a y o ∧ Q (.bl (n != o.isSome)) H2 := by
  simp only [mDIn, Option.bind_eq_some_iff, Option.map_eq_some_iff, Prod.mk.injEq] at e
  obtain ⟨⟨s1, P1⟩, e1, ⟨s2, P2⟩, e2, kd, e3, D, e4, o, e5, rfl, rfl⟩ := e
  refine h1 bs ρ σ os vs P H _ s1 P1 R e1 fun y H1 R1 => ?_
  refine h2 bs ρ σ _ _ P1 H1 _ s2 P2 R1 e2 fun x H2 R2 => ?_
  obtain ⟨F, ad, R2⟩ := R2
  obtain ⟨r2, R3⟩ := R2.pop
  obtain ⟨r1, R4⟩ := R3.pop
  obtain ⟨a, rfl, hd⟩ := R2.dct r2 e4
  rcases dget_of R2.sub hd (R2.view r1 e3) e5 with ⟨rfl, g⟩ | ⟨z, v, rfl, g, r⟩
  · exact ⟨a, none, rfl, g, q _ _ (R4.atom (.bl _))⟩
  · exact ⟨a, some v, rfl, g, q _ _ (R4.atom (.bl _))⟩
theorem ped_din {i o : Expr} {fk fd : XM} (hu : X.A.units + 65 < cLine) (hk : PEd X i fk) (hd : PEd X o fd) (hm : behindInMarks .In o = false) : PEd X (.Compare i [.In] [o] pos) (mDIn false fk fd) := by
  obtain ⟨t, p, h1⟩ := hk
  obtain ⟨u, p', h2⟩ := hd
  refine ⟨_, pe_cmp (pc_din (by omega) p p') hm, fun bs ρ σ os vs P H Q w P' R e q => ?_⟩
  have := din_d h1 h2 bs ρ σ os vs P H Q w P' R e q
  simpa [tDIn] using this
theorem ped_dnotin {i o : Expr} {fk fd : XM} (hu : X.A.units + 65 < cLine) (hk : PEd X i fk) (hd : PEd X o fd) (hm : behindInMarks .NotIn o = false) : PEd X (.Compare i [.NotIn] [o] pos) (mDIn true fk fd) := by
  obtain ⟨t, p, h1⟩ := hk
  obtain ⟨u, p', h2⟩ := hd
  refine ⟨_, pe_cmp (pc_dnotin (by omega) p p') hm, fun bs ρ σ os vs P H Q w P' R e q => ?_⟩
  have := din_d h1 h2 bs ρ σ os vs P H Q w P' R e q
  simpa [tDNotIn] using this
theorem ptd_of_din {i o : Expr} {fk fd : XM} (hu : X.A.units + 65 < cLine) (hk : PEd X i fk) (hd : PEd X o fd) (hm : behindInMarks .In o = false) : PTd X (.Compare i [.In] [o] pos) (mTB (mDIn false fk fd)) := by
  obtain ⟨t, p, h1⟩ := hk
  obtain ⟨u, p', h2⟩ := hd
  refine ⟨_, pt_cmp (pc_din (by omega) p p') hm, fun bs ρ σ os vs P H Q w P' R e q => ?_⟩
  simp only [mTB, Option.bind_eq_some_iff] at e
  obtain ⟨⟨s1, P1⟩, e1, e2⟩ := e
  have := din_d (n := false) h1 h2 bs ρ σ os vs P H (fun x H1 => ∃ c, x = .bl c ∧ Q c H1) s1 P1 R e1 fun v H1 R1 => by
    simp only at e2
    split at e2
    · cases e2
      obtain ⟨F, ad, R0⟩ := R1
      obtain ⟨r1, R2⟩ := R0.pop
      cases r1
      exact ⟨_, rfl, q _ ⟨F, ad, R2⟩⟩
    · cases e2
  simpa [tB, tDIn] using this
theorem ptd_of_dnotin {i o : Expr} {fk fd : XM} (hu : X.A.units + 65 < cLine) (hk : PEd X i fk) (hd : PEd X o fd) (hm : behindInMarks .NotIn o = false) : PTd X (.Compare i [.NotIn] [o] pos) (mTB (mDIn true fk fd)) := by
  obtain ⟨t, p, h1⟩ := hk
  obtain ⟨u, p', h2⟩ := hd
  refine ⟨_, pt_cmp (pc_dnotin (by omega) p p') hm, fun bs ρ σ os vs P H Q w P' R e q => ?_⟩
  simp only [mTB, Option.bind_eq_some_iff] at e
  obtain ⟨⟨s1, P1⟩, e1, e2⟩ := e
  have := din_d (n := true) h1 h2 bs ρ σ os vs P H (fun x H1 => ∃ c, x = .bl c ∧ Q c H1) s1 P1 R e1 fun v H1 R1 => by
    simp only at e2
    split at e2
    · cases e2
      obtain ⟨F, ad, R0⟩ := R1
      obtain ⟨r1, R2⟩ := R0.pop
      cases r1
      exact ⟨_, rfl, q _ ⟨F, ad, R2⟩⟩
    · cases e2
  simpa [tB, tDNotIn] using this
/-- d[k] -/
def mDGet (fd fk : XM) : XM := fun ρ P => (fd ρ P).bind fun (d, P1) => (fk ρ P1).bind fun (k, P2) => (flat P2 k).bind fun kd => (dictOf P2 d).bind fun D => match dlook D kd with
  | some (some s) => some (s, P2)
  | _ => none
theorem ped_dget {o i : Expr} {fd fk : XM} (hu : X.A.units + 65 < cLine) (hd : PEd X o fd) (hk : PEd X i fk) (hs : NoSl i) : PEd X (.Subscript o i pos) (mDGet fd fk) := by
  obtain ⟨t, p, h1⟩ := hd
  obtain ⟨u, p', h2⟩ := hk
  refine ⟨_, pe_dget (by omega) p p' hs, fun bs ρ σ os vs P H Q w P' R e q => ?_⟩
  simp only [mDGet, Option.bind_eq_some_iff] at e
  obtain ⟨⟨s1, P1⟩, e1, ⟨s2, P2⟩, e2, kd, e3, D, e4, e5⟩ := e
  refine h1 bs ρ σ os vs P H _ s1 P1 R e1 fun x H1 R1 => ?_
  refine h2 bs ρ σ _ _ P1 H1 _ s2 P2 R1 e2 fun y H2 R2 => ?_
  obtain ⟨F, ad, R2⟩ := R2
  obtain ⟨r2, R3⟩ := R2.pop
  obtain ⟨r1, R4⟩ := R3.pop
  obtain ⟨a, rfl, hd⟩ := R2.dct r1 e4
  split at e5
  · rename_i s hl
    cases e5
    rcases dget_of R2.sub hd (R2.view r2 e3) hl with ⟨z, _⟩ | ⟨z, v, ez, g, r⟩
    · cases z
    · cases ez
      exact ⟨a, v, rfl, g, q _ _ ⟨F, ad, R4.push r⟩⟩
  · cases e5

/-! d[k] = v, {}, {k: v, ..} -/
def putS {κ : Type} [DecidableEq κ] (l : List (κ × SV)) (k : κ) (s : SV) : List (κ × SV) :=
  if (l.any fun p => decide (p.1 = k)) = true then l.map (fun p => if p.1 = k then (p.1, s) else p) else l ++ [(k, s)]
theorem put_zip {κ : Type} [DecidableEq κ] {K : PySem.W.Frag} {F : Hp} {ad : List Addr} (k : κ) {s : SV} {v : V} (r : SVR K F ad v s) (l : List (κ × SV)) (xs : List V) (h : SVA K F ad xs (l.map (·.2))) :
    ∃ ys, putK ((l.map (·.1)).zip xs) k v = ((putS l k s).map (·.1)).zip ys ∧ SVA K F ad ys ((putS l k s).map (·.2)) := by
  have any : ∀ (l : List (κ × SV)) (xs : List V), SVA K F ad xs (l.map (·.2)) → (((l.map (·.1)).zip xs).any fun kv => decide (kv.1 = k)) = (l.any fun p => decide (p.1 = k)) := by
    intro l
    induction l with
    | nil => intro xs h; cases h; rfl
    | cons p l ih => intro xs h; cases h with | cons a t => simp [ih _ t]
  unfold putK putS
  rw [any l xs h]
  split
  · have go : ∀ (l : List (κ × SV)) (xs : List V), SVA K F ad xs (l.map (·.2)) → ∃ ys, ((l.map (·.1)).zip xs).map (fun kv => if kv.1 = k then (kv.1, v) else kv) = ((l.map (fun p => if p.1 = k then (p.1, s) else p)).map (·.1)).zip ys ∧ SVA K F ad ys ((l.map (fun p => if p.1 = k then (p.1, s) else p)).map (·.2)) := by
      intro l
      induction l with
      | nil => intro xs h; cases h; exact ⟨[], rfl, .nil⟩
      | cons p l ih =>
        intro xs h
        cases h with
        | cons a t =>
          rename_i x xs
          obtain ⟨ys, e, q⟩ := ih _ t
          by_cases hp : p.1 = k
          · refine ⟨v :: ys, ?_, ?_⟩
            · simp only [List.map_cons, List.zip_cons_cons, if_pos hp, e]
            · simp only [List.map_cons, if_pos hp]; exact .cons r q
          · refine ⟨x :: ys, ?_, ?_⟩
            · simp only [List.map_cons, List.zip_cons_cons, if_neg hp, e]
            · simp only [List.map_cons, if_neg hp]; exact .cons a q
    exact go l xs h
  · refine ⟨xs ++ [v], ?_, ?_⟩
    · have hl := h.length
      rw [List.map_append, List.zip_append (by simpa using hl.symm)]
      rfl
    · rw [List.map_append]
      exact h.append (.cons r .nil)
theorem putS_ps {κ : Type} [DecidableEq κ] (k : κ) (s : SV) (l : List (κ × SV)) : ∀ j ∈ ((putS l k s).flatMap fun p => p.2.ps), j ∈ (l.flatMap fun p => p.2.ps) ∨ j ∈ s.ps := by
  intro j hj
  unfold putS at hj
  split at hj
  · obtain ⟨p, hp, q⟩ := List.mem_flatMap.mp hj
    obtain ⟨p0, hp0, rfl⟩ := List.mem_map.mp hp
    by_cases h : p0.1 = k
    · rw [if_pos h] at q; exact .inr q
    · rw [if_neg h] at q; exact .inl (List.mem_flatMap.mpr ⟨p0, hp0, q⟩)
  · rw [List.flatMap_append] at hj
    rcases List.mem_append.mp hj with h | h
    · exact .inl h
    · exact .inr (by simpa using h)
def sDPut (fd fk fv : XM) : SM := fun ρ P => (fv ρ P).bind fun (s, P1) => (fd ρ P1).bind fun (d, P2) => (fk ρ P2).bind fun (k, P3) => (flat P3 k).bind fun kd => match d with
  | .ptr j => match P3[j]? with
    | some (.dK l) => if l.length < sizeLine ∧ okPtr ρ.b j s = true then (keyOf kd).map fun k => (.nx, ρ, P3.set j (.dK (putS l k s))) else none
    | some (.dT l) => if l.length < sizeLine ∧ okPtr ρ.b j s = true then (tkeyOf kd).map fun k => (.nx, ρ, P3.set j (.dT (putS l k s))) else none
    | _ => none
  | _ => none
theorem tup_keys {K : PySem.W.Frag} {F : Hp} : ∀ (k : List Key) (ys : List V), FzA K F ys (k.map keyD) → ys = k.map kV := by
  intro k
  induction k with
  | nil => intro ys h; cases h; rfl
  | cons a k ih =>
    intro ys h
    cases h with
    | cons q r =>
      rw [ih _ r]
      cases a <;> (cases q; rfl)
theorem psd_dput {o i value : Expr} {fd fk fv : XM} {pos' : Pos} (hu : X.A.units + 65 < cLine) (hd : PEd X o fd) (hk : PEd X i fk) (hv : PEd X value fv) (hs : swapsWith value (some (.Subscript o i pos')) pos.line X.env = pure false := by rfl) :
    PSd X (.Assign [.Subscript o i pos'] value pos) (sDPut fd fk fv) := by
  obtain ⟨t1, p1, h1⟩ := hd
  obtain ⟨t2, p2, h2⟩ := hk
  obtain ⟨t3, p3, h3⟩ := hv
  refine ⟨_, ps_dput (by omega) p1 p2 p3 hs, fun bs ρ σ os vs P H D r R e q => ?_⟩
  simp only [sDPut, Option.bind_eq_some_iff] at e
  obtain ⟨⟨s3, P1⟩, e3, ⟨s1, P2⟩, e1, ⟨s2, P3⟩, e2, kd, e4, e5⟩ := e
  refine h3 bs ρ σ os vs P H _ s3 P1 R e3 fun v H1 R1 => ?_
  refine h1 bs ρ σ _ _ P1 H1 _ s1 P2 R1 e1 fun x H2 R2 => ?_
  refine h2 bs ρ σ _ _ P2 H2 _ s2 P3 R2 e2 fun y H3 R3 => ?_
  obtain ⟨F, ad, R3⟩ := R3
  obtain ⟨r2, R4⟩ := R3.pop
  obtain ⟨r1, R5⟩ := R4.pop
  obtain ⟨r3, R6⟩ := R5.pop
  have vk := R3.view r2 e4
  have hs := R3.sub
  simp only at e5
  split at e5
  · rename_i j
    split at e5
    · rename_i l hj
      split at e5
      · rename_i hz
        simp only [Option.map_eq_some_iff] at e5
        obtain ⟨k, ek, rfl⟩ := e5
        obtain ⟨a, ha, rfl, hF, xs, hx, t⟩ := R6.at r1 hj
        obtain ⟨ys, ey, ty⟩ := put_zip k r3 l xs t
        have eyk : y = kV k := by
          have e2 := keyOf_some ek
          subst e2
          cases k with
          | inl i => exact vk.ints
          | inr x => exact vk.strs
        have hln := t.length
        refine ⟨a, _, rfl, .inl ⟨_, k, hx, eyk, by simp at hln ⊢; omega, rfl⟩, q _ _ ⟨F, ad, ?_⟩⟩
        rw [ey]
        refine R6.put (c := .dK (putS l k s3)) hj ha hF ⟨hF, ys, upd_same, ty⟩ fun m hm => ?_
        rcases putS_ps k s3 l m hm with h | h
        · exact .inl h
        · exact .inr (okPtr_ps hz.2 m h)
      · cases e5
    · rename_i l hj
      split at e5
      · rename_i hz
        simp only [Option.map_eq_some_iff] at e5
        obtain ⟨k, ek, rfl⟩ := e5
        obtain ⟨a, ha, rfl, hF, xs, hx, t⟩ := R6.at r1 hj
        obtain ⟨ys, ey, ty⟩ := put_zip k r3 l xs t
        cases kd with
        | tuple ds =>
          have e2 := keysOf_some (show keysOf ds = some k from ek)
          subst e2
          obtain ⟨b, zs, rfl, hb, tb, _⟩ := vk.tups hs
          replace hb := hb.key (keyAll_keys _)
          have ez := tup_keys k zs tb
          subst ez
          have hln := t.length
          refine ⟨a, _, rfl, .inr ⟨_, k, b, hx, rfl, hb, by simp at hln ⊢; omega, rfl⟩, q _ _ ⟨F, ad, ?_⟩⟩
          rw [ey]
          refine R6.put (c := .dT (putS l k s3)) hj ha hF ⟨hF, ys, upd_same, ty⟩ fun m hm => ?_
          rcases putS_ps k s3 l m hm with h | h
          · exact .inl h
          · exact .inr (okPtr_ps hz.2 m h)
        | _ => simp [tkeyOf] at ek
      · cases e5
    · cases e5
  · cases e5
def mDNewK : XM := fun _ P => some (.ptr P.length, P ++ [.dK []])
def mDNewT : XM := fun _ P => some (.ptr P.length, P ++ [.dT []])
theorem ped_dnewK : PEd X (.Dict [] [] pos) mDNewK := ⟨_, pe_dnewK, fun bs ρ σ os vs P H Q r P' R e q => by
  simp only [mDNewK, Option.some.injEq, Prod.mk.injEq] at e
  obtain ⟨rfl, rfl⟩ := e
  obtain ⟨F, ad, R⟩ := R
  exact fun p n => q _ _ ⟨F, _, R.cell (o := .dK []) (c := .dK []) n fun ad' pr => ⟨R.free n, [], upd_same, .nil⟩⟩⟩
theorem ped_dnewT : PEd X (.Dict [] [] pos) mDNewT := ⟨_, pe_dnewT, fun bs ρ σ os vs P H Q r P' R e q => by
  simp only [mDNewT, Option.some.injEq, Prod.mk.injEq] at e
  obtain ⟨rfl, rfl⟩ := e
  obtain ⟨F, ad, R⟩ := R
  exact fun p n => q _ _ ⟨F, _, R.cell (o := .dT []) (c := .dT []) n fun ad' pr => ⟨R.free n, [], upd_same, .nil⟩⟩⟩
end
end Pd

set_option Elab.async false
set_option linter.all false
set_option maxRecDepth 100000
set_option maxHeartbeats 1000000
/-! The layer Pd, part K: what is told apart by the values; cells made by calls. -/
namespace Pd
open PySem PySem.Spec PyProof.Rows L2
section
variable {X : Cx} {pos : Pos}
theorem PEd.or {e : Expr} {f g : XM} (h : PEd X e f) (h' : PEd X e g) : PEd X e (fun ρ P => (f ρ P).or (g ρ P)) := by
  obtain ⟨t, p, q1⟩ := h
  obtain ⟨u, p', q2⟩ := h'
  refine ⟨fun σ H Q => t σ H Q ∨ u σ H Q, ⟨fun pins s σ H Q I w => w.elim (p.run pins s σ H Q I) (p'.run pins s σ H Q I)⟩, fun bs ρ σ os vs P H Q r P' R e q => ?_⟩
  have e : (f ρ P).or (g ρ P) = some (r, P') := e
  cases hf : f ρ P with
  | some z =>
    rw [hf] at e
    simp only [Option.some_or, Option.some.injEq] at e
    subst e
    exact .inl (q1 bs ρ σ os vs P H Q r P' R hf q)
  | none =>
    rw [hf] at e
    exact .inr (q2 bs ρ σ os vs P H Q r P' R (by simpa using e) q)
theorem PEd.imp {e : Expr} {f g : XM} (h : PEd X e f) (i : ∀ ρ P r, g ρ P = some r → f ρ P = some r) : PEd X e g := by
  obtain ⟨t, p, q1⟩ := h
  exact ⟨t, p, fun bs ρ σ os vs P H Q r P' R e q => q1 bs ρ σ os vs P H Q r P' R (i _ _ _ e) q⟩
theorem PTd.or {e : Expr} {f g : BM} (h : PTd X e f) (h' : PTd X e g) : PTd X e (fun ρ P => (f ρ P).or (g ρ P)) := by
  obtain ⟨t, p, q1⟩ := h
  obtain ⟨u, p', q2⟩ := h'
  refine ⟨fun σ H Q => t σ H Q ∨ u σ H Q, ⟨fun pins s σ H Q I w => w.elim (p.run pins s σ H Q I) (p'.run pins s σ H Q I)⟩, fun bs ρ σ os vs P H Q r P' R e q => ?_⟩
  have e : (f ρ P).or (g ρ P) = some (r, P') := e
  cases hf : f ρ P with
  | some z =>
    rw [hf] at e
    simp only [Option.some_or, Option.some.injEq] at e
    subst e
    exact .inl (q1 bs ρ σ os vs P H Q r P' R hf q)
  | none =>
    rw [hf] at e
    exact .inr (q2 bs ρ σ os vs P H Q r P' R (by simpa using e) q)
theorem PTd.imp {e : Expr} {f g : BM} (h : PTd X e f) (i : ∀ ρ P r, g ρ P = some r → f ρ P = some r) : PTd X e g := by
  obtain ⟨t, p, q1⟩ := h
  exact ⟨t, p, fun bs ρ σ os vs P H Q r P' R e q => q1 bs ρ σ os vs P H Q r P' R (i _ _ _ e) q⟩

/-- a[i]: of a sequence, or of a dict -/
def subOf (P : Store) (a : SV) (kd : PyData) : Option SV := match dictOf P a with
  | some D => (dlook D kd).bind id
  | none => ((flat P a).bind fun d => dIx d kd).map SV.fz
def mSub (f1 f2 : XM) : XM := fun ρ P => (f1 ρ P).bind fun (a, P1) => (f2 ρ P1).bind fun (b, P2) => (flat P2 b).bind fun kd => (subOf P2 a kd).map fun s => (s, P2)
theorem ped_sub {a b : Expr} {f1 f2 : XM} (hu : X.A.units + 65 < cLine) (ha : PEd X a f1) (hb : PEd X b f2) (hs : PlainIx b) : PEd X (.Subscript a b pos) (mSub f1 f2) := by
  refine ((ped_ix (pos := pos) ixd_seq ha hb hs).or (ped_dget hu ha hb hs)).imp fun ρ P r e => ?_
  obtain ⟨w, P'⟩ := r
  simp only [mSub, Option.bind_eq_some_iff, Option.map_eq_some_iff, Prod.mk.injEq] at e
  obtain ⟨⟨s1, P1⟩, e1, ⟨s2, P2⟩, e2, kd, e3, s, e4, rfl, rfl⟩ := e
  show (mBin dIx f1 f2 ρ P).or (mDGet f1 f2 ρ P) = _
  unfold subOf at e4
  split at e4
  · rename_i D hD
    have h2 : mDGet f1 f2 ρ P = some (s, P2) := by
      simp only [mDGet, e1, e2, e3, hD, Option.bind_some]
      cases h : dlook D kd with
      | none => rw [h] at e4; cases e4
      | some o => rw [h] at e4; cases o with
        | none => cases e4
        | some s' => cases e4; rfl
    have h1 : mBin dIx f1 f2 ρ P = none := by
      simp only [mBin, e1, e2, e3, Option.bind_some]
      cases hf : flat P2 s1 with
      | none => rfl
      | some d =>
        simp only [Option.bind_some]
        have : dIx d kd = none := by
          cases d with
          | dict _ => rfl
          | _ =>
            exfalso
            cases s1 with
            | fz d' => simp only [flat, Option.some.injEq] at hf; subst hf; cases hD
            | lk _ _ _ => simp [flat] at hf
            | ptr k =>
              simp only [flat, Option.bind_eq_some_iff] at hf
              obtain ⟨c, hc, hd⟩ := hf
              unfold dictOf at hD
              simp only [hc] at hD
              cases c with
              | fz d' => simp only [Cell.dat, Option.some.injEq] at hd; subst hd; cases hD
              | lst l => cases hD
              | dK l => simp [Cell.dat] at hd
              | dT l => cases l <;> simp [Cell.dat] at hd
        rw [this]; rfl
    rw [h1, h2]; rfl
  · rename_i hD
    simp only [Option.map_eq_some_iff, Option.bind_eq_some_iff] at e4
    obtain ⟨z, ⟨d, hd, hz⟩, rfl⟩ := e4
    have h1 : mBin dIx f1 f2 ρ P = some (.fz z, P2) := by simp only [mBin, e1, e2, e3, hd, hz, Option.bind_some, Option.map_some]
    rw [h1]; rfl
/-- x in a: of a list, a tuple, a text, or of a dict -/
def inOf (P : Store) (kd : PyData) (a : SV) : Option Bool := match dictOf P a with
  | some D => (dlook D kd).map Option.isSome
  | none => (flat P a).bind fun d => match dInS false kd d with
    | some (.bool b) => some b
    | _ => none
def mIn (n : Bool) (f1 f2 : XM) : XM := fun ρ P => (f1 ρ P).bind fun (a, P1) => (f2 ρ P1).bind fun (b, P2) => (flat P2 a).bind fun kd => (inOf P2 kd b).map fun v => (.fz (.bool (n != v)), P2)
theorem dInS_not {d e : PyData} {b : Bool} (n : Bool) (h : dInS false d e = some (.bool b)) : dInS n d e = some (.bool (n != b)) := by
  unfold dInS at h ⊢
  split at h
  · split at h
    · rename_i hc
      rw [if_pos hc]
      simp only [Option.some.injEq, PyData.bool.injEq] at h ⊢
      subst h; simp
    · cases h
  · split at h
    · rename_i hc
      rw [if_pos hc]
      simp only [Option.some.injEq, PyData.bool.injEq] at h ⊢
      subst h; simp
    · cases h
  · simp only [Option.some.injEq, PyData.bool.injEq] at h ⊢
    subst h; simp
  · cases h
theorem in_or {f1 f2 : XM} {n : Bool} {ρ : EV} {P : Store} {r : SV × Store} (e : mIn n f1 f2 ρ P = some r) : (mDIn n f1 f2 ρ P).or (mBin (dInS n) f1 f2 ρ P) = some r := by
  obtain ⟨w, P'⟩ := r
  simp only [mIn, Option.bind_eq_some_iff, Option.map_eq_some_iff, Prod.mk.injEq] at e
  obtain ⟨⟨s1, P1⟩, e1, ⟨s2, P2⟩, e2, kd, e3, b, e4, rfl, rfl⟩ := e
  unfold inOf at e4
  split at e4
  · rename_i D hD
    simp only [Option.map_eq_some_iff] at e4
    obtain ⟨o, ho, rfl⟩ := e4
    have h1 : mDIn n f1 f2 ρ P = some (.fz (.bool (n != o.isSome)), P2) := by simp only [mDIn, e1, e2, e3, hD, ho, Option.bind_some, Option.map_some]
    rw [h1]; rfl
  · rename_i hD
    have h1 : mDIn n f1 f2 ρ P = none := by simp only [mDIn, e1, e2, e3, hD, Option.bind_some, Option.bind_none]
    simp only [Option.bind_eq_some_iff] at e4
    obtain ⟨d, hd, h4⟩ := e4
    split at h4
    · rename_i b' hb
      cases h4
      have h2 : mBin (dInS n) f1 f2 ρ P = some (.fz (.bool (n != b)), P2) := by simp only [mBin, e1, e2, e3, hd, dInS_not n hb, Option.bind_some, Option.map_some]
      rw [h1, h2]; rfl
    · cases h4
theorem ped_in {i o : Expr} {fk fd : XM} (hu : X.A.units + 65 < cLine) (hk : PEd X i fk) (hd : PEd X o fd) (hm : behindInMarks .In o = false := by rfl) : PEd X (.Compare i [.In] [o] pos) (mIn false fk fd) :=
  ((ped_din (pos := pos) hu hk hd hm).or (ped_cmp (opd_in hu) hk hd hm)).imp fun ρ P r e => in_or e
theorem ped_notin {i o : Expr} {fk fd : XM} (hu : X.A.units + 65 < cLine) (hk : PEd X i fk) (hd : PEd X o fd) (hm : behindInMarks .NotIn o = false := by rfl) : PEd X (.Compare i [.NotIn] [o] pos) (mIn true fk fd) :=
  ((ped_dnotin (pos := pos) hu hk hd hm).or (ped_cmp (opd_notin hu) hk hd hm)).imp fun ρ P r e => in_or e
theorem mTB_or {f g h : XM} {ρ : EV} {P : Store} {r : Bool × Store} (i : ∀ r, f ρ P = some r → (g ρ P).or (h ρ P) = some r) (e : mTB f ρ P = some r) : (mTB g ρ P).or (mTB h ρ P) = some r := by
  obtain ⟨b, P'⟩ := r
  simp only [mTB, Option.bind_eq_some_iff] at e
  obtain ⟨⟨s1, P1⟩, e1, e2⟩ := e
  have := i _ e1
  cases hg : g ρ P with
  | some z =>
    rw [hg] at this
    simp only [Option.some_or, Option.some.injEq] at this
    subst this
    simp only [mTB, hg, Option.bind_some]
    simp only at e2
    rw [e2]; rfl
  | none =>
    rw [hg] at this
    simp only [Option.none_or] at this
    simp only [mTB, hg, this, Option.bind_some, Option.bind_none, Option.none_or]
    exact e2
theorem ptd_in {i o : Expr} {fk fd : XM} (hu : X.A.units + 65 < cLine) (hk : PEd X i fk) (hd : PEd X o fd) (hm : behindInMarks .In o = false := by rfl) : PTd X (.Compare i [.In] [o] pos) (mTB (mIn false fk fd)) :=
  ((ptd_of_din (pos := pos) hu hk hd hm).or (ptd_cmp (opd_in hu) hk hd hm)).imp fun ρ P r e => mTB_or (fun r h => in_or h) e
theorem ptd_notin {i o : Expr} {fk fd : XM} (hu : X.A.units + 65 < cLine) (hk : PEd X i fk) (hd : PEd X o fd) (hm : behindInMarks .NotIn o = false := by rfl) : PTd X (.Compare i [.NotIn] [o] pos) (mTB (mIn true fk fd)) :=
  ((ptd_of_dnotin (pos := pos) hu hk hd hm).or (ptd_cmp (opd_notin hu) hk hd hm)).imp fun ρ P r e => mTB_or (fun r h => in_or h) e

/-! numbers -/
def dPow : PyData → PyData → Option PyData := dIC cPow fun i j => .int (i ^ j.toNat)
theorem opd_pow : OpD X (binaryOp .Pow) dPow := opd_int op_pow (fun i j h => by simpa [cPow, CPow] using h) fun _ _ _ => .int _

/-! a list that may change, by a comprehension, by list(..) -/
def mLCC (own : List Nat) (f : IM) (g : GM) (tt : BM) (te : XM) : XM := fun ρ P => (f ρ P).bind fun (items, _, P1) =>
  (lcGo g tt te { ρ.wipe own with b := P1.length } P1.length items (P1 ++ [.lst []])).bind fun S => match S[P1.length]? with
    | some (.lst acc) => if (fzs acc).isSome = true then some (.ptr P1.length, S.take P1.length ++ [.lst acc]) else none
    | _ => none
theorem fzs_ps : ∀ {l : List SV}, (fzs l).isSome = true → l.flatMap SV.ps = []
  | [], _ => rfl
  | .fz d :: r, h => by
    simp only [fzs, Option.isSome_map] at h
    simp [SV.ps, fzs_ps h]
  | .ptr _ :: _, h => by simp [fzs] at h
  | .lk _ _ _ :: _, h => by simp [fzs] at h
theorem lcC_d {f : IM} {g : GM} {tt : BM} {te : XM} {ts own : List Nat} {wi : TI} (hts : ∀ i ∈ ts, i ∈ own)
    (h0 : ∀ (bs : List Nat) (ρ : EV) (σ : L2.St) (os : List SV) (vs : List V) (P : Store) (H : Hp) (R : It → Hp → Prop) (items : List PyData) (src : SV) (P' : Store), Rel X.K bs ρ σ os vs P H → f ρ P = some (items, src, P') →
      (∀ J v H' sr, Rel X.K bs ρ σ (sr :: os) (v :: vs) P' H' → ItOk X.K J items sr v → R J H') → wi σ H R)
    (bs : List Nat) (ρ : EV) (σ : L2.St) (os : List SV) (vs : List V) (P : Store) (H : Hp) (Q : VK) (r : SV) (P' : Store) (R : Rel X.K bs ρ σ os vs P H) (e : mLCC own f g tt te ρ P = some (r, P'))
    (q : ∀ v H', Rel X.K bs ρ σ (r :: os) (v :: vs) P' H' → Q v H') : tLc wi (tMG X.K ts g) (tMT X.K tt) (tM X.K te) own σ H Q := by
  simp only [mLCC, Option.bind_eq_some_iff] at e
  obtain ⟨⟨items, src, P1⟩, e0, S, e1, e2⟩ := e
  refine h0 bs ρ σ os vs P H _ items src P1 R e0 fun J w H1 src R1 ok => fun D hD => ?_
  refine lc_go (Df := fun H => Q (.ref D) H) ok hts R1 hD e1 fun H2 R2 => ?_
  simp only at e2
  split at e2
  · rename_i acc hacc
    split at e2
    · rename_i hds
      cases e2
      obtain ⟨F, ad, R2⟩ := R2
      obtain ⟨F1, ad1, R1⟩ := R1
      obtain ⟨rD, R3⟩ := R2.pop
      obtain ⟨a, ha, ea, hc⟩ := R3.at rD hacc
      cases ea
      have hps : (Cell.lst acc).ps = [] := fzs_ps hds
      obtain ⟨_, R5⟩ := R3.pop
      have R6 := R5.cut (ρ' := ρ) R5.slots R1.slotsLt R5.tops (fun s hs => R1.topsLt s (List.mem_cons_of_mem _ hs)) (fun c hc => R1.bb c hc) (fun c hc => R1.bas.le c hc)
      have na : D ∉ ad.take P1.length := fun hm => by
        obtain ⟨j, hj, ej⟩ := List.getElem_of_mem hm
        rw [List.length_take] at hj
        rw [List.getElem_take] at ej
        obtain ⟨h2, q2⟩ := List.getElem?_eq_some_iff.mp ha
        have := (List.getElem_inj R3.nd).mp (ej.trans q2.symm)
        omega
      have R7 := R6.adopt na (R3.there D (List.mem_of_getElem? ha)) (no_ps hps hc) hps
      have en : (S.take P1.length).length = P1.length := by
        have hl := (List.getElem?_eq_some_iff.mp hacc).1
        rw [List.length_take]; omega
      rw [en] at R7
      exact q _ _ ⟨_, _, R7⟩
    · cases e2
  · cases e2
theorem ped_lcC {elt tg iter : Expr} {ifs : List Expr} {scope : Scope} {own : List (Str × Nat)} {f : IM} {g : GM} {tt : BM} {te : XM} {ts : List Nat} (hc : X.calm = true) (hN : X.N.Nodup) (hi : PId X tg iter f) (ok : BlkOk X.N X.env.scope scope own)
    (hg : ∀ (s : Shared) (H : Hp) (C : Addr) (cl : List (Str × Addr)) (fp : List Addr), PGd (X.blk s H scope (compEnvC scope cl C X.env) fp) tg ts g) (ht : ∀ (s : Shared) (H : Hp) (C : Addr) (cl : List (Str × Addr)) (fp : List Addr), PTsd (X.blk s H scope (compEnvC scope cl C X.env) fp) ifs tt)
    (he : ∀ (s : Shared) (H : Hp) (C : Addr) (cl : List (Str × Addr)) (fp : List Addr), PEd (X.blk s H scope (compEnvC scope cl C X.env) fp) elt te) (hts : ∀ i ∈ ts, i ∈ own.map (·.2) := by decide) (hs : ∀ x, foldedSetIterable iter X.env x = pure x := by intro _; rfl) :
    PEd X (.ListComp elt [⟨tg, iter, ifs, 0⟩] scope pos) (mLCC (own.map (·.2)) f g tt te) := by
  obtain ⟨wi, p0, h0⟩ := hi
  exact ⟨_, pe_lc (g := tMG X.K ts g) (tt := tMT X.K tt) (te := tM X.K te) hc hN p0 ok (fun s H C cl fp => (hg s H C cl fp).canon) (fun s H C cl fp => (ht s H C cl fp).canon) (fun s H C cl fp => (he s H C cl fp).canon) hs, lcC_d hts h0⟩
theorem psd_setLcC {i : Nat} {y : Str} {py : Pos} {elt tg iter : Expr} {ifs : List Expr} {scope : Scope} {own : List (Str × Nat)} {spos : Pos} {f : IM} {g : GM} {tt : BM} {te : XM} {ts : List Nat} (hc : X.calm = true) (hN : X.N.Nodup) (hy : X.N[i]? = some y) (hyl : X.env.scope.names.lookup y = some .local)
    (hsw : swapsWith (.ListComp elt [⟨tg, iter, ifs, 0⟩] scope pos) (some (.Name y py)) spos.line X.env = pure true) (hi : PId X tg iter f) (ok : BlkOk X.N X.env.scope scope own)
    (hg : ∀ (s : Shared) (H : Hp) (C : Addr) (cl : List (Str × Addr)) (fp : List Addr), PGd (X.blk s H scope (compEnvC scope cl C X.env) fp) tg ts g) (ht : ∀ (s : Shared) (H : Hp) (C : Addr) (cl : List (Str × Addr)) (fp : List Addr), PTsd (X.blk s H scope (compEnvC scope cl C X.env) fp) ifs tt)
    (he : ∀ (s : Shared) (H : Hp) (C : Addr) (cl : List (Str × Addr)) (fp : List Addr), PEd (X.blk s H scope (compEnvC scope cl C X.env) fp) elt te) (hts : ∀ i ∈ ts, i ∈ own.map (·.2) := by decide) (hs : ∀ x, foldedSetIterable iter X.env x = pure x := by intro _; rfl) :
    PSd X (.Assign [.Name y py] (.ListComp elt [⟨tg, iter, ifs, 0⟩] scope pos) spos) (sSet i (mLCC (own.map (·.2)) f g tt te)) := by
  obtain ⟨wi, p0, h0⟩ := hi
  refine ⟨_, ps_setLc (g := tMG X.K ts g) (tt := tMT X.K tt) (te := tM X.K te) hc hN hy hyl hsw p0 ok (fun s H C cl fp => (hg s H C cl fp).canon) (fun s H C cl fp => (ht s H C cl fp).canon) (fun s H C cl fp => (he s H C cl fp).canon) hs, fun bs ρ σ os vs P H D r R e q => ?_⟩
  simp only [sSet, Option.map_eq_some_iff] at e
  obtain ⟨⟨s, P1⟩, e1, rfl⟩ := e
  exact lcC_d hts h0 bs ρ σ os vs P H _ s P1 R e1 fun v H1 R1 => q _ H1 (R1.store i)
def mListC (f : XM) : XM := fun ρ P => (f ρ P).bind fun (a, P1) => (flat P1 a).bind fun d => match d with
  | .list ds => some (.ptr P1.length, P1 ++ [.lst (ds.map .fz)])
  | .tuple ds => some (.ptr P1.length, P1 ++ [.lst (ds.map .fz)])
  | _ => none
theorem ped_listC {e : Expr} {f : XM} {p : Pos} (hg : Gl X "list") (hm : X.mg "list" = none) (ha : PEd X e f)
    (he : starEach [e] X.env = (false, eval e X.env) :: starEach [] X.env := by rfl) (hpl : (backTo pos (starEach [] X.env)).any (·.1) = false := by rfl) : PEd X (.Call (.Name "list" p) [e] [] pos) (mListC f) := by
  obtain ⟨t, p, h1⟩ := pad_cons ha pad_nil he
  refine ⟨_, pe_callTy call_list_of hg hm (by decide +kernel) p (he := he) (hpl := hpl), fun bs ρ σ os vs P H Q r P' R e q => ?_⟩
  simp only [mListC, Option.bind_eq_some_iff] at e
  obtain ⟨⟨a, P1⟩, e1, d, e2, e3⟩ := e
  refine h1 bs ρ σ os vs P H _ [a] P1 R (by simp only [aCons, aNil, e1, Option.bind_some, Option.map_some]) fun ws H1 hl R1 => ?_
  obtain ⟨F, ad, R1⟩ := R1
  obtain ⟨ra, R2⟩ := R1.args hl
  cases ra with
  | cons r1 ra =>
    cases ra
    have vw := R2.view r1 e2
    simp only at e3
    split at e3
    · cases e3
      obtain ⟨p, us, rfl, hp, t⟩ := vw.lists R2.sub
      exact ⟨p, us, rfl, .inl hp, fun l n => q _ _ ⟨F, _, R2.cell (c := .lst _) n fun ad' pr => ⟨R2.free n, us, upd_same, t.sva⟩⟩⟩
    · cases e3
      obtain ⟨p, us, rfl, hp, t, _⟩ := vw.tups R2.sub
      exact ⟨p, us, rfl, .inr hp.sqT, fun l n => q _ _ ⟨F, _, R2.cell (c := .lst _) n fun ad' pr => ⟨R2.free n, us, upd_same, t.sva⟩⟩⟩
    · cases e3
/-! the number of arguments -/
def ALen (n : Nat) (fs : AM) : Prop := ∀ ρ P l P', fs ρ P = some (l, P') → l.length = n
theorem alen_nil : ALen 0 aNil := fun ρ P l P' e => by
  simp only [aNil, Option.some.injEq, Prod.mk.injEq] at e
  obtain ⟨rfl, _⟩ := e; rfl
theorem alen_cons {n : Nat} {f : XM} {g : AM} (h : ALen n g) : ALen (n + 1) (aCons f g) := fun ρ P l P' e => by
  simp only [aCons, Option.bind_eq_some_iff, Option.map_eq_some_iff, Prod.mk.injEq] at e
  obtain ⟨⟨s1, P1⟩, e1, ⟨r, P2⟩, e2, rfl, rfl⟩ := e
  simp [h _ _ _ _ e2]
/-! a constant tuple of the module: x in KEPT -/
def mInK (n : Bool) (ds : List PyData) (f : XM) : XM := fun ρ P => (f ρ P).bind fun (a, P1) => (flat P1 a).bind fun d => (dInS n d (.tuple ds)).map fun z => (.fz z, P1)
def KTup (K : PySem.W.Frag) (a : Addr) (ds : List PyData) : Prop := ∃ xs, SqT K (fun _ => none) a xs ∧ FzA K (fun _ => none) xs ds
theorem KTup.dp {K : PySem.W.Frag} {a : Addr} {ds : List PyData} {H : Hp} (h : KTup K a ds) (e : PyData.canLayAll0 ds = true) : Dp K H (.ref a) (.tuple ds) := by
  obtain ⟨xs, hs, t⟩ := h
  have s : Sub (fun _ => none) H := fun a u z => by cases z
  refine .tup ?_ (t.dp s e)
  rcases hs with (z | ⟨o, z⟩) | z
  · cases z
  · cases z
  · exact .inr z
theorem ped_inK {e : Expr} {x : Str} {f : XM} {a : Addr} {ds : List PyData} {p : Pos} (hu : X.A.units + 65 < cLine) (ha : PEd X e f) (hg : Gl X x) (hm : X.mg x = some (.ref a)) (hk : KTup X.K a ds) (hdb : (x == ("__debug__" : Str)) = false := by decide) : PEd X (.Compare e [.In] [.Name x p] pos) (mInK false ds f) := by
  obtain ⟨t, p, h1⟩ := ha
  refine ⟨_, pe_cmpR (op_inTD hu) p (pe_glob (v := .ref a) hg hm rfl hdb) (by rfl), fun bs ρ σ os vs P H Q r P' R e q => ?_⟩
  simp only [mInK, Option.bind_eq_some_iff, Option.map_eq_some_iff, Prod.mk.injEq] at e
  obtain ⟨⟨s1, P1⟩, e1, d, e2, z, e3, rfl, rfl⟩ := e
  refine h1 bs ρ σ os vs P H _ s1 P1 R e1 fun y H1 R1 => ?_
  obtain ⟨F, ad, R1⟩ := R1
  obtain ⟨r1, R2⟩ := R1.pop
  unfold dInS at e3
  simp only at e3
  split at e3
  · rename_i h
    cases e3
    exact ⟨d, ds, (R1.view r1 e2).dp R1.sub (shaped_lay h.1), hk.dp (by simpa [PyData.canLay0] using shaped_lay h.2), h.1, h.2, q _ _ (R2.atom (.bl _))⟩
  · cases e3
theorem ped_notinK {e : Expr} {x : Str} {f : XM} {a : Addr} {ds : List PyData} {p : Pos} (hu : X.A.units + 65 < cLine) (ha : PEd X e f) (hg : Gl X x) (hm : X.mg x = some (.ref a)) (hk : KTup X.K a ds) (hdb : (x == ("__debug__" : Str)) = false := by decide) : PEd X (.Compare e [.NotIn] [.Name x p] pos) (mInK true ds f) := by
  obtain ⟨t, p, h1⟩ := ha
  refine ⟨_, pe_cmpR (op_notInTD hu) p (pe_glob (v := .ref a) hg hm rfl hdb) (by rfl), fun bs ρ σ os vs P H Q r P' R e q => ?_⟩
  simp only [mInK, Option.bind_eq_some_iff, Option.map_eq_some_iff, Prod.mk.injEq] at e
  obtain ⟨⟨s1, P1⟩, e1, d, e2, z, e3, rfl, rfl⟩ := e
  refine h1 bs ρ σ os vs P H _ s1 P1 R e1 fun y H1 R1 => ?_
  obtain ⟨F, ad, R1⟩ := R1
  obtain ⟨r1, R2⟩ := R1.pop
  unfold dInS at e3
  simp only at e3
  split at e3
  · rename_i h
    cases e3
    exact ⟨d, ds, (R1.view r1 e2).dp R1.sub (shaped_lay h.1), hk.dp (by simpa [PyData.canLay0] using shaped_lay h.2), h.1, h.2, q _ _ (R2.atom (.bl _))⟩
  · cases e3
end
end Pd

set_option Elab.async false
set_option linter.all false
set_option maxRecDepth 100000
set_option maxHeartbeats 1000000
/-! The layer Pd, part L: displays of dicts, the law's end. -/
namespace Pd
open PySem PySem.Spec PyProof.Rows L2
section
variable {X : Cx} {pos : Pos}
theorem ptd_inK {e : Expr} {x : Str} {f : XM} {a : Addr} {ds : List PyData} {p : Pos} (hu : X.A.units + 65 < cLine) (ha : PEd X e f) (hg : Gl X x) (hm : X.mg x = some (.ref a)) (hk : KTup X.K a ds) (hdb : (x == ("__debug__" : Str)) = false := by decide) : PTd X (.Compare e [.In] [.Name x p] pos) (mTB (mInK false ds f)) := by
  obtain ⟨t, p, h1⟩ := ha
  refine ⟨_, pt_cmpR (op_inTD hu) p (pe_glob (v := .ref a) hg hm rfl hdb) (by rfl), fun bs ρ σ os vs P H Q r P' R e q => ?_⟩
  simp only [mTB, mInK, Option.bind_eq_some_iff, Option.map_eq_some_iff, Prod.mk.injEq] at e
  obtain ⟨⟨s0, P0⟩, ⟨⟨s1, P1⟩, e1, d, e2, z, e3, rfl, rfl⟩, e4⟩ := e
  refine h1 bs ρ σ os vs P H _ s1 P1 R e1 fun y H1 R1 => ?_
  obtain ⟨F, ad, R1⟩ := R1
  obtain ⟨r1, R2⟩ := R1.pop
  unfold dInS at e3
  simp only at e3
  split at e3
  · rename_i h
    cases e3
    simp only [Option.some.injEq, Prod.mk.injEq] at e4
    obtain ⟨rfl, rfl⟩ := e4
    exact ⟨d, ds, (R1.view r1 e2).dp R1.sub (shaped_lay h.1), hk.dp (by simpa [PyData.canLay0] using shaped_lay h.2), h.1, h.2, _, rfl, q _ ⟨F, ad, R2⟩⟩
  · cases e3
theorem ptd_notinK {e : Expr} {x : Str} {f : XM} {a : Addr} {ds : List PyData} {p : Pos} (hu : X.A.units + 65 < cLine) (ha : PEd X e f) (hg : Gl X x) (hm : X.mg x = some (.ref a)) (hk : KTup X.K a ds) (hdb : (x == ("__debug__" : Str)) = false := by decide) : PTd X (.Compare e [.NotIn] [.Name x p] pos) (mTB (mInK true ds f)) := by
  obtain ⟨t, p, h1⟩ := ha
  refine ⟨_, pt_cmpR (op_notInTD hu) p (pe_glob (v := .ref a) hg hm rfl hdb) (by rfl), fun bs ρ σ os vs P H Q r P' R e q => ?_⟩
  simp only [mTB, mInK, Option.bind_eq_some_iff, Option.map_eq_some_iff, Prod.mk.injEq] at e
  obtain ⟨⟨s0, P0⟩, ⟨⟨s1, P1⟩, e1, d, e2, z, e3, rfl, rfl⟩, e4⟩ := e
  refine h1 bs ρ σ os vs P H _ s1 P1 R e1 fun y H1 R1 => ?_
  obtain ⟨F, ad, R1⟩ := R1
  obtain ⟨r1, R2⟩ := R1.pop
  unfold dInS at e3
  simp only at e3
  split at e3
  · rename_i h
    cases e3
    simp only [Option.some.injEq, Prod.mk.injEq] at e4
    obtain ⟨rfl, rfl⟩ := e4
    exact ⟨d, ds, (R1.view r1 e2).dp R1.sub (shaped_lay h.1), hk.dp (by simpa [PyData.canLay0] using shaped_lay h.2), h.1, h.2, _, rfl, q _ ⟨F, ad, R2⟩⟩
  · cases e3

/-! {k: v, ..}: keys ints and texts -/
abbrev DM := EV → Store → Option (List (Key × SV) × Store)
def PPd (X : Cx) (pos : Pos) (keys : List (Option Expr)) (values : List Expr) (g : DM) : Prop := ∃ trs, PPs X pos keys values trs ∧ ∀ (bs : List Nat) (ρ : EV) (σ : L2.St) (os : List SV) (vs : List V) (P : Store) (H : Hp) (Q : List (V × V) → Hp → Prop) (r : List (Key × SV)) (P' : Store), Rel X.K bs ρ σ os vs P H → g ρ P = some (r, P') →
  (∀ (ws : List V) H', ws.length = r.length → Rel X.K bs ρ σ ((r.map (·.2)).reverse ++ os) (ws.reverse ++ vs) P' H' → Q ((r.map fun p => kV p.1).zip ws) H') → tPairs trs σ H Q
def dNil : DM := fun _ P => some ([], P)
def dCons (k f : XM) (g : DM) : DM := fun ρ P => (k ρ P).bind fun (a, P1) => match a with
  | .fz kd => (keyOf kd).bind fun key => (f ρ P1).bind fun (s, P2) => (g ρ P2).map fun (l, P3) => ((key, s) :: l, P3)
  | _ => none
theorem ppd_nil : PPd X pos [] [] dNil := ⟨_, pps_nil, fun bs ρ σ os vs P H Q r P' R e q => by
  simp only [dNil, Option.some.injEq, Prod.mk.injEq] at e
  obtain ⟨rfl, rfl⟩ := e
  exact q [] H rfl R⟩
theorem ppd_cons {k v : Expr} {ks : List (Option Expr)} {vs : List Expr} {fk fv : XM} {g : DM} (hk : PEd X k fk) (hv : PEd X v fv) (hr : PPd X pos ks vs g) : PPd X pos (some k :: ks) (v :: vs) (dCons fk fv g) := by
  obtain ⟨t1, p1, h1⟩ := hk
  obtain ⟨t2, p2, h2⟩ := hv
  obtain ⟨t3, p3, h3⟩ := hr
  refine ⟨_, pps_cons p1 p2 p3, fun bs ρ σ os vs P H Q r P' R e q => ?_⟩
  simp only [dCons, Option.bind_eq_some_iff] at e
  obtain ⟨⟨a, P1⟩, e1, e2⟩ := e
  refine h1 bs ρ σ os vs P H _ a P1 R e1 fun x H1 R1 => ?_
  simp only at e2
  split at e2
  · rename_i kd
    simp only [Option.bind_eq_some_iff, Option.map_eq_some_iff, Prod.mk.injEq] at e2
    obtain ⟨key, ek, ⟨s, P2⟩, e3, ⟨l, P3⟩, e4, rfl, rfl⟩ := e2
    obtain ⟨F, ad, R1⟩ := R1
    obtain ⟨r1, R1'⟩ := R1.pop
    have ex : x = kV key := by
      have e2 := keyOf_some ek
      subst e2
      cases key <;> (cases r1; rfl)
    subst ex
    refine h2 bs ρ σ os vs P1 H1 _ s P2 ⟨F, ad, R1'⟩ e3 fun y H2 R2 => ?_
    refine h3 bs ρ σ _ _ P2 H2 _ l P3 R2 e4 fun ws H3 hl R3 => ?_
    exact q (y :: ws) H3 (by simp [hl]) (by simpa using R3)
  · cases e2
def mDisp (g : DM) : XM := fun ρ P => (g ρ (P ++ [.dK []])).bind fun (l, P1) => match P1[P.length]? with
  | some (.dK []) => if l.length ≤ 15 ∧ (l.all fun p => okPtr ρ.b P.length p.2) = true then some (.ptr P.length, P1.set P.length (.dK (l.foldl (fun acc p => putS acc p.1 p.2) []))) else none
  | _ => none
theorem merge_zip {K : PySem.W.Frag} {F : Hp} {ad : List Addr} : ∀ (l : List (Key × SV)) (ws : List V) (acc : List (Key × SV)) (xs : List V), SVA K F ad ws (l.map (·.2)) → SVA K F ad xs (acc.map (·.2)) →
    ∃ ys, mergeK ((acc.map (·.1)).zip xs) ((l.map (·.1)).zip ws) = ((l.foldl (fun acc p => putS acc p.1 p.2) acc).map (·.1)).zip ys ∧ SVA K F ad ys ((l.foldl (fun acc p => putS acc p.1 p.2) acc).map (·.2))
  | [], ws, acc, xs, h, h2 => ⟨xs, by simp [mergeK], h2⟩
  | p :: l, ws, acc, xs, h, h2 => by
    cases h with
    | cons a t =>
      obtain ⟨ys, e, ty⟩ := put_zip p.1 a acc xs h2
      obtain ⟨zs, e2, tz⟩ := merge_zip l _ _ ys t ty
      refine ⟨zs, ?_, tz⟩
      rw [← e] at e2
      simpa [mergeK] using e2
theorem merge_ps : ∀ (l acc : List (Key × SV)), ∀ j ∈ ((l.foldl (fun acc p => putS acc p.1 p.2) acc).flatMap fun p => p.2.ps), j ∈ (acc.flatMap fun p => p.2.ps) ∨ ∃ p ∈ l, j ∈ p.2.ps
  | [], acc, j, hj => .inl hj
  | p :: l, acc, j, hj => by
    rcases merge_ps l _ j hj with h | ⟨q, hq, h⟩
    · rcases putS_ps p.1 p.2 acc j h with h | h
      · exact .inl h
      · exact .inr ⟨p, List.mem_cons_self, h⟩
    · exact .inr ⟨q, List.mem_cons_of_mem _ hq, h⟩
theorem ped_disp {keys : List (Option Expr)} {values : List Expr} {g : DM} (h : PPd X pos keys values g) (hall : keys.all (·.isSome) = true := by rfl) (hl : keys.length = values.length := by rfl) (h0 : keys ≠ [] := by (intro z; cases z)) (h15 : keys.length ≤ 15 := by decide) :
    PEd X (.Dict keys values pos) (mDisp g) := by
  obtain ⟨trs, p, h1⟩ := h
  refine ⟨_, pe_disp p hall hl h0 h15, fun bs ρ σ os vs P H Q r P' R e q => fun a n => ?_⟩
  simp only [mDisp, Option.bind_eq_some_iff] at e
  obtain ⟨⟨l, P1⟩, e1, e2⟩ := e
  simp only at e2
  split at e2
  · rename_i hc
    split at e2
    · rename_i hz
      cases e2
      obtain ⟨F, ad, R⟩ := R
      have R0 := R.cell (o := .dK []) (c := .dK []) n fun ad' pr => ⟨R.free n, [], upd_same, .nil⟩
      refine h1 bs ρ σ _ _ _ _ _ l P1 ⟨F, _, R0⟩ e1 fun ws H2 hl R2 => ?_
      obtain ⟨F2, ad2, R2⟩ := R2
      obtain ⟨ra, R3⟩ := R2.args (l := l.map (·.2)) (ws := ws) (by simpa using hl)
      obtain ⟨rd, R4⟩ := R3.pop
      obtain ⟨a', ha, ea, hF, xs, hx, t⟩ := R3.at rd hc
      cases ea
      have hx : H2 a = some (.dK []) := hx
      obtain ⟨ys, ey, ty⟩ := merge_zip (K := X.K) (F := F2) (ad := ad2) l ws [] [] ra .nil
      refine ⟨hx, (l.map (·.1)).zip ws, ?_, ?_, ?_⟩
      · have : ∀ (l : List (Key × SV)) (ws : List V), ws.length = l.length → (l.map fun p => kV p.1).zip ws = ((l.map (·.1)).zip ws).map fun kv => (kV kv.1, kv.2) := by
          intro l
          induction l with
          | nil => intro ws h; rfl
          | cons p l ih =>
            intro ws h
            cases ws with
            | nil => simp at h
            | cons w ws => simp [ih ws (by simpa using h)]
        exact this l ws hl
      · simp [hl]; exact hz.1
      · have ey' : mergeK [] ((l.map (·.1)).zip ws) = ((l.foldl (fun acc p => putS acc p.1 p.2) []).map (·.1)).zip ys := by simpa using ey
        rw [ey']
        refine q _ _ ⟨F2, ad2, (R4.put (c := .dK (l.foldl (fun acc p => putS acc p.1 p.2) [])) hc ha hF ⟨hF, ys, upd_same, ty⟩ fun j hj => ?_).push (show SVR X.K F2 ad2 (.ref a) (.ptr P.length) from ⟨a, ha, rfl⟩)⟩
        rcases merge_ps l [] j hj with h | ⟨p, hp, h⟩
        · simp at h
        · exact .inr (okPtr_ps (List.all_eq_true.mp hz.2 p hp) j h)
    · cases e2
  · cases e2
end
/-! ### the law -/
theorem law_of {K : PySem.W.Frag} {m : FM} {H : Hp} {a : Addr} {ns : List Int} (hm : m [.fz (.list (ns.map .int))] [] = some (.fz (.bool true), [])) (hO : Only H) (hS : SqL K H a (ns.map V.int)) :
    spM K m 1 [.ref a] H (fun v _ => v = .bl true) fun _ _ _ => False := by
  refine ⟨rfl, [], ⟨0, []⟩, [], [], [], [.fz (.list (ns.map .int))], [], _, _, rfl, ?_, hm, fun v H' R => ?_⟩
  · have hF : ∀ b u, H b = some u → IsDct u = false := fun b u e => by
      rcases hO b with z | ⟨o, xs, z⟩
      · rw [z] at e; cases e
      · rw [z] at e; cases e; rfl
    have t : ∀ ns : List Int, FzA K H (ns.map V.int) (ns.map PyData.int) := by
      intro ns
      induction ns with
      | nil => exact .nil
      | cons n ns ih => exact .cons (.int n) ih
    exact ⟨H, [], ⟨fun b u e => .inl e, rfl, .nil, fun b hb => by simp at hb, fun k c b e => by simp at e, ⟨rfl, fun i s e => by simp at e⟩, .cons (.lst hS (t ns)) .nil, ⟨fun c hc => by simp at hc, fun c hc => by simp at hc⟩, fun c hc => by simp at hc⟩⟩
  · obtain ⟨F, ad, R⟩ := R
    obtain ⟨r, _⟩ := R.pop
    cases r
    rfl
end Pd

set_option Elab.async false
set_option linter.all false
set_option maxRecDepth 100000
set_option maxHeartbeats 1000000
/-! The layer Pd, part M: isinstance of several types, room. -/
namespace Pd
open PySem PySem.Spec PyProof.Rows L2
theorem hu65 {k : Nat} {A : Around} (hr : Room k A) : A.units + 65 < cLine := by have := hr.un; omega
section
variable {X : Cx} {pos : Pos}
theorem ped_isiT {a : Expr} {f : XM} {p : Pos} {es : List Expr} {kk : Nat} {tp : Pos} (Ts : List Ty) (hg : Gl X "isinstance") (hm : X.mg "isinstance" = none) (ha : PEd X a f)
    (ht : PA X es (fun _ H Q => Q (Ts.map fun T => .ty T.nm) H))
    (he : starEach [a, .Tuple es kk tp] X.env = (false, eval a X.env) :: starEach [.Tuple es kk tp] X.env := by rfl) (hpl : (backTo pos (starEach [.Tuple es kk tp] X.env)).any (·.1) = false := by rfl)
    (hs2 : starEach [.Tuple es kk tp] X.env = (false, eval (.Tuple es kk tp) X.env) :: starEach [] X.env := by rfl) (hn : Ts.length ≤ sizeLine := by decide) :
    PEd X (.Call (.Name "isinstance" p) [a, .Tuple es kk tp] [] pos) (mIs (fun d => Ts.any fun T => inst T d) f) := by
  obtain ⟨t, pa, h1⟩ := ha
  refine ⟨_, pe_callB call_isiT hg hm (by decide +kernel) (pa_cons pa (pa_cons (pe_tup ht) pa_nil hs2) he) (he := he) (hpl := hpl), fun bs ρ σ os vs P H Q r P' R e q => ?_⟩
  simp only [mIs, Option.bind_eq_some_iff, Option.map_eq_some_iff, Prod.mk.injEq] at e
  obtain ⟨⟨s1, P1⟩, e1, d, e2, rfl, rfl⟩ := e
  refine h1 bs ρ σ os vs P H _ s1 P1 R e1 fun x H1 R1 => ?_
  obtain ⟨F, ad, R1⟩ := R1
  refine ⟨by simpa using hn, fun tp n => ?_⟩
  have R2 := R1.lay (o := .tup (Ts.map fun T => V.ty T.nm)) n
  obtain ⟨r1, R3⟩ := R2.pop
  refine ⟨x, tp, _, _, Ts.map fun T => Value.type T.nm, _, rfl, upd_same, ?_, (R2.view r1 e2).ty R2.sub, kitAny_inst d Ts, q _ _ (R3.atom (.bl _))⟩
  induction Ts with
  | nil => exact .nil
  | cons T r ih => exact .cons (.ty _) (by
      have : ∀ l : List Ty, Paired ClsV (l.map fun T => V.ty T.nm) (l.map fun T => Value.type T.nm) := by
        intro l
        induction l with
        | nil => exact .nil
        | cons T r ih => exact .cons (.ty _) ih
      exact this r)
theorem pa_ty {e : Expr} {es : List Expr} {T : Ty} {Ts : List Ty} (h : PE X e (tC (.ty T.nm))) (h' : PA X es (fun _ H Q => Q (Ts.map fun T => .ty T.nm) H)) (hs : starEach (e :: es) X.env = (false, eval e X.env) :: starEach es X.env := by rfl) :
    PA X (e :: es) (fun _ H Q => Q ((T :: Ts).map fun T => .ty T.nm) H) := pa_cons h h' hs
theorem ped_isi2 {a : Expr} {f : XM} {p q q2 : Pos} {kk : Nat} {tp : Pos} {T U : Ty} (hg : Gl X "isinstance") (hm : X.mg "isinstance" = none) (hgT : Gl X T.nm) (hmT : X.mg T.nm = none) (hv : bootBuiltins T.nm = some (.type T.nm))
    (hgU : Gl X U.nm) (hmU : X.mg U.nm = none) (hvU : bootBuiltins U.nm = some (.type U.nm)) (ha : PEd X a f)
    (he : starEach [a, .Tuple [.Name T.nm q, .Name U.nm q2] kk tp] X.env = (false, eval a X.env) :: starEach [.Tuple [.Name T.nm q, .Name U.nm q2] kk tp] X.env := by rfl) (hpl : (backTo pos (starEach [.Tuple [.Name T.nm q, .Name U.nm q2] kk tp] X.env)).any (·.1) = false := by rfl)
    (hs2 : starEach [.Tuple [.Name T.nm q, .Name U.nm q2] kk tp] X.env = (false, eval (.Tuple [.Name T.nm q, .Name U.nm q2] kk tp) X.env) :: starEach [] X.env := by rfl)
    (h1 : starEach [.Name T.nm q, .Name U.nm q2] X.env = (false, eval (.Name T.nm q) X.env) :: starEach [.Name U.nm q2] X.env := by rfl) (h2 : starEach [.Name U.nm q2] X.env = (false, eval (.Name U.nm q2) X.env) :: starEach [] X.env := by rfl)
    (hn : (T.nm : Str) ≠ "__name__" := by decide) (hdb : ((T.nm : Str) == ("__debug__" : Str)) = false := by decide) (hnU : (U.nm : Str) ≠ "__name__" := by decide) (hdbU : ((U.nm : Str) == ("__debug__" : Str)) = false := by decide) :
    PEd X (.Call (.Name "isinstance" p) [a, .Tuple [.Name T.nm q, .Name U.nm q2] kk tp] [] pos) (mIs (fun d => inst T d || inst U d) f) := by
  have := ped_isiT (pos := pos) (p := p) (kk := kk) (tp := tp) [T, U] hg hm ha (pa_ty (pe_bltn (pos := q) (v := .ty T.nm) hgT hmT hv rfl hn hdb) (pa_ty (Ts := []) (pe_bltn (pos := q2) (v := .ty U.nm) hgU hmU hvU rfl hnU hdbU) pa_nil h2) h1) he hpl hs2 (by show 2 ≤ _; decide)
  simpa using this
end
end Pd

set_option Elab.async false
set_option linter.all false
set_option maxRecDepth 100000
set_option maxHeartbeats 1000000
/-! The layer Pd, part N: lists of dicts' keys, get with a default, isinstance of three, texts of numbers, ranges that fall. -/
namespace Pd
open PySem PySem.Spec PyProof.Rows L2
/-- list(d), d locked or not -/
theorem call_listR {X : Cx} (hc : X.calm = true) : CallR X (.type "list") (fun xs H Q => ∃ p kvs, xs = [.ref p] ∧ Rd H p (.dK kvs) ∧ ∀ q, H q = none → Q (.ref q) (upd H q (.lst (kvs.map fun kv => kV kv.1)))) := by
  intro pins s σ H xs us Q I r h
  obtain ⟨p, l, e, hk, q⟩ := h
  subst e
  obtain ⟨u, eu, rx⟩ := vals1 r
  subst eu
  obtain rfl : u = Value.ref p := rx
  obtain ⟨z, lo, ws, rk, hd⟩ := (show ObjOk X.prog X.w H s.heap p (.dK l) from hk.ok I.hok)
  obtain ⟨ep, at_⟩ := hd.dictAt
  have hlen : l.length = ws.length := Paired.length rk
  have key1 : ∀ (j : Nat) (k : Key), (ws.map (·.1))[j]? = some k → (l.map fun kv => kV kv.1)[j]? = some (kV k) := fun j k h => by
    have e3 : (l.map fun kv => kV kv.1) = (l.map (·.1)).map kV := by rw [List.map_map]; rfl
    rw [e3, List.getElem?_map, KV.keys rk, h]; rfl
  refine PySem.W.kdl_call (PySem.W.kdl_dict (knd := mixKind X.prog X.w) (kvs := ws) (ep := ep) lo) (I.ok.hd hc) at_ (by omega) fun h2 t2 acc c2 kp gS gI => ?_
  have okl : ObjOk X.prog X.w (upd H s.heap.objs.size (.lst (l.map fun kv => kV kv.1))) h2 s.heap.objs.size (.lst (l.map fun kv => kV kv.1)) := by
    refine ⟨by rw [List.length_map]; exact z, acc.toList, c2, ?_, by rw [Array.toArray_toList]; exact gS⟩
    have el : acc.toList.length = acc.size := by simp
    refine vals_of_at (by rw [List.length_map, el, gI.1, hlen]) fun j x w h1 h3 => ?_
    obtain ⟨k, y, ky, hi⟩ := gI.2 j w (by rw [← Array.getElem?_toList]; exact h3)
    rw [key1 j k (by rw [List.getElem?_map, ky]; rfl)] at h1
    cases h1
    exact keyIs_rel hi
  exact ⟨.ref s.heap.objs.size, _, I.laid kp (Nat.le_refl _) okl, rfl, q _ (I.hok.fresh (Nat.le_refl _))⟩
theorem fza_keys {K : PySem.W.Frag} {F : Hp} : ∀ ks : List Key, FzA K F (ks.map kV) (ks.map keyD)
  | [] => .nil
  | .inl i :: r => .cons (.int i) (fza_keys r)
  | .inr x :: r => .cons (.str x) (fza_keys r)
def gListD : List PyData → Option PyData
  | [.dict kvs] => if kvs.all (fun p => isKD p.1) = true then some (.list (keysD kvs)) else none
  | _ => none
theorem Vw.dct {K : PySem.W.Frag} {F H : Hp} {v : V} {kvs : List (PyData × PyData)} (h : Vw K F H v (.dict kvs)) (s : Sub F H) (hk : kvs.all (fun p => isKD p.1) = true) : ∃ (a : Addr) (ks : List Key) (xs : List V), v = .ref a ∧ Rd H a (.dK (ks.zip xs)) ∧ ks.length = xs.length ∧ keysD kvs = ks.map keyD := by
  cases h with
  | fz h =>
    obtain ⟨a, ks, xs, e, hp, hl, q⟩ := Fz.dct h hk
    exact ⟨a, ks, xs, e, s.rd (fun _ _ z => by cases z) hp, hl, q⟩
  | @dK a ks xs ds hp hl t => exact ⟨a, ks, xs, rfl, hp, hl, keysD_zip ks ds (by have := t.length; omega)⟩
  | @dT a ks xs ds hp hl n t =>
    have hn := t.length
    cases ks with
    | nil => exact absurd rfl n
    | cons k ks =>
      cases ds with
      | nil => simp at hn; simp [hn] at hl
      | cons d ds => simp [isKD] at hk
section
variable {X : Cx} {pos : Pos}
/-- x.get(k, y) -/
def mGetD (fd fk fx : XM) : XM := fun ρ P => (fd ρ P).bind fun (d, P1) => (dictOf P1 d).bind fun _ => (fk ρ P1).bind fun (k, P2) => (fx ρ P2).bind fun (z, P3) => (flat P3 k).bind fun kd => (dictOf P3 d).bind fun D => (dlook D kd).map fun o => (o.getD z, P3)
theorem isD_of {K : PySem.W.Frag} {F H : Hp} {ad : List Addr} {a : Addr} {D : Dct} (h : DctR K F H ad a D) : IsD H a := by
  cases D with
  | k l => obtain ⟨xs, h, _⟩ := h; exact .inl ⟨_, h⟩
  | t l => obtain ⟨xs, h, _⟩ := h; exact .inr ⟨_, h⟩
theorem ped_getD {o i e : Expr} {fd fk fx : XM} {apos cpos : Pos} (hu : X.A.units + 65 < cLine) (hd : PEd X o fd) (hk : PEd X i fk) (hx : PEd X e fx) (m : M2 X o "get" apos i e cpos := by exact ⟨rfl, rfl, rfl, rfl⟩) : PEd X (.Call (.Attribute o "get" apos) [i, e] [] cpos) (mGetD fd fk fx) := by
  obtain ⟨t, p, h1⟩ := hd
  obtain ⟨u, p', h2⟩ := hk
  obtain ⟨w, p'', h3⟩ := hx
  refine ⟨_, pe_dget2 (by omega) p p' p'' m, fun bs ρ σ os vs P H Q w P' R e q => ?_⟩
  simp only [mGetD, Option.bind_eq_some_iff, Option.map_eq_some_iff, Prod.mk.injEq] at e
  obtain ⟨⟨s1, P1⟩, e1, D0, e0, ⟨s2, P2⟩, e2, ⟨s3, P3⟩, e3, kd, e4, D, e5, r, e6, rfl, rfl⟩ := e
  refine h1 bs ρ σ os vs P H _ s1 P1 R e1 fun x H1 R1 => ?_
  have ha : ∃ a, x = .ref a ∧ IsD H1 a := by
    obtain ⟨F, ad, R1⟩ := R1
    obtain ⟨r1, _⟩ := R1.pop
    obtain ⟨a, e, d⟩ := R1.dct r1 e0
    exact ⟨a, e, isD_of d⟩
  obtain ⟨a, rfl, hD⟩ := ha
  refine ⟨a, rfl, hD, h2 bs ρ σ _ _ P1 H1 _ s2 P2 R1 e2 fun y H2 R2 => ?_⟩
  refine h3 bs ρ σ _ _ P2 H2 _ s3 P3 R2 e3 fun z H3 R3 => ?_
  obtain ⟨F, ad, R3⟩ := R3
  obtain ⟨r3, R4⟩ := R3.pop
  obtain ⟨r2, R5⟩ := R4.pop
  obtain ⟨r1, R6⟩ := R5.pop
  obtain ⟨a', ea, hd⟩ := R3.dct r1 e5
  cases ea
  rcases dget_of R3.sub hd (R3.view r2 e4) e6 with ⟨rfl, g⟩ | ⟨z', v, rfl, g, rr⟩
  · exact ⟨_, g, q _ _ ⟨F, ad, R6.push r3⟩⟩
  · exact ⟨_, g, q _ _ ⟨F, ad, R6.push rr⟩⟩
theorem ped_isi3 {a : Expr} {f : XM} {p q q2 q3 : Pos} {kk : Nat} {tp : Pos} {T U W : Ty} (hg : Gl X "isinstance") (hm : X.mg "isinstance" = none) (hgT : Gl X T.nm) (hmT : X.mg T.nm = none) (hv : bootBuiltins T.nm = some (.type T.nm))
    (hgU : Gl X U.nm) (hmU : X.mg U.nm = none) (hvU : bootBuiltins U.nm = some (.type U.nm)) (hgW : Gl X W.nm) (hmW : X.mg W.nm = none) (hvW : bootBuiltins W.nm = some (.type W.nm)) (ha : PEd X a f)
    (he : starEach [a, .Tuple [.Name T.nm q, .Name U.nm q2, .Name W.nm q3] kk tp] X.env = (false, eval a X.env) :: starEach [.Tuple [.Name T.nm q, .Name U.nm q2, .Name W.nm q3] kk tp] X.env := by rfl) (hpl : (backTo pos (starEach [.Tuple [.Name T.nm q, .Name U.nm q2, .Name W.nm q3] kk tp] X.env)).any (·.1) = false := by rfl)
    (hs2 : starEach [.Tuple [.Name T.nm q, .Name U.nm q2, .Name W.nm q3] kk tp] X.env = (false, eval (.Tuple [.Name T.nm q, .Name U.nm q2, .Name W.nm q3] kk tp) X.env) :: starEach [] X.env := by rfl)
    (h1 : starEach [.Name T.nm q, .Name U.nm q2, .Name W.nm q3] X.env = (false, eval (.Name T.nm q) X.env) :: starEach [.Name U.nm q2, .Name W.nm q3] X.env := by rfl) (h2 : starEach [.Name U.nm q2, .Name W.nm q3] X.env = (false, eval (.Name U.nm q2) X.env) :: starEach [.Name W.nm q3] X.env := by rfl) (h3 : starEach [.Name W.nm q3] X.env = (false, eval (.Name W.nm q3) X.env) :: starEach [] X.env := by rfl)
    (hn : (T.nm : Str) ≠ "__name__" := by decide) (hdb : ((T.nm : Str) == ("__debug__" : Str)) = false := by decide) (hnU : (U.nm : Str) ≠ "__name__" := by decide) (hdbU : ((U.nm : Str) == ("__debug__" : Str)) = false := by decide) (hnW : (W.nm : Str) ≠ "__name__" := by decide) (hdbW : ((W.nm : Str) == ("__debug__" : Str)) = false := by decide) :
    PEd X (.Call (.Name "isinstance" p) [a, .Tuple [.Name T.nm q, .Name U.nm q2, .Name W.nm q3] kk tp] [] pos) (mIs (fun d => inst T d || (inst U d || inst W d)) f) := by
  have := ped_isiT (pos := pos) (p := p) (kk := kk) (tp := tp) [T, U, W] hg hm ha (pa_ty (pe_bltn (pos := q) (v := .ty T.nm) hgT hmT hv rfl hn hdb) (pa_ty (pe_bltn (pos := q2) (v := .ty U.nm) hgU hmU hvU rfl hnU hdbU) (pa_ty (Ts := []) (pe_bltn (pos := q3) (v := .ty W.nm) hgW hmW hvW rfl hnW hdbW) pa_nil h3) h2) h1) he hpl hs2 (by show 3 ≤ _; decide)
  simpa using this
end
section
variable {X : Cx}
def gStr : List PyData → Option PyData
  | [.int i] => if i.natAbs.log2 < 1920 then some (.str (toString i)) else none
  | _ => none
theorem calld_str : CallD X (.type "str") gStr := by
  refine ⟨_, call_str_int, fun F H xs ds z Q s vx eq q => ?_⟩
  unfold gStr at eq
  split at eq
  · split at eq
    · rename_i h
      cases eq
      cases vx with | cons a t => cases t; exact ⟨_, by rw [a.ints], h, q _ _ _ .refl (.str _)⟩
    · cases eq
  · cases eq
/-- list(x), of a dict its keys -/
theorem calld_listD (hc : X.calm = true) : CallD X (.type "list") gListD := by
  refine ⟨_, call_listR hc, fun F H xs ds z Q s vx eq q => ?_⟩
  unfold gListD at eq
  split at eq
  · split at eq
    · rename_i hk
      cases eq
      cases vx with
      | cons a t =>
        cases t
        obtain ⟨d, ks, us, rfl, hp, hl, hkeys⟩ := Vw.dct a s hk
        refine ⟨d, _, rfl, hp, fun p n => ?_⟩
        have e1 : ((ks.zip us).map fun kv => kV kv.1) = ks.map kV := by
          rw [show (fun kv : Key × V => kV kv.1) = kV ∘ Prod.fst from rfl, ← List.map_map, List.map_fst_zip (by omega)]
        rw [hkeys] at q
        rw [e1]
        exact q _ _ _ (.one n) (.lst (.of upd_same) (fza_keys ks))
    · cases eq
  · cases eq
/-- list(x) of a text -/
theorem call_listS (hc : X.calm = true) : CallR X (.type "list") (fun xs H Q => ∃ x : Str, xs = [.str x] ∧ x.length ≤ sizeLine ∧ ∀ q, H q = none → Q (.ref q) (upd H q (.lst (x.cps.toList.map fun c => V.str ⟨#[c]⟩)))) := by
  intro pins s σ H xs us Q I r h
  obtain ⟨x, e, hz, q⟩ := h
  subst e
  obtain ⟨u, eu, rx⟩ := vals1 r
  subst eu
  obtain ⟨t, rfl⟩ := rx
  refine PySem.call_list_str (I.ok.hd hc) x t (fun h2 t2 acc c2 kp gS gI => ?_) hz
  have okl : ObjOk X.prog X.w (upd H s.heap.objs.size (.lst (x.cps.toList.map fun c => V.str ⟨#[c]⟩))) h2 s.heap.objs.size (.lst (x.cps.toList.map fun c => V.str ⟨#[c]⟩)) := by
    refine ⟨by rw [List.length_map, Array.length_toList]; exact hz, acc.toList, c2, ?_, by rw [Array.toArray_toList]; exact gS⟩
    have el : acc.toList.length = acc.size := by simp
    refine vals_of_at (by rw [List.length_map, Array.length_toList, el, gI.1]) fun j y w h1 h3 => ?_
    have h4 := gI.2 j w (by rw [← Array.getElem?_toList]; exact h3)
    obtain ⟨c, t', hc1, rfl⟩ := h4
    rw [List.getElem?_map, Array.getElem?_toList, hc1] at h1
    cases h1
    exact ⟨_, rfl⟩
  exact ⟨.ref s.heap.objs.size, _, I.laid kp (Nat.le_refl _) okl, rfl, q _ (I.hok.fresh (Nat.le_refl _))⟩
def gListS : List PyData → Option PyData
  | [.str x] => if x.length ≤ sizeLine then some (.list (signsD x)) else none
  | _ => none
theorem fza_signs {K : PySem.W.Frag} {F : Hp} : ∀ l : List Nat, FzA K F (l.map fun c => V.str ⟨#[c]⟩) (l.map fun c => PyData.str ⟨#[c]⟩)
  | [] => .nil
  | c :: r => .cons (.str _) (fza_signs r)
theorem calld_listS (hc : X.calm = true) : CallD X (.type "list") gListS := by
  refine ⟨_, call_listS hc, fun F H xs ds z Q s vx eq q => ?_⟩
  unfold gListS at eq
  split at eq
  · split at eq
    · rename_i hz
      cases eq
      cases vx with
      | cons a t => cases t; exact ⟨_, by rw [a.strs], hz, fun p n => q _ _ _ (.one n) (.lst (.of upd_same) (fza_signs _))⟩
    · cases eq
  · cases eq
/-- range(i, j, -1) -/
def iRange3 (g : AM) : IM := fun ρ P => (g ρ P).bind fun (l, P1) => match l with
  | [.fz (.int i), .fz (.int j), .fz (.int k)] => if k = -1 ∧ -(2 ^ 62) ≤ i ∧ i < 2 ^ 62 ∧ -(2 ^ 62) ≤ j ∧ j < 2 ^ 62 then some ((List.range (i - j).toNat).map fun n => .int (i + (n : Nat) * (-1)), .fz .none, P1) else none
  | _ => none
theorem itok_range3 {K : PySem.W.Frag} {lo c : Int} {n : Nat} {d : SV} {v : V} : ItOk K (Itc lo c n) ((List.range n).map fun i => .int (lo + (i : Nat) * c)) d v := fun bs ρ σ os vs P H i R => by
  refine ⟨fun hi => ?_, fun hi => show n ≤ i by simpa using hi⟩
  have hi' : i < n := by simpa using hi
  refine ⟨hi', fun x H' ⟨e1, e2⟩ => ?_⟩
  subst e1; subst e2
  obtain ⟨F, ad, R⟩ := R
  exact ⟨.int (lo + (i : Nat) * c), by simp [hi'], ⟨F, ad, R.push (show Fz K F _ _ from .int _)⟩⟩
theorem pid_range3 {tg a b c : Expr} {f g h : XM} {p pos : Pos} (hg : Gl X "range") (hm : X.mg "range" = none) (ha : PEd X a f) (hb : PEd X b g) (hcc : PEd X c h)
    (hs : starEach [a, b, c] X.env = (false, eval a X.env) :: starEach [b, c] X.env := by rfl) (hs2 : starEach [b, c] X.env = (false, eval b X.env) :: starEach [c] X.env := by rfl) (hs3 : starEach [c] X.env = (false, eval c X.env) :: starEach [] X.env := by rfl)
    (hpl : (backTo pos (starEach [b, c] X.env)).any (·.1) = false := by rfl) : PId X tg (.Call (.Name "range" p) [a, b, c] [] pos) (iRange3 (aCons f (aCons g (aCons h aNil)))) := by
  obtain ⟨t, pa, h1⟩ := pad_cons ha (pad_cons hb (pad_cons hcc pad_nil hs3) hs2) hs
  refine ⟨_, pi_range3 hg hm pa hs hpl, fun bs ρ σ os vs P H R items src P' Rl e q => ?_⟩
  simp only [iRange3, Option.bind_eq_some_iff] at e
  obtain ⟨⟨l, P1⟩, e1, e2⟩ := e
  refine h1 bs ρ σ os vs P H _ l P1 Rl e1 fun ws H1 hl R1 => ?_
  obtain ⟨F, ad, R1⟩ := R1
  obtain ⟨ra, R2⟩ := R1.args hl
  simp only at e2
  split at e2
  · split at e2
    · rename_i hz
      cases e2
      cases ra with
      | cons r1 ra =>
        cases ra with
        | cons r2 ra =>
          cases ra with
          | cons r3 ra =>
            cases ra
            cases r1
            cases r2
            cases r3
            obtain ⟨z0, z1, z2, z3, z4⟩ := hz
            subst z0
            exact ⟨_, _, _, _, rfl, RgC.neg z1 z2 z3 z4, q _ .non H1 (.fz .none) ⟨F, ad, R2.push (show Fz X.K F _ _ from .non)⟩ itok_range3⟩
    · cases e2
  · cases e2
theorem call_lenDk : CallR X (.builtin "len") (fun xs H Q => ∃ a kvs, xs = [.ref a] ∧ Rd H a (.dK kvs) ∧ Q (.int kvs.length) H) := by
  intro pins s σ H xs us Q I r h
  obtain ⟨a, l, e, hk, q⟩ := h
  subst e
  obtain ⟨u, eu, rx⟩ := vals1 r
  subst eu
  obtain rfl : u = Value.ref a := rx
  exact d_len I hk fun t s1 I1 => ⟨.int l.length, H, I1, ⟨t, rfl⟩, q⟩
def gLenD : List PyData → Option PyData
  | [.dict kvs] => if kvs.all (fun p => isKD p.1) = true then some (.int kvs.length) else none
  | _ => none
theorem calld_lenD : CallD X (.builtin "len") gLenD := by
  refine ⟨_, call_lenDk, fun F H xs ds z Q s vx eq q => ?_⟩
  unfold gLenD at eq
  split at eq
  · split at eq
    · rename_i kvs hk
      cases eq
      cases vx with
      | cons a t =>
        cases t
        obtain ⟨d, ks, us, rfl, hp, hl, hkeys⟩ := Vw.dct a s hk
        have e1 : kvs.length = (ks.zip us).length := by
          have := congrArg List.length hkeys
          simp only [keysD, List.length_map] at this
          rw [this, List.length_zip]; omega
        exact ⟨d, _, rfl, hp, by rw [← e1]; exact q _ _ _ .refl (.int _)⟩
    · cases eq
  · cases eq
def gLenA : List PyData → Option PyData := fun ds => (gLen ds).or (gLenD ds)
theorem calld_lenA : CallD X (.builtin "len") gLenA := calld_len.or calld_lenD
def gListA : List PyData → Option PyData := fun ds => (gList ds).or ((gListD ds).or (gListS ds))
theorem calld_listA (hc : X.calm = true) : CallD X (.type "list") gListA := calld_list.or ((calld_listD hc).or (calld_listS hc))
end
end Pd

set_option Elab.async false
set_option linter.all false
set_option maxRecDepth 100000
set_option maxHeartbeats 1000000
/-! The layer Pd, part O: a number as eight signs. -/
namespace Pd
open PySem PySem.Spec PyProof.Rows L2 PySem.W PySem.Calls
def bin8 (n : Nat) : Str := ⟨(List.replicate (8 - (Nat.toDigits 2 n).length) 48 ++ (Nat.toDigits 2 n).map Char.toNat).toArray⟩
theorem meets_08b (n : Nat) (hn : n < 256) (t : Tok) : ∀ u, Meets (Builtin.«int.__format__» ⟨[.int (n : Int) t, .str ("08b" : Str) u], []⟩) (fun _ R s => ∀ t' k, R (.ok (.ret (.str (bin8 n) t'))) { s with toks := k }) := by
  intro _
  apply KPc.meets_of
  intro _ _ _ _ _ _ hq
  unfold Builtin.«int.__format__»
  refine wpAny_bind (wpAny_of_eq (a := (_, _)) rfl ?_)
  refine wpAny_bind (wpAny_of_eq (a := _) rfl ?_)
  kxf_if
  refine wpAny_bind (wpAny_typeNameOf (T := "str") (typeIs_str _ _ _) (by decide) fun _ => ?_)
  refine wpAny_bind (wpAny_of_eq (a := some _) rfl ?_)
  kxf_if
  kxf_if
  refine wpAny_bind (wpAny_typeNameOfCut_int ?_)
  repeat kxf_if
  refine KXf.ret_text (T := bin8 n) ?e ?l hq
  case e => clear hq; revert n; decide +kernel
  case l => clear hq; revert n; decide +kernel
end Pd

set_option Elab.async false
set_option linter.all false
set_option maxRecDepth 100000
set_option maxHeartbeats 1000000
/-! The layer Pd, part P: f"{n:08b}". -/
namespace Pd
open PySem PySem.Spec PyProof.Rows L2 PySem.W PySem.Calls
section
variable {X : Cx} {pos : Pos}
theorem pe_fmt8 {e sp : Expr} {te ts : TE} (he : PE X e te) (hs : PE X sp ts) : PE X (.FormattedValue e (-1) (some sp) pos) (fun σ H Q => te σ H fun x H1 => ts σ H1 fun y H2 => ∃ n : Nat, x = .int n ∧ n < 256 ∧ y = .str ("08b" : Str) ∧ Q (.str (bin8 n)) H2) := by
  refine ⟨fun pins s σ H Q I h => ?_⟩
  refine wpAny_FormattedValue_spec (thn (he.run pins s σ H _ I h) fun v s1 ⟨x, H1, I1, rx, q1⟩ => thn (hs.run pins s1 σ H1 _ I1 q1) fun r s2 ⟨y, H2, I2, ry, n, ex, hn, ey, q⟩ => ?_)
  subst ex
  subst ey
  obtain ⟨t, rfl⟩ := rx
  obtain ⟨t2, rfl⟩ := ry
  exact ⟨_, _, rfl, KXf.field_int rfl (by decide +kernel) (by decide +kernel) (meets_08b n hn t) fun t' k => ⟨.str (bin8 n), H2, I2.tok _, ⟨_, rfl⟩, q⟩⟩
def mFmt8 (f : XM) : XM := fun ρ P => (f ρ P).bind fun (a, P1) => match a with
  | .fz (.int i) => if 0 ≤ i ∧ i < 256 then some (.fz (.str (bin8 i.toNat)), P1) else none
  | _ => none
theorem ped_fmt8 {e sp : Expr} {f : XM} (he : PEd X e f) (hs : PEd X sp (mC (.str "08b"))) : PEd X (.FormattedValue e (-1) (some sp) pos) (mFmt8 f) := by
  obtain ⟨t, p, h1⟩ := he
  obtain ⟨u, p2, h2⟩ := hs
  refine ⟨_, pe_fmt8 p p2, fun bs ρ σ os vs P H Q r P' R e q => ?_⟩
  simp only [mFmt8, Option.bind_eq_some_iff] at e
  obtain ⟨⟨a, P1⟩, e1, e2⟩ := e
  simp only at e2
  split at e2
  · rename_i i
    split at e2
    · rename_i hi
      cases e2
      refine h1 bs ρ σ os vs P H _ _ _ R e1 fun x H1 R1 => ?_
      have hx : x = .int i := by
        obtain ⟨F, ad, R1⟩ := R1
        obtain ⟨r1, _⟩ := R1.pop
        cases r1; rfl
      subst hx
      refine h2 bs ρ σ _ _ _ H1 _ _ _ R1 rfl fun y H2 R2 => ?_
      obtain ⟨F, ad, R2⟩ := R2
      obtain ⟨r2, R3⟩ := R2.pop
      obtain ⟨_, R4⟩ := R3.pop
      cases r2
      refine ⟨i.toNat, by rw [Int.toNat_of_nonneg hi.1], by omega, rfl, q _ _ ⟨F, ad, R4.push (show Fz X.K F _ _ from .str _)⟩⟩
    · cases e2
  · cases e2
theorem ped_joined1 {e : Expr} {f : XM} (he : PEd X e f) : PEd X (.JoinedStr [e] pos) f := by
  obtain ⟨t, p, h1⟩ := he
  exact ⟨t, pe_joined1 p, h1⟩
end
end Pd

set_option Elab.async false
set_option linter.all false
set_option maxRecDepth 100000
set_option maxHeartbeats 1000000
/-! The layer Pd, part S: the mirrors run by simp. -/
namespace Pd
open PySem PySem.Spec PyProof.Rows L2
section
variable {ρ : EV} {P : Store}
@[simp] theorem mC_ap (d : PyData) : mC d ρ P = some (.fz d, P) := id rfl
@[simp] theorem mVar_ap (i b : Nat) (sl : List (Option SV)) : mVar i ⟨b, sl⟩ P = (sl[i]?.join).map fun s => (s, P) := by
  unfold mVar
  cases h : sl[i]? with
  | none => simp [h]
  | some o => cases o <;> simp [h]
@[simp] theorem put_ap (b i : Nat) (sl : List (Option SV)) (s : SV) : EV.put ⟨b, sl⟩ i s = ⟨b, sl.set i (some s)⟩ := id rfl
@[simp] theorem flat_fz (d : PyData) : flat P (.fz d) = some d := id rfl
@[simp] theorem frz_fz (d : PyData) : frz P (.fz d) = some (d, P) := id rfl
@[simp] theorem fzs_nil : fzs [] = some [] := id rfl
@[simp] theorem fzs_cons (d : PyData) (r : List SV) : fzs (.fz d :: r) = (fzs r).map (d :: ·) := id rfl
theorem fzs_map (l : List PyData) : fzs (l.map SV.fz) = some l := by
  induction l with
  | nil => rfl
  | cons d l ih => simp [ih]
theorem fzs_map' {α : Type} (f : α → PyData) (l : List α) : fzs (l.map fun x => SV.fz (f x)) = some (l.map f) := by
  induction l with
  | nil => rfl
  | cons d l ih => simp [ih]
@[simp] theorem flats_nil : flats P [] = some [] := id rfl
@[simp] theorem flats_cons (a : SV) (l : List SV) : flats P (a :: l) = (flat P a).bind fun d => (flats P l).map (d :: ·) := id rfl
@[simp] theorem mBin_ap (g : PyData → PyData → Option PyData) (f1 f2 : XM) : mBin g f1 f2 ρ P = (f1 ρ P).bind fun (a, P1) => (f2 ρ P1).bind fun (b, P2) => (flat P2 a).bind fun d => (flat P2 b).bind fun e => (g d e).map fun z => (.fz z, P2) := id rfl
@[simp] theorem mUn_ap (g : PyData → Option PyData) (f : XM) : mUn g f ρ P = (f ρ P).bind fun (a, P1) => (flat P1 a).bind fun d => (g d).map fun z => (.fz z, P1) := id rfl
@[simp] theorem mTB_ap (f : XM) : mTB f ρ P = (f ρ P).bind fun (a, P1) => match a with
  | .fz (.bool b) => some (b, P1)
  | _ => none := id rfl
@[simp] theorem mNotB_ap (f : BM) : mNotB f ρ P = (f ρ P).map fun (a, P1) => (!a, P1) := id rfl
@[simp] theorem mAndB_ap (f g : BM) : mAndB f g ρ P = (f ρ P).bind fun (a, P1) => if a = true then g ρ P1 else some (false, P1) := id rfl
@[simp] theorem mOrB_ap (f g : BM) : mOrB f g ρ P = (f ρ P).bind fun (a, P1) => if a = true then some (true, P1) else g ρ P1 := id rfl
@[simp] theorem mAndV_ap (f g : XM) : mAndV f g ρ P = (f ρ P).bind fun (a, P1) => match a with
  | .fz (.bool true) => g ρ P1
  | .fz (.bool false) => some (.fz (.bool false), P1)
  | _ => none := id rfl
@[simp] theorem mOrV_ap (f g : XM) : mOrV f g ρ P = (f ρ P).bind fun (a, P1) => match a with
  | .fz (.bool false) => g ρ P1
  | .fz (.bool true) => some (.fz (.bool true), P1)
  | _ => none := id rfl
@[simp] theorem mNotV_ap (f : XM) : mNotV f ρ P = (f ρ P).bind fun (a, P1) => match a with
  | .fz (.bool b) => some (.fz (.bool (!b)), P1)
  | _ => none := id rfl
@[simp] theorem mIfE_ap (c : BM) (f g : XM) : mIfE c f g ρ P = (c ρ P).bind fun (b, P1) => if b = true then f ρ P1 else g ρ P1 := id rfl
@[simp] theorem mChain_ap (g g' : PyData → PyData → Option PyData) (f1 f2 f3 : XM) : mChain g g' f1 f2 f3 ρ P = (f1 ρ P).bind fun (a, P1) => (f2 ρ P1).bind fun (b, P2) => (flat P2 a).bind fun d => (flat P2 b).bind fun e => (g d e).bind fun z => match z with
  | .bool true => (f3 ρ P2).bind fun (c, P3) => (flat P3 b).bind fun e' => (flat P3 c).bind fun k => (g' e' k).map fun z' => (.fz z', P3)
  | .bool false => some (.fz (.bool false), P2)
  | _ => none := id rfl
@[simp] theorem mFz_ap (f : XM) : mFz f ρ P = (f ρ P).bind fun (a, P1) => (frz P1 a).map fun (d, P2) => (.fz d, P2) := id rfl
@[simp] theorem aNil_ap : aNil ρ P = some ([], P) := id rfl
@[simp] theorem aCons_ap (f : XM) (g : AM) : aCons f g ρ P = (f ρ P).bind fun (a, P1) => (g ρ P1).map fun (l, P2) => (a :: l, P2) := id rfl
@[simp] theorem mTup_ap (g : AM) : mTup g ρ P = (g ρ P).bind fun (l, P1) => (fzs l).bind fun ds => if ds.length ≤ sizeLine then some (.fz (.tuple ds), P1) else none := id rfl
@[simp] theorem mLst_ap (g : AM) : mLst g ρ P = (g ρ P).bind fun (l, P1) => (fzs l).bind fun ds => if ds.length ≤ sizeLine then some (.fz (.list ds), P1) else none := id rfl
@[simp] theorem mLstC_ap (g : AM) : mLstC g ρ P = (g ρ P).bind fun (l, P1) => if l.length ≤ sizeLine then some (.ptr P1.length, P1 ++ [.lst l]) else none := id rfl
@[simp] theorem mCall_ap (g : List PyData → Option PyData) (fs : AM) : mCall g fs ρ P = (fs ρ P).bind fun (l, P1) => (flats P1 l).bind fun ds => (g ds).map fun z => (.fz z, P1) := id rfl
@[simp] theorem mCallF_ap (m : FM) (fs : AM) : mCallF m fs ρ P = (fs ρ P).bind fun (l, P1) => m l P1 := id rfl
@[simp] theorem mIs_ap (g : PyData → Bool) (f : XM) : mIs g f ρ P = (f ρ P).bind fun (a, P1) => (flat P1 a).map fun d => (.fz (.bool (g d)), P1) := id rfl
@[simp] theorem mSub_ap (f1 f2 : XM) : mSub f1 f2 ρ P = (f1 ρ P).bind fun (a, P1) => (f2 ρ P1).bind fun (b, P2) => (flat P2 b).bind fun kd => (subOf P2 a kd).map fun s => (s, P2) := id rfl
@[simp] theorem mIn_ap (n : Bool) (f1 f2 : XM) : mIn n f1 f2 ρ P = (f1 ρ P).bind fun (a, P1) => (f2 ρ P1).bind fun (b, P2) => (flat P2 a).bind fun kd => (inOf P2 kd b).map fun v => (.fz (.bool (n != v)), P2) := id rfl
@[simp] theorem mInK_ap (n : Bool) (ds : List PyData) (f : XM) : mInK n ds f ρ P = (f ρ P).bind fun (a, P1) => (flat P1 a).bind fun d => (dInS n d (.tuple ds)).map fun z => (.fz z, P1) := id rfl
@[simp] theorem mSl_ap (f : XM) (lo hi : OM) : mSl f lo hi ρ P = (f ρ P).bind fun (a, P1) => (lo ρ P1).bind fun (l, P2) => (hi ρ P2).bind fun (u, P3) => (flat P3 a).bind fun d => (dSl d l u).map fun z => (.fz z, P3) := id rfl
@[simp] theorem oNone_ap : oNone ρ P = some (none, P) := id rfl
@[simp] theorem oSome_ap (f : XM) : oSome f ρ P = (f ρ P).bind fun (a, P1) => match a with
  | .fz (.int i) => some (some i, P1)
  | _ => none := id rfl
@[simp] theorem mApp_ap (fo fe : XM) : mApp fo fe ρ P = (fo ρ P).bind fun (o, P1) => (fe ρ P1).bind fun (r, P2) => match o with
  | .ptr k => match P2[k]? with
    | some (.lst l) => if l.length < sizeLine ∧ okPtr ρ.b k r = true ∧ isLst P1[k]? = true then some (.fz .none, P2.set k (.lst (l ++ [r]))) else none
    | _ => none
  | _ => none := id rfl
@[simp] theorem okPtr_fz (b k : Nat) (d : PyData) : okPtr b k (.fz d) = true := id rfl
@[simp] theorem isLst_lst (l : List SV) : isLst (some (.lst l)) = true := id rfl
@[simp] theorem sNx_ap : sNx ρ P = some (.nx, ρ, P) := id rfl
@[simp] theorem sSeq_ap (m n : SM) : sSeq m n ρ P = (m ρ P).bind fun r => match r with
  | (.nx, ρ1, P1) => n ρ1 P1
  | r => some r := id rfl
@[simp] theorem sRet_ap (f : XM) : sRet f ρ P = (f ρ P).map fun (s, P1) => (.rt s, ρ, P1) := id rfl
@[simp] theorem sEx_ap (f : XM) : sEx f ρ P = (f ρ P).map fun (_, P1) => (.nx, ρ, P1) := id rfl
@[simp] theorem sBk_ap : sBk ρ P = some (.bk, ρ, P) := id rfl
@[simp] theorem sCt_ap : sCt ρ P = some (.ct, ρ, P) := id rfl
@[simp] theorem sIf_ap (c : BM) (m n : SM) : sIf c m n ρ P = (c ρ P).bind fun (b, P1) => if b = true then m ρ P1 else n ρ P1 := id rfl
@[simp] theorem sSet_ap (i : Nat) (f : XM) : sSet i f ρ P = (f ρ P).map fun (s, P1) => (.nx, ρ.put i s, P1) := id rfl
@[simp] theorem sAsg_ap (f : XM) (g : GM) : sAsg f g ρ P = (f ρ P).bind fun (s, P1) => (g s ρ P1).map fun (ρ2, P2) => (.nx, ρ2, P2) := id rfl
@[simp] theorem sPar_ap (i j : Nat) (g : AM) : sPar i j g ρ P = (g ρ P).bind fun (l, P1) => match l with
  | [a, b] => some (.nx, (ρ.put i a).put j b, P1)
  | _ => none := id rfl
@[simp] theorem gNm_ap (i : Nat) (s : SV) : gNm i s ρ P = some (ρ.put i s, P) := id rfl
@[simp] theorem gsNil_ap : gsNil [] ρ P = some (ρ, P) := id rfl
@[simp] theorem gsCons_ap (g : GM) (h : List PyData → EV → Store → Option (EV × Store)) (d : PyData) (r : List PyData) : gsCons g h (d :: r) ρ P = (g (.fz d) ρ P).bind fun (ρ1, P1) => h r ρ1 P1 := id rfl
@[simp] theorem gTu_ap (n : Nat) (h : List PyData → EV → Store → Option (EV × Store)) (ds : List PyData) : gTu n h (.fz (.tuple ds)) ρ P = if ds.length = n then h ds ρ P else none := id rfl
@[simp] theorem gIx_ap (fo fi : XM) (s : SV) : gIx fo fi s ρ P = (fo ρ P).bind fun (o, P1) => (fi ρ P1).bind fun (i, P2) => match o, i with
  | .ptr k, .fz (.int i) => match P2[k]? with
    | some (.lst l) => if okPtr ρ.b k s = true then (ixN l.length i).map fun j => (ρ, P2.set k (.lst (l.set j s))) else none
    | _ => none
  | _, _ => none := id rfl
@[simp] theorem sFor_ap (f : IM) (g : GM) (body : SM) : sFor f g body ρ P = (f ρ P).bind fun (items, _, P1) => forGo g body items ρ P1 := id rfl
@[simp] theorem iAny_ap (f : XM) : iAny f ρ P = (f ρ P).bind fun (a, P1) => match a with
  | .fz (.list ds) => some (ds, a, P1)
  | .fz (.tuple ds) => some (ds, a, P1)
  | .fz (.str x) => some (signsD x, a, P1)
  | .fz (.dict kvs) => if kvs.all (fun p => isKD p.1) = true then some (keysD kvs, a, P1) else none
  | _ => none := id rfl
@[simp] theorem iRange_ap (g : AM) : iRange g ρ P = (g ρ P).bind fun (l, P1) => match l with
  | [.fz (.int j)] => if -(2 ^ 62) ≤ j ∧ j < 2 ^ 62 then some (rangeD 0 j.toNat, .fz .none, P1) else none
  | [.fz (.int i), .fz (.int j)] => if -(2 ^ 62) ≤ i ∧ i < 2 ^ 62 ∧ -(2 ^ 62) ≤ j ∧ j < 2 ^ 62 then some (rangeD i (j - i).toNat, .fz .none, P1) else none
  | _ => none := id rfl
@[simp] theorem bYes_ap : bYes ρ P = some (true, P) := id rfl
theorem mFun_ap (ex : Nat → SV → Store → Option (SV × Store)) (nN : Nat) (body : SM) (args : List SV) : mFun ex nN body args P = (body { b := P.length, sl := startE nN args } P).bind fun (fl, _, P2) => match fl with
  | .rt r => ex P.length r P2
  | .nx => ex P.length (.fz .none) P2
  | _ => none := rfl
@[simp] theorem exitZ_fz (n : Nat) (d : PyData) : exitZ n (.fz d) P = some (.fz d, P.take n) := id rfl
@[simp] theorem exitC_fz (n : Nat) (d : PyData) : exitC n (.fz d) P = some (.fz d, P.take n) := id rfl
theorem exitZ_ptr {n k : Nat} {c : Cell} {d : PyData} (h : n ≤ k) (hc : P[k]? = some c) (hd : c.dat = some d) : exitZ n (.ptr k) P = some (.fz d, P.take n) := by
  simp [exitZ, h, hc, hd]
@[simp] theorem dictOf_tup (ds : List PyData) : dictOf P (.fz (.tuple ds)) = none := id rfl
@[simp] theorem dictOf_lst (ds : List PyData) : dictOf P (.fz (.list ds)) = none := id rfl
@[simp] theorem dictOf_str (x : Str) : dictOf P (.fz (.str x)) = none := id rfl
theorem dictOf_cell {k : Nat} {l : List SV} (h : P[k]? = some (.lst l)) : dictOf P (.ptr k) = none := by simp [dictOf, h]
@[simp] theorem subOf_tup (ds : List PyData) (i : Int) : subOf P (.fz (.tuple ds)) (.int i) = (atI ds i).map .fz := id rfl
@[simp] theorem subOf_lst (ds : List PyData) (i : Int) : subOf P (.fz (.list ds)) (.int i) = (atI ds i).map .fz := id rfl
theorem subOf_str (z : Str) (i : Int) (h : z.length ≤ sizeLine) : subOf P (.fz (.str z)) (.int i) = (atI z.cps.toList i).map fun c => .fz (.str ⟨#[c]⟩) := by
  simp [subOf, dIx, h, Option.map_map, Function.comp_def]
theorem subOf_cell {k : Nat} {l : List SV} {ds : List PyData} (h : P[k]? = some (.lst l)) (hd : fzs l = some ds) (i : Int) : subOf P (.ptr k) (.int i) = (atI ds i).map .fz := by
  simp [subOf, dictOf_cell h, flat, h, Cell.dat, hd, dIx]
theorem flat_cell {k : Nat} {c : Cell} (h : P[k]? = some c) : flat P (.ptr k) = c.dat := by simp [flat, h]
@[simp] theorem dat_lst (l : List SV) : (Cell.lst l).dat = (fzs l).map .list := id rfl
@[simp] theorem inOf_tup (ds : List PyData) (d : PyData) : inOf P d (.fz (.tuple ds)) = if SeqAt.shaped d = true ∧ SeqAt.shaped (.tuple ds) = true then some (ds.any fun y => PyData.eqv y d) else none := by
  simp only [inOf, dictOf_tup, flat_fz, Option.bind_some, dInS]
  by_cases h : SeqAt.shaped d = true ∧ SeqAt.shaped (.tuple ds) = true
  · simp [h]
  · simp [h]
@[simp] theorem inOf_lst (ds : List PyData) (d : PyData) : inOf P d (.fz (.list ds)) = if SeqAt.shaped d = true ∧ SeqAt.shaped (.list ds) = true then some (ds.any fun y => PyData.eqv y d) else none := by
  simp only [inOf, dictOf_lst, flat_fz, Option.bind_some, dInS]
  by_cases h : SeqAt.shaped d = true ∧ SeqAt.shaped (.list ds) = true
  · simp [h]
  · simp [h]
@[simp] theorem inOf_sign (x : Str) (c : Nat) : inOf P (.str ⟨#[c]⟩) (.fz (.str x)) = some (decide (c ∈ x.cps.toList)) := by
  have := StrLaws.found_one x c
  simp only [inOf, dictOf_str, flat_fz, Option.bind_some, dInS, this]
  simp
end

/-! items -/
@[simp] theorem ixN_nat (n j : Nat) : ixN n (j : Int) = if j < n then some j else none := by
  unfold ixN
  by_cases h : j < n
  · simp [h]
  · simp [h]
@[simp] theorem atI_nat' {α : Type} (xs : List α) (j : Nat) : atI xs (j : Int) = xs[j]? := by
  unfold atI
  rw [ixN_nat]
  split
  · rfl
  · rw [List.getElem?_eq_none (by omega)]; rfl
@[simp] theorem atI_0 {α : Type} (xs : List α) : atI xs 0 = xs[0]? := atI_nat' xs 0
@[simp] theorem atI_1 {α : Type} (xs : List α) : atI xs 1 = xs[1]? := atI_nat' xs 1
@[simp] theorem atI_2 {α : Type} (xs : List α) : atI xs 2 = xs[2]? := atI_nat' xs 2
@[simp] theorem atI_3 {α : Type} (xs : List α) : atI xs 3 = xs[3]? := atI_nat' xs 3
@[simp] theorem atI_4 {α : Type} (xs : List α) : atI xs 4 = xs[4]? := atI_nat' xs 4
@[simp] theorem ixN_0 (n : Nat) : ixN n 0 = if 0 < n then some 0 else none := ixN_nat n 0
@[simp] theorem ixN_1 (n : Nat) : ixN n 1 = if 1 < n then some 1 else none := ixN_nat n 1
@[simp] theorem ixN_2 (n : Nat) : ixN n 2 = if 2 < n then some 2 else none := ixN_nat n 2
@[simp] theorem ixN_3 (n : Nat) : ixN n 3 = if 3 < n then some 3 else none := ixN_nat n 3

/-! operations on data -/
@[simp] theorem dAdd_int (i j : Int) : dAdd (.int i) (.int j) = some (.int (i + j)) := id rfl
@[simp] theorem dSub_int (i j : Int) : dSub (.int i) (.int j) = some (.int (i - j)) := id rfl
theorem dAdd_lst (xs ys : List PyData) (h : xs.length + ys.length ≤ sizeLine) : dAdd (.list xs) (.list ys) = some (.list (xs ++ ys)) := by
  simp [dAdd, dI, dAddS, dS, dAddL, h]
theorem dAdd_tup (xs ys : List PyData) (h : xs.length + ys.length ≤ sizeLine) : dAdd (.tuple xs) (.tuple ys) = some (.tuple (xs ++ ys)) := by
  simp [dAdd, dI, dAddS, dS, dAddL, dAddT, h]
@[simp] theorem dMod_int (i j : Int) : dMod (.int i) (.int j) = if decide (j ≠ 0) = true then some (.int (i.fmod j)) else none := id rfl
@[simp] theorem dDiv_int (i j : Int) : dDiv (.int i) (.int j) = if cDiv i j = true then some (.int (i.fdiv j)) else none := id rfl
@[simp] theorem dMulI_int (i j : Int) : dMulI (.int i) (.int j) = if cMul i j = true then some (.int (i * j)) else none := id rfl
@[simp] theorem dLt_int (i j : Int) : dLt (.int i) (.int j) = some (.bool (decide (i < j))) := id rfl
@[simp] theorem dLe_int (i j : Int) : dLe (.int i) (.int j) = some (.bool (decide (i ≤ j))) := id rfl
@[simp] theorem dGt_int (i j : Int) : dGt (.int i) (.int j) = some (.bool (decide (j < i))) := id rfl
@[simp] theorem dGe_int (i j : Int) : dGe (.int i) (.int j) = some (.bool (decide (j ≤ i))) := id rfl
@[simp] theorem dLe_str (x y : Str) : dLe (.str x) (.str y) = some (.bool (!decide (y.cps.toList < x.cps.toList))) := id rfl
@[simp] theorem dLt_str (x y : Str) : dLt (.str x) (.str y) = some (.bool (decide (x.cps.toList < y.cps.toList))) := id rfl
@[simp] theorem dEq_int (i j : Int) : dEq (.int i) (.int j) = some (.bool (decide (i = j))) := by simp [dEq, dEqA, atom, scal]
@[simp] theorem dNe_int (i j : Int) : dNe (.int i) (.int j) = some (.bool (!decide (i = j))) := by simp [dNe, dEqA, atom, scal]
@[simp] theorem dEq_str2 (x y : Str) : dEq (.str x) (.str y) = some (.bool (decide (x = y))) := by simp [dEq, dEqA, atom, scal]
@[simp] theorem dNe_str2 (x y : Str) : dNe (.str x) (.str y) = some (.bool (!decide (x = y))) := by simp [dNe, dEqA, atom, scal]
@[simp] theorem dIs_non (n : Bool) (d : PyData) : dIs n d .none = some (.bool (n != isNon d)) := by cases d <;> rfl
@[simp] theorem dIs_bl (n a b : Bool) : dIs n (.bool a) (.bool b) = some (.bool (n != decide (a = b))) := id rfl
@[simp] theorem gLen_lst (ds : List PyData) : gLen [.list ds] = some (.int ds.length) := id rfl
@[simp] theorem gLen_tup (ds : List PyData) : gLen [.tuple ds] = some (.int ds.length) := id rfl
@[simp] theorem gInt_int (i : Int) : gInt [.int i] = some (.int i) := id rfl
@[simp] theorem gTuple_lst (ds : List PyData) : gTuple [.list ds] = some (.tuple ds) := id rfl
@[simp] theorem gTuple_tup (ds : List PyData) : gTuple [.tuple ds] = some (.tuple ds) := id rfl
@[simp] theorem gList_lst (ds : List PyData) : gList [.list ds] = some (.list ds) := id rfl
@[simp] theorem gList_tup (ds : List PyData) : gList [.tuple ds] = some (.list ds) := id rfl
theorem bools_map {α : Type} (f : α → Bool) (l : List α) : bools (l.map fun x => .bool (f x)) = some (l.map f) := by
  induction l with
  | nil => rfl
  | cons a l ih => simp [bools, ih]
theorem intsD_map {α : Type} (f : α → Int) (l : List α) : intsD (l.map fun x => .int (f x)) = some (l.map f) := by
  induction l with
  | nil => rfl
  | cons a l ih => simp [intsD, ih]
theorem gAll_map {α : Type} (f : α → Bool) (l : List α) : gAll [.list (l.map fun x => .bool (f x))] = some (.bool (l.all f)) := by
  simp [gAll, bools_map, List.all_map, Function.comp_def]
theorem gAny_map {α : Type} (f : α → Bool) (l : List α) : gAny [.list (l.map fun x => .bool (f x))] = some (.bool (l.any f)) := by
  simp [gAny, bools_map, List.any_map, Function.comp_def]
theorem gSum_map {α : Type} (f : α → Int) (l : List α) : gSum [.list (l.map fun x => .int (f x))] = some (.int (l.map f).sum) := by
  simp [gSum, intsD_map]

/-! comprehensions that change nothing -/
theorem lcGo_pure {g : GM} {tt : BM} {te : XM} {ρ : EV} {n : Nat} (p : PyData → Bool) (h : PyData → PyData) : ∀ (items : List PyData) (P : Store) (acc : List SV), P.length = n → acc.length + items.length ≤ sizeLine →
    (∀ d ∈ items, ∀ S : Store, ∃ ρ1, g (.fz d) ρ S = some (ρ1, S) ∧ tt ρ1 S = some (p d, S) ∧ (p d = true → te ρ1 S = some (.fz (h d), S))) →
    lcGo g tt te ρ n items (P ++ [.lst acc]) = some (P ++ [.lst (acc ++ ((items.filter p).map fun d => SV.fz (h d)))])
  | [], P, acc, _, _, _ => by simp [lcGo]
  | d :: r, P, acc, hP, hl, hh => by
    obtain ⟨ρ1, e1, e2, e3⟩ := hh d List.mem_cons_self (P ++ [.lst acc])
    have ih := fun acc' (hl' : acc'.length + r.length ≤ sizeLine) => lcGo_pure (g := g) (tt := tt) (te := te) (ρ := ρ) (n := n) p h r P acc' hP hl' fun d hd S => hh d (List.mem_cons_of_mem _ hd) S
    simp only [List.length_cons] at hl
    simp only [lcGo, e1, e2, Option.bind_some]
    by_cases hp : p d = true
    · have hn : (P ++ [Cell.lst acc])[n]? = some (.lst acc) := by rw [← hP]; simp
      simp only [hp, if_true, e3 hp, Option.bind_some, hn]
      rw [if_pos (by omega)]
      have hs : (P ++ [Cell.lst acc]).set n (.lst (acc ++ [.fz (h d)])) = P ++ [.lst (acc ++ [.fz (h d)])] := by
        rw [← hP, List.set_append_right _ _ (Nat.le_refl _)]; simp
      rw [hs, ih _ (by simp; omega)]
      simp [List.filter_cons, hp]
    · simp only [hp, Bool.false_eq_true, if_false]
      rw [ih acc (by omega)]
      simp [List.filter_cons, hp]
theorem mLC_pure {own : List Nat} {f : IM} {g : GM} {tt : BM} {te : XM} {ρ : EV} {P : Store} {items : List PyData} {src : SV} (p : PyData → Bool) (h : PyData → PyData) (hf : f ρ P = some (items, src, P)) (hl : items.length ≤ sizeLine)
    (hh : ∀ d ∈ items, ∀ S : Store, ∃ ρ1, g (.fz d) { ρ.wipe own with b := P.length } S = some (ρ1, S) ∧ tt ρ1 S = some (p d, S) ∧ (p d = true → te ρ1 S = some (.fz (h d), S))) :
    mLC own f g tt te ρ P = some (.fz (.list ((items.filter p).map h)), P) := by
  have := lcGo_pure (g := g) (tt := tt) (te := te) (ρ := { ρ.wipe own with b := P.length }) p h items P [] rfl (by simpa using hl) hh
  simp only [mLC, hf, Option.bind_some, this, List.nil_append]
  simp [fzs_map']
/-- .. without a test -/
theorem mLC_map {own : List Nat} {f : IM} {g : GM} {te : XM} {ρ : EV} {P : Store} {items : List PyData} {src : SV} (h : PyData → PyData) (hf : f ρ P = some (items, src, P)) (hl : items.length ≤ sizeLine)
    (hh : ∀ d ∈ items, ∀ S : Store, ∃ ρ1, g (.fz d) { ρ.wipe own with b := P.length } S = some (ρ1, S) ∧ te ρ1 S = some (.fz (h d), S)) :
    mLC own f g bYes te ρ P = some (.fz (.list (items.map h)), P) := by
  have := mLC_pure (tt := bYes) (fun _ => true) h hf hl fun d hd S => let ⟨ρ1, a, b⟩ := hh d hd S; ⟨ρ1, a, rfl, fun _ => b⟩
  have e : items.filter (fun _ => true) = items := List.filter_eq_self.mpr fun _ _ => rfl
  rw [e] at this
  exact this

/-! good data -/
def okD : Nat → PyData → Bool
  | _, .none => true
  | _, .bool _ => true
  | _, .int _ => true
  | _, .str x => PyData.strOk x && decide (x.length ≤ 1000)
  | n + 1, .list ds => decide (ds.length ≤ 1000) && ds.all (okD n)
  | n + 1, .tuple ds => decide (ds.length ≤ 1000) && ds.all (okD n)
  | _, _ => false
theorem okD_lay : ∀ (n : Nat) (d : PyData), okD n d = true → d.canLay0 = true ∧ d.depth ≤ n := by
  intro n
  induction n with
  | zero => intro d h; cases d <;> simp_all [okD, PyData.canLay0, PyData.depth]
  | succ n ih =>
    have all : ∀ ds : List PyData, ds.all (okD n) = true → PyData.canLayAll0 ds = true ∧ PyData.depthAll ds ≤ n := by
      intro ds
      induction ds with
      | nil => intro _; simp [PyData.canLayAll0, PyData.depthAll]
      | cons d r ihr =>
        intro h
        simp only [List.all_cons, Bool.and_eq_true] at h
        have h1 := ih d h.1
        have h2 := ihr h.2
        simp only [PyData.canLayAll0, PyData.depthAll, h1.1, h2.1, Bool.and_true, true_and]
        omega
    intro d h
    cases d with
    | list ds =>
      simp only [okD, Bool.and_eq_true] at h
      have := all ds h.2
      simp only [PyData.canLay0, PyData.depth, this.1, true_and]; omega
    | tuple ds =>
      simp only [okD, Bool.and_eq_true] at h
      have := all ds h.2
      simp only [PyData.canLay0, PyData.depth, this.1, true_and]; omega
    | _ => simp_all [okD, PyData.canLay0, PyData.depth]
theorem okD_shaped {n : Nat} {d : PyData} (h : okD n d = true) (hn : n ≤ 64) : SeqAt.shaped d = true := by
  obtain ⟨h1, h2⟩ := okD_lay n d h
  unfold SeqAt.shaped
  simp only [h1, Bool.true_and, decide_eq_true_eq]
  omega
/-- the data is this text -/
def isS (x : Str) : PyData → Bool
  | .str y => decide (y = x)
  | _ => false
theorem eqv_str (x : Str) (d : PyData) : PyData.eqv (.str x) d = isS x d := by
  cases d with
  | str s =>
    simp only [PyData.eqv, isS]
    rw [Bool.eq_iff_iff]
    simp only [beq_iff_eq, decide_eq_true_eq]
    exact ⟨Eq.symm, Eq.symm⟩
  | _ => simp [PyData.eqv, isS]
theorem dEq_str {d : PyData} (x : Str) (h : SeqAt.shaped d = true) (hx : PyData.strOk x = true := by decide +kernel) : dEq d (.str x) = some (.bool (isS x d)) := by
  have hs : SeqAt.shaped (.str x) = true := by simp [SeqAt.shaped, PyData.canLay0, PyData.depth, hx]
  cases d <;> simp [dEq, dEqA, atom, scal, isS, dEqD, h, hs, PyData.eqv]
/-! sizes -/
@[simp] theorem sz_1 : (1 : Nat) ≤ sizeLine := by decide
@[simp] theorem sz_2 : (2 : Nat) ≤ sizeLine := by decide
@[simp] theorem sz_3 : (3 : Nat) ≤ sizeLine := by decide
@[simp] theorem sz_4 : (4 : Nat) ≤ sizeLine := by decide
@[simp] theorem sz_5 : (5 : Nat) ≤ sizeLine := by decide
@[simp] theorem sz_6 : (6 : Nat) ≤ sizeLine := by decide
@[simp] theorem sz_7 : (7 : Nat) ≤ sizeLine := by decide
@[simp] theorem sz_8 : (8 : Nat) ≤ sizeLine := by decide
@[simp] theorem sz_9 : (9 : Nat) ≤ sizeLine := by decide
@[simp] theorem sz_10 : (10 : Nat) ≤ sizeLine := by decide
@[simp] theorem sz_11 : (11 : Nat) ≤ sizeLine := by decide
@[simp] theorem sz_12 : (12 : Nat) ≤ sizeLine := by decide
@[simp] theorem sz_13 : (13 : Nat) ≤ sizeLine := by decide
@[simp] theorem sz_14 : (14 : Nat) ≤ sizeLine := by decide
@[simp] theorem sz_15 : (15 : Nat) ≤ sizeLine := by decide
@[simp] theorem sz_16 : (16 : Nat) ≤ sizeLine := by decide
end Pd

set_option Elab.async false
set_option linter.all false
set_option maxRecDepth 100000
set_option maxHeartbeats 1000000
/-! The layer Pd, part Q: more of the mirrors run by simp. -/
namespace Pd
open PySem PySem.Spec PyProof.Rows L2
section
variable {ρ : EV} {P : Store}
@[simp] theorem gLenA_lst (ds : List PyData) : gLenA [.list ds] = some (.int ds.length) := id rfl
@[simp] theorem gLenA_tup (ds : List PyData) : gLenA [.tuple ds] = some (.int ds.length) := id rfl
theorem gLenA_str {x : Str} (h : x.length ≤ 1000) : gLenA [.str x] = some (.int x.length) := by
  simp only [gLenA, gLen]
  rw [if_pos (Nat.le_trans h (by decide))]; rfl
theorem gLenA_dct (kvs : List (PyData × PyData)) (h : kvs.all (fun p => isKD p.1) = true) : gLenA [.dict kvs] = some (.int kvs.length) := by
  simp [gLenA, gLen, gLenD, -List.all_eq_true, h]
@[simp] theorem gListA_lst (ds : List PyData) : gListA [.list ds] = some (.list ds) := id rfl
@[simp] theorem gListA_tup (ds : List PyData) : gListA [.tuple ds] = some (.list ds) := id rfl
theorem gListA_dct (kvs : List (PyData × PyData)) (h : kvs.all (fun p => isKD p.1) = true) : gListA [.dict kvs] = some (.list (keysD kvs)) := by
  simp [gListA, gList, gListD, -List.all_eq_true, h]
theorem gListA_str {x : Str} (h : x.length ≤ 1000) : gListA [.str x] = some (.list (signsD x)) := by
  simp only [gListA, gList, gListD, gListS]
  rw [if_pos (Nat.le_trans h (by decide))]; rfl
@[simp] theorem mGetD_ap (fd fk fx : XM) : mGetD fd fk fx ρ P = (fd ρ P).bind fun (d, P1) => (dictOf P1 d).bind fun _ => (fk ρ P1).bind fun (k, P2) => (fx ρ P2).bind fun (z, P3) => (flat P3 k).bind fun kd => (dictOf P3 d).bind fun D => (dlook D kd).map fun o => (o.getD z, P3) := id rfl
@[simp] theorem mFmt8_ap (f : XM) : mFmt8 f ρ P = (f ρ P).bind fun (a, P1) => match a with
  | .fz (.int i) => if 0 ≤ i ∧ i < 256 then some (.fz (.str (bin8 i.toNat)), P1) else none
  | _ => none := id rfl
@[simp] theorem mDNewK_ap : mDNewK ρ P = some (.ptr P.length, P ++ [.dK []]) := id rfl
/-- a dict of texts, as data -/
def dctD (l : List (Str × PyData)) : PyData := .dict (l.map fun p => (.str p.1, p.2))
theorem parseK_dct : ∀ l : List (Str × PyData), parseK (l.map fun p => (PyData.str p.1, p.2)) = some (l.map fun p => (Sum.inr p.1, SV.fz p.2))
  | [] => rfl
  | p :: r => by simp [parseK, keyOf, parseK_dct r]
@[simp] theorem dictOf_dct (l : List (Str × PyData)) : dictOf P (.fz (dctD l)) = some (.k (l.map fun p => (Sum.inr p.1, SV.fz p.2))) := by
  simp [dictOf, dctD, parseK_dct]
def lookD (l : List (Str × PyData)) (x : Str) : Option PyData := (l.find? fun p => decide (p.1 = x)).map (·.2)
theorem lookS_dct (l : List (Str × PyData)) (x : Str) : lookS (l.map fun p => ((Sum.inr p.1 : Key), SV.fz p.2)) (Sum.inr x) = (lookD l x).map SV.fz := by
  induction l with
  | nil => rfl
  | cons p r ih =>
    by_cases h : p.1 = x
    · simp [lookS, lookD, List.find?_cons, h]
    · have h2 : ¬ ((Sum.inr p.1 : Key) = Sum.inr x) := fun z => h (Sum.inr.inj z)
      simpa [lookS, lookD, List.find?_cons, h, h2] using ih
theorem dlook_dct (l : List (Str × PyData)) (x : Str) : dlook (.k (l.map fun p => (Sum.inr p.1, SV.fz p.2))) (.str x) = some ((lookD l x).map SV.fz) := by
  simp [dlook, keyOf, lookS_dct]
theorem subOf_dct (l : List (Str × PyData)) (x : Str) : subOf P (.fz (dctD l)) (.str x) = (lookD l x).map SV.fz := by
  simp [subOf, dlook_dct]
theorem inOf_dct (l : List (Str × PyData)) (x : Str) : inOf P (.str x) (.fz (dctD l)) = some (lookD l x).isSome := by
  simp [inOf, dlook_dct]
theorem isKD_dct (l : List (Str × PyData)) : (l.map fun p => (PyData.str p.1, p.2)).all (fun p => isKD p.1) = true := by
  induction l with
  | nil => rfl
  | cons p r ih => simpa [isKD] using ih
theorem keysD_dct (l : List (Str × PyData)) : keysD (l.map fun p => (PyData.str p.1, p.2)) = l.map fun p => .str p.1 := by
  simp [keysD, Function.comp_def]
end
/-! ranges -/
theorem rg2 (n : Nat) (hn : n ≤ 1000) : -(2 ^ 62) ≤ (n : Int) ∧ (n : Int) < 2 ^ 62 := by
  have h1 : (0 : Int) ≤ n := Int.natCast_nonneg n
  have h2 : (n : Int) ≤ 1000 := by omega
  exact ⟨Int.le_trans (by decide) h1, Int.lt_of_le_of_lt h2 (by decide)⟩
def rgF (P1 : Store) (l : List SV) : Option (List PyData × SV × Store) := match l with
  | [.fz (.int j)] => if -(2 ^ 62) ≤ j ∧ j < 2 ^ 62 then some (rangeD 0 j.toNat, .fz .none, P1) else none
  | [.fz (.int i), .fz (.int j)] => if -(2 ^ 62) ≤ i ∧ i < 2 ^ 62 ∧ -(2 ^ 62) ≤ j ∧ j < 2 ^ 62 then some (rangeD i (j - i).toNat, .fz .none, P1) else none
  | _ => none
theorem iR (g : AM) (ρ : EV) (P : Store) : iRange g ρ P = (g ρ P).bind fun x => rgF x.2 x.1 := rfl
theorem rgF1 (P1 : Store) (j : Int) : rgF P1 [.fz (.int j)] = if -(2 ^ 62) ≤ j ∧ j < 2 ^ 62 then some (rangeD 0 j.toNat, .fz .none, P1) else none := rfl
theorem rgF2 (P1 : Store) (j : Int) (h : -(2 ^ 62) ≤ j ∧ j < 2 ^ 62) : rgF P1 [.fz (.int j)] = some (rangeD 0 j.toNat, .fz .none, P1) := by
  rw [rgF1]; exact if_pos h
theorem iRange_nat {g : AM} {ρ : EV} {P P1 : Store} {n : Nat} (hg : g ρ P = some ([.fz (.int n)], P1)) (hn : n ≤ 1000) : iRange g ρ P = some (rangeD 0 n, .fz .none, P1) := by
  rw [iR, hg, Option.bind_some]
  show rgF P1 [.fz (.int n)] = _
  rw [rgF2 P1 n (rg2 n hn), Int.toNat_natCast]
end Pd

set_option Elab.async false
set_option linter.all false
set_option maxRecDepth 100000
set_option maxHeartbeats 1000000
/-! The layer Pd, part R: what a mirror ends with. -/
namespace Pd
open PySem PySem.Spec PyProof.Rows L2
/-- the mirror ends, with something that Q holds of -/
inductive Tg {α : Type} (Q : α → Prop) : Type
  | o | p
/-- (the mark t keeps simp out of Q) -/
def W {α : Type} (x : Option α) (Q : α → Prop) (t : Tg Q := .o) : Prop := ∃ a, x = some a ∧ Q a
section
variable {α β : Type}
@[simp] theorem W_some (a : α) (Q : α → Prop) : W (some a) Q = Q a := propext ⟨fun ⟨_, e, q⟩ => (by cases e; exact q), fun q => ⟨a, rfl, q⟩⟩
@[simp] theorem W_bind (x : Option α) (f : α → Option β) (Q : β → Prop) : W (x.bind f) Q = W x fun a => W (f a) Q := by
  cases x with
  | none => exact propext ⟨fun ⟨_, e, _⟩ => (by cases e), fun ⟨_, e, _⟩ => (by cases e)⟩
  | some a => rw [Option.bind_some, W_some]
@[simp] theorem W_map (x : Option α) (f : α → β) (Q : β → Prop) : W (x.map f) Q = W x fun a => Q (f a) := by
  cases x with
  | none => exact propext ⟨fun ⟨_, e, _⟩ => (by cases e), fun ⟨_, e, _⟩ => (by cases e)⟩
  | some a => rw [Option.map_some, W_some, W_some]
@[simp] theorem W_none (Q : α → Prop) : W none Q = False := propext ⟨fun ⟨_, e, _⟩ => (by cases e), False.elim⟩
theorem W.mono {x : Option α} {Q Q' : α → Prop} (h : W x Q) (q : ∀ a, Q a → Q' a) : W x Q' := let ⟨a, e, h⟩ := h; ⟨a, e, q a h⟩
theorem W.eq {x : Option α} {a : α} (h : x = some a) {Q : α → Prop} (q : Q a) : W x Q := ⟨a, h, q⟩
theorem W.of {x : Option α} {a : α} (h : W x fun b => b = a) : x = some a := let ⟨b, e, h⟩ := h; h ▸ e
/-- two ends of one thing -/
theorem W.two {x : Option α} {Q Q' : α → Prop} (h : W x Q) (h' : W x Q') : W x fun a => Q a ∧ Q' a := by
  obtain ⟨a, e, q⟩ := h
  obtain ⟨b, e', q'⟩ := h'
  rw [e] at e'; cases e'
  exact ⟨a, e, q, q'⟩
end
/-- for, no way out -/
theorem W_for {g : GM} {body : SM} {ρ : EV} {P : Store} {Q : Fl × EV × Store → Prop} {items : List PyData} (I : Nat → EV → Store → Prop) (h0 : I 0 ρ P)
    (hs : ∀ (i : Nat) (d : PyData) (ρ : EV) (P : Store), items[i]? = some d → I i ρ P → W (g (.fz d) ρ P) fun r => W (body r.1 r.2) fun r => (r.1 = .nx ∨ r.1 = .ct) ∧ I (i + 1) r.2.1 r.2.2)
    (hQ : ∀ ρ P, I items.length ρ P → Q (.nx, ρ, P)) : W (forGo g body items ρ P) Q := by
  have key : ∀ (r : List PyData) (i : Nat) (ρ : EV) (P : Store), (∀ j d, r[j]? = some d → items[i + j]? = some d) → i + r.length = items.length → I i ρ P → W (forGo g body r ρ P) Q := by
    intro r
    induction r with
    | nil =>
      intro i ρ P _ hl h
      simp only [forGo, W_some]
      refine hQ ρ P ?_
      rw [← hl]; exact h
    | cons d r ih =>
      intro i ρ P hj hl h
      obtain ⟨⟨ρ1, P1⟩, e1, ⟨fl, ρ2, P2⟩, e2, h3, h4⟩ := hs i d ρ P (hj 0 d rfl) h
      simp only [forGo, e1, Option.bind_some]
      have := ih (i + 1) ρ2 P2 (fun j d' hd => by have := hj (j + 1) d' (by simpa using hd); rw [show i + 1 + j = i + (j + 1) by omega]; exact this) (by simp at hl; omega) h4
      simp only at e2
      rw [e2]
      simp only at h3
      rcases h3 with rfl | rfl
      · exact this
      · exact this
  exact key items 0 ρ P (fun j d h => by simpa using h) (by simp) h0
/-- for, with a way out -/
theorem W_forR {g : GM} {body : SM} {ρ : EV} {P : Store} {Q : Fl × EV × Store → Prop} {items : List PyData} (I : Nat → EV → Store → Prop) (h0 : I 0 ρ P)
    (hs : ∀ (i : Nat) (d : PyData) (ρ : EV) (P : Store), items[i]? = some d → I i ρ P → W (g (.fz d) ρ P) fun r => W (body r.1 r.2) fun r => (r.1 = .nx ∧ I (i + 1) r.2.1 r.2.2) ∨ (r.1 = .ct ∧ I (i + 1) r.2.1 r.2.2) ∨ (r.1 = .bk ∧ Q (.nx, r.2)) ∨ (∃ s, r.1 = .rt s ∧ Q r))
    (hQ : ∀ ρ P, I items.length ρ P → Q (.nx, ρ, P)) : W (forGo g body items ρ P) Q := by
  have key : ∀ (r : List PyData) (i : Nat) (ρ : EV) (P : Store), (∀ j d, r[j]? = some d → items[i + j]? = some d) → i + r.length = items.length → I i ρ P → W (forGo g body r ρ P) Q := by
    intro r
    induction r with
    | nil =>
      intro i ρ P _ hl h
      simp only [forGo, W_some]
      refine hQ ρ P ?_
      rw [← hl]; exact h
    | cons d r ih =>
      intro i ρ P hj hl h
      obtain ⟨⟨ρ1, P1⟩, e1, ⟨fl, ρ2, P2⟩, e2, h3⟩ := hs i d ρ P (hj 0 d rfl) h
      simp only [forGo, e1, Option.bind_some]
      have := fun h4 => ih (i + 1) ρ2 P2 (fun j d' hd => by have := hj (j + 1) d' (by simpa using hd); rw [show i + 1 + j = i + (j + 1) by omega]; exact this) (by simp at hl; omega) h4
      simp only at e2
      rw [e2]
      simp only at h3
      rcases h3 with ⟨rfl, h4⟩ | ⟨rfl, h4⟩ | ⟨rfl, h4⟩ | ⟨s, rfl, h4⟩
      · exact this h4
      · exact this h4
      · exact ⟨_, rfl, h4⟩
      · exact ⟨_, rfl, h4⟩
  exact key items 0 ρ P (fun j d h => by simpa using h) (by simp) h0
/-- what comes behind a turn -/
def whK (c : BM) (body : SM) (n : Nat) : Fl × EV × Store → Option (Fl × EV × Store)
  | (.nx, ρ2, P2) => whGo c body n ρ2 P2
  | (.ct, ρ2, P2) => whGo c body n ρ2 P2
  | (.bk, ρ2, P2) => some (.nx, ρ2, P2)
  | (.rt s, ρ2, P2) => some (.rt s, ρ2, P2)
theorem whGo_t {c : BM} {body : SM} {n : Nat} {ρ : EV} {P P1 : Store} (h : c ρ P = some (true, P1)) : whGo c body (n + 1) ρ P = (body ρ P1).bind (whK c body n) := by
  simp only [whGo, h, Option.bind_some, if_true]
  cases body ρ P1 with
  | none => rfl
  | some r =>
    obtain ⟨fl, ρ2, P2⟩ := r
    cases fl <;> rfl
theorem whGo_T {body : SM} {n : Nat} {ρ : EV} {P : Store} : whGo (mTB (mC (.bool true))) body (n + 1) ρ P = (body ρ P).bind (whK (mTB (mC (.bool true))) body n) := whGo_t rfl
@[simp] theorem whK_nx {c : BM} {body : SM} {n : Nat} {ρ : EV} {P : Store} : whK c body n (.nx, ρ, P) = whGo c body n ρ P := rfl
@[simp] theorem whK_rt {c : BM} {body : SM} {n : Nat} {ρ : EV} {P : Store} {s : SV} : whK c body n (.rt s, ρ, P) = some (.rt s, ρ, P) := rfl
/-- while -/
theorem W_while {c : BM} {body : SM} {Q : Fl × EV × Store → Prop} (I : Nat → EV → Store → Prop)
    (hs : ∀ (k : Nat) (ρ : EV) (P : Store), I k ρ P → W (c ρ P) fun r => if r.1 = true then W (body ρ r.2) fun s => match s.1 with
      | .nx => ∃ j, j < k ∧ I j s.2.1 s.2.2
      | .ct => ∃ j, j < k ∧ I j s.2.1 s.2.2
      | .bk => Q (.nx, s.2)
      | .rt x => Q (.rt x, s.2)
      else Q (.nx, ρ, r.2)) : ∀ {n k : Nat} {ρ : EV} {P : Store}, I k ρ P → k < n → W (whGo c body n ρ P) Q := by
  intro n
  induction n with
  | zero => intro k ρ P _ h; omega
  | succ n ih =>
    intro k ρ P h hk
    obtain ⟨⟨b, P1⟩, e1, h1⟩ := hs k ρ P h
    simp only [whGo, e1, Option.bind_some]
    simp only at h1
    by_cases hb : b = true
    · rw [if_pos hb] at h1 ⊢
      obtain ⟨⟨fl, ρ2, P2⟩, e2, h2⟩ := h1
      rw [e2]
      simp only [Option.bind_some]
      cases fl with
      | nx =>
        obtain ⟨j, hj, h3⟩ := h2
        exact ih h3 (by omega)
      | ct =>
        obtain ⟨j, hj, h3⟩ := h2
        exact ih h3 (by omega)
      | bk => exact ⟨_, rfl, h2⟩
      | rt s => exact ⟨_, rfl, h2⟩
    · rw [if_neg hb] at h1 ⊢
      exact ⟨_, rfl, h1⟩
/-- a comprehension that may change the cells of before -/
theorem W_lc {own : List Nat} {f : IM} {g : GM} {tt : BM} {te : XM} {ρ : EV} {P P1 : Store} {items : List PyData} {src : SV} {Q : SV × Store → Prop} (I : Nat → List PyData → Store → Prop)
    (hf : f ρ P = some (items, src, P1)) (hl : items.length ≤ sizeLine) (h0 : I 0 [] P1)
    (hs : ∀ (i : Nat) (d : PyData) (acc : List PyData) (S : Store), items[i]? = some d → I i acc S → S.length = P1.length → W (g (.fz d) { ρ.wipe own with b := P1.length } (S ++ [.lst (acc.map SV.fz)])) fun r => W (tt r.1 r.2) fun t =>
      if t.1 = true then W (te r.1 t.2) fun u => ∃ z S', u = (.fz z, S' ++ [.lst (acc.map SV.fz)]) ∧ S'.length = P1.length ∧ I (i + 1) (acc ++ [z]) S'
      else ∃ S', t.2 = S' ++ [.lst (acc.map SV.fz)] ∧ S'.length = P1.length ∧ I (i + 1) acc S')
    (hQ : ∀ acc S, I items.length acc S → S.length = P1.length → acc.length ≤ items.length → Q (.fz (.list acc), S)) : W (mLC own f g tt te ρ P) Q := by
  have key : ∀ (r : List PyData) (i : Nat) (acc : List PyData) (S : Store), (∀ j d, r[j]? = some d → items[i + j]? = some d) → i + r.length = items.length → acc.length ≤ i → S.length = P1.length → I i acc S →
      ∃ acc' S', lcGo g tt te { ρ.wipe own with b := P1.length } P1.length r (S ++ [.lst (acc.map SV.fz)]) = some (S' ++ [.lst (acc'.map SV.fz)]) ∧ I items.length acc' S' ∧ S'.length = P1.length ∧ acc'.length ≤ items.length := by
    intro r
    induction r with
    | nil =>
      intro i acc S _ hl ha hS h
      simp only [List.length_nil, Nat.add_zero] at hl
      exact ⟨acc, S, rfl, by rw [← hl]; exact h, hS, by omega⟩
    | cons d r ih =>
      intro i acc S hj hl ha hS h
      simp only [List.length_cons] at hl
      have hj' : ∀ j d', r[j]? = some d' → items[i + 1 + j]? = some d' := fun j d' hd => by have := hj (j + 1) d' (by simpa using hd); rw [show i + 1 + j = i + (j + 1) by omega]; exact this
      obtain ⟨⟨ρ1, S1⟩, e1, ⟨b, S2⟩, e2, h3⟩ := hs i d acc S (hj 0 d rfl) h hS
      simp only at e2 h3
      simp only [lcGo, e1, e2, Option.bind_some]
      by_cases hb : b = true
      · rw [if_pos hb] at h3 ⊢
        obtain ⟨⟨s, S3⟩, e3, z, S', e4, hS', h4⟩ := h3
        cases e4
        have hn : (S' ++ [Cell.lst (acc.map SV.fz)])[P1.length]? = some (.lst (acc.map SV.fz)) := by rw [← hS']; simp
        have hset : (S' ++ [Cell.lst (acc.map SV.fz)]).set P1.length (.lst (acc.map SV.fz ++ [.fz z])) = S' ++ [.lst ((acc ++ [z]).map SV.fz)] := by
          rw [← hS', List.set_append_right _ _ (Nat.le_refl _)]; simp
        simp only [e3, Option.bind_some, hn]
        rw [if_pos (by simp; omega), hset]
        exact ih (i + 1) (acc ++ [z]) S' hj' (by omega) (by simp; omega) hS' h4
      · rw [if_neg hb] at h3 ⊢
        obtain ⟨S', e4, hS', h4⟩ := h3
        subst e4
        exact ih (i + 1) acc S' hj' (by omega) (by omega) hS' h4
  obtain ⟨acc, S, e, h, hS, ha⟩ := key items 0 [] P1 (fun j d h => by simpa using h) (by simp) (Nat.le_refl _) rfl h0
  refine ⟨(.fz (.list acc), S), ?_, hQ acc S h hS ha⟩
  simp only [List.map_nil] at e
  have hn : (S ++ [Cell.lst (acc.map SV.fz)])[P1.length]? = some (.lst (acc.map SV.fz)) := by rw [← hS]; simp
  simp only [mLC, hf, Option.bind_some, e, hn, fzs_map, Option.map_some]
  rw [← hS]
  simp
/-- of a def: its body ends with a value, the cells of before stay -/
theorem W_fun {ex : Nat → SV → Store → Option (SV × Store)} {nN : Nat} {body : SM} {args : List SV} {P : Store} {Q : SV × Store → Prop}
    (h : W (body { b := P.length, sl := startE nN args } P) fun r => match r.1 with
      | .rt s => W (ex P.length s r.2.2) Q
      | .nx => W (ex P.length (.fz .none) r.2.2) Q
      | _ => False) : W (mFun ex nN body args P) Q := by
  obtain ⟨⟨fl, ρ, P2⟩, e, h⟩ := h
  rw [mFun_ap, e, Option.bind_some]
  cases fl with
  | rt s => exact h
  | nx => exact h
  | bk => exact h.elim
  | ct => exact h.elim
end Pd

set_option Elab.async false
set_option linter.all false
set_option maxRecDepth 100000
set_option maxHeartbeats 1000000
/-! The layer Pd, part T: data in order: sorted, <, min, max. -/
namespace Pd
open PySem PySem.Spec PyProof.Rows L2
open PySem.W (AllAlike Sortable dataLe EachIs alike dataLt)
/-! ### sorted(xs), xs a list of data -/
def rSortA (K : PySem.W.Frag) : List V → Hp → VK → Prop := fun vs H Q => ∃ (a : Addr) (bs : List (V × PyData)), vs = [.ref a] ∧ SqL K H a (bs.map (·.1)) ∧ (∀ b ∈ bs, Dp K H b.1 b.2) ∧ AllAlike (bs.map (·.2)) ∧ Sortable (bs.map (·.2)) ∧ (∀ b ∈ bs, b.2.depth ≤ 63) ∧
  ∀ p, H p = none → Q (.ref p) (upd H p (.lst ((bs.mergeSort (dataLe false (·.2))).map (·.1))))
theorem each_rel : ∀ {us : List Value} {bs : List (V × PyData)}, Vals (bs.map (·.1)) us → EachIs (fun v (b : V × PyData) => RelV b.1 v) us bs
  | _, [], h => by cases h; exact .nil
  | _, b :: bs, h => by
    cases h with
    | cons r t => exact .cons r (each_rel t)
theorem rel_each : ∀ {us : List Value} {bs : List (V × PyData)}, EachIs (fun v (b : V × PyData) => RelV b.1 v) us bs → Vals (bs.map (·.1)) us
  | _, [], h => by cases h; exact .nil
  | _, b :: bs, h => by
    cases h with
    | cons r t => exact .cons r (rel_each t)
section
variable {X : Cx}
theorem each_reads {pins : List (Addr × Obj)} {σ : L2.St} {H : Hp} {s : Shared} (I : Inv X pins σ H s) : ∀ {us : List Value} {bs : List (V × PyData)}, EachIs (fun v (b : V × PyData) => RelV b.1 v) us bs → (∀ b ∈ bs, Dp X.K H b.1 b.2) → EachIs (fun v (b : V × PyData) => ∃ as, Reads s.heap v b.2 as) us bs
  | _, [], h, _ => by cases h; exact .nil
  | _, b :: bs, h, hd => by
    cases h with
    | cons r t => exact .cons (Dp.reads I b.2 b.1 _ (hd b List.mem_cons_self) r) (each_reads I t fun c hc => hd c (List.mem_cons_of_mem _ hc))
theorem cr_sortA (hu : X.A.units + 65 < cLine) : CallR X (.builtin "sorted") (rSortA X.K) := by
  intro pins s σ H vs us Q I r h
  obtain ⟨a, bs, rfl, hs, hd, hal, hk, hdep, q⟩ := h
  obtain ⟨its, rv, hl, hz⟩ := I.list hs
  rw [Vals.ref1 r]
  have e := each_rel rv
  have er := each_reads I e hd
  have hlen : bs.length ≤ sizeLine := by
    rw [List.length_map] at hz
    exact hz
  refine PySem.W.sorted_data (enc := fun b : V × PyData => b.2) hl.isList e er hal hk hlen (fun b hb => by have := hdep b hb; omega) fun out h1 eo => ?_
  obtain ⟨ep, he'⟩ := PyProof.Rows.sortedAll_at s.heap its (List.toArray out)
  refine ⟨.ref _, upd H (s.heap.objs.size + 1) (.lst ((bs.mergeSort (dataLe false (·.2))).map (·.1))), I.laid (t' := s.toks) (fun _ _ => PyProof.Rows.sortedAll_old) (Nat.le_succ _) ⟨?_, out, ep, rel_each eo, he'⟩, rfl, q _ (I.hok.fresh (Nat.le_succ _))⟩
  rw [List.length_map, List.length_mergeSort]
  exact hlen
/-- what sorted takes -/
def tupN : PyData → Bool
  | .tuple (_ :: _) => true
  | _ => false
def notT : PyData → Bool
  | .tuple _ => false
  | .none => false
  | _ => true
def sortOk (ds : List PyData) : Bool := (ds.all fun d => ds.all fun e => alike d e) && ((ds.all tupN || ds.all notT) && SeqAt.shaped (.list ds))
theorem sortOk_of {ds : List PyData} (h : sortOk ds = true) : AllAlike ds ∧ Sortable ds ∧ SeqAt.shaped (.list ds) = true := by
  simp only [sortOk, Bool.and_eq_true, Bool.or_eq_true, List.all_eq_true] at h
  obtain ⟨h1, h2, h3⟩ := h
  refine ⟨fun d hd e he => h1 d hd e he, ?_, h3⟩
  rcases h2 with h2 | h2
  · refine .inl fun d hd => ?_
    have := h2 d hd
    unfold tupN at this
    split at this
    · exact ⟨_, _, rfl⟩
    · cases this
  · refine .inr fun d hd => ?_
    have := h2 d hd
    unfold notT at this
    split at this
    · cases this
    · cases this
    · rename_i n1 n2
      exact ⟨fun e => n2 e, fun xs e => n1 xs e⟩
def sortD (ds : List PyData) : List PyData := ds.mergeSort (dataLe false fun d : PyData => d)
def gSortL : List PyData → Option PyData
  | [.list ds] => if sortOk ds = true then some (.list (sortD ds)) else none
  | _ => none
theorem fza_zip {K : PySem.W.Frag} {F : Hp} : ∀ {us : List V} {ds : List PyData}, FzA K F us ds → ∀ b ∈ us.zip ds, Fz K F b.1 b.2
  | _, _, .nil, b, h => by simp at h
  | _, _, .cons a t, b, h => by
    simp only [List.zip_cons_cons, List.mem_cons] at h
    rcases h with rfl | h
    · exact a
    · exact fza_zip t b h
theorem zip_fza {K : PySem.W.Frag} {F : Hp} : ∀ {bs : List (V × PyData)}, (∀ b ∈ bs, Fz K F b.1 b.2) → FzA K F (bs.map (·.1)) (bs.map (·.2))
  | [], _ => .nil
  | b :: bs, h => .cons (h b List.mem_cons_self) (zip_fza fun c hc => h c (List.mem_cons_of_mem _ hc))
theorem lay_mem : ∀ {ds : List PyData}, PyData.canLayAll0 ds = true → ∀ d ∈ ds, d.canLay0 = true ∧ d.depth ≤ PyData.depthAll ds
  | [], _, d, h => by simp at h
  | e :: r, h, d, hd => by
    simp only [PyData.canLayAll0, Bool.and_eq_true] at h
    simp only [PyData.depthAll]
    rcases List.mem_cons.mp hd with rfl | hd
    · exact ⟨h.1, by omega⟩
    · have := lay_mem h.2 d hd
      exact ⟨this.1, by omega⟩
theorem shaped_mem {ds : List PyData} (h : SeqAt.shaped (.list ds) = true) : ∀ d ∈ ds, d.canLay0 = true ∧ d.depth ≤ 63 := by
  intro d hd
  have h1 : PyData.canLayAll0 ds = true := by simpa [PyData.canLay0] using SeqAt.canLay_of_shaped h
  have h2 := SeqAt.depth_of_shaped h
  simp only [PyData.depth] at h2
  have := lay_mem h1 d hd
  exact ⟨this.1, by omega⟩
theorem calld_sortL (hu : X.A.units + 65 < cLine) : CallD X (.builtin "sorted") gSortL := by
  refine ⟨_, cr_sortA hu, fun F H xs ds z Q s vx eq q => ?_⟩
  unfold gSortL at eq
  split at eq
  · rename_i ds
    split at eq
    · rename_i hk
      cases eq
      obtain ⟨h1, h2, h3⟩ := sortOk_of hk
      cases vx with
      | cons a t =>
        cases t
        obtain ⟨p, us, rfl, hp, t⟩ := a.lists s
        have m1 : (us.zip ds).map (·.1) = us := List.map_fst_zip (by rw [t.length]; exact Nat.le_refl _)
        have m2 : (us.zip ds).map (·.2) = ds := List.map_snd_zip (by rw [t.length]; exact Nat.le_refl _)
        have sm : ((us.zip ds).mergeSort (dataLe false (·.2))).map (·.2) = sortD ds := by
          have := PySem.W.sort_maps (r := dataLe false fun b : V × PyData => b.2) (s := dataLe false fun d : PyData => d) (fun b : V × PyData => b.2) (l := us.zip ds) fun _ _ _ _ => rfl
          rw [m2] at this
          exact this
        have mem : ∀ b ∈ us.zip ds, b.2 ∈ ds := fun b hb => by
          rw [← m2]; exact List.mem_map.mpr ⟨b, hb, rfl⟩
        refine ⟨p, us.zip ds, rfl, by rw [m1]; exact hp, fun b hb => (fza_zip t b hb).dp s (shaped_mem h3 _ (mem b hb)).1, by rw [m2]; exact h1, by rw [m2]; exact h2, fun b hb => (shaped_mem h3 _ (mem b hb)).2, fun p n => ?_⟩
        refine q _ _ _ (.one n) (.lst (.of upd_same) ?_)
        have hz := zip_fza (K := X.K) (F := F) (bs := (us.zip ds).mergeSort (dataLe false (·.2))) fun b hb => fza_zip t b ((List.mergeSort_perm _ _).mem_iff.mp hb)
        rw [sm] at hz
        exact hz.mono (upd_le (s.none n))
    · cases eq
  · cases eq
/-! ### sorted(d), d a dict whose keys are texts -/
def strLe (x y : Str) : Bool := decide (x.cps.toList ≤ y.cps.toList)
def sortS (xs : List Str) : List Str := xs.mergeSort strLe
theorem str_ext {x y : Str} (h : x.cps.toList = y.cps.toList) : x = y := by
  cases x; cases y
  simp only [Str.mk.injEq]
  exact Array.toList_inj.mp h
theorem strLe_trans (a b c : Str) (h1 : strLe a b = true) (h2 : strLe b c = true) : strLe a c = true := by
  simp only [strLe, decide_eq_true_eq] at *
  exact List.le_trans h1 h2
theorem strLe_total (a b : Str) : (strLe a b || strLe b a) = true := by
  simp only [strLe, Bool.or_eq_true, decide_eq_true_eq]
  exact List.le_total _ _
theorem strLe_antisymm (a b : Str) (h1 : strLe a b = true) (h2 : strLe b a = true) : a = b := by
  simp only [strLe, decide_eq_true_eq] at *
  exact str_ext (List.le_antisymm h1 h2)
theorem sortS_pairwise (xs : List Str) : (sortS xs).Pairwise fun a b => strLe a b = true := List.pairwise_mergeSort strLe_trans strLe_total xs
theorem sortS_perm (xs : List Str) : (sortS xs).Perm xs := List.mergeSort_perm _ _
theorem sortS_one {xs ys : List Str} (hp : ys.Perm xs) (hs : ys.Pairwise fun a b => strLe a b = true) : ys = sortS xs :=
  List.Perm.eq_of_pairwise (fun a b _ _ h1 h2 => strLe_antisymm a b h1 h2) hs (sortS_pairwise xs) (hp.trans (sortS_perm xs).symm)
theorem sortD_strs (xs : List Str) : sortD (xs.map .str) = (sortS xs).map .str := by
  have := PySem.W.sort_maps (r := strLe) (s := dataLe false fun d : PyData => d) PyData.str (l := xs) fun a _ b _ => by
    show strLe a b = !dataLt (.str b) (.str a)
    rw [PySem.W.dataLt_str, PySem.W.not_lt_str]; rfl
  exact this.symm
theorem rising_pw : ∀ (l : List Str) (p : Str), risingS p l = true → (p :: l).Pairwise fun a b => strLe a b = true
  | [], p, _ => by simp
  | x :: r, p, h => by
    simp only [risingS, Bool.and_eq_true] at h
    have ih := rising_pw r x h.2
    have hx : strLe p x = true := by
      have h1 : (!decide (x.cps.toList < p.cps.toList)) = true := by
        have h1 := h.1
        rw [ltCps_eq] at h1
        exact h1
      rw [PySem.W.not_lt_str] at h1
      exact h1
    refine List.pairwise_cons.mpr ⟨fun y hy => ?_, ih⟩
    rcases List.mem_cons.mp hy with rfl | hy
    · exact hx
    · exact strLe_trans p x y hx ((List.pairwise_cons.mp ih).1 y hy)
theorem sorted_pw {l : List Str} (h : sortedS l = true) : l.Pairwise fun a b => strLe a b = true := by
  cases l with
  | nil => simp
  | cons x r => exact rising_pw r x h
def strKeys : List (PyData × PyData) → Option (List Str)
  | [] => some []
  | (.str x, _) :: r => (strKeys r).map (x :: ·)
  | _ :: _ => none
theorem strKeys_isKD : ∀ {kvs : List (PyData × PyData)} {ks : List Str}, strKeys kvs = some ks → kvs.all (fun p => isKD p.1) = true ∧ keysD kvs = ks.map .str
  | [], ks, h => by simp only [strKeys, Option.some.injEq] at h; subst h; exact ⟨rfl, rfl⟩
  | (d, v) :: r, ks, h => by
    cases d with
    | str x =>
      simp only [strKeys, Option.map_eq_some_iff] at h
      obtain ⟨l, h1, rfl⟩ := h
      obtain ⟨h2, h3⟩ := strKeys_isKD h1
      exact ⟨by simp only [List.all_cons, Bool.and_eq_true]; exact ⟨rfl, h2⟩, by simp only [keysD, List.map_cons] at h3 ⊢; rw [h3]⟩
    | _ => simp [strKeys] at h
def gSortK : List PyData → Option PyData
  | [.dict kvs] => (strKeys kvs).bind fun ks => if ks.length < 64 then some (.list ((sortS ks).map .str)) else none
  | _ => none
theorem fza_strs {K : PySem.W.Frag} {F : Hp} : ∀ l : List Str, FzA K F (l.map V.str) (l.map PyData.str)
  | [] => .nil
  | c :: r => .cons (.str c) (fza_strs r)
theorem keys_inr : ∀ {ks : List Key} {xs : List Str}, ks.map keyD = xs.map .str → ks = xs.map Sum.inr
  | [], [], _ => rfl
  | [], _ :: _, h => by simp at h
  | _ :: _, [], h => by simp at h
  | k :: ks, x :: xs, h => by
    simp only [List.map_cons, List.cons.injEq] at h
    rw [List.map_cons, keys_inr h.2]
    cases k with
    | inl i => simp [keyD] at h
    | inr y => simp only [keyD, PyData.str.injEq] at h; rw [h.1]
theorem calld_sortK (hc : X.calm = true) : CallD X (.builtin "sorted") gSortK := by
  refine ⟨_, call_sortedD hc, fun F H xs ds z Q s vx eq q => ?_⟩
  unfold gSortK at eq
  split at eq
  · rename_i kvs
    simp only [Option.bind_eq_some_iff] at eq
    obtain ⟨ks, e1, e2⟩ := eq
    split at e2
    · rename_i h64
      cases e2
      obtain ⟨hk, hkd⟩ := strKeys_isKD e1
      cases vx with
      | cons a t =>
        cases t
        obtain ⟨d, ks', us, rfl, hp, hl, hkeys⟩ := Vw.dct a s hk
        rw [hkd] at hkeys
        have hin := keys_inr hkeys.symm
        refine ⟨d, _, ks, rfl, hp, ?_, h64, fun ys p hperm hs n => ?_⟩
        · rw [List.map_fst_zip (by omega), hin]
        · rw [sortS_one hperm (sorted_pw hs)]
          exact q _ _ _ (.one n) (.lst (.of upd_same) (fza_strs _))
    · cases e2
  · cases eq
def gSorted : List PyData → Option PyData := fun ds => (gSortL ds).or (gSortK ds)
theorem calld_sorted (hc : X.calm = true) (hu : X.A.units + 65 < cLine) : CallD X (.builtin "sorted") gSorted := (calld_sortL hu).or (calld_sortK hc)
end
end Pd

set_option Elab.async false
set_option linter.all false
set_option maxRecDepth 100000
set_option maxHeartbeats 1000000
/-! The layer Pd, part U: x[::-1], d.get(k), dict(d). -/
namespace HT
open PySem PySem.Spec PyProof.Rows L2
section
variable {prog : Program} {w : World} {A : Around} {E : Value → Shared → Prop} {s : Shared}
theorem back_adjust (n : Nat) : Builtin.Slice.sliceAdjust none none (-1) (n : Int) = ((n : Int) - 1, -1) := by
  unfold Builtin.Slice.sliceAdjust
  simp
theorem back_places (n : Nat) : Builtin.Slice.slicePlaces ((n : Int) - 1) (-1) (-1) = n := by
  unfold Builtin.Slice.slicePlaces
  have h1 : ¬ ((-1 : Int) > 0) := by decide
  simp only [h1, if_false]
  by_cases h : (n : Int) - 1 > -1
  · rw [if_pos h]
    have : ((n : Int) - 1 - -1 - 1) / (- -1) = (n : Int) - 1 := by
      rw [show (- -1 : Int) = 1 by decide, Int.ediv_one]; omega
    rw [this]; omega
  · rw [if_neg h]
    simp; omega
theorem fm_congr {α β : Type} {f g : α → Option β} : ∀ {l : List α}, (∀ a ∈ l, f a = g a) → l.filterMap f = l.filterMap g
  | [], _ => rfl
  | a :: l, h => by
    rw [List.filterMap_cons, List.filterMap_cons, h a List.mem_cons_self, fm_congr fun b hb => h b (List.mem_cons_of_mem _ hb)]
theorem back_pick (xs : Array Value) : ((List.range xs.size).filterMap fun (m : Nat) => xs[(((xs.size : Int) - 1) + (m : Int) * (-1)).toNat]?).toArray = xs.toList.reverse.toArray := by
  have e1 : (List.range xs.size).filterMap (fun (m : Nat) => xs[(((xs.size : Int) - 1) + (m : Int) * (-1)).toNat]?) = ((List.range xs.size).map fun k => xs.size - 1 - k).filterMap (xs[·]?) := by
    rw [List.filterMap_map]
    refine fm_congr fun m hm => ?_
    have := List.mem_range.mp hm
    have e : (((xs.size : Int) - 1) + (m : Int) * (-1)).toNat = xs.size - 1 - m := by omega
    simp only [Function.comp_apply, e]
  rw [e1, PySem.W.krv_range, List.filterMap_reverse, PySem.W.krv_all]
theorem back_applied {sl : Addr} {vs : Value} {n : Nat} {Q : Int × Int × Nat → Shared → Prop} (hsl : s.heap.IsSliceOf sl .none .none vs) (pst : IsPart vs (some (-1)))
    (hq : Q ((n : Int) - 1, -1, n) s) : wpAny (model prog w) A (Builtin.Slice.sliceApplied (.ref sl) (pure (n : Int))) Q E s := by
  obtain ⟨ob, hob, _, hda⟩ := hsl
  unfold Builtin.Slice.sliceApplied Builtin.Slice.sliceFields
  have f0 := fun (R : Value → Shared → Prop) (h : R .none s) => wpAny_field (M := model prog w) (A := A) (E := E) (Q := R) hob hda (x := .none) (i := 0) rfl h
  refine wpAny_bind (wpAny_bind (f0 _ (wpAny_bind (wpAny_field hob hda (x := .none) (i := 1) rfl (wpAny_bind (wpAny_field hob hda (x := vs) (i := 2) rfl (wpAny_pure ?_)))))))
  refine wpAny_bind (slicePart_ pst ?_)
  show wpAny _ _ (if ((-1 : Int) == 0) = true then _ else _) _ _ s
  rw [if_neg (by decide)]
  refine wpAny_bind (slicePart_none (wpAny_bind (slicePart_none (wpAny_bind (wpAny_pure ?_)))))
  show wpAny _ _ (match Builtin.Slice.sliceAdjust none none (-1) (n : Int) with | (lo, hi) => pure (lo, (-1 : Int), Builtin.Slice.slicePlaces lo hi (-1))) _ _ s
  rw [back_adjust]
  show wpAny _ _ (pure ((n : Int) - 1, (-1 : Int), Builtin.Slice.slicePlaces ((n : Int) - 1) (-1) (-1))) _ _ s
  rw [back_places]
  exact wpAny_pure hq
/-- t[::-1], t a tuple -/
theorem back_tuple {t sl : Addr} {items : Array Value} {vs : Value} {Q : Value → Shared → Prop} (tup : IsTup s.heap t items) (hsl : s.heap.IsSliceOf sl .none .none vs) (pst : IsPart vs (some (-1)))
    (hq : Q (.ref s.heap.objs.size) { s with heap := s.heap.push { cls := .type "tuple", data := .seq items.toList.reverse.toArray } }) (small : items.size ≤ sizeLine) : wpAny (model prog w) A (getItem (.ref t) (.ref sl)) Q E s := by
  have room : sizeOk (.seq items.toList.reverse.toArray) := by
    show items.toList.reverse.toArray.size ≤ sizeLine
    simpa using small
  obtain ⟨ob, hob, hcl, _⟩ := id hsl
  have isSl : s.TypeIs (.ref sl) "slice" := ⟨ob, hob, hcl⟩
  unfold getItem
  try with_reducible refine wpAny_holding ?_
  first | refine wpAny_bind (wpAny_pure ?_) | skip
  refine wpAny_bind (wpAny_sequenceKey tup.typeIs (by decide) ?_)
  refine wpAny_bind (wpAny_callSpecial?_slot (name := Str.ofString "__getitem__") tup.typeIs PyProof.Rows.slot_tuple_getitem (wpAny_call_entry PyProof.Rows.slot_tuple_getitem tup.typeIs entry_tuple_getitem ?_ (args_tuple_getitem _ _)))
  show wpAny _ _ (Builtin.Tuple.tupleItemsOf (.ref t) >>= _) _ _ s
  refine wpAny_bind (tupleItemsOf_ tup (wpAny_bind (wpAny_typeOf isSl ?_)))
  rw [if_pos (by decide)]
  refine wpAny_bind (back_applied hsl pst ?_)
  have turned : ¬ ((((items.size : Int) - 1) == 0 && (-1 : Int) == 1 && items.size == items.size) = true) := by
    intro q
    rw [Bool.and_eq_true, Bool.and_eq_true] at q
    exact absurd q.1.2 (by decide)
  show wpAny _ _ (if (((items.size : Int) - 1) == 0 && (-1 : Int) == 1 && items.size == items.size) = true then _ else _) _ _ s
  rw [if_neg turned, back_pick]
  first
    | exact wpAny_bind (m := Builtin.Tuple.tupleExact _) (wpAny_newObj_type (wpAny_pure ⟨_, rfl, wpAny_pure hq⟩) room)
    | exact wpAny_bind (wpAny_bind (m := Builtin.Tuple.tupleExact _) (wpAny_newObj_type (wpAny_pure (wpAny_pure ⟨_, rfl, wpAny_pure hq⟩)) room))
    | exact wpAny_bind (wpAny_bind (m := Builtin.Tuple.tupleExact _) (wpAny_newObj_type (wpAny_pure ⟨_, rfl, wpAny_pure hq⟩) room))
    | exact wpAny_bind (m := Builtin.Tuple.tupleExact _) (wpAny_newObj_type (wpAny_bind (wpAny_pure (wpAny_pure ⟨_, rfl, wpAny_pure hq⟩))) room)
end
end HT
namespace Pd
open PySem PySem.Spec PyProof.Rows L2
/-- x[::-1] of a list or a tuple -/
def tRevA (K : PySem.W.Frag) (te : TE) : TE := fun σ H Q => te σ H fun x H1 => ∃ a xs, x = .ref a ∧ ((SqL K H1 a xs ∧ ∀ p, H1 p = none → Q (.ref p) (upd H1 p (.lst xs.reverse))) ∨ (SqT K H1 a xs ∧ TupQ H1 xs.reverse Q))
section
variable {X : Cx}
theorem pe_revAny {e : Expr} {te : TE} {k : Nat} {p1 p2 p3 pos : Pos} (he : PE X e te) : PE X (.Subscript e (.Slice none none (some (.UnaryOp .USub (.Constant (.int 1) k p1) p2)) p3) pos) (tRevA X.K te) := by
  refine ⟨fun pins s σ H Q I h => Subscript_ (thn (he.run pins s σ H _ I h) fun v s1 ⟨x, H1, I1, r1, a, xs, ex, hx⟩ => ?_)⟩
  subst ex
  cases r1
  have stp : PO X (some (.UnaryOp .USub (.Constant (.int 1) k p1) p2)) (tPart (tUn (rU fun i => .int (-i)) (tC (.int 1)))) := po_some (pe_un un_neg pe_int)
  refine wpAny_Slice ?_
  rw [evalPart_none]
  refine wpAny_pure (wpAny_pure (thn (stp.run pins s1 σ H1 (fun o H4 => o = some (-1) ∧ H4 = H1) I1 ⟨1, rfl, -1, rfl, rfl, rfl⟩) fun vs s4 ⟨o, H4, I4, ps, eo, e4⟩ => ?_))
  subst eo e4
  have I5 : Inv X pins σ H4 { s4 with heap := s4.heap.push { cls := .type "slice", data := .fields #[.none, .none, vs] } } := I4.kept (t' := s4.toks) fun b ob q => Heap.get?_push_of_some _ q
  have hsl := Heap.IsSliceOf.new s4.heap .none .none vs
  show wpAny (model X.prog X.w) X.A (subscriptTail e (.Slice none none (some (.UnaryOp .USub (.Constant (.int 1) k p1) p2)) p3) (.ref a) (.ref s4.heap.objs.size)) (EP X pins σ Q) X.xe { s4 with heap := s4.heap.push { cls := .type "slice", data := .fields #[.none, .none, vs] } }
  rcases hx with ⟨hx, q⟩ | ⟨hx, q⟩
  · obtain ⟨its, r, ht, hz⟩ := I5.list hx
    have hlen := r.length
    refine tail_any (ops := [.ref a, .ref s4.heap.objs.size]) ht.isList.typeIs PySem.slot_list_getitem.lookup ?_ (by with_unfolding_all rfl)
    refine wpAny_getItem_list_slice ht.isList hsl .none .none ps (by decide) ?_ (by rw [List.size_toArray]; omega)
    rw [PySem.W.krv_pick]
    exact ⟨.ref _, _, I5.laid (t' := s4.toks) (o := .lst xs.reverse) (fun b ob q => Heap.get?_push_of_some _ q) (Nat.le_refl _) ⟨by rw [List.length_reverse]; exact hz, _, 0, r.reverse, Heap.get?_push_size _ rfl⟩, rfl, q _ (I5.hok.fresh (Nat.le_refl _))⟩
  · obtain ⟨its, r, ht, hz⟩ := I5.tuple hx
    have hlen := r.length
    refine tail_any (ops := [.ref a, .ref s4.heap.objs.size]) ht.typeIs PyProof.Rows.slot_tuple_getitem.lookup ?_ (by with_unfolding_all rfl)
    refine HT.back_tuple ht hsl ps ?_ (by rw [List.size_toArray]; omega)
    exact q.run I5 (by rw [List.length_reverse]; exact hz) r.reverse
def dRev : PyData → Option PyData
  | .list ds => some (.list ds.reverse)
  | .tuple ds => some (.tuple ds.reverse)
  | _ => none
theorem FzA.reverse {K : PySem.W.Frag} {F : Hp} {vs : List V} {ds : List PyData} (h : FzA K F vs ds) : FzA K F vs.reverse ds.reverse := by
  induction vs generalizing ds with
  | nil => cases h; exact .nil
  | cons v vs ih =>
    cases h with
    | cons a t =>
      rw [List.reverse_cons, List.reverse_cons]
      exact (ih t).append (.cons a .nil)
theorem ped_rev {e : Expr} {f : XM} {k : Nat} {p1 p2 p3 pos : Pos} (he : PEd X e f) : PEd X (.Subscript e (.Slice none none (some (.UnaryOp .USub (.Constant (.int 1) k p1) p2)) p3) pos) (mUn dRev f) := by
  obtain ⟨t, p, h1⟩ := he
  refine ⟨_, pe_revAny p, fun bs ρ σ os vs P H Q r P' R e q => ?_⟩
  simp only [mUn, Option.bind_eq_some_iff, Option.map_eq_some_iff, Prod.mk.injEq] at e
  obtain ⟨⟨s1, P1⟩, e1, d, e2, z, e3, rfl, rfl⟩ := e
  refine h1 bs ρ σ os vs P H _ s1 P1 R e1 fun x H1 R1 => ?_
  obtain ⟨F, ad, R1⟩ := R1
  obtain ⟨r1, R2⟩ := R1.pop
  have vw := R2.view r1 e2
  unfold dRev at e3
  split at e3
  · cases e3
    obtain ⟨a, us, rfl, hp, t⟩ := vw.lists R2.sub
    refine ⟨a, us, rfl, .inl ⟨hp, fun p n => q _ _ ⟨_, ad, (R2.lay n).push ?_⟩⟩⟩
    exact .lst (.of upd_same) (t.reverse.mono (upd_le (R2.free n)))
  · cases e3
    obtain ⟨a, us, rfl, hp, t, _⟩ := vw.tups R2.sub
    exact ⟨a, us, rfl, .inr ⟨hp.sqT, tupQ_rel R2 t.reverse q⟩⟩
  · cases e3
/-- d.get(k) -/
def mGet1 (fd fk : XM) : XM := fun ρ P => (fd ρ P).bind fun (d, P1) => (dictOf P1 d).bind fun _ => (fk ρ P1).bind fun (k, P2) => (flat P2 k).bind fun kd => (dictOf P2 d).bind fun D => (dlook D kd).map fun o => (o.getD (.fz .none), P2)
theorem ped_get1 {o i : Expr} {fd fk : XM} {apos cpos : Pos} (hu : X.A.units + 65 < cLine) (hd : PEd X o fd) (hk : PEd X i fk) (m : M1 X o "get" apos i cpos := by exact ⟨rfl, rfl, rfl, rfl⟩) : PEd X (.Call (.Attribute o "get" apos) [i] [] cpos) (mGet1 fd fk) := by
  obtain ⟨t, p, h1⟩ := hd
  obtain ⟨u, p', h2⟩ := hk
  refine ⟨_, pe_dget1 (by omega) p p' m, fun bs ρ σ os vs P H Q w P' R e q => ?_⟩
  simp only [mGet1, Option.bind_eq_some_iff, Option.map_eq_some_iff, Prod.mk.injEq] at e
  obtain ⟨⟨s1, P1⟩, e1, D0, e0, ⟨s2, P2⟩, e2, kd, e4, D, e5, r, e6, rfl, rfl⟩ := e
  refine h1 bs ρ σ os vs P H _ s1 P1 R e1 fun x H1 R1 => ?_
  have ha : ∃ a, x = .ref a ∧ IsD H1 a := by
    obtain ⟨F, ad, R1⟩ := R1
    obtain ⟨r1, _⟩ := R1.pop
    obtain ⟨a, e, d⟩ := R1.dct r1 e0
    exact ⟨a, e, isD_of d⟩
  obtain ⟨a, rfl, hD⟩ := ha
  refine ⟨a, rfl, hD, h2 bs ρ σ _ _ P1 H1 _ s2 P2 R1 e2 fun y H2 R2 => ?_⟩
  obtain ⟨F, ad, R2⟩ := R2
  obtain ⟨r2, R3⟩ := R2.pop
  obtain ⟨r1, R4⟩ := R3.pop
  obtain ⟨a', ea, hd⟩ := R2.dct r1 e5
  cases ea
  rcases dget_of R2.sub hd (R2.view r2 e4) e6 with ⟨rfl, g⟩ | ⟨z', v, rfl, g, rr⟩
  · exact ⟨_, g, q _ _ ⟨F, ad, R4.push (show SVR X.K F ad .non (.fz .none) from Fz.non)⟩⟩
  · exact ⟨_, g, q _ _ ⟨F, ad, R4.push rr⟩⟩
/-- dict(d): a new dict that may change -/
def mDictC (f : XM) : XM := fun ρ P => (f ρ P).bind fun (a, P1) => (dictOf P1 a).bind fun D => match D with
  | .k l => some (.ptr P1.length, P1 ++ [.dK l])
  | .t _ => none
theorem ped_dictC {e : Expr} {f : XM} {p : Pos} {pos : Pos} (hg : Gl X "dict") (hm : X.mg "dict" = none) (ha : PEd X e f)
    (he : starEach [e] X.env = (false, eval e X.env) :: starEach [] X.env := by rfl) (hpl : (backTo pos (starEach [] X.env)).any (·.1) = false := by rfl) : PEd X (.Call (.Name "dict" p) [e] [] pos) (mDictC f) := by
  obtain ⟨t, p, h1⟩ := pad_cons ha pad_nil he
  refine ⟨_, pe_callTy call_dictD hg hm (by decide +kernel) p (he := he) (hpl := hpl), fun bs ρ σ os vs P H Q r P' R e q => ?_⟩
  simp only [mDictC, Option.bind_eq_some_iff] at e
  obtain ⟨⟨a, P1⟩, e1, D, e2, e3⟩ := e
  refine h1 bs ρ σ os vs P H _ [a] P1 R (by simp only [aCons, aNil, e1, Option.bind_some, Option.map_some]) fun ws H1 hl R1 => ?_
  obtain ⟨F, ad, R1⟩ := R1
  obtain ⟨ra, R2⟩ := R1.args hl
  cases ra with
  | cons r1 ra =>
    cases ra
    cases D with
    | t l => cases e3
    | k l =>
      simp only [Option.some.injEq, Prod.mk.injEq] at e3
      obtain ⟨rfl, rfl⟩ := e3
      obtain ⟨d, rfl, xs, hp, t⟩ := R2.dct r1 e2
      exact ⟨d, _, rfl, hp, fun b n => q _ _ ⟨F, _, R2.cell (c := .dK l) n fun ad' pr => ⟨R2.free n, xs, upd_same, t.mono (.refl _) pr⟩⟩⟩
/-- l.index(x), t.index(x), x there (t not of ints and texts alone) -/
def gIndex : PyData → PyData → Option Nat
  | .list ds, kd => if SeqAt.shaped (.list ds) = true ∧ SeqAt.shaped kd = true then ds.findIdx? fun y => PyData.eqv y kd else none
  | _, _ => none
def gIndexT (ds : List PyData) (kd : PyData) : Option Nat := if keyAll ds = false ∧ SeqAt.shaped (.tuple ds) = true ∧ SeqAt.shaped kd = true then ds.findIdx? fun y => PyData.eqv y kd else none
def isLD : Option PyData → Bool
  | some (.list _) => true
  | _ => false
def mIndex (fo fk : XM) : XM := fun ρ P => (fo ρ P).bind fun (o, P1) => match o with
  | .fz (.tuple ds) => if keyAll ds = false then (fk ρ P1).bind fun (k, P2) => (flat P2 k).bind fun kd => (gIndexT ds kd).map fun (j : Nat) => (.fz (.int j), P2) else none
  | o => if isLD (flat P1 o) = true then (fk ρ P1).bind fun (k, P2) => (flat P2 o).bind fun d => (flat P2 k).bind fun kd => (gIndex d kd).map fun (j : Nat) => (.fz (.int j), P2) else none
theorem idx_fin {ds : List PyData} {kd : PyData} {j : Nat} (h : ds.findIdx? (fun y => PyData.eqv y kd) = some j) : ∃ z, ds[j]? = some z ∧ PyData.eqv z kd = true ∧ ∀ (m : Nat) (z' : PyData), m < j → ds[m]? = some z' → PyData.eqv z' kd = false := by
  obtain ⟨hj, h3, h4⟩ := List.findIdx?_eq_some_iff_getElem.mp h
  refine ⟨ds[j], List.getElem?_eq_getElem hj, h3, fun m z' hm hz => ?_⟩
  obtain ⟨hm2, rfl⟩ := List.getElem?_eq_some_iff.mp hz
  have := h4 m hm
  simpa using this
theorem ped_index {o e : Expr} {fo fe : XM} {apos cpos : Pos} (hu : X.A.units + 65 < cLine) (ho : PEd X o fo) (ha : PEd X e fe)
    (hbase : attributeBase o "index" X.env (eval o X.env) = eval o X.env := by rfl)
    (hfew : ((backTo cpos (starEach [e] X.env)).all (fun x => !x.1) && (backToKw cpos (keywordEach [] X.env)).all (fun x => x.1.isSome) && decide ([e].length + ([] : List Keyword).length + (if ([] : List Keyword).isEmpty then 0 else 1) < 30)) = true := by rfl)
    (hline : (apos.endLine == cpos.line) = true := by rfl) (hs : starEach [e] X.env = (false, eval e X.env) :: starEach [] X.env := by rfl) (hplain : (backTo cpos (starEach [] X.env)).any (·.1) = false := by rfl) :
    PEd X (.Call (.Attribute o "index" apos) [e] [] cpos) (mIndex fo fe) := by
  obtain ⟨t, p, h1⟩ := ho
  obtain ⟨u, p2, h2⟩ := pad_cons ha pad_nil hs
  refine ⟨_, pe_idx hu p p2 (hbase := hbase) (hfew := hfew) (hline := hline) (hs := hs) (hplain := hplain), fun bs ρ σ os vs P H Q r P' R e q => ?_⟩
  simp only [mIndex, Option.bind_eq_some_iff] at e
  obtain ⟨⟨s1, P1⟩, e1, e2⟩ := e
  refine h1 bs ρ σ os vs P H _ s1 P1 R e1 fun x H1 R1 => ?_
  simp only at e2
  split at e2
  · rename_i ds
    split at e2
    · rename_i hk
      simp only [Option.bind_eq_some_iff, Option.map_eq_some_iff, Prod.mk.injEq] at e2
      obtain ⟨⟨s2, P2⟩, e3, kd, e5, j, e6, rfl, rfl⟩ := e2
      have h2' := fun Q' => h2 bs ρ σ _ _ P1 H1 Q' [s2] P2 R1 (by simp only [aCons, aNil, e3, Option.bind_some, Option.map_some])
      obtain ⟨F, ad, R1⟩ := R1
      obtain ⟨r1, R2⟩ := R1.pop
      obtain ⟨a, us, rfl, hp, _⟩ := (Vw.fz (H := H1) r1).tups R2.sub
      obtain ⟨ob, g1, g2, g3⟩ := hp.known hk
      refine ⟨a, us, rfl, .inr ⟨ob, g1, g2, g3, h2' _ fun ws H2 hl R2 => ?_⟩⟩
      obtain ⟨F, ad, R2⟩ := R2
      obtain ⟨ra, R3⟩ := R2.args hl
      cases ra with
      | cons r2 ra =>
        cases ra
        obtain ⟨r1, R4⟩ := R3.pop
        have v1 : Vw X.K F H2 (.ref a) (.tuple ds) := .fz r1
        have v2 := R4.view r2 e5
        unfold gIndexT at e6
        split at e6
        · rename_i hsh
          obtain ⟨z, k1, k2, k3⟩ := idx_fin e6
          exact ⟨a, _, _, ds, j, z, rfl, rfl, v1.dp R4.sub (shaped_lay hsh.2.1), v2.dp R4.sub (shaped_lay hsh.2.2), hsh.2.1, hsh.2.2, k1, k2, k3, q _ _ (R4.atom (.int _))⟩
        · cases e6
    · cases e2
  · split at e2
    · rename_i hL
      simp only [Option.bind_eq_some_iff, Option.map_eq_some_iff, Prod.mk.injEq] at e2
      obtain ⟨⟨s2, P2⟩, e3, d, e4, kd, e5, j, e6, rfl, rfl⟩ := e2
      have h2' := fun Q' => h2 bs ρ σ _ _ P1 H1 Q' [s2] P2 R1 (by simp only [aCons, aNil, e3, Option.bind_some, Option.map_some])
      obtain ⟨F, ad, R1⟩ := R1
      obtain ⟨r1, R2⟩ := R1.pop
      cases hf : flat P1 s1 with
      | none => rw [hf] at hL; cases hL
      | some d1 =>
        rw [hf] at hL
        unfold isLD at hL
        split at hL
        · rename_i ds e
          cases e
          obtain ⟨a, us, rfl, hp, _⟩ := (R2.view r1 hf).lists R2.sub
          refine ⟨a, us, rfl, .inl ⟨hp, h2' _ fun ws H2 hl R2 => ?_⟩⟩
          obtain ⟨F, ad, R2⟩ := R2
          obtain ⟨ra, R3⟩ := R2.args hl
          cases ra with
          | cons r2 ra =>
            cases ra
            obtain ⟨r1, R4⟩ := R3.pop
            have v1 := R4.view r1 e4
            have v2 := R4.view r2 e5
            unfold gIndex at e6
            split at e6
            · rename_i ds
              split at e6
              · rename_i hsh
                obtain ⟨z, k1, k2, k3⟩ := idx_fin e6
                exact ⟨a, _, _, ds, j, z, rfl, rfl, v1.dp R4.sub (shaped_lay hsh.1), v2.dp R4.sub (shaped_lay hsh.2), hsh.1, hsh.2, k1, k2, k3, q _ _ (R4.atom (.int _))⟩
              · cases e6
            · cases e6
        · cases hL
    · cases e2
/-- .. run -/
theorem mIndex_t {fo fk : XM} {ρ : EV} {P P1 P2 : Store} {ds : List PyData} {k : SV} {kd : PyData} {j : Nat} (h1 : fo ρ P = some (.fz (.tuple ds), P1)) (hk : keyAll ds = false) (h2 : fk ρ P1 = some (k, P2)) (h3 : flat P2 k = some kd) (h4 : gIndexT ds kd = some j) : mIndex fo fk ρ P = some (.fz (.int j), P2) := by
  simp only [mIndex, h1, Option.bind_some, hk, if_true, h2, h3, h4, Option.map_some]
theorem mIndex_l {fo fk : XM} {ρ : EV} {P P1 P2 : Store} {ds : List PyData} {k : SV} {kd : PyData} {j : Nat} (h1 : fo ρ P = some (.fz (.list ds), P1)) (h2 : fk ρ P1 = some (k, P2)) (h3 : flat P2 k = some kd) (h4 : gIndex (.list ds) kd = some j) : mIndex fo fk ρ P = some (.fz (.int j), P2) := by
  have e : ∀ Q, flat Q (.fz (.list ds)) = some (.list ds) := fun _ => rfl
  simp only [mIndex, h1, Option.bind_some, e, isLD, if_true, h2, h3, h4, Option.map_some]
end
end Pd

set_option Elab.async false
set_option linter.all false
set_option maxRecDepth 100000
set_option maxHeartbeats 1000000
/-! The layer Pd, part V: comprehensions of two fors. -/
namespace Pd
open PySem PySem.Spec PyProof.Rows L2
/-- the turns of the inner for -/
theorem lc_in {K : PySem.W.Frag} {J : It} {items : List PyData} {src : SV} {w : V} (ok : ItOk K J items src w) {g : GM} {ts : List Nat} {tt : BM} {te : XM} {own : List Nat} {n : Nat} {bs : List Nat} {ρ : EV} {σ : L2.St} {os : List SV} {vs : List V} {P : Store} {H1 : Hp} {S : Store} {Df : Hp → Prop} {D : Addr}
    (hts : ∀ i ∈ ts, i ∈ own) (hbn : ρ.b = n)
    (R : Rel K (n :: bs) ρ σ (src :: .ptr n :: os) (w :: .ref D :: vs) P H1) (e : lcGo g tt te { ρ.wipe own with b := n } n items P = some S)
    (q : ∀ ρ' σ' H, ρ'.b = n → Rel K (n :: bs) ρ' σ' (.ptr n :: os) (.ref D :: vs) S H → Df H) :
    ∃ W : Nat → Nat → Hp → Prop, (∃ m, W 0 m H1) ∧ ∀ i m H, W i m H →
      (J.stop i H ∧ Df H) ∨ (J.go i H ∧ ∃ Nx : Hp → Prop, (∀ H', Nx H' → ∃ m', m' < m ∧ W (i + 1) m' H') ∧ ∀ x H', J.yld i H x H' → tMG K ts g x (L2.wipe σ own) H' fun σ2 H2 => L2.wipe σ2 own = L2.wipe σ own ∧ tMT K tt σ2 H2 fun b H3 =>
        if b = true then tM K te σ2 H3 fun y H4 => ∃ acc, H4 D = some (.lst acc) ∧ acc.length < sizeLine ∧ Nx (upd H4 D (.lst (acc ++ [y]))) else Nx H3) := by
  have hls : ∃ (ls : List SV) (ws : List V), ws.length = ls.length ∧ (∀ F ad, SVA K F ad ws ls → SlR K F ad ρ.sl σ) ∧ Rel K (n :: bs) ρ σ (.ptr n :: src :: (ls ++ os)) (.ref D :: w :: (ws ++ vs)) P H1 := by
    obtain ⟨F, ad, R⟩ := R
    obtain ⟨ls, ws, a, b⟩ := R.slots.list
    obtain ⟨r, R1⟩ := R.pop
    obtain ⟨r2, R2⟩ := R1.pop
    exact ⟨ls, ws, a.length, b, F, ad, R.tops_of (.cons r2 (.cons r (a.append R2.tops)))⟩
  obtain ⟨ls, ws, hlen, hb, Rl⟩ := hls
  refine ⟨fun i m H => m = items.length - i ∧ i ≤ items.length ∧ ∃ T ρx σx, ρx.b = n ∧ Rel K (n :: bs) ρx σx (.ptr n :: src :: (ls ++ os)) (.ref D :: w :: (ws ++ vs)) T H ∧ lcGo g tt te { ρ.wipe own with b := n } n (items.drop i) T = some S, ⟨_, rfl, Nat.zero_le _, _, _, _, hbn, Rl, by simpa using e⟩, ?_⟩
  rintro i m H ⟨rfl, hle, T, ρx, σx, hbx, RT, eT⟩
  have under : Rel K (n :: bs) ρx σx (src :: .ptr n :: (ls ++ os)) (w :: .ref D :: (ws ++ vs)) T H := by
    obtain ⟨F, ad, R⟩ := RT
    obtain ⟨r1, R1⟩ := R.pop
    obtain ⟨r2, R2⟩ := R1.pop
    exact ⟨F, ad, (R2.push r1).push r2⟩
  obtain ⟨ok1, ok2⟩ := ok _ _ _ _ _ _ _ i under
  by_cases hlt : i < items.length
  · obtain ⟨go, yl⟩ := ok1 hlt
    refine .inr ⟨go, fun H => ∃ T ρx σx, ρx.b = n ∧ Rel K (n :: bs) ρx σx (.ptr n :: src :: (ls ++ os)) (.ref D :: w :: (ws ++ vs)) T H ∧ lcGo g tt te { ρ.wipe own with b := n } n (items.drop (i + 1)) T = some S, fun H' ⟨T', ρ', σ', b', R', e'⟩ => ⟨items.length - (i + 1), by omega, rfl, hlt, T', ρ', σ', b', R', e'⟩, fun x H' hy => ?_⟩
    obtain ⟨d, hd, R3⟩ := yl x H' hy
    rw [List.drop_eq_getElem_cons hlt] at eT
    have ed : items[i] = d := by rw [List.getElem?_eq_getElem hlt] at hd; exact Option.some.inj hd
    rw [ed] at eT
    simp only [lcGo, Option.bind_eq_some_iff] at eT
    obtain ⟨⟨ρ4, P4⟩, e4, ⟨b, P5⟩, e5, e6⟩ := eT
    have R4 : Rel K (n :: bs) { ρ.wipe own with b := n } (L2.wipe σ own) (.fz d :: .ptr n :: src :: (ls ++ os)) (x :: .ref D :: w :: (ws ++ vs)) T H' := by
      obtain ⟨F, ad, R⟩ := R3
      obtain ⟨r0, R1⟩ := R.pop
      obtain ⟨r1, R2⟩ := R1.pop
      obtain ⟨r2, R3⟩ := R2.pop
      have sp := (SVA.split hlen R3.tops).1
      refine ⟨F, ad, { R with slots := (hb F ad sp).wipe own, tops := .cons r0 (.cons r2 (.cons r1 R3.tops)), bb := fun c hc => ?_ }⟩
      have := R.bb c hc
      show c ≤ n
      rw [hbx] at this; exact this
    refine ⟨_, _, _, _, _, _, ρ4, P4, R4, e4, fun σ4 H4 R5 k4 => ⟨wipe_keeps hts k4, _, _, _, _, _, b, P5, R5, e5, fun H5 R6 => ?_⟩⟩
    simp only at e6
    have hb4 : ∀ {bs : List Nat} {os : List SV} {vs : List V} {P' : Store} {H : Hp}, Rel K (n :: bs) ρ4 σ4 os vs P' H → n ≤ ρ4.b := fun ⟨F, ad, R⟩ => R.bb _ List.mem_cons_self
    cases b with
    | true =>
      rw [if_pos rfl] at e6 ⊢
      simp only [Option.bind_eq_some_iff] at e6
      obtain ⟨⟨s, P6⟩, e7, e8⟩ := e6
      refine ⟨_, _, _, _, _, s, P6, R6, e7, fun y H6 R7 => ?_⟩
      simp only at e8
      split at e8
      · rename_i z acc hacc
        split at e8
        · rename_i hz
          obtain ⟨F, ad, R7⟩ := R7
          obtain ⟨ry, R8⟩ := R7.pop
          obtain ⟨rD, R9⟩ := R8.pop
          obtain ⟨a, ha, ea, hc⟩ := R8.at rD hacc
          cases ea
          obtain ⟨hF, xs, hx, tx⟩ := hc
          refine ⟨xs, hx, by rw [tx.length]; exact hz, P6.set n (.lst (acc ++ [.fz z])), { ρ4 with b := n }, σ4, rfl, ⟨F, ad, ?_⟩, e8⟩
          have R10 := R8.put (c := .lst (acc ++ [.fz z])) hacc ha hF ⟨hF, _, upd_same, tx.append (.cons ry .nil)⟩ (fun j hj => by
            refine .inl ?_
            simpa [Cell.ps, SV.ps] using hj)
          refine { R10 with slots := R10.slots, bb := fun c hc => ?_ }
          rcases List.mem_cons.mp hc with rfl | hc
          · exact Nat.le_refl _
          · obtain ⟨F0, ad0, R0⟩ := R
            exact hbn ▸ R0.bb c (List.mem_cons_of_mem _ hc)
        · cases e8
      · cases e8
    | false =>
      rw [if_neg Bool.false_ne_true] at e6 ⊢
      refine ⟨P5, { ρ4 with b := n }, σ4, rfl, ?_, e6⟩
      obtain ⟨F, ad, R6⟩ := R6
      refine ⟨F, ad, { R6 with slots := R6.slots, bb := fun c hc => ?_ }⟩
      rcases List.mem_cons.mp hc with rfl | hc
      · exact Nat.le_refl _
      · obtain ⟨F0, ad0, R0⟩ := R
        exact hbn ▸ R0.bb c (List.mem_cons_of_mem _ hc)
  · have : i = items.length := by omega
    subst this
    rw [List.drop_length] at eT
    simp only [lcGo, Option.some.injEq] at eT
    subst eT
    refine .inl ⟨ok2 (Nat.le_refl _), q ρx σx H hbx ?_⟩
    obtain ⟨F, ad, RX⟩ := RT
    obtain ⟨r1, R1⟩ := RX.pop
    obtain ⟨r2, R2⟩ := R1.pop
    obtain ⟨sp, so⟩ := SVA.split hlen R2.tops
    exact ⟨F, ad, RX.tops_of (.cons r1 so)⟩
def tMI (K : PySem.W.Frag) (f : IM) : TI := fun σ H R => ∃ (bs : List Nat) (ρ : EV) (os : List SV) (vs : List V) (P : Store) (items : List PyData) (src : SV) (P' : Store), Rel K bs ρ σ os vs P H ∧ f ρ P = some (items, src, P') ∧
  ∀ J v H' sr, Rel K bs ρ σ (sr :: os) (v :: vs) P' H' → ItOk K J items sr v → R J H'
theorem PId.canon {X : Cx} {tg iter : Expr} {f : IM} (h : PId X tg iter f) : PI X tg iter (tMI X.K f) := by
  obtain ⟨t, p, h1⟩ := h
  exact ⟨fun pins s σ H R I ⟨bs, ρ, os, vs, P, items, src, P', R1, e, q⟩ => p.run pins s σ H R I (h1 bs ρ σ os vs P H R items src P' R1 e q)⟩
def lc2Go (g : GM) (tt : BM) (f1 : IM) (own1 : List Nat) (g1 : GM) (tt1 : BM) (te : XM) (ρ : EV) (n : Nat) : List PyData → Store → Option Store
  | [], S => some S
  | d :: r, S => (g (.fz d) ρ S).bind fun (ρ1, S1) => (tt ρ1 S1).bind fun (b, S2) =>
    if b = true then (f1 ρ1 S2).bind fun (items, _, S3) => (lcGo g1 tt1 te { ({ ρ1 with b := n } : EV).wipe own1 with b := n } n items S3).bind fun S4 => lc2Go g tt f1 own1 g1 tt1 te ρ n r S4
    else lc2Go g tt f1 own1 g1 tt1 te ρ n r S2
/-- [te for g in f if tt for g1 in f1 if tt1] -/
def mLC2 (own own1 : List Nat) (f : IM) (g : GM) (tt : BM) (f1 : IM) (g1 : GM) (tt1 : BM) (te : XM) : XM := fun ρ P => (f ρ P).bind fun (items, _, P1) =>
  (lc2Go g tt f1 own1 g1 tt1 te { ρ.wipe own with b := P1.length } P1.length items (P1 ++ [.lst []])).bind fun S => match S[P1.length]? with
    | some (.lst acc) => (fzs acc).map fun ds => (.fz (.list ds), S.take P1.length)
    | _ => none
theorem lc2_go {K : PySem.W.Frag} {J : It} {items : List PyData} {src : SV} {w : V} (ok : ItOk K J items src w) {g g1 : GM} {ts ts1 : List Nat} {tt tt1 : BM} {f1 : IM} {te : XM} {own own1 : List Nat} {bs : List Nat} {ρ : EV} {σ : L2.St} {os : List SV} {vs : List V} {P : Store} {H1 : Hp} {S : Store} {Df : Hp → Prop} {D : Addr}
    (hts : ∀ i ∈ ts, i ∈ own) (hts1 : ∀ i ∈ ts1, i ∈ own1)
    (R : Rel K bs ρ σ (src :: os) (w :: vs) P H1) (hD : H1 D = none) (e : lc2Go g tt f1 own1 g1 tt1 te { ρ.wipe own with b := P.length } P.length items (P ++ [.lst []]) = some S)
    (q : ∀ H, Rel K (P.length :: bs) { ρ with b := P.length } σ (.ptr P.length :: src :: os) (.ref D :: w :: vs) S H → Df H) :
    ∃ W : Nat → Nat → Hp → Prop, (∃ m, W 0 m (upd H1 D (.lst []))) ∧ ∀ i m H, W i m H →
      (J.stop i H ∧ Df H) ∨ (J.go i H ∧ ∃ Nx : Hp → Prop, (∀ H', Nx H' → ∃ m', m' < m ∧ W (i + 1) m' H') ∧ ∀ x H', J.yld i H x H' → tMG K ts g x (L2.wipe σ own) H' fun σ2 H2 => L2.wipe σ2 own = L2.wipe σ own ∧ tMT K tt σ2 H2 fun b H3 =>
        if b = true then tMI K f1 σ2 H3 fun J1 H4 => ∃ W1 : Nat → Nat → Hp → Prop, (∃ m, W1 0 m H4) ∧ ∀ j k H, W1 j k H →
          (J1.stop j H ∧ Nx H) ∨ (J1.go j H ∧ ∃ Nx1 : Hp → Prop, (∀ H', Nx1 H' → ∃ k', k' < k ∧ W1 (j + 1) k' H') ∧ ∀ x H', J1.yld j H x H' → tMG K ts1 g1 x (L2.wipe σ2 own1) H' fun σ3 H5 => L2.wipe σ3 own1 = L2.wipe σ2 own1 ∧ tMT K tt1 σ3 H5 fun b H6 =>
            if b = true then tM K te σ3 H6 fun y H7 => ∃ acc, H7 D = some (.lst acc) ∧ acc.length < sizeLine ∧ Nx1 (upd H7 D (.lst (acc ++ [y]))) else Nx1 H6)
        else Nx H3) := by
  have hls : ∃ (ls : List SV) (ws : List V), ws.length = ls.length ∧ (∀ F ad, SVA K F ad ws ls → SlR K F ad ρ.sl σ) ∧ Rel K bs ρ σ (src :: (ls ++ os)) (w :: (ws ++ vs)) P H1 := by
    obtain ⟨F, ad, R⟩ := R
    obtain ⟨ls, ws, a, b⟩ := R.slots.list
    obtain ⟨r, R1⟩ := R.pop
    exact ⟨ls, ws, a.length, b, F, ad, R.tops_of (.cons r (a.append R1.tops))⟩
  obtain ⟨ls, ws, hlen, hb, Rl⟩ := hls
  have start : ∃ ρx σx, ρx.b = P.length ∧ Rel K (P.length :: bs) ρx σx (.ptr P.length :: src :: (ls ++ os)) (.ref D :: w :: (ws ++ vs)) (P ++ [.lst []]) (upd H1 D (.lst [])) := by
    obtain ⟨F, ad, R⟩ := Rl
    exact ⟨_, _, rfl, F, ad ++ [D], R.enter.cell hD fun ad' pr => ⟨R.free hD, [], upd_same, .nil⟩⟩
  refine ⟨fun i m H => m = items.length - i ∧ i ≤ items.length ∧ ∃ T ρx σx, ρx.b = P.length ∧ Rel K (P.length :: bs) ρx σx (.ptr P.length :: src :: (ls ++ os)) (.ref D :: w :: (ws ++ vs)) T H ∧ lc2Go g tt f1 own1 g1 tt1 te { ρ.wipe own with b := P.length } P.length (items.drop i) T = some S, ⟨_, rfl, Nat.zero_le _, _, start.choose, start.choose_spec.choose, start.choose_spec.choose_spec.1, start.choose_spec.choose_spec.2, by simpa using e⟩, ?_⟩
  rintro i m H ⟨rfl, hle, T, ρx, σx, hbx, RT, eT⟩
  have under : Rel K (P.length :: bs) ρx σx (src :: .ptr P.length :: (ls ++ os)) (w :: .ref D :: (ws ++ vs)) T H := by
    obtain ⟨F, ad, R⟩ := RT
    obtain ⟨r1, R1⟩ := R.pop
    obtain ⟨r2, R2⟩ := R1.pop
    exact ⟨F, ad, (R2.push r1).push r2⟩
  obtain ⟨ok1, ok2⟩ := ok _ _ _ _ _ _ _ i under
  by_cases hlt : i < items.length
  · obtain ⟨go, yl⟩ := ok1 hlt
    refine .inr ⟨go, fun H => ∃ T ρx σx, ρx.b = P.length ∧ Rel K (P.length :: bs) ρx σx (.ptr P.length :: src :: (ls ++ os)) (.ref D :: w :: (ws ++ vs)) T H ∧ lc2Go g tt f1 own1 g1 tt1 te { ρ.wipe own with b := P.length } P.length (items.drop (i + 1)) T = some S, fun H' ⟨T', ρ', σ', b', R', e'⟩ => ⟨items.length - (i + 1), by omega, rfl, hlt, T', ρ', σ', b', R', e'⟩, fun x H' hy => ?_⟩
    obtain ⟨d, hd, R3⟩ := yl x H' hy
    rw [List.drop_eq_getElem_cons hlt] at eT
    have ed : items[i] = d := by rw [List.getElem?_eq_getElem hlt] at hd; exact Option.some.inj hd
    rw [ed] at eT
    simp only [lc2Go, Option.bind_eq_some_iff] at eT
    obtain ⟨⟨ρ4, P4⟩, e4, ⟨b, P5⟩, e5, e6⟩ := eT
    have R4 : Rel K (P.length :: bs) { ρ.wipe own with b := P.length } (L2.wipe σ own) (.fz d :: .ptr P.length :: src :: (ls ++ os)) (x :: .ref D :: w :: (ws ++ vs)) T H' := by
      obtain ⟨F, ad, R⟩ := R3
      obtain ⟨r0, R1⟩ := R.pop
      obtain ⟨r1, R2⟩ := R1.pop
      obtain ⟨r2, R3⟩ := R2.pop
      have sp := (SVA.split hlen R3.tops).1
      refine ⟨F, ad, { R with slots := (hb F ad sp).wipe own, tops := .cons r0 (.cons r2 (.cons r1 R3.tops)), bb := fun c hc => ?_ }⟩
      have := R.bb c hc
      show c ≤ P.length
      rw [hbx] at this; exact this
    refine ⟨_, _, _, _, _, _, ρ4, P4, R4, e4, fun σ4 H4 R5 k4 => ⟨wipe_keeps hts k4, _, _, _, _, _, b, P5, R5, e5, fun H5 R6 => ?_⟩⟩
    simp only at e6
    have toB : ∀ {os : List SV} {vs : List V} {P' : Store} {H : Hp}, Rel K (P.length :: bs) ρ4 σ4 os vs P' H → Rel K (P.length :: bs) { ρ4 with b := P.length } σ4 os vs P' H := fun ⟨F, ad, R7⟩ => by
      refine ⟨F, ad, { R7 with slots := R7.slots, bb := fun c hc => ?_ }⟩
      rcases List.mem_cons.mp hc with rfl | hc
      · exact Nat.le_refl _
      · obtain ⟨F0, ad0, R0⟩ := R
        exact R0.bas.le c hc
    cases b with
    | true =>
      rw [if_pos rfl] at e6 ⊢
      simp only [Option.bind_eq_some_iff] at e6
      obtain ⟨⟨items1, src1, P6⟩, e7, S4, e8, e9⟩ := e6
      refine ⟨_, _, _, _, _, items1, src1, P6, R6, e7, fun J1 v1 H6 sr1 R7 ok7 => ?_⟩
      exact lc_in (n := P.length) (bs := bs) (ρ := { ρ4 with b := P.length }) (os := src :: (ls ++ os)) (vs := w :: (ws ++ vs)) (D := D) ok7 hts1 rfl (toB R7) e8 fun ρ' σ' H hb' R8 => ⟨S4, ρ', σ', hb', R8, e9⟩
    | false =>
      rw [if_neg Bool.false_ne_true] at e6 ⊢
      exact ⟨P5, { ρ4 with b := P.length }, σ4, rfl, toB R6, e6⟩
  · have : i = items.length := by omega
    subst this
    rw [List.drop_length] at eT
    simp only [lc2Go, Option.some.injEq] at eT
    subst eT
    refine .inl ⟨ok2 (Nat.le_refl _), q H ?_⟩
    obtain ⟨F, ad, RX⟩ := RT
    obtain ⟨r1, R1⟩ := RX.pop
    obtain ⟨r2, R2⟩ := R1.pop
    obtain ⟨sp, so⟩ := SVA.split hlen R2.tops
    refine ⟨F, ad, { RX with slots := hb F ad sp, tops := .cons r1 (.cons r2 so), bb := fun c hc => ?_ }⟩
    have := RX.bb c hc
    show c ≤ P.length
    rw [hbx] at this; exact this
section
variable {X : Cx} {pos : Pos}
theorem lc2_d {f f1 : IM} {g g1 : GM} {tt tt1 : BM} {te : XM} {ts ts1 own own1 : List Nat} {wi : TI} (hts : ∀ i ∈ ts, i ∈ own) (hts1 : ∀ i ∈ ts1, i ∈ own1)
    (h0 : ∀ (bs : List Nat) (ρ : EV) (σ : L2.St) (os : List SV) (vs : List V) (P : Store) (H : Hp) (R : It → Hp → Prop) (items : List PyData) (src : SV) (P' : Store), Rel X.K bs ρ σ os vs P H → f ρ P = some (items, src, P') →
      (∀ J v H' sr, Rel X.K bs ρ σ (sr :: os) (v :: vs) P' H' → ItOk X.K J items sr v → R J H') → wi σ H R)
    (bs : List Nat) (ρ : EV) (σ : L2.St) (os : List SV) (vs : List V) (P : Store) (H : Hp) (Q : VK) (r : SV) (P' : Store) (R : Rel X.K bs ρ σ os vs P H) (e : mLC2 own own1 f g tt f1 g1 tt1 te ρ P = some (r, P'))
    (q : ∀ v H', Rel X.K bs ρ σ (r :: os) (v :: vs) P' H' → Q v H') : tLc2 wi (tMG X.K ts g) (tMT X.K tt) (tMI X.K f1) (tMG X.K ts1 g1) (tMT X.K tt1) (tM X.K te) own own1 σ H Q := by
  simp only [mLC2, Option.bind_eq_some_iff] at e
  obtain ⟨⟨items, src, P1⟩, e0, S, e1, e2⟩ := e
  refine h0 bs ρ σ os vs P H _ items src P1 R e0 fun J w H1 src R1 ok => fun D hD => ?_
  refine lc2_go (Df := fun H => Q (.ref D) H) ok hts hts1 R1 hD e1 fun H2 R2 => ?_
  simp only at e2
  split at e2
  · rename_i acc hacc
    simp only [Option.map_eq_some_iff, Prod.mk.injEq] at e2
    obtain ⟨ds, hds, rfl, rfl⟩ := e2
    obtain ⟨F, ad, R2⟩ := R2
    obtain ⟨F1, ad1, R1⟩ := R1
    obtain ⟨rD, R3⟩ := R2.pop
    obtain ⟨a, ha, ea, hc⟩ := R3.at rD hacc
    cases ea
    obtain ⟨hF, xs, hx, tx⟩ := hc
    obtain ⟨R4, l4, f4⟩ := R3.freezeC (d := .list ds) hacc ha hF hx fun G l g => .lst (.of g) ((fzs_some tx hds).mono l)
    obtain ⟨_, R5⟩ := R4.pop
    have R6 := R5.cut (ρ' := ρ) R5.slots R1.slotsLt R5.tops (fun s hs => R1.topsLt s (List.mem_cons_of_mem _ hs)) (fun c hc => R1.bb c hc) (fun c hc => R1.bas.le c hc)
    have e5 : (S.set P1.length (.fz (.list ds))).take P1.length = S.take P1.length := by
      rw [List.take_set_of_le (Nat.le_refl _)]
    rw [e5] at R6
    exact q _ _ ⟨_, _, R6.push (d := .fz (.list ds)) (show Fz X.K _ _ _ from f4)⟩
  · cases e2
theorem ped_lc2 {elt tg iter tg1 iter1 : Expr} {ifs ifs1 : List Expr} {scope : Scope} {own : List (Str × Nat)} {own1 : List Nat} {f f1 : IM} {g g1 : GM} {tt tt1 : BM} {te : XM} {ts ts1 : List Nat} (hc : X.calm = true) (hN : X.N.Nodup) (hi : PId X tg iter f) (ok : BlkOk X.N X.env.scope scope own)
    (hg : ∀ (s : Shared) (H : Hp) (C : Addr) (cl : List (Str × Addr)) (fp : List Addr), PGd (X.blk s H scope (compEnvC scope cl C X.env) fp) tg ts g) (ht : ∀ (s : Shared) (H : Hp) (C : Addr) (cl : List (Str × Addr)) (fp : List Addr), PTsd (X.blk s H scope (compEnvC scope cl C X.env) fp) ifs tt)
    (hi1 : ∀ (s : Shared) (H : Hp) (C : Addr) (cl : List (Str × Addr)) (fp : List Addr), PId (X.blk s H scope (compEnvC scope cl C X.env) fp) tg1 iter1 f1)
    (hg1 : ∀ (s : Shared) (H : Hp) (C : Addr) (cl : List (Str × Addr)) (fp : List Addr), PGd (X.blk s H scope (compEnvC scope cl C X.env) fp) tg1 ts1 g1) (ht1 : ∀ (s : Shared) (H : Hp) (C : Addr) (cl : List (Str × Addr)) (fp : List Addr), PTsd (X.blk s H scope (compEnvC scope cl C X.env) fp) ifs1 tt1)
    (he : ∀ (s : Shared) (H : Hp) (C : Addr) (cl : List (Str × Addr)) (fp : List Addr), PEd (X.blk s H scope (compEnvC scope cl C X.env) fp) elt te) (hts : ∀ i ∈ ts, i ∈ own.map (·.2) := by decide) (hts1 : ∀ i ∈ ts1, i ∈ own1 := by decide) (hv : ∀ i ∈ own1, i ∈ own.map (·.2) := by decide) (hs : ∀ x, foldedSetIterable iter X.env x = pure x := by intro _; rfl) (hs1 : ∀ env x, foldedSetIterable iter1 env x = pure x := by intro _ _; rfl) :
    PEd X (.ListComp elt [⟨tg, iter, ifs, 0⟩, ⟨tg1, iter1, ifs1, 0⟩] scope pos) (mLC2 (own.map (·.2)) own1 f g tt f1 g1 tt1 te) := by
  obtain ⟨wi, p0, h0⟩ := hi
  exact ⟨_, pe_lc2 (g := tMG X.K ts g) (tt := tMT X.K tt) (wi1 := tMI X.K f1) (g1 := tMG X.K ts1 g1) (tt1 := tMT X.K tt1) (te := tM X.K te) hc hN p0 ok hv (fun s H C cl fp => (hg s H C cl fp).canon) (fun s H C cl fp => (ht s H C cl fp).canon) (fun s H C cl fp => (hi1 s H C cl fp).canon) (fun s H C cl fp => (hg1 s H C cl fp).canon) (fun s H C cl fp => (ht1 s H C cl fp).canon) (fun s H C cl fp => (he s H C cl fp).canon) hs hs1, lc2_d hts hts1 h0⟩
theorem psd_setLc2 {i : Nat} {y : Str} {py : Pos} {elt tg iter tg1 iter1 : Expr} {ifs ifs1 : List Expr} {scope : Scope} {own : List (Str × Nat)} {own1 : List Nat} {spos : Pos} {f f1 : IM} {g g1 : GM} {tt tt1 : BM} {te : XM} {ts ts1 : List Nat} (hc : X.calm = true) (hN : X.N.Nodup) (hy : X.N[i]? = some y) (hyl : X.env.scope.names.lookup y = some .local)
    (hsw : swapsWith (.ListComp elt [⟨tg, iter, ifs, 0⟩, ⟨tg1, iter1, ifs1, 0⟩] scope pos) (some (.Name y py)) spos.line X.env = pure true) (hi : PId X tg iter f) (ok : BlkOk X.N X.env.scope scope own)
    (hg : ∀ (s : Shared) (H : Hp) (C : Addr) (cl : List (Str × Addr)) (fp : List Addr), PGd (X.blk s H scope (compEnvC scope cl C X.env) fp) tg ts g) (ht : ∀ (s : Shared) (H : Hp) (C : Addr) (cl : List (Str × Addr)) (fp : List Addr), PTsd (X.blk s H scope (compEnvC scope cl C X.env) fp) ifs tt)
    (hi1 : ∀ (s : Shared) (H : Hp) (C : Addr) (cl : List (Str × Addr)) (fp : List Addr), PId (X.blk s H scope (compEnvC scope cl C X.env) fp) tg1 iter1 f1)
    (hg1 : ∀ (s : Shared) (H : Hp) (C : Addr) (cl : List (Str × Addr)) (fp : List Addr), PGd (X.blk s H scope (compEnvC scope cl C X.env) fp) tg1 ts1 g1) (ht1 : ∀ (s : Shared) (H : Hp) (C : Addr) (cl : List (Str × Addr)) (fp : List Addr), PTsd (X.blk s H scope (compEnvC scope cl C X.env) fp) ifs1 tt1)
    (he : ∀ (s : Shared) (H : Hp) (C : Addr) (cl : List (Str × Addr)) (fp : List Addr), PEd (X.blk s H scope (compEnvC scope cl C X.env) fp) elt te) (hts : ∀ i ∈ ts, i ∈ own.map (·.2) := by decide) (hts1 : ∀ i ∈ ts1, i ∈ own1 := by decide) (hv : ∀ i ∈ own1, i ∈ own.map (·.2) := by decide) (hs : ∀ x, foldedSetIterable iter X.env x = pure x := by intro _; rfl) (hs1 : ∀ env x, foldedSetIterable iter1 env x = pure x := by intro _ _; rfl) :
    PSd X (.Assign [.Name y py] (.ListComp elt [⟨tg, iter, ifs, 0⟩, ⟨tg1, iter1, ifs1, 0⟩] scope pos) spos) (sSet i (mLC2 (own.map (·.2)) own1 f g tt f1 g1 tt1 te)) := by
  obtain ⟨wi, p0, h0⟩ := hi
  refine ⟨_, ps_setLc2 (g := tMG X.K ts g) (tt := tMT X.K tt) (wi1 := tMI X.K f1) (g1 := tMG X.K ts1 g1) (tt1 := tMT X.K tt1) (te := tM X.K te) hc hN hy hyl hsw p0 ok hv (fun s H C cl fp => (hg s H C cl fp).canon) (fun s H C cl fp => (ht s H C cl fp).canon) (fun s H C cl fp => (hi1 s H C cl fp).canon) (fun s H C cl fp => (hg1 s H C cl fp).canon) (fun s H C cl fp => (ht1 s H C cl fp).canon) (fun s H C cl fp => (he s H C cl fp).canon) hs hs1, fun bs ρ σ os vs P H D r R e q => ?_⟩
  simp only [sSet, Option.map_eq_some_iff] at e
  obtain ⟨⟨s, P1⟩, e1, rfl⟩ := e
  exact lc2_d hts hts1 h0 bs ρ σ os vs P H _ s P1 R e1 fun v H1 R1 => q _ H1 (R1.store i)
end
end Pd

set_option Elab.async false
set_option linter.all false
set_option maxRecDepth 100000
set_option maxHeartbeats 1000000
/-! The layer Pd, part W: dict comprehensions with tuple keys. -/
namespace Pd
open PySem PySem.Spec PyProof.Rows L2
/-- a store into the dict of a comprehension, keys tuples -/
theorem set_dT {X : Cx} {pins : List (Addr × Obj)} {σ : L2.St} {H : Hp} {s : Shared} {E : Value → Shared → Prop} {D b : Addr} {kvs : List (List Key × V)} {k : List Key} {v : V} {r : Value} {Q : Unit → Shared → Prop} (hu : X.A.units < cLine) (I : Inv X pins σ H s)
    (hD : H D = some (.dT kvs)) (hb : H b = some (.tup (k.map kV))) (hz : kvs.length < sizeLine) (rv : RelV v r) (h : ∀ s', Inv X pins σ (upd H D (.dT (putK kvs k v))) s' → Q () s') : wpAny (model X.prog X.w) X.A (dictSet D (.ref b) r) Q E s := by
  obtain ⟨z, hd, xs, rel, dd⟩ := dt_of I.hok hD
  have hzx : xs.length ≤ sizeLine := by rw [← Paired.length rel]; exact z
  have hll : (putK kvs k v).length ≤ sizeLine := by have := length_putK kvs k v; omega
  refine wpAny_dictSet_heap (hsz := hzx) (show X.A.units < cLine from hu) (key_of I.hok hb) dd fun h' dd' hs => h _ ?_
  obtain ⟨q, es, ep, hq, h2, h3, h4, _, h5⟩ := dd'
  refine d_write I (by rw [hD]; exact True.intro) hs ⟨q, hq⟩ ⟨hll, hd, _, (rel.put k hb rv).keeps fun c ys ec => ?_, q, es, ep, hq, h2, h3, h4, h5⟩
  rw [upd_ne (ne_of ec hD fun z => nomatch z)]
  exact ec
/-- what such a comprehension promises: D the new dict -/
def tDcT (wi : TI) (g : TG) (tt : TT) (tk tv : TE) (own : List Nat) : TE := fun σ H Q => wi σ H fun J H1 => ∀ D, H1 D = none → ∃ Wd : Nat → Nat → Hp → Prop, (∃ m, Wd 0 m (upd H1 D (.dT []))) ∧ ∀ i m H, Wd i m H →
  (J.stop i H ∧ Q (.ref D) H) ∨ (J.go i H ∧ ∃ Go : Hp → Prop, (∀ G, Go G → ∃ l, l < m ∧ Wd (i + 1) l G) ∧ ∀ x G, J.yld i H x G → g x (L2.wipe σ own) G fun σ2 H2 => L2.wipe σ2 own = L2.wipe σ own ∧ tt σ2 H2 fun b H3 =>
    if b = true then tk σ2 H3 fun y H4 => tv σ2 H4 fun z H5 => ∃ kvs k a, y = .ref a ∧ H5 a = some (.tup (k.map kV)) ∧ H5 D = some (.dT kvs) ∧ kvs.length < sizeLine ∧ Go (upd H5 D (.dT (putK kvs k z))) else Go H3)
section
variable {X : Cx} {pos : Pos}
theorem pe_dcT {kx vx tg iter : Expr} {ifs : List Expr} {scope : Scope} {own : List (Str × Nat)} {wi : TI} {g : TG} {tt : TT} {tk tv : TE} (hu : X.A.units < cLine) (calm : X.calm = true) (nd : X.N.Nodup) (pi : PI X tg iter wi) (bo : BlkOk X.N X.env.scope scope own)
    (pg : ∀ (s : Shared) (H : Hp) (C : Addr) (cl : List (Str × Addr)) (fp : List Addr), PG (X.blk s H scope (compEnvC scope cl C X.env) fp) tg g) (pt : ∀ (s : Shared) (H : Hp) (C : Addr) (cl : List (Str × Addr)) (fp : List Addr), PTs (X.blk s H scope (compEnvC scope cl C X.env) fp) ifs tt)
    (pk : ∀ (s : Shared) (H : Hp) (C : Addr) (cl : List (Str × Addr)) (fp : List Addr), PE (X.blk s H scope (compEnvC scope cl C X.env) fp) kx tk)
    (pv : ∀ (s : Shared) (H : Hp) (C : Addr) (cl : List (Str × Addr)) (fp : List Addr), PE (X.blk s H scope (compEnvC scope cl C X.env) fp) vx tv) (fold : ∀ x, foldedSetIterable iter X.env x = pure x := by intro _; rfl) :
    PE X (.DictComp kx vx [⟨tg, iter, ifs, 0⟩] scope pos) (tDcT wi g tt tk tv (own.map (·.2))) := by
  refine ⟨fun pins s σ H Q I h => ?_⟩
  rw [arm_eval_DictComp]
  have free : ∀ y ∈ scope.names, y.2 = .free → ∃ c, X.env.cells.lookup y.1 = some c := fun y hy e => (bo.free y hy e).elim (fun k => I.ok.has _ (.inl k)) fun k => I.ok.has _ (.inr k)
  have run0 := pi.run pins s σ H _ I h
  refine wpAny_comprehension_free (use := none) rfl fold (closure_ok free) bo.kind (fun y hy e => (bo.uniq y hy).trans (congrArg some e)) (thn run0 fun _ _ a => thn a fun _ t came => ?_)
  obtain ⟨it, fp, tn, J, G, rfl, IG, T, st, own0, q⟩ := came
  refine wpAny_newObj_type (newEnv_comp ?_)
  -- the new dict at D, the state t1
  generalize eD : t.heap.objs.size = D
  generalize et1 : ({ t with heap := t.heap.push { cls := .type "dict", data := .dict #[] } } : Shared) = t1
  obtain ⟨Wd, ⟨m0, w0⟩, turn⟩ := q D (IG.hok.fresh (Nat.le_of_eq eD))
  have ht1 : t1.heap = t.heap.push { cls := .type "dict", data := .dict #[] } := by rw [← et1]
  have I1 : Inv X pins σ (upd G D (.dT [])) t1 := by
    subst et1
    refine IG.laid (t' := t.toks) (fun _ _ => Heap.get?_push_of_some _) (Nat.le_of_eq eD) ?_
    subst eD
    exact dt_empty t.heap IG.big
  have small : ∀ b ∈ fp, b < t.heap.objs.size := fun b hb => let ⟨_, e, _⟩ := T.obj _ _ st b hb; Heap.lt_size e
  have own1 : ∀ b ∈ fp, FpOk X pins (upd G D (.dT [])) b ∧ b < t1.heap.objs.size := fun b hb => by
    have lt := small b hb
    have ne : b ≠ D := by subst eD; exact Nat.ne_of_lt lt
    exact ⟨⟨by rw [upd_ne ne]; exact (own0 b hb).1, (own0 b hb).2⟩, by rw [ht1, Heap.size_push]; exact Nat.lt_succ_of_lt lt⟩
  have st1 : tn 0 t1.heap := T.keep _ _ _ st fun b _ o e => by rw [ht1]; exact Heap.get?_push_of_some _ e
  -- the block
  have I2 := block_start I1 bo nd own1
  have g1 := pg t1 (upd G D (.dT [])) t1.heap.objs.size (cellsFrom (t1.heap.objs.size + 1) scope.names (cloFrom X.env.cells scope.names [])) fp
  have t2 := pt t1 (upd G D (.dT [])) t1.heap.objs.size (cellsFrom (t1.heap.objs.size + 1) scope.names (cloFrom X.env.cells scope.names [])) fp
  have k1 := pk t1 (upd G D (.dT [])) t1.heap.objs.size (cellsFrom (t1.heap.objs.size + 1) scope.names (cloFrom X.env.cells scope.names [])) fp
  have v1 := pv t1 (upd G D (.dT [])) t1.heap.objs.size (cellsFrom (t1.heap.objs.size + 1) scope.names (cloFrom X.env.cells scope.names [])) fp
  have none1 : ∀ b ∈ fp, (upd G D (.dT [])) b = none := fun b hb => (own1 b hb).1.1
  show codeAny _ _ (.compStart (.DictComp kx vx [⟨tg, iter, ifs, 0⟩] scope pos) 0 (.ref it) (.ref D) (compEnvC scope (cellsFrom (t1.heap.objs.size + 1) scope.names (cloFrom X.env.cells scope.names [])) t1.heap.objs.size X.env)) (compPost (model X.prog X.w) X.A X.xe none (EP X pins σ Q) (.ref D) t1.heap.objs.size) { t1 with heap := pushCells (t1.heap.push { cls := .type "dict", data := .dict #[] }) scope.names }
  obtain ⟨ce, ece⟩ : ∃ ce, compEnvC scope (cellsFrom (t1.heap.objs.size + 1) scope.names (cloFrom X.env.cells scope.names [])) t1.heap.objs.size X.env = ce := ⟨_, rfl⟩
  have at1 : ce.locals = t1.heap.objs.size := by rw [← ece]; rfl
  rw [ece] at I2 g1 t2 k1 v1 ⊢
  generalize upd G D (.dT []) = G1 at *
  obtain ⟨t3, et3⟩ : ∃ t3 : Shared, ({ t1 with heap := pushCells (t1.heap.push { cls := .type "dict", data := .dict #[] }) scope.names } : Shared) = t3 := ⟨_, rfl⟩
  rw [et3] at I2 ⊢
  have st3 : tn 0 t3.heap := T.keep _ _ _ st1 fun b _ o e => by rw [← et3]; exact pushCells_keeps _ _ _ _ (Heap.get?_push_of_some _ e)
  have held : ∀ {σ' : L2.St} {H' : Hp} {s' : Shared}, Inv (X.blk t1 G1 scope ce fp) [] σ' H' s' → (∀ b ∈ fp, H' b = none) → ∀ b ∈ fp, FpOk (X.blk t1 G1 scope ce fp) [] H' b := fun {σ' H' s'} I' n b hb =>
    ⟨n b hb, (I'.ok.exf b hb).1, I'.ok.exfs b hb, .inl hb, fun x c e => (I'.ok.exf b hb).2 x c e, fun p hp => absurd (show p ∈ ([] : List (Addr × Obj)) ++ [] from hp) (by simp)⟩
  have loop : codeAny (model X.prog X.w) X.A (.compLoop (.DictComp kx vx [⟨tg, iter, ifs, 0⟩] scope pos) 0 (.ref it) (.ref D) ce) (compPost (model X.prog X.w) X.A X.xe none (EP X pins σ Q) (.ref D) t1.heap.objs.size) t3 := by
    refine compLoop_anyD (fun n s' => ∃ i H', Inv (X.blk t1 G1 scope ce fp) [] (L2.wipe σ (own.map (·.2))) H' s' ∧ tn i s'.heap ∧ (∀ b ∈ fp, H' b = none) ∧ Wd i n H') ?_ m0 ⟨0, G1, I2, st3, none1, w0⟩
    rintro n s5 ⟨i, H5, I5, st5, n5, w5⟩
    rcases turn i n H5 w5 with ⟨stop, qq⟩ | ⟨go, Nx, hNx, step⟩
    · refine thnF (T.done (X.blk t1 G1 scope ce fp) rfl rfl rfl calm i [] s5 _ H5 (fun _ _ => False) I5 (held I5 n5) st5 stop) fun r s6 ⟨hr, I6⟩ => ?_
      subst hr
      have I7 : Inv X pins σ H5 s6 := I1.call' (ch := fp) I6.os I6.base I6.hok I6.bare fun b hb => let o := (own1 b hb).1.2; ⟨o.2.2.1, o.1, o.2.2.2.1, o.2.2.2.2⟩
      have nC : H5 t1.heap.objs.size = none := at1 ▸ (I6.free : H5 ce.locals = none)
      obtain ⟨m, hn, _⟩ := I6.loc
      have hn : s6.heap.Ns t1.heap.objs.size m := at1 ▸ (hn : s6.heap.Ns ce.locals m)
      refine ⟨m, hn, fun h'' sb => ?_⟩
      obtain ⟨f0, f1, f2, f3, f4, f5⟩ := I1.fpOk (Nat.le_refl _) nC
      exact ⟨.ref D, H5, I7.turned (t' := s6.toks) (fun b o hb e => (sb.2 b hb).trans e) f0 f1 f3 f4 f5, rfl, qq⟩
    · refine thnF (T.item (X.blk t1 G1 scope ce fp) rfl rfl rfl calm i [] s5 _ H5 (fun _ _ => False) I5 (held I5 n5) st5 go) fun r s6 ⟨u, hr, h6⟩ => ?_
      subst hr
      refine thnF h6 fun _ s7 ⟨x, H7, I7, r7, y7, st7, n7⟩ => ?_
      refine thnF (g1.run _ s7 _ H7 x u _ (I7.pinned (held I7 n7) (T.obj _ _ st7)) r7 (step x H7 y7)) fun _ s8 ⟨σ8, H8, I8, hw8, q8⟩ => ?_
      refine thnF (t2.run _ s8 σ8 H8 _ I8 q8) fun b s9 ⟨H9, I9, q9⟩ => ?_
      have over : ∀ {s' : Shared} {H' : Hp}, Inv (X.blk t1 G1 scope ce fp) ([] ++ pinsAt fp s7.heap) σ8 H' s' → Nx H' → ∃ m, m < n ∧ ∃ i H', Inv (X.blk t1 G1 scope ce fp) [] (L2.wipe σ (own.map (·.2))) H' s' ∧ tn i s'.heap ∧ (∀ b ∈ fp, H' b = none) ∧ Wd i m H' := fun {s' H'} I' nx => by
        obtain ⟨l, hl, w'⟩ := hNx H' nx
        have pin : ∀ b ∈ fp, ∀ o, s7.heap.get? b = some o → s'.heap.get? b = some o ∧ H' b = none := fun b hb o e =>
          let z := I'.pin (b, o) (List.mem_append_right _ (List.mem_append_right _ (mem_pinsAt hb e)))
          ⟨z.1, z.2.1⟩
        have len : (L2.wipe σ (own.map (·.2))).length = σ8.length := hw8 ▸ L2.wipe_length _ _
        refine ⟨l, hl, i + 1, H', (I'.unpinned (pins := [])).weak len (fun j v e => (wipe_some (hw8 ▸ e)).1), T.keep _ _ _ st7 fun b hb o e => (pin b hb o e).1, fun b hb => ?_, w'⟩
        obtain ⟨o, e, _⟩ := T.obj _ _ st7 b hb
        exact (pin b hb o e).2
      cases b with
      | false => exact over I9 (by simpa using q9)
      | true =>
        rw [if_pos rfl] at q9 ⊢
        refine thnF (k1.run _ s9 σ8 H9 _ I9 q9) fun z s10 ⟨yk, H10, I10, r10, q10⟩ => ?_
        refine thnF (v1.run _ s10 σ8 H10 _ I10 q10) fun z2 s11 ⟨yv, H11, I11, r11, kvs, k, a, ek, ha, hD11, hz11, nx⟩ => ?_
        subst ek
        cases (show z = Value.ref a from r10)
        exact set_dT (X := X.blk t1 G1 scope ce fp) hu I11 hD11 ha hz11 r11 fun s12 I12 => over I12 nx
  exact codeAny_compStart_dict loop (T.self X.A 0 _ _ _ st3 loop)
end
end Pd

set_option Elab.async false
set_option linter.all false
set_option maxRecDepth 100000
set_option maxHeartbeats 1000000
/-! The layer Pd, part X: mirrors of dict comprehensions with tuple keys. -/
namespace Pd
open PySem PySem.Spec PyProof.Rows L2
def dcGo (g : GM) (tt : BM) (tk tv : XM) (ρ : EV) (n : Nat) : List PyData → Store → Option Store
  | [], S => some S
  | d :: r, S => (g (.fz d) ρ S).bind fun (ρ1, S1) => (tt ρ1 S1).bind fun (b, S2) =>
    if b = true then (tk ρ1 S2).bind fun (k, S3) => (tv ρ1 S3).bind fun (s, S4) => (flat S4 k).bind fun kd => match s, S4[n]? with
      | .fz z, some (.dT l) => if l.length < sizeLine then (tkeyOf kd).bind fun k => dcGo g tt tk tv ρ n r (S4.set n (.dT (putS l k (.fz z)))) else none
      | _, _ => none
    else dcGo g tt tk tv ρ n r S2
/-- {tk: tv for g in f if tt}, keys tuples: a new dict that may change -/
def mDcT (own : List Nat) (f : IM) (g : GM) (tt : BM) (tk tv : XM) : XM := fun ρ P => (f ρ P).bind fun (items, _, P1) =>
  (dcGo g tt tk tv { ρ.wipe own with b := P1.length } P1.length items (P1 ++ [.dT []])).bind fun S => match S[P1.length]? with
    | some (.dT l) => if (fzs (l.map (·.2))).isSome = true then some (.ptr P1.length, S.take P1.length ++ [.dT l]) else none
    | _ => none
theorem dc_go {K : PySem.W.Frag} {J : It} {items : List PyData} {src : SV} {w : V} (ok : ItOk K J items src w) {g : GM} {ts : List Nat} {tt : BM} {tk tv : XM} {own : List Nat} {bs : List Nat} {ρ : EV} {σ : L2.St} {os : List SV} {vs : List V} {P : Store} {H1 : Hp} {S : Store} {Df : Hp → Prop} {D : Addr}
    (hts : ∀ i ∈ ts, i ∈ own)
    (R : Rel K bs ρ σ (src :: os) (w :: vs) P H1) (hD : H1 D = none) (e : dcGo g tt tk tv { ρ.wipe own with b := P.length } P.length items (P ++ [.dT []]) = some S)
    (q : ∀ H, Rel K (P.length :: bs) { ρ with b := P.length } σ (.ptr P.length :: src :: os) (.ref D :: w :: vs) S H → Df H) :
    ∃ W : Nat → Nat → Hp → Prop, (∃ m, W 0 m (upd H1 D (.dT []))) ∧ ∀ i m H, W i m H →
      (J.stop i H ∧ Df H) ∨ (J.go i H ∧ ∃ Nx : Hp → Prop, (∀ H', Nx H' → ∃ m', m' < m ∧ W (i + 1) m' H') ∧ ∀ x H', J.yld i H x H' → tMG K ts g x (L2.wipe σ own) H' fun σ2 H2 => L2.wipe σ2 own = L2.wipe σ own ∧ tMT K tt σ2 H2 fun b H3 =>
        if b = true then tM K tk σ2 H3 fun y H4 => tM K tv σ2 H4 fun z H5 => ∃ kvs k a, y = .ref a ∧ H5 a = some (.tup (k.map kV)) ∧ H5 D = some (.dT kvs) ∧ kvs.length < sizeLine ∧ Nx (upd H5 D (.dT (putK kvs k z))) else Nx H3) := by
  -- what the def's slots hold, on the stack
  have hls : ∃ (ls : List SV) (ws : List V), ws.length = ls.length ∧ (∀ F ad, SVA K F ad ws ls → SlR K F ad ρ.sl σ) ∧ Rel K bs ρ σ (src :: (ls ++ os)) (w :: (ws ++ vs)) P H1 := by
    obtain ⟨F, ad, R⟩ := R
    obtain ⟨ls, ws, a, b⟩ := R.slots.list
    obtain ⟨r, R1⟩ := R.pop
    exact ⟨ls, ws, a.length, b, F, ad, R.tops_of (.cons r (a.append R1.tops))⟩
  obtain ⟨ls, ws, hlen, hb, Rl⟩ := hls
  have start : ∃ ρx σx, ρx.b = P.length ∧ Rel K (P.length :: bs) ρx σx (.ptr P.length :: src :: (ls ++ os)) (.ref D :: w :: (ws ++ vs)) (P ++ [.dT []]) (upd H1 D (.dT [])) := by
    obtain ⟨F, ad, R⟩ := Rl
    exact ⟨_, _, rfl, F, ad ++ [D], R.enter.cell hD fun ad' pr => ⟨R.free hD, [], upd_same, .nil⟩⟩
  refine ⟨fun i m H => m = items.length - i ∧ i ≤ items.length ∧ ∃ T ρx σx, ρx.b = P.length ∧ Rel K (P.length :: bs) ρx σx (.ptr P.length :: src :: (ls ++ os)) (.ref D :: w :: (ws ++ vs)) T H ∧ dcGo g tt tk tv { ρ.wipe own with b := P.length } P.length (items.drop i) T = some S, ⟨_, rfl, Nat.zero_le _, _, start.choose, start.choose_spec.choose, start.choose_spec.choose_spec.1, start.choose_spec.choose_spec.2, by simpa using e⟩, ?_⟩
  rintro i m H ⟨rfl, hle, T, ρx, σx, hbx, RT, eT⟩
  have under : Rel K (P.length :: bs) ρx σx (src :: .ptr P.length :: (ls ++ os)) (w :: .ref D :: (ws ++ vs)) T H := by
    obtain ⟨F, ad, R⟩ := RT
    obtain ⟨r1, R1⟩ := R.pop
    obtain ⟨r2, R2⟩ := R1.pop
    exact ⟨F, ad, (R2.push r1).push r2⟩
  obtain ⟨ok1, ok2⟩ := ok _ _ _ _ _ _ _ i under
  by_cases hlt : i < items.length
  · obtain ⟨go, yl⟩ := ok1 hlt
    refine .inr ⟨go, fun H => ∃ T ρx σx, ρx.b = P.length ∧ Rel K (P.length :: bs) ρx σx (.ptr P.length :: src :: (ls ++ os)) (.ref D :: w :: (ws ++ vs)) T H ∧ dcGo g tt tk tv { ρ.wipe own with b := P.length } P.length (items.drop (i + 1)) T = some S, fun H' ⟨T', ρ', σ', b', R', e'⟩ => ⟨items.length - (i + 1), by omega, rfl, hlt, T', ρ', σ', b', R', e'⟩, fun x H' hy => ?_⟩
    obtain ⟨d, hd, R3⟩ := yl x H' hy
    rw [List.drop_eq_getElem_cons hlt] at eT
    have ed : items[i] = d := by rw [List.getElem?_eq_getElem hlt] at hd; exact Option.some.inj hd
    rw [ed] at eT
    simp only [dcGo, Option.bind_eq_some_iff] at eT
    obtain ⟨⟨ρ4, P4⟩, e4, ⟨b, P5⟩, e5, e6⟩ := eT
    have R4 : Rel K (P.length :: bs) { ρ.wipe own with b := P.length } (L2.wipe σ own) (.fz d :: .ptr P.length :: src :: (ls ++ os)) (x :: .ref D :: w :: (ws ++ vs)) T H' := by
      obtain ⟨F, ad, R⟩ := R3
      obtain ⟨r0, R1⟩ := R.pop
      obtain ⟨r1, R2⟩ := R1.pop
      obtain ⟨r2, R3⟩ := R2.pop
      have sp := (SVA.split hlen R3.tops).1
      refine ⟨F, ad, { R with slots := (hb F ad sp).wipe own, tops := .cons r0 (.cons r2 (.cons r1 R3.tops)), bb := fun c hc => ?_ }⟩
      have := R.bb c hc
      show c ≤ P.length
      rw [hbx] at this; exact this
    refine ⟨_, _, _, _, _, _, ρ4, P4, R4, e4, fun σ4 H4 R5 k4 => ⟨wipe_keeps hts k4, _, _, _, _, _, b, P5, R5, e5, fun H5 R6 => ?_⟩⟩
    simp only at e6
    have hb4 : ∀ {bs : List Nat} {os : List SV} {vs : List V} {P' : Store} {H : Hp}, Rel K (P.length :: bs) ρ4 σ4 os vs P' H → P.length ≤ ρ4.b := fun ⟨F, ad, R⟩ => R.bb _ List.mem_cons_self
    cases b with
    | true =>
      rw [if_pos rfl] at e6 ⊢
      simp only [Option.bind_eq_some_iff] at e6
      obtain ⟨⟨sk, P6⟩, e7, ⟨sv, P7⟩, e9, kd, e10, e8⟩ := e6
      refine ⟨_, _, _, _, _, sk, P6, R6, e7, fun y H6 R7 => ⟨_, _, _, _, _, sv, P7, R7, e9, fun z H7 R8 => ?_⟩⟩
      simp only at e8
      split at e8
      · rename_i z' l hl
        split at e8
        · rename_i hz
          simp only [Option.bind_eq_some_iff] at e8
          obtain ⟨kk, ek, e8⟩ := e8
          obtain ⟨F, ad, R8⟩ := R8
          obtain ⟨rz, R9⟩ := R8.pop
          obtain ⟨ry, R10⟩ := R9.pop
          obtain ⟨rD, R11⟩ := R10.pop
          have vk := R8.view ry e10
          have hs := R8.sub
          obtain ⟨a, ha, ea, hc⟩ := R10.at rD hl
          cases ea
          obtain ⟨hF, xs, hx, tx⟩ := hc
          obtain ⟨ys, ey, ty⟩ := put_zip kk rz l xs tx
          cases kd with
          | tuple ds =>
            have e2 := keysOf_some (show keysOf ds = some kk from ek)
            subst e2
            obtain ⟨bb, zs, rfl, hb2, tb, _⟩ := vk.tups hs
            replace hb2 := hb2.key (keyAll_keys _)
            have ez := tup_keys kk zs tb
            subst ez
            have hln := tx.length
            refine ⟨_, kk, bb, rfl, hb2, hx, by simp at hln ⊢; omega, P7.set P.length (.dT (putS l kk (.fz z'))), { ρ4 with b := P.length }, σ4, rfl, ⟨F, ad, ?_⟩, e8⟩
            rw [ey]
            have R12 := R10.put (c := .dT (putS l kk (.fz z'))) hl ha hF ⟨hF, ys, upd_same, ty⟩ fun m hm => by
              rcases putS_ps kk (.fz z') l m hm with h | h
              · exact .inl h
              · simp [SV.ps] at h
            refine { R12 with slots := R12.slots, bb := fun c hc => ?_ }
            rcases List.mem_cons.mp hc with rfl | hc
            · exact Nat.le_refl _
            · obtain ⟨F0, ad0, R0⟩ := R
              exact R0.bas.le c hc
          | _ => simp [tkeyOf] at ek
        · cases e8
      · cases e8
    | false =>
      rw [if_neg Bool.false_ne_true] at e6 ⊢
      refine ⟨P5, { ρ4 with b := P.length }, σ4, rfl, ?_, e6⟩
      obtain ⟨F, ad, R6⟩ := R6
      refine ⟨F, ad, { R6 with slots := R6.slots, bb := fun c hc => ?_ }⟩
      rcases List.mem_cons.mp hc with rfl | hc
      · exact Nat.le_refl _
      · obtain ⟨F0, ad0, R0⟩ := R
        exact R0.bas.le c hc
  · have : i = items.length := by omega
    subst this
    rw [List.drop_length] at eT
    simp only [dcGo, Option.some.injEq] at eT
    subst eT
    refine .inl ⟨ok2 (Nat.le_refl _), q H ?_⟩
    obtain ⟨F, ad, RX⟩ := RT
    obtain ⟨r1, R1⟩ := RX.pop
    obtain ⟨r2, R2⟩ := R1.pop
    obtain ⟨sp, so⟩ := SVA.split hlen R2.tops
    refine ⟨F, ad, { RX with slots := hb F ad sp, tops := .cons r1 (.cons r2 so), bb := fun c hc => ?_ }⟩
    have := RX.bb c hc
    show c ≤ P.length
    rw [hbx] at this; exact this

section
variable {X : Cx} {pos : Pos}
theorem pairs_ps : ∀ {l : List (List Key × SV)}, (fzs (l.map (·.2))).isSome = true → l.flatMap (fun p => p.2.ps) = []
  | [], _ => rfl
  | (k, .fz d) :: r, h => by
    simp only [List.map_cons, fzs, Option.isSome_map] at h
    rw [List.flatMap_cons, pairs_ps h]; rfl
  | (_, .ptr _) :: _, h => by simp [fzs] at h
  | (_, .lk _ _ _) :: _, h => by simp [fzs] at h
theorem dcT_d {f : IM} {g : GM} {tt : BM} {tk tv : XM} {ts own : List Nat} {wi : TI} (hts : ∀ i ∈ ts, i ∈ own)
    (h0 : ∀ (bs : List Nat) (ρ : EV) (σ : L2.St) (os : List SV) (vs : List V) (P : Store) (H : Hp) (R : It → Hp → Prop) (items : List PyData) (src : SV) (P' : Store), Rel X.K bs ρ σ os vs P H → f ρ P = some (items, src, P') →
      (∀ J v H' sr, Rel X.K bs ρ σ (sr :: os) (v :: vs) P' H' → ItOk X.K J items sr v → R J H') → wi σ H R)
    (bs : List Nat) (ρ : EV) (σ : L2.St) (os : List SV) (vs : List V) (P : Store) (H : Hp) (Q : VK) (r : SV) (P' : Store) (R : Rel X.K bs ρ σ os vs P H) (e : mDcT own f g tt tk tv ρ P = some (r, P'))
    (q : ∀ v H', Rel X.K bs ρ σ (r :: os) (v :: vs) P' H' → Q v H') : tDcT wi (tMG X.K ts g) (tMT X.K tt) (tM X.K tk) (tM X.K tv) own σ H Q := by
  simp only [mDcT, Option.bind_eq_some_iff] at e
  obtain ⟨⟨items, src, P1⟩, e0, S, e1, e2⟩ := e
  refine h0 bs ρ σ os vs P H _ items src P1 R e0 fun J w H1 src R1 ok => fun D hD => ?_
  refine dc_go (Df := fun H => Q (.ref D) H) ok hts R1 hD e1 fun H2 R2 => ?_
  simp only at e2
  split at e2
  · rename_i l hl
    split at e2
    · rename_i hds
      cases e2
      obtain ⟨F, ad, R2⟩ := R2
      obtain ⟨F1, ad1, R1⟩ := R1
      obtain ⟨rD, R3⟩ := R2.pop
      obtain ⟨a, ha, ea, hc⟩ := R3.at rD hl
      cases ea
      have hps : (Cell.dT l).ps = [] := pairs_ps hds
      obtain ⟨_, R5⟩ := R3.pop
      have R6 := R5.cut (ρ' := ρ) R5.slots R1.slotsLt R5.tops (fun s hs => R1.topsLt s (List.mem_cons_of_mem _ hs)) (fun c hc => R1.bb c hc) (fun c hc => R1.bas.le c hc)
      have na : D ∉ ad.take P1.length := fun hm => by
        obtain ⟨j, hj, ej⟩ := List.getElem_of_mem hm
        rw [List.length_take] at hj
        rw [List.getElem_take] at ej
        obtain ⟨h2, q2⟩ := List.getElem?_eq_some_iff.mp ha
        have := (List.getElem_inj R3.nd).mp (ej.trans q2.symm)
        omega
      have R7 := R6.adopt na (R3.there D (List.mem_of_getElem? ha)) (no_ps hps hc) hps
      have en : (S.take P1.length).length = P1.length := by
        have hl := (List.getElem?_eq_some_iff.mp hl).1
        rw [List.length_take]; omega
      rw [en] at R7
      exact q _ _ ⟨_, _, R7⟩
    · cases e2
  · cases e2
theorem ped_dcT {kx vx tg iter : Expr} {ifs : List Expr} {scope : Scope} {own : List (Str × Nat)} {f : IM} {g : GM} {tt : BM} {tk tv : XM} {ts : List Nat} (hu : X.A.units + 65 < cLine) (hc : X.calm = true) (hN : X.N.Nodup) (hi : PId X tg iter f) (ok : BlkOk X.N X.env.scope scope own)
    (hg : ∀ (s : Shared) (H : Hp) (C : Addr) (cl : List (Str × Addr)) (fp : List Addr), PGd (X.blk s H scope (compEnvC scope cl C X.env) fp) tg ts g) (ht : ∀ (s : Shared) (H : Hp) (C : Addr) (cl : List (Str × Addr)) (fp : List Addr), PTsd (X.blk s H scope (compEnvC scope cl C X.env) fp) ifs tt)
    (hk : ∀ (s : Shared) (H : Hp) (C : Addr) (cl : List (Str × Addr)) (fp : List Addr), PEd (X.blk s H scope (compEnvC scope cl C X.env) fp) kx tk)
    (hv : ∀ (s : Shared) (H : Hp) (C : Addr) (cl : List (Str × Addr)) (fp : List Addr), PEd (X.blk s H scope (compEnvC scope cl C X.env) fp) vx tv) (hts : ∀ i ∈ ts, i ∈ own.map (·.2) := by decide) (hs : ∀ x, foldedSetIterable iter X.env x = pure x := by intro _; rfl) :
    PEd X (.DictComp kx vx [⟨tg, iter, ifs, 0⟩] scope pos) (mDcT (own.map (·.2)) f g tt tk tv) := by
  obtain ⟨wi, p0, h0⟩ := hi
  exact ⟨_, pe_dcT (g := tMG X.K ts g) (tt := tMT X.K tt) (tk := tM X.K tk) (tv := tM X.K tv) (by omega) hc hN p0 ok (fun s H C cl fp => (hg s H C cl fp).canon) (fun s H C cl fp => (ht s H C cl fp).canon) (fun s H C cl fp => (hk s H C cl fp).canon) (fun s H C cl fp => (hv s H C cl fp).canon) hs, dcT_d hts h0⟩
end
end Pd

set_option Elab.async false
set_option linter.all false
set_option maxRecDepth 100000
set_option maxHeartbeats 4000000
namespace NS
open PySem PySem.Spec PyProof.Rows L2 Pd
/-! ### the text: routesrest_k31_orders_and_wheels_bent -/
def topS (i : Nat) : Stmt := PySem.Challenge.pw_routesrest_k31_orders_and_wheels_bent.main.body.getD i (.Pass ⟨0, 0, 0, 0⟩)
abbrev s__law_copied : Stmt := topS 16
abbrev n__law_copied : List Str := ["value", "parts", "found", "key", "one"]
theorem sc__law_copied : FnScope n__law_copied ["value"] (defScope s__law_copied) := ⟨rfl, rfl, rfl, by decide +kernel, rfl, by decide +kernel, by decide +kernel⟩
abbrev s__law_draws : Stmt := topS 12
abbrev n__law_draws : List Str := ["cells", "numbers", "cell", "seed", "k", "mixed"]
theorem sc__law_draws : FnScope n__law_draws ["cells"] (defScope s__law_draws) := ⟨rfl, rfl, rfl, by decide +kernel, rfl, by decide +kernel, by decide +kernel⟩
abbrev s__law_better : Stmt := topS 23
abbrev n__law_better : List Str := ["book", "path", "paths"]
theorem sc__law_better : FnScope n__law_better ["book", "path"] (defScope s__law_better) := ⟨rfl, rfl, rfl, by decide +kernel, rfl, by decide +kernel, by decide +kernel⟩
abbrev s__law_tails : Stmt := topS 22
abbrev n__law_tails : List Str := ["path", "k"]
theorem sc__law_tails : FnScope n__law_tails ["path"] (defScope s__law_tails) := ⟨rfl, rfl, rfl, by decide +kernel, rfl, by decide +kernel, by decide +kernel⟩
abbrev s__law_arrows : Stmt := topS 24
abbrev n__law_arrows : List Str := ["book", "path"]
theorem sc__law_arrows : FnScope n__law_arrows ["book", "path"] (defScope s__law_arrows) := ⟨rfl, rfl, rfl, by decide +kernel, rfl, by decide +kernel, by decide +kernel⟩
abbrev s__law_paths : Stmt := topS 21
abbrev n__law_paths : List Str := ["book", "found", "name"]
theorem sc__law_paths : FnScope n__law_paths ["book"] (defScope s__law_paths) := ⟨rfl, rfl, rfl, by decide +kernel, rfl, by decide +kernel, by decide +kernel⟩
abbrev s__law_same : Stmt := topS 15
abbrev n__law_same : List Str := ["one", "other", "k", "key"]
theorem sc__law_same : FnScope n__law_same ["one", "other"] (defScope s__law_same) := ⟨rfl, rfl, rfl, by decide +kernel, rfl, by decide +kernel, by decide +kernel⟩
abbrev s__law_within : Stmt := topS 27
abbrev n__law_within : List Str := ["thing", "things", "one"]
theorem sc__law_within : FnScope n__law_within ["thing", "things"] (defScope s__law_within) := ⟨rfl, rfl, rfl, by decide +kernel, rfl, by decide +kernel, by decide +kernel⟩
abbrev s__law_is_order : Stmt := topS 34
abbrev n__law_is_order : List Str := ["book", "order", "paths", "k", "other", "path"]
theorem sc__law_is_order : FnScope n__law_is_order ["book", "order"] (defScope s__law_is_order) := ⟨rfl, rfl, rfl, by decide +kernel, rfl, by decide +kernel, by decide +kernel⟩
abbrev s__law_is_wheel : Stmt := topS 26
abbrev n__law_is_wheel : List Str := ["book", "wheel", "paths", "pair", "k", "path"]
theorem sc__law_is_wheel : FnScope n__law_is_wheel ["book", "wheel"] (defScope s__law_is_wheel) := ⟨rfl, rfl, rfl, by decide +kernel, rfl, by decide +kernel, by decide +kernel⟩
abbrev s__law_next : Stmt := topS 13
abbrev n__law_next : List Str := ["state", "bound", "number"]
theorem sc__law_next : FnScope n__law_next ["state", "bound"] (defScope s__law_next) := ⟨rfl, rfl, rfl, by decide +kernel, rfl, by decide +kernel, by decide +kernel⟩
abbrev s__law_order : Stmt := topS 25
abbrev n__law_order : List Str := ["book", "paths", "places", "order", "pointed", "ready", "k", "other", "path"]
theorem sc__law_order : FnScope n__law_order ["book"] (defScope s__law_order) := ⟨rfl, rfl, rfl, by decide +kernel, rfl, by decide +kernel, by decide +kernel⟩
abbrev s__law_pick : Stmt := topS 14
abbrev n__law_pick : List Str := ["state", "things"]
theorem sc__law_pick : FnScope n__law_pick ["state", "things"] (defScope s__law_pick) := ⟨rfl, rfl, rfl, by decide +kernel, rfl, by decide +kernel, by decide +kernel⟩
abbrev s__law_mixed : Stmt := topS 17
abbrev n__law_mixed : List Str := ["state", "things", "found", "thing", "at"]
theorem sc__law_mixed : FnScope n__law_mixed ["state", "things"] (defScope s__law_mixed) := ⟨rfl, rfl, rfl, by decide +kernel, rfl, by decide +kernel, by decide +kernel⟩
abbrev s__law_rows : Stmt := topS 35
abbrev n__law_rows : List Str := ["state", "book", "paths", "rows", "kind", "at", "to", "rest", "swapped", "odd", "k"]
theorem sc__law_rows : FnScope n__law_rows ["state", "book"] (defScope s__law_rows) := ⟨rfl, rfl, rfl, by decide +kernel, rfl, by decide +kernel, by decide +kernel⟩
abbrev s__law_links : Stmt := topS 20
abbrev n__law_links : List Str := ["state", "names", "found", "share", "k", "j"]
theorem sc__law_links : FnScope n__law_links ["state", "names"] (defScope s__law_links) := ⟨rfl, rfl, rfl, by decide +kernel, rfl, by decide +kernel, by decide +kernel⟩
abbrev s__law_names : Stmt := topS 18
abbrev n__law_names : List Str := ["state", "many", "letters", "found", "letter", "name", "k", "taken"]
theorem sc__law_names : FnScope n__law_names ["state", "many"] (defScope s__law_names) := ⟨rfl, rfl, rfl, by decide +kernel, rfl, by decide +kernel, by decide +kernel⟩
abbrev s__law_book : Stmt := topS 19
abbrev n__law_book : List Str := ["state", "many", "owners", "most", "names", "ends", "routers", "links", "table", "name", "level", "further", "tail", "liked"]
theorem sc__law_book : FnScope n__law_book ["state", "many", "owners", "most"] (defScope s__law_book) := ⟨rfl, rfl, rfl, by decide +kernel, rfl, by decide +kernel, by decide +kernel⟩
abbrev s__law_small_book : Stmt := topS 28
abbrev n__law_small_book : List Str := ["state", "many", "most"]
theorem sc__law_small_book : FnScope n__law_small_book ["state"] (defScope s__law_small_book) := ⟨rfl, rfl, rfl, by decide +kernel, rfl, by decide +kernel, by decide +kernel⟩
abbrev s__law_at : Stmt := topS 30
abbrev n__law_at : List Str := ["thing", "spot", "k"]
theorem sc__law_at : FnScope n__law_at ["thing", "spot"] (defScope s__law_at) := ⟨rfl, rfl, rfl, by decide +kernel, rfl, by decide +kernel, by decide +kernel⟩
abbrev s__law_put_at : Stmt := topS 31
abbrev n__law_put_at : List Str := ["thing", "spot", "new", "parts", "k"]
theorem sc__law_put_at : FnScope n__law_put_at ["thing", "spot", "new"] (defScope s__law_put_at) := ⟨rfl, rfl, rfl, by decide +kernel, rfl, by decide +kernel, by decide +kernel⟩
abbrev s__law_spots : Stmt := topS 29
abbrev n__law_spots : List Str := ["tree", "spots", "k", "spot"]
theorem sc__law_spots : FnScope n__law_spots ["tree"] (defScope s__law_spots) := ⟨rfl, rfl, rfl, by decide +kernel, rfl, by decide +kernel, by decide +kernel⟩
abbrev s__law_spoilt : Stmt := topS 32
abbrev n__law_spoilt : List Str := ["state", "thing", "pool", "spots", "spot", "here", "kind", "at"]
theorem sc__law_spoilt : FnScope n__law_spoilt ["state", "thing", "pool"] (defScope s__law_spoilt) := ⟨rfl, rfl, rfl, by decide +kernel, rfl, by decide +kernel, by decide +kernel⟩
abbrev s__law_walks : Stmt := topS 33
abbrev n__law_walks : List Str := ["book", "found", "start", "rows", "pairs", "longer", "pairs_so_far", "spoke", "rim", "tail"]
theorem sc__law_walks : FnScope n__law_walks ["book"] (defScope s__law_walks) := ⟨rfl, rfl, rfl, by decide +kernel, rfl, by decide +kernel, by decide +kernel⟩
abbrev s_rank_of : Stmt := topS 1
abbrev n_rank_of : List Str := ["book", "path"]
theorem sc_rank_of : FnScope n_rank_of ["book", "path"] (defScope s_rank_of) := ⟨rfl, rfl, rfl, by decide +kernel, rfl, by decide +kernel, by decide +kernel⟩
abbrev s_better_ones : Stmt := topS 5
abbrev n_better_ones : List Str := ["book", "path"]
theorem sc_better_ones : FnScope n_better_ones ["book", "path"] (defScope s_better_ones) := ⟨rfl, rfl, rfl, by decide +kernel, rfl, by decide +kernel, by decide +kernel⟩
abbrev s_tails_of : Stmt := topS 3
abbrev n_tails_of : List Str := ["path", "k"]
theorem sc_tails_of : FnScope n_tails_of ["path"] (defScope s_tails_of) := ⟨rfl, rfl, rfl, by decide +kernel, rfl, by decide +kernel, by decide +kernel⟩
abbrev s_arrows : Stmt := topS 6
abbrev n_arrows : List Str := ["book", "path"]
theorem sc_arrows : FnScope n_arrows ["book", "path"] (defScope s_arrows) := ⟨rfl, rfl, rfl, by decide +kernel, rfl, by decide +kernel, by decide +kernel⟩
abbrev s_is_path_of : Stmt := topS 7
abbrev n_is_path_of : List Str := ["book", "thing", "name"]
theorem sc_is_path_of : FnScope n_is_path_of ["book", "thing"] (defScope s_is_path_of) := ⟨rfl, rfl, rfl, by decide +kernel, rfl, by decide +kernel, by decide +kernel⟩
abbrev s_paths_of : Stmt := topS 2
abbrev n_paths_of : List Str := ["book", "path", "router"]
theorem sc_paths_of : FnScope n_paths_of ["book"] (defScope s_paths_of) := ⟨rfl, rfl, rfl, by decide +kernel, rfl, by decide +kernel, by decide +kernel⟩
abbrev s_order_right : Stmt := topS 8
abbrev n_order_right : List Str := ["book", "order", "places", "k", "other", "path"]
theorem sc_order_right : FnScope n_order_right ["book", "order"] (defScope s_order_right) := ⟨rfl, rfl, rfl, by decide +kernel, rfl, by decide +kernel, by decide +kernel⟩
abbrev s_is_spoke_and_rim : Stmt := topS 9
abbrev n_is_spoke_and_rim : List Str := ["book", "pair", "path"]
theorem sc_is_spoke_and_rim : FnScope n_is_spoke_and_rim ["book", "pair"] (defScope s_is_spoke_and_rim) := ⟨rfl, rfl, rfl, by decide +kernel, rfl, by decide +kernel, by decide +kernel⟩
abbrev s_wheel_right : Stmt := topS 10
abbrev n_wheel_right : List Str := ["book", "wheel", "k", "following", "pair"]
theorem sc_wheel_right : FnScope n_wheel_right ["book", "wheel"] (defScope s_wheel_right) := ⟨rfl, rfl, rfl, by decide +kernel, rfl, by decide +kernel, by decide +kernel⟩
abbrev s_law : Stmt := topS 36
abbrev n_law : List Str := ["script", "state", "turn", "book", "paths", "handed", "ask", "rows", "order", "wheels", "pool", "wheel", "bent", "path"]
theorem sc_law : FnScope n_law ["script"] (defScope s_law) := ⟨rfl, rfl, rfl, by decide +kernel, rfl, by decide +kernel, by decide +kernel⟩
structure Txt (K : PySem.W.Frag) (mg : Str → Option Value) where
  a__law_copied : Addr
  d__law_copied : FuncData
  F__law_copied : L2.Fun K "_law_copied" "_law_copied" s__law_copied a__law_copied d__law_copied
  m__law_copied : mg "_law_copied" = some (.ref a__law_copied)
  b__law_copied : Binds K d__law_copied ["value"] []
  a__law_draws : Addr
  d__law_draws : FuncData
  F__law_draws : L2.Fun K "_law_draws" "_law_draws" s__law_draws a__law_draws d__law_draws
  m__law_draws : mg "_law_draws" = some (.ref a__law_draws)
  b__law_draws : Binds K d__law_draws ["cells"] []
  a__law_better : Addr
  d__law_better : FuncData
  F__law_better : L2.Fun K "_law_better" "_law_better" s__law_better a__law_better d__law_better
  m__law_better : mg "_law_better" = some (.ref a__law_better)
  b__law_better : Binds K d__law_better ["book", "path"] []
  a__law_tails : Addr
  d__law_tails : FuncData
  F__law_tails : L2.Fun K "_law_tails" "_law_tails" s__law_tails a__law_tails d__law_tails
  m__law_tails : mg "_law_tails" = some (.ref a__law_tails)
  b__law_tails : Binds K d__law_tails ["path"] []
  a__law_arrows : Addr
  d__law_arrows : FuncData
  F__law_arrows : L2.Fun K "_law_arrows" "_law_arrows" s__law_arrows a__law_arrows d__law_arrows
  m__law_arrows : mg "_law_arrows" = some (.ref a__law_arrows)
  b__law_arrows : Binds K d__law_arrows ["book", "path"] []
  a__law_paths : Addr
  d__law_paths : FuncData
  F__law_paths : L2.Fun K "_law_paths" "_law_paths" s__law_paths a__law_paths d__law_paths
  m__law_paths : mg "_law_paths" = some (.ref a__law_paths)
  b__law_paths : Binds K d__law_paths ["book"] []
  a__law_same : Addr
  d__law_same : FuncData
  F__law_same : L2.Fun K "_law_same" "_law_same" s__law_same a__law_same d__law_same
  m__law_same : mg "_law_same" = some (.ref a__law_same)
  b__law_same : Binds K d__law_same ["one", "other"] []
  a__law_within : Addr
  d__law_within : FuncData
  F__law_within : L2.Fun K "_law_within" "_law_within" s__law_within a__law_within d__law_within
  m__law_within : mg "_law_within" = some (.ref a__law_within)
  b__law_within : Binds K d__law_within ["thing", "things"] []
  a__law_is_order : Addr
  d__law_is_order : FuncData
  F__law_is_order : L2.Fun K "_law_is_order" "_law_is_order" s__law_is_order a__law_is_order d__law_is_order
  m__law_is_order : mg "_law_is_order" = some (.ref a__law_is_order)
  b__law_is_order : Binds K d__law_is_order ["book", "order"] []
  a__law_is_wheel : Addr
  d__law_is_wheel : FuncData
  F__law_is_wheel : L2.Fun K "_law_is_wheel" "_law_is_wheel" s__law_is_wheel a__law_is_wheel d__law_is_wheel
  m__law_is_wheel : mg "_law_is_wheel" = some (.ref a__law_is_wheel)
  b__law_is_wheel : Binds K d__law_is_wheel ["book", "wheel"] []
  a__law_next : Addr
  d__law_next : FuncData
  F__law_next : L2.Fun K "_law_next" "_law_next" s__law_next a__law_next d__law_next
  m__law_next : mg "_law_next" = some (.ref a__law_next)
  b__law_next : Binds K d__law_next ["state", "bound"] []
  a__law_order : Addr
  d__law_order : FuncData
  F__law_order : L2.Fun K "_law_order" "_law_order" s__law_order a__law_order d__law_order
  m__law_order : mg "_law_order" = some (.ref a__law_order)
  b__law_order : Binds K d__law_order ["book"] []
  a__law_pick : Addr
  d__law_pick : FuncData
  F__law_pick : L2.Fun K "_law_pick" "_law_pick" s__law_pick a__law_pick d__law_pick
  m__law_pick : mg "_law_pick" = some (.ref a__law_pick)
  b__law_pick : Binds K d__law_pick ["state", "things"] []
  a__law_mixed : Addr
  d__law_mixed : FuncData
  F__law_mixed : L2.Fun K "_law_mixed" "_law_mixed" s__law_mixed a__law_mixed d__law_mixed
  m__law_mixed : mg "_law_mixed" = some (.ref a__law_mixed)
  b__law_mixed : Binds K d__law_mixed ["state", "things"] []
  a__law_rows : Addr
  d__law_rows : FuncData
  F__law_rows : L2.Fun K "_law_rows" "_law_rows" s__law_rows a__law_rows d__law_rows
  m__law_rows : mg "_law_rows" = some (.ref a__law_rows)
  b__law_rows : Binds K d__law_rows ["state", "book"] []
  a__law_links : Addr
  d__law_links : FuncData
  F__law_links : L2.Fun K "_law_links" "_law_links" s__law_links a__law_links d__law_links
  m__law_links : mg "_law_links" = some (.ref a__law_links)
  b__law_links : Binds K d__law_links ["state", "names"] []
  a__law_names : Addr
  d__law_names : FuncData
  F__law_names : L2.Fun K "_law_names" "_law_names" s__law_names a__law_names d__law_names
  m__law_names : mg "_law_names" = some (.ref a__law_names)
  b__law_names : Binds K d__law_names ["state", "many"] []
  a__law_book : Addr
  d__law_book : FuncData
  F__law_book : L2.Fun K "_law_book" "_law_book" s__law_book a__law_book d__law_book
  m__law_book : mg "_law_book" = some (.ref a__law_book)
  b__law_book : Binds K d__law_book ["state", "many", "owners", "most"] []
  a__law_small_book : Addr
  d__law_small_book : FuncData
  F__law_small_book : L2.Fun K "_law_small_book" "_law_small_book" s__law_small_book a__law_small_book d__law_small_book
  m__law_small_book : mg "_law_small_book" = some (.ref a__law_small_book)
  b__law_small_book : Binds K d__law_small_book ["state"] []
  a__law_at : Addr
  d__law_at : FuncData
  F__law_at : L2.Fun K "_law_at" "_law_at" s__law_at a__law_at d__law_at
  m__law_at : mg "_law_at" = some (.ref a__law_at)
  b__law_at : Binds K d__law_at ["thing", "spot"] []
  a__law_put_at : Addr
  d__law_put_at : FuncData
  F__law_put_at : L2.Fun K "_law_put_at" "_law_put_at" s__law_put_at a__law_put_at d__law_put_at
  m__law_put_at : mg "_law_put_at" = some (.ref a__law_put_at)
  b__law_put_at : Binds K d__law_put_at ["thing", "spot", "new"] []
  a__law_spots : Addr
  d__law_spots : FuncData
  F__law_spots : L2.Fun K "_law_spots" "_law_spots" s__law_spots a__law_spots d__law_spots
  m__law_spots : mg "_law_spots" = some (.ref a__law_spots)
  b__law_spots : Binds K d__law_spots ["tree"] []
  a__law_spoilt : Addr
  d__law_spoilt : FuncData
  F__law_spoilt : L2.Fun K "_law_spoilt" "_law_spoilt" s__law_spoilt a__law_spoilt d__law_spoilt
  m__law_spoilt : mg "_law_spoilt" = some (.ref a__law_spoilt)
  b__law_spoilt : Binds K d__law_spoilt ["state", "thing", "pool"] []
  a__law_walks : Addr
  d__law_walks : FuncData
  F__law_walks : L2.Fun K "_law_walks" "_law_walks" s__law_walks a__law_walks d__law_walks
  m__law_walks : mg "_law_walks" = some (.ref a__law_walks)
  b__law_walks : Binds K d__law_walks ["book"] []
  a_rank_of : Addr
  d_rank_of : FuncData
  F_rank_of : L2.Fun K "rank_of" "rank_of" s_rank_of a_rank_of d_rank_of
  m_rank_of : mg "rank_of" = some (.ref a_rank_of)
  b_rank_of : Binds K d_rank_of ["book", "path"] []
  a_better_ones : Addr
  d_better_ones : FuncData
  F_better_ones : L2.Fun K "better_ones" "better_ones" s_better_ones a_better_ones d_better_ones
  m_better_ones : mg "better_ones" = some (.ref a_better_ones)
  b_better_ones : Binds K d_better_ones ["book", "path"] []
  a_tails_of : Addr
  d_tails_of : FuncData
  F_tails_of : L2.Fun K "tails_of" "tails_of" s_tails_of a_tails_of d_tails_of
  m_tails_of : mg "tails_of" = some (.ref a_tails_of)
  b_tails_of : Binds K d_tails_of ["path"] []
  a_arrows : Addr
  d_arrows : FuncData
  F_arrows : L2.Fun K "arrows" "arrows" s_arrows a_arrows d_arrows
  m_arrows : mg "arrows" = some (.ref a_arrows)
  b_arrows : Binds K d_arrows ["book", "path"] []
  a_is_path_of : Addr
  d_is_path_of : FuncData
  F_is_path_of : L2.Fun K "is_path_of" "is_path_of" s_is_path_of a_is_path_of d_is_path_of
  m_is_path_of : mg "is_path_of" = some (.ref a_is_path_of)
  b_is_path_of : Binds K d_is_path_of ["book", "thing"] []
  a_paths_of : Addr
  d_paths_of : FuncData
  F_paths_of : L2.Fun K "paths_of" "paths_of" s_paths_of a_paths_of d_paths_of
  m_paths_of : mg "paths_of" = some (.ref a_paths_of)
  b_paths_of : Binds K d_paths_of ["book"] []
  a_order_right : Addr
  d_order_right : FuncData
  F_order_right : L2.Fun K "order_right" "order_right" s_order_right a_order_right d_order_right
  m_order_right : mg "order_right" = some (.ref a_order_right)
  b_order_right : Binds K d_order_right ["book", "order"] []
  a_is_spoke_and_rim : Addr
  d_is_spoke_and_rim : FuncData
  F_is_spoke_and_rim : L2.Fun K "is_spoke_and_rim" "is_spoke_and_rim" s_is_spoke_and_rim a_is_spoke_and_rim d_is_spoke_and_rim
  m_is_spoke_and_rim : mg "is_spoke_and_rim" = some (.ref a_is_spoke_and_rim)
  b_is_spoke_and_rim : Binds K d_is_spoke_and_rim ["book", "pair"] []
  a_wheel_right : Addr
  d_wheel_right : FuncData
  F_wheel_right : L2.Fun K "wheel_right" "wheel_right" s_wheel_right a_wheel_right d_wheel_right
  m_wheel_right : mg "wheel_right" = some (.ref a_wheel_right)
  b_wheel_right : Binds K d_wheel_right ["book", "wheel"] []
  a_law : Addr
  d_law : FuncData
  F_law : L2.Fun K "law" "law" s_law a_law d_law
  m_law : mg "law" = some (.ref a_law)
  b_law : Binds K d_law ["script"] []
  z_all : mg "all" = none
  z_any : mg "any" = none
  z_bool : mg "bool" = none
  z_dict : mg "dict" = none
  z_int : mg "int" = none
  z_isinstance : mg "isinstance" = none
  z_len : mg "len" = none
  z_list : mg "list" = none
  z_range : mg "range" = none
  z_sorted : mg "sorted" = none
  z_str : mg "str" = none
  z_tuple : mg "tuple" = none
section
variable {P : Program} {w : World} {K : PySem.W.Frag} {mg : Str → Option Value} {base : Heap}
def b__law_copied (self : FM) : SM := (sSeq (sIf (mOrB (mTB (mIs (inst .list) (mVar 0))) (mTB (mIs (inst .tuple) (mVar 0)))) (sSeq (sSet 1 (mLC [4] (iAny (mVar 0)) (gNm 4) bYes (mCallF self (aCons (mVar 4) aNil))))
  (sRet (mIfE (mTB (mIs (inst .tuple) (mVar 0))) (mCall gTuple (aCons (mVar 1) aNil)) (mVar 1)))) sNx)
  (sSeq (sIf (mNotB (mTB (mIs (inst .dict) (mVar 0)))) (sRet (mVar 0)) sNx)
  (sSeq (sSet 2 mDNewK)
  (sSeq (sFor (iAny (mVar 0)) (gNm 3) (sDPut (mVar 2) (mVar 3) (mCallF self (aCons (mSub (mVar 0) (mVar 3)) aNil))))
  (sRet (mVar 2))))))
def m__law_copied : Nat → FM
  | 0 => fun _ _ => none
  | n + 1 => mFun exitZ 5 (b__law_copied (m__law_copied n))
theorem ok__law_copied (T : Txt K mg)  : ∀ n : Nat, FnOk P w K mg base CX0 (0 + n) T.a__law_copied T.d__law_copied ["value"] (spM K (m__law_copied n) 1)
  | 0 => fn_none fun _ _ => rfl
  | n + 1 => by
    have ih := ok__law_copied T  n
    refine fn_m (k := 0 + n) (N := n__law_copied) exitZ_ok T.F__law_copied sc__law_copied rfl rfl (by decide) fun cdv A outer s H E hr => ?_
    have hu := hu65 hr
    unfold b__law_copied
    exact (pssd_cons (psd_if (PWd.pt (pwd_or (ptd_val (ped_isi (T := .list) (by rfl) T.z_isinstance (by rfl) T.z_list (by decide +kernel) (ped_var 0))) (pwd_or1 (ptd_val (ped_isi (T := .tuple) (by rfl) T.z_isinstance (by rfl) T.z_tuple (by decide +kernel) (ped_var 0)))))) (pssd_cons (psd_setLc (i := 1) rfl sc__law_copied.nd rfl rfl (sw_true rfl rfl rfl (by decide +kernel)) (own := [("one", 4)]) (pid_any (ped_var 0)) (blkOk_by (own := [("one", 4)]) (N := n__law_copied) (sc := defScope s__law_copied) (by decide +kernel)) (fun _ _ _ _ _ => (pgd_name (i := 4) sc__law_copied.nd rfl (by first | exact .inl rfl | exact .inr rfl))) (fun _ _ _ _ _ => ptsd_nil) (fun _ _ _ _ _ => (ped_call ih hr (by rfl) T.m__law_copied T.F__law_copied.kp T.b__law_copied (pad_cons (ped_var 4) pad_nil) (alen_cons alen_nil))))
    (pssd_one (psd_ret (ped_if (ptd_val (ped_isi (T := .tuple) (by rfl) T.z_isinstance (by rfl) T.z_tuple (by decide +kernel) (ped_var 0))) (ped_callT calld_tuple (by rfl) T.z_tuple (by decide +kernel) (pad_cons (ped_var 1) pad_nil)) (ped_var 1))))) pssd_nil)
    (pssd_cons (psd_if (ptd_not (ptd_val (ped_isi (T := .dict) (by rfl) T.z_isinstance (by rfl) T.z_dict (by decide +kernel) (ped_var 0)))) (pssd_one (psd_ret (ped_var 0))) pssd_nil)
    (pssd_cons (psd_set (i := 2) sc__law_copied.nd rfl (by first | exact .inl rfl | exact .inr rfl) ped_dnewK)
    (pssd_cons (psd_for PassesOwn.never rfl (pid_any (ped_var 0)) (pgd_name (i := 3) sc__law_copied.nd rfl (by first | exact .inl rfl | exact .inr rfl)) (pssd_one (psd_dput hu (ped_var 2) (ped_var 3) (ped_call ih hr (by rfl) T.m__law_copied T.F__law_copied.kp T.b__law_copied (pad_cons (ped_sub hu (ped_var 0) (ped_var 3) (fun _ _ => rfl)) pad_nil) (alen_cons alen_nil)))))
    (pssd_one (psd_ret (ped_var 2)))))))
def b__law_draws : SM := (sSeq (sSet 1 (mLstC aNil))
  (sSeq (sFor (iAny (mVar 0)) (gNm 2) (sSeq (sSet 3 (mBin dMod (mCall gInt (aCons (mVar 2) aNil)) (mC (.int 2147483647))))
  (sFor (iRange (aCons (mC (.int 40)) aNil)) (gNm 4) (sSeq (sSet 3 (mBin dMod (mCall gInt (aCons (mBin dAdd (mBin dAdd (mBin dMulI (mVar 3) (mC (.int 48271))) (mC (.int 12345))) (mVar 4)) aNil)) (mC (.int 2147483647))))
  (sSeq (sSet 5 (mBin dMod (mCall gInt (aCons (mBin dAdd (mBin dMulI (mVar 3) (mC (.int 69621))) (mBin dMulI (mC (.int 977)) (mVar 4))) aNil)) (mC (.int 2147483629))))
  (sSeq (sEx (mApp (mVar 1) (mIfE (mTB (mBin dGe (mVar 2) (mBin dPow (mC (.int 10)) (mC (.int 18))))) (mBin dMod (mCall gInt (aCons (mVar 2) aNil)) (mC (.int 1048576))) (mBin dMod (mCall gInt (aCons (mBin dDiv (mVar 5) (mC (.int 3))) aNil)) (mC (.int 1048576))))))
  (sSet 2 (mIfE (mTB (mBin dGe (mVar 2) (mBin dPow (mC (.int 10)) (mC (.int 18))))) (mBin dDiv (mVar 2) (mC (.int 1048576))) (mVar 2)))))))))
  (sRet (mDisp (dCons (mC (.str "numbers")) (mFz (mVar 1)) (dCons (mC (.str "at")) (mC (.int 0)) dNil))))))
def m__law_draws : FM := mFun exitC 6 b__law_draws
theorem ok__law_draws (T : Txt K mg)  : FnOk P w K mg base CX0 1 T.a__law_draws T.d__law_draws ["cells"] (spM K m__law_draws 1) := by
  refine fn_m (k := 0) (N := n__law_draws) exitC_ok T.F__law_draws sc__law_draws rfl rfl (by decide) fun cdv A outer s H E hr => ?_
  have hu := hu65 hr
  unfold b__law_draws
  exact (pssd_cons (psd_set (i := 1) sc__law_draws.nd rfl (by first | exact .inl rfl | exact .inr rfl) (ped_lstC pad_nil))
    (pssd_cons (psd_for PassesOwn.never rfl (pid_any (ped_var 0)) (pgd_name (i := 2) sc__law_draws.nd rfl (by first | exact .inl rfl | exact .inr rfl)) (pssd_cons (psd_set (i := 3) sc__law_draws.nd rfl (by first | exact .inl rfl | exact .inr rfl) (ped_bin opd_mod (ped_callT calld_int (by rfl) T.z_int (by decide +kernel) (pad_cons (ped_var 2) pad_nil)) ped_int))
    (pssd_one (psd_for PassesOwn.never rfl (pid_range1 (by rfl) T.z_range ped_int) (pgd_name (i := 4) sc__law_draws.nd rfl (by first | exact .inl rfl | exact .inr rfl)) (pssd_cons (psd_set (i := 3) sc__law_draws.nd rfl (by first | exact .inl rfl | exact .inr rfl) (ped_bin opd_mod (ped_callT calld_int (by rfl) T.z_int (by decide +kernel) (pad_cons (ped_bin opd_add (ped_bin opd_add (ped_bin opd_mulI (ped_var 3) ped_int) ped_int) (ped_var 4)) pad_nil)) ped_int))
    (pssd_cons (psd_set (i := 5) sc__law_draws.nd rfl (by first | exact .inl rfl | exact .inr rfl) (ped_bin opd_mod (ped_callT calld_int (by rfl) T.z_int (by decide +kernel) (pad_cons (ped_bin opd_add (ped_bin opd_mulI (ped_var 3) ped_int) (ped_bin opd_mulI ped_int (ped_var 4))) pad_nil)) ped_int))
    (pssd_cons (psd_expr (ped_append (ped_var 1) (ped_if (ptd_cmp opd_ge (ped_var 2) (ped_bin opd_pow ped_int ped_int) (nomark _)) (ped_bin opd_mod (ped_callT calld_int (by rfl) T.z_int (by decide +kernel) (pad_cons (ped_var 2) pad_nil)) ped_int) (ped_bin opd_mod (ped_callT calld_int (by rfl) T.z_int (by decide +kernel) (pad_cons (ped_bin opd_div (ped_var 5) ped_int) pad_nil)) ped_int))))
    (pssd_one (psd_set (i := 2) sc__law_draws.nd rfl (by first | exact .inl rfl | exact .inr rfl) (ped_if (ptd_cmp opd_ge (ped_var 2) (ped_bin opd_pow ped_int ped_int) (nomark _)) (ped_bin opd_div (ped_var 2) ped_int) (ped_var 2)))))))))))
    (pssd_one (psd_ret (ped_disp (ppd_cons ped_str (ped_fz (ped_var 1)) (ppd_cons ped_str ped_int ppd_nil)))))))
def b__law_better : SM := (sSeq (sSet 2 (mCall gListA (aCons (mSub (mSub (mVar 0) (mC (.int 2))) (mSub (mVar 1) (mC (.int 0)))) aNil)))
  (sRet (mSl (mVar 2) oNone (oSome (mIndex (mVar 2) (mVar 1))))))
def m__law_better : FM := mFun exitZ 3 b__law_better
theorem ok__law_better (T : Txt K mg)  : FnOk P w K mg base CX0 1 T.a__law_better T.d__law_better ["book", "path"] (spM K m__law_better 2) := by
  refine fn_m (k := 0) (N := n__law_better) exitZ_ok T.F__law_better sc__law_better rfl rfl (by decide) fun cdv A outer s H E hr => ?_
  have hu := hu65 hr
  unfold b__law_better
  exact (pssd_cons (psd_set (i := 2) sc__law_better.nd rfl (by first | exact .inl rfl | exact .inr rfl) (ped_callT (calld_listA rfl) (by rfl) T.z_list (by decide +kernel) (pad_cons (ped_sub hu (ped_sub hu (ped_var 0) ped_int (fun _ _ => rfl)) (ped_sub hu (ped_var 1) ped_int (fun _ _ => rfl)) (fun _ _ => rfl)) pad_nil)))
    (pssd_one (psd_ret (ped_sl (ped_var 2) pod_none (pod_some (ped_index hu (ped_var 2) (ped_var 1)))))))
def b__law_tails : SM := (sRet (mLC [1] (iRange (aCons (mC (.int 1)) (aCons (mBin dSub (mCall gLenA (aCons (mVar 0) aNil)) (mC (.int 1))) aNil))) (gNm 1) bYes (mSl (mVar 0) (oSome (mVar 1)) oNone)))
def m__law_tails : FM := mFun exitZ 2 b__law_tails
theorem ok__law_tails (T : Txt K mg)  : FnOk P w K mg base CX0 1 T.a__law_tails T.d__law_tails ["path"] (spM K m__law_tails 1) := by
  refine fn_m (k := 0) (N := n__law_tails) exitZ_ok T.F__law_tails sc__law_tails rfl rfl (by decide) fun cdv A outer s H E hr => ?_
  have hu := hu65 hr
  unfold b__law_tails
  exact (pssd_one (psd_ret (ped_lc rfl sc__law_tails.nd (own := [("k", 1)]) (pid_range2 (by rfl) T.z_range ped_int (ped_bin opd_sub (ped_callB calld_lenA (by rfl) T.z_len (by decide +kernel) (pad_cons (ped_var 0) pad_nil)) ped_int)) (blkOk_by (own := [("k", 1)]) (N := n__law_tails) (sc := defScope s__law_tails) (by decide +kernel)) (fun _ _ _ _ _ => (pgd_name (i := 1) sc__law_tails.nd rfl (by first | exact .inl rfl | exact .inr rfl))) (fun _ _ _ _ _ => ptsd_nil) (fun _ _ _ _ _ => (ped_sl (ped_var 0) (pod_some (ped_var 1)) pod_none)))))
def b__law_arrows : SM := (sRet (mBin dAdd (mCallF m__law_better (aCons (mVar 0) (aCons (mVar 1) aNil))) (mCallF m__law_tails (aCons (mVar 1) aNil))))
def m__law_arrows : FM := mFun exitZ 2 b__law_arrows
theorem ok__law_arrows (T : Txt K mg) (G__law_better : FnOk P w K mg base CX0 1 T.a__law_better T.d__law_better ["book", "path"] (spM K m__law_better 2)) (G__law_tails : FnOk P w K mg base CX0 1 T.a__law_tails T.d__law_tails ["path"] (spM K m__law_tails 1)) : FnOk P w K mg base CX0 2 T.a__law_arrows T.d__law_arrows ["book", "path"] (spM K m__law_arrows 2) := by
  refine fn_m (k := 1) (N := n__law_arrows) exitZ_ok T.F__law_arrows sc__law_arrows rfl rfl (by decide) fun cdv A outer s H E hr => ?_
  have hu := hu65 hr
  unfold b__law_arrows
  exact (pssd_one (psd_ret (ped_bin opd_add (ped_call G__law_better (hr.mono (by omega)) (by rfl) T.m__law_better T.F__law_better.kp T.b__law_better (pad_cons (ped_var 0) (pad_cons (ped_var 1) pad_nil)) (alen_cons (alen_cons alen_nil))) (ped_call G__law_tails (hr.mono (by omega)) (by rfl) T.m__law_tails T.F__law_tails.kp T.b__law_tails (pad_cons (ped_var 1) pad_nil) (alen_cons alen_nil)))))
def b__law_paths : SM := (sSeq (sSet 1 (mLst aNil))
  (sSeq (sFor (iAny (mCall gSorted (aCons (mCall gListA (aCons (mSub (mVar 0) (mC (.int 2))) aNil)) aNil))) (gNm 2) (sSet 1 (mBin dAdd (mVar 1) (mCall gListA (aCons (mSub (mSub (mVar 0) (mC (.int 2))) (mVar 2)) aNil)))))
  (sRet (mVar 1))))
def m__law_paths : FM := mFun exitZ 3 b__law_paths
theorem ok__law_paths (T : Txt K mg)  : FnOk P w K mg base CX0 1 T.a__law_paths T.d__law_paths ["book"] (spM K m__law_paths 1) := by
  refine fn_m (k := 0) (N := n__law_paths) exitZ_ok T.F__law_paths sc__law_paths rfl rfl (by decide) fun cdv A outer s H E hr => ?_
  have hu := hu65 hr
  unfold b__law_paths
  exact (pssd_cons (psd_set (i := 1) sc__law_paths.nd rfl (by first | exact .inl rfl | exact .inr rfl) (ped_lst pad_nil))
    (pssd_cons (psd_for PassesOwn.never rfl (pid_any (ped_callB (calld_sorted rfl hu) (by rfl) T.z_sorted (by decide +kernel) (pad_cons (ped_callT (calld_listA rfl) (by rfl) T.z_list (by decide +kernel) (pad_cons (ped_sub hu (ped_var 0) ped_int (fun _ _ => rfl)) pad_nil)) pad_nil))) (pgd_name (i := 2) sc__law_paths.nd rfl (by first | exact .inl rfl | exact .inr rfl)) (pssd_one (psd_set (i := 1) sc__law_paths.nd rfl (by first | exact .inl rfl | exact .inr rfl) (ped_bin opd_add (ped_var 1) (ped_callT (calld_listA rfl) (by rfl) T.z_list (by decide +kernel) (pad_cons (ped_sub hu (ped_sub hu (ped_var 0) ped_int (fun _ _ => rfl)) (ped_var 2) (fun _ _ => rfl)) pad_nil))))))
    (pssd_one (psd_ret (ped_var 1)))))
def b__law_same (self : FM) : SM := (sSeq (sIf (mAndB (mTB (mIs (inst .dict) (mVar 0))) (mTB (mIs (inst .dict) (mVar 1)))) (sRet (mAndV (mBin dEq (mCall gLenA (aCons (mVar 0) aNil)) (mCall gLenA (aCons (mVar 1) aNil))) (mCall gAll (aCons (mLC [3] (iAny (mVar 0)) (gNm 3) bYes (mAndV (mIn false (mVar 3) (mVar 1)) (mCallF self (aCons (mSub (mVar 0) (mVar 3)) (aCons (mSub (mVar 1) (mVar 3)) aNil))))) aNil)))) sNx)
  (sSeq (sIf (mAndB (mTB (mIs (fun d => inst .list d || inst .tuple d) (mVar 0))) (mTB (mIs (fun d => inst .list d || inst .tuple d) (mVar 1)))) (sSeq (sIf (mOrB (mTB (mBin dNe (mIs (inst .list) (mVar 0)) (mIs (inst .list) (mVar 1)))) (mTB (mBin dNe (mCall gLenA (aCons (mVar 0) aNil)) (mCall gLenA (aCons (mVar 1) aNil))))) (sRet (mC (.bool false))) sNx)
  (sRet (mCall gAll (aCons (mLC [2] (iRange (aCons (mCall gLenA (aCons (mVar 0) aNil)) aNil)) (gNm 2) bYes (mCallF self (aCons (mSub (mVar 0) (mVar 2)) (aCons (mSub (mVar 1) (mVar 2)) aNil)))) aNil)))) sNx)
  (sSeq (sIf (mOrB (mTB (mIs (fun d => inst .list d || (inst .tuple d || inst .dict d)) (mVar 0))) (mTB (mIs (fun d => inst .list d || (inst .tuple d || inst .dict d)) (mVar 1)))) (sRet (mC (.bool false))) sNx)
  (sSeq (sIf (mOrB (mTB (mBin (dIs false) (mVar 0) (mC .none))) (mTB (mBin (dIs false) (mVar 1) (mC .none)))) (sRet (mAndV (mBin (dIs false) (mVar 0) (mC .none)) (mBin (dIs false) (mVar 1) (mC .none)))) sNx)
  (sSeq (sIf (mOrB (mTB (mBin dNe (mIs (inst .bool) (mVar 0)) (mIs (inst .bool) (mVar 1)))) (mTB (mBin dNe (mIs (inst .int) (mVar 0)) (mIs (inst .int) (mVar 1))))) (sRet (mC (.bool false))) sNx)
  (sSeq (sIf (mTB (mBin dNe (mIs (inst .str) (mVar 0)) (mIs (inst .str) (mVar 1)))) (sRet (mC (.bool false))) sNx)
  (sRet (mBin dEq (mVar 0) (mVar 1)))))))))
def m__law_same : Nat → FM
  | 0 => fun _ _ => none
  | n + 1 => mFun exitZ 4 (b__law_same (m__law_same n))
theorem ok__law_same (T : Txt K mg)  : ∀ n : Nat, FnOk P w K mg base CX0 (0 + n) T.a__law_same T.d__law_same ["one", "other"] (spM K (m__law_same n) 2)
  | 0 => fn_none fun _ _ => rfl
  | n + 1 => by
    have ih := ok__law_same T  n
    refine fn_m (k := 0 + n) (N := n__law_same) exitZ_ok T.F__law_same sc__law_same rfl rfl (by decide) fun cdv A outer s H E hr => ?_
    have hu := hu65 hr
    unfold b__law_same
    exact (pssd_cons (psd_if (PWd.pt (pwd_and (ptd_val (ped_isi (T := .dict) (by rfl) T.z_isinstance (by rfl) T.z_dict (by decide +kernel) (ped_var 0))) (pwd_and1 (ptd_val (ped_isi (T := .dict) (by rfl) T.z_isinstance (by rfl) T.z_dict (by decide +kernel) (ped_var 1)))))) (pssd_one (psd_ret (ped_and (ped_cmp (opd_eq hu) (ped_callB calld_lenA (by rfl) T.z_len (by decide +kernel) (pad_cons (ped_var 0) pad_nil)) (ped_callB calld_lenA (by rfl) T.z_len (by decide +kernel) (pad_cons (ped_var 1) pad_nil)) (nomark _)) (ped_one (ped_callB (calld_all rfl) (by rfl) T.z_all (by decide +kernel) (pad_cons (ped_lc rfl sc__law_same.nd (own := [("key", 3)]) (pid_any (ped_var 0)) (blkOk_by (own := [("key", 3)]) (N := n__law_same) (sc := defScope s__law_same) (by decide +kernel)) (fun _ _ _ _ _ => (pgd_name (i := 3) sc__law_same.nd rfl (by first | exact .inl rfl | exact .inr rfl))) (fun _ _ _ _ _ => ptsd_nil) (fun _ _ _ _ _ => (ped_and (ped_in hu (ped_var 3) (ped_var 1)) (ped_one (ped_call ih hr (by rfl) T.m__law_same T.F__law_same.kp T.b__law_same (pad_cons (ped_sub hu (ped_var 0) (ped_var 3) (fun _ _ => rfl)) (pad_cons (ped_sub hu (ped_var 1) (ped_var 3) (fun _ _ => rfl)) pad_nil)) (alen_cons (alen_cons alen_nil))))))) pad_nil)))))) pssd_nil)
    (pssd_cons (psd_if (PWd.pt (pwd_and (ptd_val (ped_isi2 (T := .list) (U := .tuple) (by rfl) T.z_isinstance (by rfl) T.z_list (by decide +kernel) (by rfl) T.z_tuple (by decide +kernel) (ped_var 0))) (pwd_and1 (ptd_val (ped_isi2 (T := .list) (U := .tuple) (by rfl) T.z_isinstance (by rfl) T.z_list (by decide +kernel) (by rfl) T.z_tuple (by decide +kernel) (ped_var 1)))))) (pssd_cons (psd_if (PWd.pt (pwd_or (ptd_cmp (opd_ne hu) (ped_isi (T := .list) (by rfl) T.z_isinstance (by rfl) T.z_list (by decide +kernel) (ped_var 0)) (ped_isi (T := .list) (by rfl) T.z_isinstance (by rfl) T.z_list (by decide +kernel) (ped_var 1)) (nomark _)) (pwd_or1 (ptd_cmp (opd_ne hu) (ped_callB calld_lenA (by rfl) T.z_len (by decide +kernel) (pad_cons (ped_var 0) pad_nil)) (ped_callB calld_lenA (by rfl) T.z_len (by decide +kernel) (pad_cons (ped_var 1) pad_nil)) (nomark _))))) (pssd_one (psd_ret ped_bl)) pssd_nil)
    (pssd_one (psd_ret (ped_callB (calld_all rfl) (by rfl) T.z_all (by decide +kernel) (pad_cons (ped_lc rfl sc__law_same.nd (own := [("k", 2)]) (pid_range1 (by rfl) T.z_range (ped_callB calld_lenA (by rfl) T.z_len (by decide +kernel) (pad_cons (ped_var 0) pad_nil))) (blkOk_by (own := [("k", 2)]) (N := n__law_same) (sc := defScope s__law_same) (by decide +kernel)) (fun _ _ _ _ _ => (pgd_name (i := 2) sc__law_same.nd rfl (by first | exact .inl rfl | exact .inr rfl))) (fun _ _ _ _ _ => ptsd_nil) (fun _ _ _ _ _ => (ped_call ih hr (by rfl) T.m__law_same T.F__law_same.kp T.b__law_same (pad_cons (ped_sub hu (ped_var 0) (ped_var 2) (fun _ _ => rfl)) (pad_cons (ped_sub hu (ped_var 1) (ped_var 2) (fun _ _ => rfl)) pad_nil)) (alen_cons (alen_cons alen_nil))))) pad_nil))))) pssd_nil)
    (pssd_cons (psd_if (PWd.pt (pwd_or (ptd_val (ped_isi3 (T := .list) (U := .tuple) (W := .dict) (by rfl) T.z_isinstance (by rfl) T.z_list (by decide +kernel) (by rfl) T.z_tuple (by decide +kernel) (by rfl) T.z_dict (by decide +kernel) (ped_var 0))) (pwd_or1 (ptd_val (ped_isi3 (T := .list) (U := .tuple) (W := .dict) (by rfl) T.z_isinstance (by rfl) T.z_list (by decide +kernel) (by rfl) T.z_tuple (by decide +kernel) (by rfl) T.z_dict (by decide +kernel) (ped_var 1)))))) (pssd_one (psd_ret ped_bl)) pssd_nil)
    (pssd_cons (psd_if (PWd.pt (pwd_or (ptd_cmp opd_is (ped_var 0) ped_non (nomark _)) (pwd_or1 (ptd_cmp opd_is (ped_var 1) ped_non (nomark _))))) (pssd_one (psd_ret (ped_and (ped_cmp opd_is (ped_var 0) ped_non (nomark _)) (ped_one (ped_cmp opd_is (ped_var 1) ped_non (nomark _)))))) pssd_nil)
    (pssd_cons (psd_if (PWd.pt (pwd_or (ptd_cmp (opd_ne hu) (ped_isi (T := .bool) (by rfl) T.z_isinstance (by rfl) T.z_bool (by decide +kernel) (ped_var 0)) (ped_isi (T := .bool) (by rfl) T.z_isinstance (by rfl) T.z_bool (by decide +kernel) (ped_var 1)) (nomark _)) (pwd_or1 (ptd_cmp (opd_ne hu) (ped_isi (T := .int) (by rfl) T.z_isinstance (by rfl) T.z_int (by decide +kernel) (ped_var 0)) (ped_isi (T := .int) (by rfl) T.z_isinstance (by rfl) T.z_int (by decide +kernel) (ped_var 1)) (nomark _))))) (pssd_one (psd_ret ped_bl)) pssd_nil)
    (pssd_cons (psd_if (ptd_cmp (opd_ne hu) (ped_isi (T := .str) (by rfl) T.z_isinstance (by rfl) T.z_str (by decide +kernel) (ped_var 0)) (ped_isi (T := .str) (by rfl) T.z_isinstance (by rfl) T.z_str (by decide +kernel) (ped_var 1)) (nomark _)) (pssd_one (psd_ret ped_bl)) pssd_nil)
    (pssd_one (psd_ret (ped_cmp (opd_eq hu) (ped_var 0) (ped_var 1) (nomark _))))))))))
def b__law_within : SM := (sRet (mCall gAny (aCons (mLC [2] (iAny (mVar 1)) (gNm 2) bYes (mCallF (m__law_same 40) (aCons (mVar 0) (aCons (mVar 2) aNil)))) aNil)))
def m__law_within : FM := mFun exitZ 3 b__law_within
theorem ok__law_within (T : Txt K mg) (G__law_same : FnOk P w K mg base CX0 40 T.a__law_same T.d__law_same ["one", "other"] (spM K (m__law_same 40) 2)) : FnOk P w K mg base CX0 41 T.a__law_within T.d__law_within ["thing", "things"] (spM K m__law_within 2) := by
  refine fn_m (k := 40) (N := n__law_within) exitZ_ok T.F__law_within sc__law_within rfl rfl (by decide) fun cdv A outer s H E hr => ?_
  have hu := hu65 hr
  unfold b__law_within
  exact (pssd_one (psd_ret (ped_callB (calld_any rfl) (by rfl) T.z_any (by decide +kernel) (pad_cons (ped_lc rfl sc__law_within.nd (own := [("one", 2)]) (pid_any (ped_var 1)) (blkOk_by (own := [("one", 2)]) (N := n__law_within) (sc := defScope s__law_within) (by decide +kernel)) (fun _ _ _ _ _ => (pgd_name (i := 2) sc__law_within.nd rfl (by first | exact .inl rfl | exact .inr rfl))) (fun _ _ _ _ _ => ptsd_nil) (fun _ _ _ _ _ => (ped_call G__law_same (hr.mono (by omega)) (by rfl) T.m__law_same T.F__law_same.kp T.b__law_same (pad_cons (ped_var 0) (pad_cons (ped_var 2) pad_nil)) (alen_cons (alen_cons alen_nil))))) pad_nil))))
def b__law_is_order : SM := (sSeq (sSet 2 (mCallF m__law_paths (aCons (mVar 0) aNil)))
  (sSeq (sIf (mOrB (mNotB (mTB (mIs (inst .list) (mVar 1)))) (mOrB (mTB (mBin dNe (mCall gLenA (aCons (mVar 1) aNil)) (mCall gLenA (aCons (mVar 2) aNil)))) (mNotB (mTB (mCall gAll (aCons (mLC [5] (iAny (mVar 2)) (gNm 5) bYes (mCallF m__law_within (aCons (mVar 5) (aCons (mVar 1) aNil)))) aNil)))))) (sRet (mC (.bool false))) sNx)
  (sRet (mCall gAll (aCons (mLC [3] (iRange (aCons (mCall gLenA (aCons (mVar 1) aNil)) aNil)) (gNm 3) bYes (mCall gAll (aCons (mLC [4] (iAny (mCallF m__law_arrows (aCons (mVar 0) (aCons (mSub (mVar 1) (mVar 3)) aNil)))) (gNm 4) bYes (mIn false (mVar 4) (mSl (mVar 1) oNone (oSome (mVar 3))))) aNil))) aNil)))))
def m__law_is_order : FM := mFun exitZ 6 b__law_is_order
theorem ok__law_is_order (T : Txt K mg) (G__law_arrows : FnOk P w K mg base CX0 2 T.a__law_arrows T.d__law_arrows ["book", "path"] (spM K m__law_arrows 2)) (G__law_paths : FnOk P w K mg base CX0 1 T.a__law_paths T.d__law_paths ["book"] (spM K m__law_paths 1)) (G__law_within : FnOk P w K mg base CX0 41 T.a__law_within T.d__law_within ["thing", "things"] (spM K m__law_within 2)) : FnOk P w K mg base CX0 42 T.a__law_is_order T.d__law_is_order ["book", "order"] (spM K m__law_is_order 2) := by
  refine fn_m (k := 41) (N := n__law_is_order) exitZ_ok T.F__law_is_order sc__law_is_order rfl rfl (by decide) fun cdv A outer s H E hr => ?_
  have hu := hu65 hr
  unfold b__law_is_order
  exact (pssd_cons (psd_set (i := 2) sc__law_is_order.nd rfl (by first | exact .inl rfl | exact .inr rfl) (ped_call G__law_paths (hr.mono (by omega)) (by rfl) T.m__law_paths T.F__law_paths.kp T.b__law_paths (pad_cons (ped_var 0) pad_nil) (alen_cons alen_nil)))
    (pssd_cons (psd_if (PWd.pt (pwd_or (ptd_not (ptd_val (ped_isi (T := .list) (by rfl) T.z_isinstance (by rfl) T.z_list (by decide +kernel) (ped_var 1)))) (pwd_or (ptd_cmp (opd_ne hu) (ped_callB calld_lenA (by rfl) T.z_len (by decide +kernel) (pad_cons (ped_var 1) pad_nil)) (ped_callB calld_lenA (by rfl) T.z_len (by decide +kernel) (pad_cons (ped_var 2) pad_nil)) (nomark _)) (pwd_or1 (ptd_not (ptd_val (ped_callB (calld_all rfl) (by rfl) T.z_all (by decide +kernel) (pad_cons (ped_lc rfl sc__law_is_order.nd (own := [("path", 5)]) (pid_any (ped_var 2)) (blkOk_by (own := [("path", 5)]) (N := n__law_is_order) (sc := defScope s__law_is_order) (by decide +kernel)) (fun _ _ _ _ _ => (pgd_name (i := 5) sc__law_is_order.nd rfl (by first | exact .inl rfl | exact .inr rfl))) (fun _ _ _ _ _ => ptsd_nil) (fun _ _ _ _ _ => (ped_call G__law_within (hr.mono (by omega)) (by rfl) T.m__law_within T.F__law_within.kp T.b__law_within (pad_cons (ped_var 5) (pad_cons (ped_var 1) pad_nil)) (alen_cons (alen_cons alen_nil))))) pad_nil)))))))) (pssd_one (psd_ret ped_bl)) pssd_nil)
    (pssd_one (psd_ret (ped_callB (calld_all rfl) (by rfl) T.z_all (by decide +kernel) (pad_cons (ped_lc rfl sc__law_is_order.nd (own := [("k", 3)]) (pid_range1 (by rfl) T.z_range (ped_callB calld_lenA (by rfl) T.z_len (by decide +kernel) (pad_cons (ped_var 1) pad_nil))) (blkOk_by (own := [("k", 3)]) (N := n__law_is_order) (sc := defScope s__law_is_order) (by decide +kernel)) (fun _ _ _ _ _ => (pgd_name (i := 3) sc__law_is_order.nd rfl (by first | exact .inl rfl | exact .inr rfl))) (fun _ _ _ _ _ => ptsd_nil) (fun _ _ _ _ _ => (ped_callB (calld_all rfl) (by rfl) T.z_all (by decide +kernel) (pad_cons (ped_lc rfl sc__law_is_order.nd (own := [("other", 4)]) (pid_any (ped_call G__law_arrows (hr.mono (by omega)) (by rfl) T.m__law_arrows T.F__law_arrows.kp T.b__law_arrows (pad_cons (ped_var 0) (pad_cons (ped_sub hu (ped_var 1) (ped_var 3) (fun _ _ => rfl)) pad_nil)) (alen_cons (alen_cons alen_nil)))) (blkOk_by (own := [("other", 4)]) (N := n__law_is_order) (sc := (relS _ (defScope s__law_is_order))) (by decide +kernel)) (fun _ _ _ _ _ => (pgd_name (i := 4) sc__law_is_order.nd rfl (by first | exact .inl rfl | exact .inr rfl))) (fun _ _ _ _ _ => ptsd_nil) (fun _ _ _ _ _ => (ped_in hu (ped_var 4) (ped_sl (ped_var 1) pod_none (pod_some (ped_var 3)))))) pad_nil)))) pad_nil))))))
def b__law_is_wheel : SM := (sSeq (sIf (mOrB (mNotB (mTB (mIs (inst .tuple) (mVar 1)))) (mTB (mBin dEq (mCall gLenA (aCons (mVar 1) aNil)) (mC (.int 0))))) (sRet (mC (.bool false))) sNx)
  (sSeq (sSet 2 (mCallF m__law_paths (aCons (mVar 0) aNil)))
  (sSeq (sFor (iAny (mVar 1)) (gNm 3) (sSeq (sIf (mOrB (mNotB (mTB (mIs (inst .tuple) (mVar 3)))) (mOrB (mTB (mBin dNe (mCall gLenA (aCons (mVar 3) aNil)) (mC (.int 2)))) (mNotB (mTB (mCall gAll (aCons (mLC [5] (iAny (mVar 3)) (gNm 5) bYes (mCallF m__law_within (aCons (mVar 5) (aCons (mVar 2) aNil)))) aNil)))))) (sRet (mC (.bool false))) sNx)
  (sIf (mTB (mIn true (mSub (mVar 3) (mC (.int 1))) (mCallF m__law_better (aCons (mVar 0) (aCons (mSub (mVar 3) (mC (.int 0))) aNil))))) (sRet (mC (.bool false))) sNx)))
  (sRet (mCall gAll (aCons (mLC [4] (iRange (aCons (mCall gLenA (aCons (mVar 1) aNil)) aNil)) (gNm 4) bYes (mIn false (mSub (mSub (mVar 1) (mIfE (mTB (mBin dLt (mBin dAdd (mVar 4) (mC (.int 1))) (mCall gLenA (aCons (mVar 1) aNil)))) (mBin dAdd (mVar 4) (mC (.int 1))) (mC (.int 0)))) (mC (.int 0))) (mCallF m__law_tails (aCons (mSub (mSub (mVar 1) (mVar 4)) (mC (.int 1))) aNil)))) aNil))))))
def m__law_is_wheel : FM := mFun exitZ 6 b__law_is_wheel
theorem ok__law_is_wheel (T : Txt K mg) (G__law_better : FnOk P w K mg base CX0 1 T.a__law_better T.d__law_better ["book", "path"] (spM K m__law_better 2)) (G__law_paths : FnOk P w K mg base CX0 1 T.a__law_paths T.d__law_paths ["book"] (spM K m__law_paths 1)) (G__law_tails : FnOk P w K mg base CX0 1 T.a__law_tails T.d__law_tails ["path"] (spM K m__law_tails 1)) (G__law_within : FnOk P w K mg base CX0 41 T.a__law_within T.d__law_within ["thing", "things"] (spM K m__law_within 2)) : FnOk P w K mg base CX0 42 T.a__law_is_wheel T.d__law_is_wheel ["book", "wheel"] (spM K m__law_is_wheel 2) := by
  refine fn_m (k := 41) (N := n__law_is_wheel) exitZ_ok T.F__law_is_wheel sc__law_is_wheel rfl rfl (by decide) fun cdv A outer s H E hr => ?_
  have hu := hu65 hr
  unfold b__law_is_wheel
  exact (pssd_cons (psd_if (PWd.pt (pwd_or (ptd_not (ptd_val (ped_isi (T := .tuple) (by rfl) T.z_isinstance (by rfl) T.z_tuple (by decide +kernel) (ped_var 1)))) (pwd_or1 (ptd_cmp (opd_eq hu) (ped_callB calld_lenA (by rfl) T.z_len (by decide +kernel) (pad_cons (ped_var 1) pad_nil)) ped_int (nomark _))))) (pssd_one (psd_ret ped_bl)) pssd_nil)
    (pssd_cons (psd_set (i := 2) sc__law_is_wheel.nd rfl (by first | exact .inl rfl | exact .inr rfl) (ped_call G__law_paths (hr.mono (by omega)) (by rfl) T.m__law_paths T.F__law_paths.kp T.b__law_paths (pad_cons (ped_var 0) pad_nil) (alen_cons alen_nil)))
    (pssd_cons (psd_for PassesOwn.never rfl (pid_any (ped_var 1)) (pgd_name (i := 3) sc__law_is_wheel.nd rfl (by first | exact .inl rfl | exact .inr rfl)) (pssd_cons (psd_if (PWd.pt (pwd_or (ptd_not (ptd_val (ped_isi (T := .tuple) (by rfl) T.z_isinstance (by rfl) T.z_tuple (by decide +kernel) (ped_var 3)))) (pwd_or (ptd_cmp (opd_ne hu) (ped_callB calld_lenA (by rfl) T.z_len (by decide +kernel) (pad_cons (ped_var 3) pad_nil)) ped_int (nomark _)) (pwd_or1 (ptd_not (ptd_val (ped_callB (calld_all rfl) (by rfl) T.z_all (by decide +kernel) (pad_cons (ped_lc rfl sc__law_is_wheel.nd (own := [("path", 5)]) (pid_any (ped_var 3)) (blkOk_by (own := [("path", 5)]) (N := n__law_is_wheel) (sc := defScope s__law_is_wheel) (by decide +kernel)) (fun _ _ _ _ _ => (pgd_name (i := 5) sc__law_is_wheel.nd rfl (by first | exact .inl rfl | exact .inr rfl))) (fun _ _ _ _ _ => ptsd_nil) (fun _ _ _ _ _ => (ped_call G__law_within (hr.mono (by omega)) (by rfl) T.m__law_within T.F__law_within.kp T.b__law_within (pad_cons (ped_var 5) (pad_cons (ped_var 2) pad_nil)) (alen_cons (alen_cons alen_nil))))) pad_nil)))))))) (pssd_one (psd_ret ped_bl)) pssd_nil)
    (pssd_one (psd_if (ptd_notin hu (ped_sub hu (ped_var 3) ped_int (fun _ _ => rfl)) (ped_call G__law_better (hr.mono (by omega)) (by rfl) T.m__law_better T.F__law_better.kp T.b__law_better (pad_cons (ped_var 0) (pad_cons (ped_sub hu (ped_var 3) ped_int (fun _ _ => rfl)) pad_nil)) (alen_cons (alen_cons alen_nil)))) (pssd_one (psd_ret ped_bl)) pssd_nil))))
    (pssd_one (psd_ret (ped_callB (calld_all rfl) (by rfl) T.z_all (by decide +kernel) (pad_cons (ped_lc rfl sc__law_is_wheel.nd (own := [("k", 4)]) (pid_range1 (by rfl) T.z_range (ped_callB calld_lenA (by rfl) T.z_len (by decide +kernel) (pad_cons (ped_var 1) pad_nil))) (blkOk_by (own := [("k", 4)]) (N := n__law_is_wheel) (sc := defScope s__law_is_wheel) (by decide +kernel)) (fun _ _ _ _ _ => (pgd_name (i := 4) sc__law_is_wheel.nd rfl (by first | exact .inl rfl | exact .inr rfl))) (fun _ _ _ _ _ => ptsd_nil) (fun _ _ _ _ _ => (ped_in hu (ped_sub hu (ped_sub hu (ped_var 1) (ped_if (ptd_cmp opd_lt (ped_bin opd_add (ped_var 4) ped_int) (ped_callB calld_lenA (by rfl) T.z_len (by decide +kernel) (pad_cons (ped_var 1) pad_nil)) (nomark _)) (ped_bin opd_add (ped_var 4) ped_int) ped_int) (fun _ _ => rfl)) ped_int (fun _ _ => rfl)) (ped_call G__law_tails (hr.mono (by omega)) (by rfl) T.m__law_tails T.F__law_tails.kp T.b__law_tails (pad_cons (ped_sub hu (ped_sub hu (ped_var 1) (ped_var 4) (fun _ _ => rfl)) ped_int (fun _ _ => rfl)) pad_nil) (alen_cons alen_nil))))) pad_nil)))))))
def b__law_next : SM := (sSeq (sSet 2 (mBin dAdd (mSub (mSub (mVar 0) (mC (.str "numbers"))) (mBin dMod (mCall gInt (aCons (mSub (mVar 0) (mC (.str "at"))) aNil)) (mCall gLenA (aCons (mSub (mVar 0) (mC (.str "numbers"))) aNil)))) (mBin dDiv (mCall gInt (aCons (mSub (mVar 0) (mC (.str "at"))) aNil)) (mCall gLenA (aCons (mSub (mVar 0) (mC (.str "numbers"))) aNil)))))
  (sSeq (sDPut (mVar 0) (mC (.str "at")) (mBin dAdd (mSub (mVar 0) (mC (.str "at"))) (mC (.int 1))))
  (sRet (mBin dMod (mCall gInt (aCons (mVar 2) aNil)) (mVar 1)))))
def m__law_next : FM := mFun exitZ 3 b__law_next
theorem ok__law_next (T : Txt K mg)  : FnOk P w K mg base CX0 1 T.a__law_next T.d__law_next ["state", "bound"] (spM K m__law_next 2) := by
  refine fn_m (k := 0) (N := n__law_next) exitZ_ok T.F__law_next sc__law_next rfl rfl (by decide) fun cdv A outer s H E hr => ?_
  have hu := hu65 hr
  unfold b__law_next
  exact (pssd_cons (psd_set (i := 2) sc__law_next.nd rfl (by first | exact .inl rfl | exact .inr rfl) (ped_bin opd_add (ped_sub hu (ped_sub hu (ped_var 0) ped_str (fun _ _ => rfl)) (ped_bin opd_mod (ped_callT calld_int (by rfl) T.z_int (by decide +kernel) (pad_cons (ped_sub hu (ped_var 0) ped_str (fun _ _ => rfl)) pad_nil)) (ped_callB calld_lenA (by rfl) T.z_len (by decide +kernel) (pad_cons (ped_sub hu (ped_var 0) ped_str (fun _ _ => rfl)) pad_nil))) (fun _ _ => rfl)) (ped_bin opd_div (ped_callT calld_int (by rfl) T.z_int (by decide +kernel) (pad_cons (ped_sub hu (ped_var 0) ped_str (fun _ _ => rfl)) pad_nil)) (ped_callB calld_lenA (by rfl) T.z_len (by decide +kernel) (pad_cons (ped_sub hu (ped_var 0) ped_str (fun _ _ => rfl)) pad_nil)))))
    (pssd_cons (psd_dput hu (ped_var 0) ped_str (ped_bin opd_add (ped_sub hu (ped_var 0) ped_str (fun _ _ => rfl)) ped_int))
    (pssd_one (psd_ret (ped_bin opd_mod (ped_callT calld_int (by rfl) T.z_int (by decide +kernel) (pad_cons (ped_var 2) pad_nil)) (ped_var 1))))))
def b__law_order : SM := (sSeq (sSet 1 (mCallF m__law_paths (aCons (mVar 0) aNil)))
  (sSeq (sSet 2 mDNewT)
  (sSeq (sSet 3 (mLstC aNil))
  (sSeq (sSet 4 (mLC [8] (iAny (mVar 1)) (gNm 8) bYes (mCallF m__law_arrows (aCons (mVar 0) (aCons (mVar 8) aNil)))))
  (sSeq (whGo (mTB (mBin dLt (mCall gLenA (aCons (mVar 3) aNil)) (mCall gLenA (aCons (mVar 1) aNil)))) (sSeq (sSet 5 (mLC [6] (iRange (aCons (mCall gLenA (aCons (mVar 1) aNil)) aNil)) (gNm 6) (mAndB (mTB (mIn true (mSub (mVar 1) (mVar 6)) (mVar 2))) (mTB (mCall gAll (aCons (mLC [7] (iAny (mSub (mVar 4) (mVar 6))) (gNm 7) bYes (mIn false (mVar 7) (mVar 2))) aNil)))) (mVar 6)))
  (sSeq (sIf (mTB (mBin dEq (mCall gLenA (aCons (mVar 5) aNil)) (mC (.int 0)))) (sRet (mC .none)) sNx)
  (sSeq (sDPut (mVar 2) (mSub (mVar 1) (mSub (mVar 5) (mC (.int 0)))) (mC (.bool true)))
  (sEx (mApp (mVar 3) (mSub (mVar 1) (mSub (mVar 5) (mC (.int 0))))))))) 100000)
  (sRet (mVar 3)))))))
def m__law_order : FM := mFun exitZ 9 b__law_order
theorem ok__law_order (T : Txt K mg) (G__law_arrows : FnOk P w K mg base CX0 2 T.a__law_arrows T.d__law_arrows ["book", "path"] (spM K m__law_arrows 2)) (G__law_paths : FnOk P w K mg base CX0 1 T.a__law_paths T.d__law_paths ["book"] (spM K m__law_paths 1)) : FnOk P w K mg base CX0 3 T.a__law_order T.d__law_order ["book"] (spM K m__law_order 1) := by
  refine fn_m (k := 2) (N := n__law_order) exitZ_ok T.F__law_order sc__law_order rfl rfl (by decide) fun cdv A outer s H E hr => ?_
  have hu := hu65 hr
  unfold b__law_order
  exact (pssd_cons (psd_set (i := 1) sc__law_order.nd rfl (by first | exact .inl rfl | exact .inr rfl) (ped_call G__law_paths (hr.mono (by omega)) (by rfl) T.m__law_paths T.F__law_paths.kp T.b__law_paths (pad_cons (ped_var 0) pad_nil) (alen_cons alen_nil)))
    (pssd_cons (psd_set (i := 2) sc__law_order.nd rfl (by first | exact .inl rfl | exact .inr rfl) ped_dnewT)
    (pssd_cons (psd_set (i := 3) sc__law_order.nd rfl (by first | exact .inl rfl | exact .inr rfl) (ped_lstC pad_nil))
    (pssd_cons (psd_set (i := 4) sc__law_order.nd rfl (by first | exact .inl rfl | exact .inr rfl) (ped_lc rfl sc__law_order.nd (own := [("path", 8)]) (pid_any (ped_var 1)) (blkOk_by (own := [("path", 8)]) (N := n__law_order) (sc := defScope s__law_order) (by decide +kernel)) (fun _ _ _ _ _ => (pgd_name (i := 8) sc__law_order.nd rfl (by first | exact .inl rfl | exact .inr rfl))) (fun _ _ _ _ _ => ptsd_nil) (fun _ _ _ _ _ => (ped_call G__law_arrows (hr.mono (by omega)) (by rfl) T.m__law_arrows T.F__law_arrows.kp T.b__law_arrows (pad_cons (ped_var 0) (pad_cons (ped_var 8) pad_nil)) (alen_cons (alen_cons alen_nil))))))
    (pssd_cons (psd_while 100000 PassesOwn.never (ptd_cmp opd_lt (ped_callB calld_lenA (by rfl) T.z_len (by decide +kernel) (pad_cons (ped_var 3) pad_nil)) (ped_callB calld_lenA (by rfl) T.z_len (by decide +kernel) (pad_cons (ped_var 1) pad_nil)) (nomark _)) (pssd_cons (psd_setLc (i := 5) rfl sc__law_order.nd rfl rfl (sw_true rfl rfl rfl (by decide +kernel)) (own := [("k", 6)]) (pid_range1 (by rfl) T.z_range (ped_callB calld_lenA (by rfl) T.z_len (by decide +kernel) (pad_cons (ped_var 1) pad_nil))) (blkOk_by (own := [("k", 6)]) (N := n__law_order) (sc := defScope s__law_order) (by decide +kernel)) (fun _ _ _ _ _ => (pgd_name (i := 6) sc__law_order.nd rfl (by first | exact .inl rfl | exact .inr rfl))) (fun _ _ _ _ _ => (ptsd_one (PWd.pt (pwd_and (ptd_notin hu (ped_sub hu (ped_var 1) (ped_var 6) (fun _ _ => rfl)) (ped_var 2)) (pwd_and1 (ptd_val (ped_callB (calld_all rfl) (by rfl) T.z_all (by decide +kernel) (pad_cons (ped_lc rfl sc__law_order.nd (own := [("other", 7)]) (pid_any (ped_sub hu (ped_var 4) (ped_var 6) (fun _ _ => rfl))) (blkOk_by (own := [("other", 7)]) (N := n__law_order) (sc := (relS _ (defScope s__law_order))) (by decide +kernel)) (fun _ _ _ _ _ => (pgd_name (i := 7) sc__law_order.nd rfl (by first | exact .inl rfl | exact .inr rfl))) (fun _ _ _ _ _ => ptsd_nil) (fun _ _ _ _ _ => (ped_in hu (ped_var 7) (ped_var 2)))) pad_nil)))))))) (fun _ _ _ _ _ => (ped_var 6)))
    (pssd_cons (psd_if (ptd_cmp (opd_eq hu) (ped_callB calld_lenA (by rfl) T.z_len (by decide +kernel) (pad_cons (ped_var 5) pad_nil)) ped_int (nomark _)) (pssd_one (psd_ret ped_non)) pssd_nil)
    (pssd_cons (psd_dput hu (ped_var 2) (ped_sub hu (ped_var 1) (ped_sub hu (ped_var 5) ped_int (fun _ _ => rfl)) (fun _ _ => rfl)) ped_bl)
    (pssd_one (psd_expr (ped_append (ped_var 3) (ped_sub hu (ped_var 1) (ped_sub hu (ped_var 5) ped_int (fun _ _ => rfl)) (fun _ _ => rfl)))))))))
    (pssd_one (psd_ret (ped_var 3))))))))
def b__law_pick : SM := (sRet (mSub (mVar 1) (mCallF m__law_next (aCons (mVar 0) (aCons (mCall gLenA (aCons (mVar 1) aNil)) aNil)))))
def m__law_pick : FM := mFun exitZ 2 b__law_pick
theorem ok__law_pick (T : Txt K mg) (G__law_next : FnOk P w K mg base CX0 1 T.a__law_next T.d__law_next ["state", "bound"] (spM K m__law_next 2)) : FnOk P w K mg base CX0 2 T.a__law_pick T.d__law_pick ["state", "things"] (spM K m__law_pick 2) := by
  refine fn_m (k := 1) (N := n__law_pick) exitZ_ok T.F__law_pick sc__law_pick rfl rfl (by decide) fun cdv A outer s H E hr => ?_
  have hu := hu65 hr
  unfold b__law_pick
  exact (pssd_one (psd_ret (ped_sub hu (ped_var 1) (ped_call G__law_next (hr.mono (by omega)) (by rfl) T.m__law_next T.F__law_next.kp T.b__law_next (pad_cons (ped_var 0) (pad_cons (ped_callB calld_lenA (by rfl) T.z_len (by decide +kernel) (pad_cons (ped_var 1) pad_nil)) pad_nil)) (alen_cons (alen_cons alen_nil))) (fun _ _ => rfl))))
def b__law_mixed : SM := (sSeq (sSet 2 (mLst aNil))
  (sSeq (sFor (iAny (mVar 1)) (gNm 3) (sSeq (sSet 4 (mCallF m__law_next (aCons (mVar 0) (aCons (mBin dAdd (mCall gLenA (aCons (mVar 2) aNil)) (mC (.int 1))) aNil))))
  (sSet 2 (mBin dAdd (mBin dAdd (mSl (mVar 2) oNone (oSome (mVar 4))) (mLst (aCons (mVar 3) aNil))) (mSl (mVar 2) (oSome (mVar 4)) oNone)))))
  (sRet (mVar 2))))
def m__law_mixed : FM := mFun exitZ 5 b__law_mixed
theorem ok__law_mixed (T : Txt K mg) (G__law_next : FnOk P w K mg base CX0 1 T.a__law_next T.d__law_next ["state", "bound"] (spM K m__law_next 2)) : FnOk P w K mg base CX0 2 T.a__law_mixed T.d__law_mixed ["state", "things"] (spM K m__law_mixed 2) := by
  refine fn_m (k := 1) (N := n__law_mixed) exitZ_ok T.F__law_mixed sc__law_mixed rfl rfl (by decide) fun cdv A outer s H E hr => ?_
  have hu := hu65 hr
  unfold b__law_mixed
  exact (pssd_cons (psd_set (i := 2) sc__law_mixed.nd rfl (by first | exact .inl rfl | exact .inr rfl) (ped_lst pad_nil))
    (pssd_cons (psd_for PassesOwn.never rfl (pid_any (ped_var 1)) (pgd_name (i := 3) sc__law_mixed.nd rfl (by first | exact .inl rfl | exact .inr rfl)) (pssd_cons (psd_set (i := 4) sc__law_mixed.nd rfl (by first | exact .inl rfl | exact .inr rfl) (ped_call G__law_next (hr.mono (by omega)) (by rfl) T.m__law_next T.F__law_next.kp T.b__law_next (pad_cons (ped_var 0) (pad_cons (ped_bin opd_add (ped_callB calld_lenA (by rfl) T.z_len (by decide +kernel) (pad_cons (ped_var 2) pad_nil)) ped_int) pad_nil)) (alen_cons (alen_cons alen_nil))))
    (pssd_one (psd_set (i := 2) sc__law_mixed.nd rfl (by first | exact .inl rfl | exact .inr rfl) (ped_bin opd_add (ped_bin opd_add (ped_sl (ped_var 2) pod_none (pod_some (ped_var 4))) (ped_lst (pad_cons (ped_var 3) pad_nil))) (ped_sl (ped_var 2) (pod_some (ped_var 4)) pod_none))))))
    (pssd_one (psd_ret (ped_var 2)))))
def b__law_rows : SM := (sSeq (sSet 2 (mCallF m__law_paths (aCons (mVar 1) aNil)))
  (sSeq (sSet 3 (mCallF m__law_order (aCons (mVar 1) aNil)))
  (sSeq (sSet 3 (mIfE (mOrB (mTB (mBin (dIs false) (mVar 3) (mC .none))) (mTB (mBin dEq (mCallF m__law_next (aCons (mVar 0) (aCons (mC (.int 4)) aNil))) (mC (.int 0))))) (mCallF m__law_mixed (aCons (mVar 0) (aCons (mVar 2) aNil))) (mVar 3)))
  (sSeq (sSet 4 (mCallF m__law_next (aCons (mVar 0) (aCons (mC (.int 7)) aNil))))
  (sSeq (sIf (mOrB (mTB (mBin dLt (mCall gLenA (aCons (mVar 3) aNil)) (mC (.int 2)))) (mTB (mBin dEq (mVar 4) (mC (.int 0))))) (sRet (mVar 3)) sNx)
  (sSeq (sAsg (mTup (aCons (mCallF m__law_next (aCons (mVar 0) (aCons (mCall gLenA (aCons (mVar 3) aNil)) aNil))) (aCons (mCallF m__law_next (aCons (mVar 0) (aCons (mCall gLenA (aCons (mVar 3) aNil)) aNil))) aNil))) (gTu 2 (gsCons (gNm 5) (gsCons (gNm 6) gsNil))))
  (sSeq (sIf (mTB (mBin dLt (mVar 4) (mC (.int 3)))) (sSeq (sSet 7 (mBin dAdd (mSl (mVar 3) oNone (oSome (mVar 5))) (mSl (mVar 3) (oSome (mBin dAdd (mVar 5) (mC (.int 1)))) oNone)))
  (sRet (mBin dAdd (mBin dAdd (mSl (mVar 7) oNone (oSome (mVar 6))) (mLst (aCons (mSub (mVar 3) (mVar 5)) aNil))) (mSl (mVar 7) (oSome (mVar 6)) oNone)))) sNx)
  (sSeq (sIf (mTB (mBin dEq (mVar 4) (mC (.int 3)))) (sSeq (sSet 8 (mLC [10] (iRange (aCons (mCall gLenA (aCons (mVar 3) aNil)) aNil)) (gNm 10) bYes (mIfE (mTB (mBin dEq (mVar 10) (mVar 5))) (mSub (mVar 3) (mVar 6)) (mIfE (mTB (mBin dEq (mVar 10) (mVar 6))) (mSub (mVar 3) (mVar 5)) (mSub (mVar 3) (mVar 10))))))
  (sRet (mVar 8))) sNx)
  (sSeq (sIf (mTB (mBin dEq (mVar 4) (mC (.int 4)))) (sRet (mBin dAdd (mBin dAdd (mSl (mVar 3) oNone (oSome (mVar 5))) (mLst (aCons (mCallF m__law_pick (aCons (mVar 0) (aCons (mVar 2) aNil))) aNil))) (mSl (mVar 3) (oSome (mBin dAdd (mVar 5) (mC (.int 1)))) oNone))) sNx)
  (sSeq (sSet 9 (mSub (mLst (aCons (mCall gListA (aCons (mSub (mVar 3) (mVar 5)) aNil)) (aCons (mUn dRev (mSub (mVar 3) (mVar 5))) (aCons (mC .none) (aCons (mC (.str "path")) (aCons (mTup (aCons (mSub (mSub (mVar 1) (mC (.int 1))) (mC (.int 0))) aNil)) (aCons (mC (.int 0)) (aCons (mBin dAdd (mTup (aCons (mC (.str "x")) aNil)) (mSub (mVar 3) (mVar 5))) (aCons (mSl (mSub (mVar 3) (mVar 5)) (oSome (mC (.int 1))) oNone) aNil))))))))) (mCallF m__law_next (aCons (mVar 0) (aCons (mC (.int 8)) aNil)))))
  (sRet (mSub (mLst (aCons (mBin dAdd (mSl (mVar 3) oNone (oSome (mVar 5))) (mSl (mVar 3) (oSome (mBin dAdd (mVar 5) (mC (.int 1)))) oNone)) (aCons (mBin dAdd (mBin dAdd (mSl (mVar 3) oNone (oSome (mVar 5))) (mLst (aCons (mVar 9) aNil))) (mSl (mVar 3) (oSome (mBin dAdd (mVar 5) (mC (.int 1)))) oNone)) (aCons (mCall gTuple (aCons (mVar 3) aNil)) aNil)))) (mCallF m__law_next (aCons (mVar 0) (aCons (mC (.int 3)) aNil)))))))))))))))
def m__law_rows : FM := mFun exitZ 11 b__law_rows
theorem ok__law_rows (T : Txt K mg) (G__law_mixed : FnOk P w K mg base CX0 2 T.a__law_mixed T.d__law_mixed ["state", "things"] (spM K m__law_mixed 2)) (G__law_next : FnOk P w K mg base CX0 1 T.a__law_next T.d__law_next ["state", "bound"] (spM K m__law_next 2)) (G__law_order : FnOk P w K mg base CX0 3 T.a__law_order T.d__law_order ["book"] (spM K m__law_order 1)) (G__law_paths : FnOk P w K mg base CX0 1 T.a__law_paths T.d__law_paths ["book"] (spM K m__law_paths 1)) (G__law_pick : FnOk P w K mg base CX0 2 T.a__law_pick T.d__law_pick ["state", "things"] (spM K m__law_pick 2)) : FnOk P w K mg base CX0 4 T.a__law_rows T.d__law_rows ["state", "book"] (spM K m__law_rows 2) := by
  refine fn_m (k := 3) (N := n__law_rows) exitZ_ok T.F__law_rows sc__law_rows rfl rfl (by decide) fun cdv A outer s H E hr => ?_
  have hu := hu65 hr
  unfold b__law_rows
  exact (pssd_cons (psd_set (i := 2) sc__law_rows.nd rfl (by first | exact .inl rfl | exact .inr rfl) (ped_call G__law_paths (hr.mono (by omega)) (by rfl) T.m__law_paths T.F__law_paths.kp T.b__law_paths (pad_cons (ped_var 1) pad_nil) (alen_cons alen_nil)))
    (pssd_cons (psd_set (i := 3) sc__law_rows.nd rfl (by first | exact .inl rfl | exact .inr rfl) (ped_call G__law_order (hr.mono (by omega)) (by rfl) T.m__law_order T.F__law_order.kp T.b__law_order (pad_cons (ped_var 1) pad_nil) (alen_cons alen_nil)))
    (pssd_cons (psd_set (i := 3) sc__law_rows.nd rfl (by first | exact .inl rfl | exact .inr rfl) (ped_if (PWd.pt (pwd_or (ptd_cmp opd_is (ped_var 3) ped_non (nomark _)) (pwd_or1 (ptd_cmp (opd_eq hu) (ped_call G__law_next (hr.mono (by omega)) (by rfl) T.m__law_next T.F__law_next.kp T.b__law_next (pad_cons (ped_var 0) (pad_cons ped_int pad_nil)) (alen_cons (alen_cons alen_nil))) ped_int (nomark _))))) (ped_call G__law_mixed (hr.mono (by omega)) (by rfl) T.m__law_mixed T.F__law_mixed.kp T.b__law_mixed (pad_cons (ped_var 0) (pad_cons (ped_var 2) pad_nil)) (alen_cons (alen_cons alen_nil))) (ped_var 3)))
    (pssd_cons (psd_set (i := 4) sc__law_rows.nd rfl (by first | exact .inl rfl | exact .inr rfl) (ped_call G__law_next (hr.mono (by omega)) (by rfl) T.m__law_next T.F__law_next.kp T.b__law_next (pad_cons (ped_var 0) (pad_cons ped_int pad_nil)) (alen_cons (alen_cons alen_nil))))
    (pssd_cons (psd_if (PWd.pt (pwd_or (ptd_cmp opd_lt (ped_callB calld_lenA (by rfl) T.z_len (by decide +kernel) (pad_cons (ped_var 3) pad_nil)) ped_int (nomark _)) (pwd_or1 (ptd_cmp (opd_eq hu) (ped_var 4) ped_int (nomark _))))) (pssd_one (psd_ret (ped_var 3))) pssd_nil)
    (pssd_cons (psd_asg (ped_tup (pad_cons (ped_call G__law_next (hr.mono (by omega)) (by rfl) T.m__law_next T.F__law_next.kp T.b__law_next (pad_cons (ped_var 0) (pad_cons (ped_callB calld_lenA (by rfl) T.z_len (by decide +kernel) (pad_cons (ped_var 3) pad_nil)) pad_nil)) (alen_cons (alen_cons alen_nil))) (pad_cons (ped_call G__law_next (hr.mono (by omega)) (by rfl) T.m__law_next T.F__law_next.kp T.b__law_next (pad_cons (ped_var 0) (pad_cons (ped_callB calld_lenA (by rfl) T.z_len (by decide +kernel) (pad_cons (ped_var 3) pad_nil)) pad_nil)) (alen_cons (alen_cons alen_nil))) pad_nil))) (pgd_tup rfl (pgsd_cons (pgd_name (i := 5) sc__law_rows.nd rfl (by first | exact .inl rfl | exact .inr rfl)) (pgsd_cons (pgd_name (i := 6) sc__law_rows.nd rfl (by first | exact .inl rfl | exact .inr rfl)) pgsd_nil))))
    (pssd_cons (psd_if (ptd_cmp opd_lt (ped_var 4) ped_int (nomark _)) (pssd_cons (psd_set (i := 7) sc__law_rows.nd rfl (by first | exact .inl rfl | exact .inr rfl) (ped_bin opd_add (ped_sl (ped_var 3) pod_none (pod_some (ped_var 5))) (ped_sl (ped_var 3) (pod_some (ped_bin opd_add (ped_var 5) ped_int)) pod_none)))
    (pssd_one (psd_ret (ped_bin opd_add (ped_bin opd_add (ped_sl (ped_var 7) pod_none (pod_some (ped_var 6))) (ped_lst (pad_cons (ped_sub hu (ped_var 3) (ped_var 5) (fun _ _ => rfl)) pad_nil))) (ped_sl (ped_var 7) (pod_some (ped_var 6)) pod_none))))) pssd_nil)
    (pssd_cons (psd_if (ptd_cmp (opd_eq hu) (ped_var 4) ped_int (nomark _)) (pssd_cons (psd_setLc (i := 8) rfl sc__law_rows.nd rfl rfl (sw_true rfl rfl rfl (by decide +kernel)) (own := [("k", 10)]) (pid_range1 (by rfl) T.z_range (ped_callB calld_lenA (by rfl) T.z_len (by decide +kernel) (pad_cons (ped_var 3) pad_nil))) (blkOk_by (own := [("k", 10)]) (N := n__law_rows) (sc := defScope s__law_rows) (by decide +kernel)) (fun _ _ _ _ _ => (pgd_name (i := 10) sc__law_rows.nd rfl (by first | exact .inl rfl | exact .inr rfl))) (fun _ _ _ _ _ => ptsd_nil) (fun _ _ _ _ _ => (ped_if (ptd_cmp (opd_eq hu) (ped_var 10) (ped_var 5) (nomark _)) (ped_sub hu (ped_var 3) (ped_var 6) (fun _ _ => rfl)) (ped_if (ptd_cmp (opd_eq hu) (ped_var 10) (ped_var 6) (nomark _)) (ped_sub hu (ped_var 3) (ped_var 5) (fun _ _ => rfl)) (ped_sub hu (ped_var 3) (ped_var 10) (fun _ _ => rfl))))))
    (pssd_one (psd_ret (ped_var 8)))) pssd_nil)
    (pssd_cons (psd_if (ptd_cmp (opd_eq hu) (ped_var 4) ped_int (nomark _)) (pssd_one (psd_ret (ped_bin opd_add (ped_bin opd_add (ped_sl (ped_var 3) pod_none (pod_some (ped_var 5))) (ped_lst (pad_cons (ped_call G__law_pick (hr.mono (by omega)) (by rfl) T.m__law_pick T.F__law_pick.kp T.b__law_pick (pad_cons (ped_var 0) (pad_cons (ped_var 2) pad_nil)) (alen_cons (alen_cons alen_nil))) pad_nil))) (ped_sl (ped_var 3) (pod_some (ped_bin opd_add (ped_var 5) ped_int)) pod_none)))) pssd_nil)
    (pssd_cons (psd_set (i := 9) sc__law_rows.nd rfl (by first | exact .inl rfl | exact .inr rfl) (ped_sub hu (ped_lst (pad_cons (ped_callT (calld_listA rfl) (by rfl) T.z_list (by decide +kernel) (pad_cons (ped_sub hu (ped_var 3) (ped_var 5) (fun _ _ => rfl)) pad_nil)) (pad_cons (ped_rev (ped_sub hu (ped_var 3) (ped_var 5) (fun _ _ => rfl))) (pad_cons ped_non (pad_cons ped_str (pad_cons (ped_tup (pad_cons (ped_sub hu (ped_sub hu (ped_var 1) ped_int (fun _ _ => rfl)) ped_int (fun _ _ => rfl)) pad_nil)) (pad_cons ped_int (pad_cons (ped_bin opd_add (ped_tup (pad_cons ped_str pad_nil)) (ped_sub hu (ped_var 3) (ped_var 5) (fun _ _ => rfl))) (pad_cons (ped_sl (ped_sub hu (ped_var 3) (ped_var 5) (fun _ _ => rfl)) (pod_some ped_int) pod_none) pad_nil))))))))) (ped_call G__law_next (hr.mono (by omega)) (by rfl) T.m__law_next T.F__law_next.kp T.b__law_next (pad_cons (ped_var 0) (pad_cons ped_int pad_nil)) (alen_cons (alen_cons alen_nil))) (fun _ _ => rfl)))
    (pssd_one (psd_ret (ped_sub hu (ped_lst (pad_cons (ped_bin opd_add (ped_sl (ped_var 3) pod_none (pod_some (ped_var 5))) (ped_sl (ped_var 3) (pod_some (ped_bin opd_add (ped_var 5) ped_int)) pod_none)) (pad_cons (ped_bin opd_add (ped_bin opd_add (ped_sl (ped_var 3) pod_none (pod_some (ped_var 5))) (ped_lst (pad_cons (ped_var 9) pad_nil))) (ped_sl (ped_var 3) (pod_some (ped_bin opd_add (ped_var 5) ped_int)) pod_none)) (pad_cons (ped_callT calld_tuple (by rfl) T.z_tuple (by decide +kernel) (pad_cons (ped_var 3) pad_nil)) pad_nil)))) (ped_call G__law_next (hr.mono (by omega)) (by rfl) T.m__law_next T.F__law_next.kp T.b__law_next (pad_cons (ped_var 0) (pad_cons ped_int pad_nil)) (alen_cons (alen_cons alen_nil))) (fun _ _ => rfl))))))))))))))
def b__law_links : SM := (sSeq (sSet 2 mDNewT)
  (sSeq (sSet 3 (mBin dAdd (mC (.int 1)) (mCallF m__law_next (aCons (mVar 0) (aCons (mC (.int 4)) aNil)))))
  (sSeq (sFor (iRange (aCons (mCall gLenA (aCons (mVar 1) aNil)) aNil)) (gNm 4) (sFor (iRange (aCons (mVar 4) aNil)) (gNm 5) (sIf (mOrB (mTB (mBin dEq (mBin dAdd (mVar 5) (mC (.int 1))) (mVar 4))) (mTB (mBin dLt (mCallF m__law_next (aCons (mVar 0) (aCons (mC (.int 5)) aNil))) (mVar 3)))) (sSeq (sDPut (mVar 2) (mTup (aCons (mSub (mVar 1) (mVar 5)) (aCons (mSub (mVar 1) (mVar 4)) aNil))) (mC (.bool true)))
  (sDPut (mVar 2) (mTup (aCons (mSub (mVar 1) (mVar 4)) (aCons (mSub (mVar 1) (mVar 5)) aNil))) (mC (.bool true)))) sNx)))
  (sRet (mVar 2)))))
def m__law_links : FM := mFun exitZ 6 b__law_links
theorem ok__law_links (T : Txt K mg) (G__law_next : FnOk P w K mg base CX0 1 T.a__law_next T.d__law_next ["state", "bound"] (spM K m__law_next 2)) : FnOk P w K mg base CX0 2 T.a__law_links T.d__law_links ["state", "names"] (spM K m__law_links 2) := by
  refine fn_m (k := 1) (N := n__law_links) exitZ_ok T.F__law_links sc__law_links rfl rfl (by decide) fun cdv A outer s H E hr => ?_
  have hu := hu65 hr
  unfold b__law_links
  exact (pssd_cons (psd_set (i := 2) sc__law_links.nd rfl (by first | exact .inl rfl | exact .inr rfl) ped_dnewT)
    (pssd_cons (psd_set (i := 3) sc__law_links.nd rfl (by first | exact .inl rfl | exact .inr rfl) (ped_bin opd_add ped_int (ped_call G__law_next (hr.mono (by omega)) (by rfl) T.m__law_next T.F__law_next.kp T.b__law_next (pad_cons (ped_var 0) (pad_cons ped_int pad_nil)) (alen_cons (alen_cons alen_nil)))))
    (pssd_cons (psd_for PassesOwn.never rfl (pid_range1 (by rfl) T.z_range (ped_callB calld_lenA (by rfl) T.z_len (by decide +kernel) (pad_cons (ped_var 1) pad_nil))) (pgd_name (i := 4) sc__law_links.nd rfl (by first | exact .inl rfl | exact .inr rfl)) (pssd_one (psd_for PassesOwn.never rfl (pid_range1 (by rfl) T.z_range (ped_var 4)) (pgd_name (i := 5) sc__law_links.nd rfl (by first | exact .inl rfl | exact .inr rfl)) (pssd_one (psd_if (PWd.pt (pwd_or (ptd_cmp (opd_eq hu) (ped_bin opd_add (ped_var 5) ped_int) (ped_var 4) (nomark _)) (pwd_or1 (ptd_cmp opd_lt (ped_call G__law_next (hr.mono (by omega)) (by rfl) T.m__law_next T.F__law_next.kp T.b__law_next (pad_cons (ped_var 0) (pad_cons ped_int pad_nil)) (alen_cons (alen_cons alen_nil))) (ped_var 3) (nomark _))))) (pssd_cons (psd_dput hu (ped_var 2) (ped_tup (pad_cons (ped_sub hu (ped_var 1) (ped_var 5) (fun _ _ => rfl)) (pad_cons (ped_sub hu (ped_var 1) (ped_var 4) (fun _ _ => rfl)) pad_nil))) ped_bl)
    (pssd_one (psd_dput hu (ped_var 2) (ped_tup (pad_cons (ped_sub hu (ped_var 1) (ped_var 4) (fun _ _ => rfl)) (pad_cons (ped_sub hu (ped_var 1) (ped_var 5) (fun _ _ => rfl)) pad_nil))) ped_bl))) pssd_nil)))))
    (pssd_one (psd_ret (ped_var 2))))))
def b__law_names : SM := (sSeq (sSet 2 (mSl (mCallF m__law_mixed (aCons (mVar 0) (aCons (mCall gListA (aCons (mC (.str "abcdefghijklmnopqrstuvwxyz")) aNil)) aNil))) oNone (oSome (mVar 1))))
  (sSeq (sSet 3 (mLstC aNil))
  (sSeq (sFor (iAny (mVar 2)) (gNm 4) (sSeq (sSet 5 (mVar 4))
  (sSeq (sFor (iRange (aCons (mSub (mLst (aCons (mC (.int 0)) (aCons (mC (.int 0)) (aCons (mC (.int 2)) (aCons (mC (.int 7)) aNil))))) (mCallF m__law_next (aCons (mVar 0) (aCons (mC (.int 4)) aNil)))) aNil)) (gNm 6) (sSet 5 (mBin dAdd (mVar 5) (mCallF m__law_pick (aCons (mVar 0) (aCons (mC (.str "abcdefghijklmnopqrstuvwxyz0123456789")) aNil))))))
  (sSeq (sSet 7 (mLst (aCons (mC (.str "any")) (aCons (mC (.str "rest")) (aCons (mC (.str "many")) (aCons (mC (.str "if")) (aCons (mC (.str "then")) (aCons (mC (.str "and")) (aCons (mC (.str "not")) (aCons (mC (.str "refuse")) (aCons (mC (.str "keep")) (aCons (mC (.str "from")) (aCons (mC (.str "to")) aNil)))))))))))))
  (sEx (mApp (mVar 3) (mIfE (mTB (mIn true (mVar 5) (mVar 7))) (mVar 5) (mBin dAdd (mVar 4) (mC (.str "0"))))))))))
  (sRet (mVar 3)))))
def m__law_names : FM := mFun exitZ 8 b__law_names
theorem ok__law_names (T : Txt K mg) (G__law_mixed : FnOk P w K mg base CX0 2 T.a__law_mixed T.d__law_mixed ["state", "things"] (spM K m__law_mixed 2)) (G__law_next : FnOk P w K mg base CX0 1 T.a__law_next T.d__law_next ["state", "bound"] (spM K m__law_next 2)) (G__law_pick : FnOk P w K mg base CX0 2 T.a__law_pick T.d__law_pick ["state", "things"] (spM K m__law_pick 2)) : FnOk P w K mg base CX0 3 T.a__law_names T.d__law_names ["state", "many"] (spM K m__law_names 2) := by
  refine fn_m (k := 2) (N := n__law_names) exitZ_ok T.F__law_names sc__law_names rfl rfl (by decide) fun cdv A outer s H E hr => ?_
  have hu := hu65 hr
  unfold b__law_names
  exact (pssd_cons (psd_set (i := 2) sc__law_names.nd rfl (by first | exact .inl rfl | exact .inr rfl) (ped_sl (ped_call G__law_mixed (hr.mono (by omega)) (by rfl) T.m__law_mixed T.F__law_mixed.kp T.b__law_mixed (pad_cons (ped_var 0) (pad_cons (ped_callT (calld_listA rfl) (by rfl) T.z_list (by decide +kernel) (pad_cons ped_str pad_nil)) pad_nil)) (alen_cons (alen_cons alen_nil))) pod_none (pod_some (ped_var 1))))
    (pssd_cons (psd_set (i := 3) sc__law_names.nd rfl (by first | exact .inl rfl | exact .inr rfl) (ped_lstC pad_nil))
    (pssd_cons (psd_for PassesOwn.never rfl (pid_any (ped_var 2)) (pgd_name (i := 4) sc__law_names.nd rfl (by first | exact .inl rfl | exact .inr rfl)) (pssd_cons (psd_set (i := 5) sc__law_names.nd rfl (by first | exact .inl rfl | exact .inr rfl) (ped_var 4))
    (pssd_cons (psd_for PassesOwn.never rfl (pid_range1 (by rfl) T.z_range (ped_sub hu (ped_lst (pad_cons ped_int (pad_cons ped_int (pad_cons ped_int (pad_cons ped_int pad_nil))))) (ped_call G__law_next (hr.mono (by omega)) (by rfl) T.m__law_next T.F__law_next.kp T.b__law_next (pad_cons (ped_var 0) (pad_cons ped_int pad_nil)) (alen_cons (alen_cons alen_nil))) (fun _ _ => rfl))) (pgd_name (i := 6) sc__law_names.nd rfl (by first | exact .inl rfl | exact .inr rfl)) (pssd_one (psd_set (i := 5) sc__law_names.nd rfl (by first | exact .inl rfl | exact .inr rfl) (ped_bin opd_add (ped_var 5) (ped_call G__law_pick (hr.mono (by omega)) (by rfl) T.m__law_pick T.F__law_pick.kp T.b__law_pick (pad_cons (ped_var 0) (pad_cons ped_str pad_nil)) (alen_cons (alen_cons alen_nil)))))))
    (pssd_cons (psd_set (i := 7) sc__law_names.nd rfl (by first | exact .inl rfl | exact .inr rfl) (ped_lst (pad_cons ped_str (pad_cons ped_str (pad_cons ped_str (pad_cons ped_str (pad_cons ped_str (pad_cons ped_str (pad_cons ped_str (pad_cons ped_str (pad_cons ped_str (pad_cons ped_str (pad_cons ped_str pad_nil)))))))))))))
    (pssd_one (psd_expr (ped_append (ped_var 3) (ped_if (ptd_notin hu (ped_var 5) (ped_var 7)) (ped_var 5) (ped_bin opd_add (ped_var 4) ped_str)))))))))
    (pssd_one (psd_ret (ped_var 3))))))
def b__law_book : SM := (sSeq (sSet 4 (mCallF m__law_names (aCons (mVar 0) (aCons (mBin dAdd (mVar 1) (mVar 2)) aNil))))
  (sSeq (sSet 5 (mCall gSorted (aCons (mSl (mVar 4) oNone (oSome (mVar 2))) aNil)))
  (sSeq (sSet 6 (mCall gSorted (aCons (mSl (mVar 4) (oSome (mVar 2)) oNone) aNil)))
  (sSeq (sSet 7 (mCallF m__law_links (aCons (mVar 0) (aCons (mVar 4) aNil))))
  (sSeq (sSet 8 mDNewK)
  (sSeq (sFor (iAny (mVar 6)) (gNm 9) (sDPut (mVar 8) (mVar 9) (mLstC aNil)))
  (sSeq (sSet 10 (mLC [9] (iAny (mVar 5)) (gNm 9) bYes (mTup (aCons (mVar 9) aNil))))
  (sSeq (whGo (mTB (mBin dGt (mCall gLenA (aCons (mVar 10) aNil)) (mC (.int 0)))) (sSeq (sSet 11 (mLstC aNil))
  (sSeq (sFor (iAny (mVar 10)) (gNm 12) (sFor (iAny (mVar 6)) (gNm 9) (sIf (mAndB (mTB (mIn true (mVar 9) (mVar 12))) (mAndB (mTB (mIn false (mTup (aCons (mVar 9) (aCons (mSub (mVar 12) (mC (.int 0))) aNil))) (mVar 7))) (mAndB (mTB (mBin dLt (mCall gLenA (aCons (mSub (mVar 8) (mVar 9)) aNil)) (mVar 3))) (mTB (mBin dGt (mCallF m__law_next (aCons (mVar 0) (aCons (mC (.int 4)) aNil))) (mC (.int 0))))))) (sSeq (sEx (mApp (mSub (mVar 8) (mVar 9)) (mBin dAdd (mTup (aCons (mVar 9) aNil)) (mVar 12))))
  (sEx (mApp (mVar 11) (mBin dAdd (mTup (aCons (mVar 9) aNil)) (mVar 12))))) sNx)))
  (sSet 10 (mFz (mVar 11))))) 100000)
  (sSeq (sSet 13 mDNewK)
  (sSeq (sFor (iAny (mCallF m__law_mixed (aCons (mVar 0) (aCons (mVar 6) aNil)))) (gNm 9) (sDPut (mVar 13) (mVar 9) (mCall gTuple (aCons (mCallF m__law_mixed (aCons (mVar 0) (aCons (mFz (mSub (mVar 8) (mVar 9))) aNil))) aNil))))
  (sRet (mTup (aCons (mC (.str "book")) (aCons (mCall gTuple (aCons (mVar 5) aNil)) (aCons (mFz (mVar 13)) aNil)))))))))))))))
def m__law_book : FM := mFun exitZ 14 b__law_book
theorem ok__law_book (T : Txt K mg) (G__law_links : FnOk P w K mg base CX0 2 T.a__law_links T.d__law_links ["state", "names"] (spM K m__law_links 2)) (G__law_mixed : FnOk P w K mg base CX0 2 T.a__law_mixed T.d__law_mixed ["state", "things"] (spM K m__law_mixed 2)) (G__law_names : FnOk P w K mg base CX0 3 T.a__law_names T.d__law_names ["state", "many"] (spM K m__law_names 2)) (G__law_next : FnOk P w K mg base CX0 1 T.a__law_next T.d__law_next ["state", "bound"] (spM K m__law_next 2)) : FnOk P w K mg base CX0 4 T.a__law_book T.d__law_book ["state", "many", "owners", "most"] (spM K m__law_book 4) := by
  refine fn_m (k := 3) (N := n__law_book) exitZ_ok T.F__law_book sc__law_book rfl rfl (by decide) fun cdv A outer s H E hr => ?_
  have hu := hu65 hr
  unfold b__law_book
  exact (pssd_cons (psd_set (i := 4) sc__law_book.nd rfl (by first | exact .inl rfl | exact .inr rfl) (ped_call G__law_names (hr.mono (by omega)) (by rfl) T.m__law_names T.F__law_names.kp T.b__law_names (pad_cons (ped_var 0) (pad_cons (ped_bin opd_add (ped_var 1) (ped_var 2)) pad_nil)) (alen_cons (alen_cons alen_nil))))
    (pssd_cons (psd_set (i := 5) sc__law_book.nd rfl (by first | exact .inl rfl | exact .inr rfl) (ped_callB (calld_sorted rfl hu) (by rfl) T.z_sorted (by decide +kernel) (pad_cons (ped_sl (ped_var 4) pod_none (pod_some (ped_var 2))) pad_nil)))
    (pssd_cons (psd_set (i := 6) sc__law_book.nd rfl (by first | exact .inl rfl | exact .inr rfl) (ped_callB (calld_sorted rfl hu) (by rfl) T.z_sorted (by decide +kernel) (pad_cons (ped_sl (ped_var 4) (pod_some (ped_var 2)) pod_none) pad_nil)))
    (pssd_cons (psd_set (i := 7) sc__law_book.nd rfl (by first | exact .inl rfl | exact .inr rfl) (ped_call G__law_links (hr.mono (by omega)) (by rfl) T.m__law_links T.F__law_links.kp T.b__law_links (pad_cons (ped_var 0) (pad_cons (ped_var 4) pad_nil)) (alen_cons (alen_cons alen_nil))))
    (pssd_cons (psd_set (i := 8) sc__law_book.nd rfl (by first | exact .inl rfl | exact .inr rfl) ped_dnewK)
    (pssd_cons (psd_for PassesOwn.never rfl (pid_any (ped_var 6)) (pgd_name (i := 9) sc__law_book.nd rfl (by first | exact .inl rfl | exact .inr rfl)) (pssd_one (psd_dput hu (ped_var 8) (ped_var 9) (ped_lstC pad_nil))))
    (pssd_cons (psd_setLc (i := 10) rfl sc__law_book.nd rfl rfl (sw_true rfl rfl rfl (by decide +kernel)) (own := [("name", 9)]) (pid_any (ped_var 5)) (blkOk_by (own := [("name", 9)]) (N := n__law_book) (sc := defScope s__law_book) (by decide +kernel)) (fun _ _ _ _ _ => (pgd_name (i := 9) sc__law_book.nd rfl (by first | exact .inl rfl | exact .inr rfl))) (fun _ _ _ _ _ => ptsd_nil) (fun _ _ _ _ _ => (ped_tup (pad_cons (ped_var 9) pad_nil))))
    (pssd_cons (psd_while 100000 PassesOwn.never (ptd_cmp opd_gt (ped_callB calld_lenA (by rfl) T.z_len (by decide +kernel) (pad_cons (ped_var 10) pad_nil)) ped_int (nomark _)) (pssd_cons (psd_set (i := 11) sc__law_book.nd rfl (by first | exact .inl rfl | exact .inr rfl) (ped_lstC pad_nil))
    (pssd_cons (psd_for PassesOwn.never rfl (pid_any (ped_var 10)) (pgd_name (i := 12) sc__law_book.nd rfl (by first | exact .inl rfl | exact .inr rfl)) (pssd_one (psd_for PassesOwn.never rfl (pid_any (ped_var 6)) (pgd_name (i := 9) sc__law_book.nd rfl (by first | exact .inl rfl | exact .inr rfl)) (pssd_one (psd_if (PWd.pt (pwd_and (ptd_notin hu (ped_var 9) (ped_var 12)) (pwd_and (ptd_in hu (ped_tup (pad_cons (ped_var 9) (pad_cons (ped_sub hu (ped_var 12) ped_int (fun _ _ => rfl)) pad_nil))) (ped_var 7)) (pwd_and (ptd_cmp opd_lt (ped_callB calld_lenA (by rfl) T.z_len (by decide +kernel) (pad_cons (ped_sub hu (ped_var 8) (ped_var 9) (fun _ _ => rfl)) pad_nil)) (ped_var 3) (nomark _)) (pwd_and1 (ptd_cmp opd_gt (ped_call G__law_next (hr.mono (by omega)) (by rfl) T.m__law_next T.F__law_next.kp T.b__law_next (pad_cons (ped_var 0) (pad_cons ped_int pad_nil)) (alen_cons (alen_cons alen_nil))) ped_int (nomark _))))))) (pssd_cons (psd_expr (ped_append (ped_sub hu (ped_var 8) (ped_var 9) (fun _ _ => rfl)) (ped_bin opd_add (ped_tup (pad_cons (ped_var 9) pad_nil)) (ped_var 12))))
    (pssd_one (psd_expr (ped_append (ped_var 11) (ped_bin opd_add (ped_tup (pad_cons (ped_var 9) pad_nil)) (ped_var 12)))))) pssd_nil)))))
    (pssd_one (psd_set (i := 10) sc__law_book.nd rfl (by first | exact .inl rfl | exact .inr rfl) (ped_fz (ped_var 11)))))))
    (pssd_cons (psd_set (i := 13) sc__law_book.nd rfl (by first | exact .inl rfl | exact .inr rfl) ped_dnewK)
    (pssd_cons (psd_for PassesOwn.never rfl (pid_any (ped_call G__law_mixed (hr.mono (by omega)) (by rfl) T.m__law_mixed T.F__law_mixed.kp T.b__law_mixed (pad_cons (ped_var 0) (pad_cons (ped_var 6) pad_nil)) (alen_cons (alen_cons alen_nil)))) (pgd_name (i := 9) sc__law_book.nd rfl (by first | exact .inl rfl | exact .inr rfl)) (pssd_one (psd_dput hu (ped_var 13) (ped_var 9) (ped_callT calld_tuple (by rfl) T.z_tuple (by decide +kernel) (pad_cons (ped_call G__law_mixed (hr.mono (by omega)) (by rfl) T.m__law_mixed T.F__law_mixed.kp T.b__law_mixed (pad_cons (ped_var 0) (pad_cons (ped_fz (ped_sub hu (ped_var 8) (ped_var 9) (fun _ _ => rfl))) pad_nil)) (alen_cons (alen_cons alen_nil))) pad_nil)))))
    (pssd_one (psd_ret (ped_tup (pad_cons ped_str (pad_cons (ped_callT calld_tuple (by rfl) T.z_tuple (by decide +kernel) (pad_cons (ped_var 5) pad_nil)) (pad_cons (ped_fz (ped_var 13)) pad_nil))))))))))))))))
def b__law_small_book : SM := (sSeq (sAsg (mSub (mLst (aCons (mTup (aCons (mC (.int 2)) (aCons (mC (.int 2)) aNil))) (aCons (mTup (aCons (mC (.int 2)) (aCons (mC (.int 3)) aNil))) (aCons (mTup (aCons (mC (.int 3)) (aCons (mC (.int 2)) aNil))) (aCons (mTup (aCons (mC (.int 3)) (aCons (mC (.int 3)) aNil))) (aCons (mTup (aCons (mC (.int 3)) (aCons (mC (.int 4)) aNil))) (aCons (mTup (aCons (mC (.int 4)) (aCons (mC (.int 2)) aNil))) (aCons (mTup (aCons (mC (.int 4)) (aCons (mC (.int 3)) aNil))) aNil)))))))) (mCallF m__law_next (aCons (mVar 0) (aCons (mC (.int 7)) aNil)))) (gTu 2 (gsCons (gNm 1) (gsCons (gNm 2) gsNil))))
  (sRet (mCallF m__law_book (aCons (mVar 0) (aCons (mVar 1) (aCons (mSub (mLst (aCons (mC (.int 1)) (aCons (mC (.int 1)) (aCons (mC (.int 1)) (aCons (mC (.int 2)) aNil))))) (mCallF m__law_next (aCons (mVar 0) (aCons (mC (.int 4)) aNil)))) (aCons (mVar 2) aNil)))))))
def m__law_small_book : FM := mFun exitZ 3 b__law_small_book
theorem ok__law_small_book (T : Txt K mg) (G__law_book : FnOk P w K mg base CX0 4 T.a__law_book T.d__law_book ["state", "many", "owners", "most"] (spM K m__law_book 4)) (G__law_next : FnOk P w K mg base CX0 1 T.a__law_next T.d__law_next ["state", "bound"] (spM K m__law_next 2)) : FnOk P w K mg base CX0 5 T.a__law_small_book T.d__law_small_book ["state"] (spM K m__law_small_book 1) := by
  refine fn_m (k := 4) (N := n__law_small_book) exitZ_ok T.F__law_small_book sc__law_small_book rfl rfl (by decide) fun cdv A outer s H E hr => ?_
  have hu := hu65 hr
  unfold b__law_small_book
  exact (pssd_cons (psd_asg (ped_sub hu (ped_lst (pad_cons (ped_tup (pad_cons ped_int (pad_cons ped_int pad_nil))) (pad_cons (ped_tup (pad_cons ped_int (pad_cons ped_int pad_nil))) (pad_cons (ped_tup (pad_cons ped_int (pad_cons ped_int pad_nil))) (pad_cons (ped_tup (pad_cons ped_int (pad_cons ped_int pad_nil))) (pad_cons (ped_tup (pad_cons ped_int (pad_cons ped_int pad_nil))) (pad_cons (ped_tup (pad_cons ped_int (pad_cons ped_int pad_nil))) (pad_cons (ped_tup (pad_cons ped_int (pad_cons ped_int pad_nil))) pad_nil)))))))) (ped_call G__law_next (hr.mono (by omega)) (by rfl) T.m__law_next T.F__law_next.kp T.b__law_next (pad_cons (ped_var 0) (pad_cons ped_int pad_nil)) (alen_cons (alen_cons alen_nil))) (fun _ _ => rfl)) (pgd_tup rfl (pgsd_cons (pgd_name (i := 1) sc__law_small_book.nd rfl (by first | exact .inl rfl | exact .inr rfl)) (pgsd_cons (pgd_name (i := 2) sc__law_small_book.nd rfl (by first | exact .inl rfl | exact .inr rfl)) pgsd_nil))))
    (pssd_one (psd_ret (ped_call G__law_book (hr.mono (by omega)) (by rfl) T.m__law_book T.F__law_book.kp T.b__law_book (pad_cons (ped_var 0) (pad_cons (ped_var 1) (pad_cons (ped_sub hu (ped_lst (pad_cons ped_int (pad_cons ped_int (pad_cons ped_int (pad_cons ped_int pad_nil))))) (ped_call G__law_next (hr.mono (by omega)) (by rfl) T.m__law_next T.F__law_next.kp T.b__law_next (pad_cons (ped_var 0) (pad_cons ped_int pad_nil)) (alen_cons (alen_cons alen_nil))) (fun _ _ => rfl)) (pad_cons (ped_var 2) pad_nil)))) (alen_cons (alen_cons (alen_cons (alen_cons alen_nil))))))))
def b__law_at : SM := (sSeq (sFor (iAny (mVar 1)) (gNm 2) (sSet 0 (mSub (mVar 0) (mVar 2))))
  (sRet (mVar 0)))
def m__law_at : FM := mFun exitZ 3 b__law_at
theorem ok__law_at (T : Txt K mg)  : FnOk P w K mg base CX0 1 T.a__law_at T.d__law_at ["thing", "spot"] (spM K m__law_at 2) := by
  refine fn_m (k := 0) (N := n__law_at) exitZ_ok T.F__law_at sc__law_at rfl rfl (by decide) fun cdv A outer s H E hr => ?_
  have hu := hu65 hr
  unfold b__law_at
  exact (pssd_cons (psd_for PassesOwn.never rfl (pid_any (ped_var 1)) (pgd_name (i := 2) sc__law_at.nd rfl (by first | exact .inl rfl | exact .inr rfl)) (pssd_one (psd_set (i := 0) sc__law_at.nd rfl (by first | exact .inl rfl | exact .inr rfl) (ped_sub hu (ped_var 0) (ped_var 2) (fun _ _ => rfl)))))
    (pssd_one (psd_ret (ped_var 0))))
def b__law_put_at (self : FM) : SM := (sSeq (sIf (mTB (mBin dEq (mCall gLenA (aCons (mVar 1) aNil)) (mC (.int 0)))) (sRet (mVar 2)) sNx)
  (sSeq (sSet 3 (mLC [4] (iRange (aCons (mCall gLenA (aCons (mVar 0) aNil)) aNil)) (gNm 4) bYes (mIfE (mTB (mBin dEq (mVar 4) (mSub (mVar 1) (mC (.int 0))))) (mCallF self (aCons (mSub (mVar 0) (mVar 4)) (aCons (mSl (mVar 1) (oSome (mC (.int 1))) oNone) (aCons (mVar 2) aNil)))) (mSub (mVar 0) (mVar 4)))))
  (sRet (mIfE (mTB (mIs (inst .tuple) (mVar 0))) (mCall gTuple (aCons (mVar 3) aNil)) (mVar 3)))))
def m__law_put_at : Nat → FM
  | 0 => fun _ _ => none
  | n + 1 => mFun exitZ 5 (b__law_put_at (m__law_put_at n))
theorem ok__law_put_at (T : Txt K mg)  : ∀ n : Nat, FnOk P w K mg base CX0 (0 + n) T.a__law_put_at T.d__law_put_at ["thing", "spot", "new"] (spM K (m__law_put_at n) 3)
  | 0 => fn_none fun _ _ => rfl
  | n + 1 => by
    have ih := ok__law_put_at T  n
    refine fn_m (k := 0 + n) (N := n__law_put_at) exitZ_ok T.F__law_put_at sc__law_put_at rfl rfl (by decide) fun cdv A outer s H E hr => ?_
    have hu := hu65 hr
    unfold b__law_put_at
    exact (pssd_cons (psd_if (ptd_cmp (opd_eq hu) (ped_callB calld_lenA (by rfl) T.z_len (by decide +kernel) (pad_cons (ped_var 1) pad_nil)) ped_int (nomark _)) (pssd_one (psd_ret (ped_var 2))) pssd_nil)
    (pssd_cons (psd_setLc (i := 3) rfl sc__law_put_at.nd rfl rfl (sw_true rfl rfl rfl (by decide +kernel)) (own := [("k", 4)]) (pid_range1 (by rfl) T.z_range (ped_callB calld_lenA (by rfl) T.z_len (by decide +kernel) (pad_cons (ped_var 0) pad_nil))) (blkOk_by (own := [("k", 4)]) (N := n__law_put_at) (sc := defScope s__law_put_at) (by decide +kernel)) (fun _ _ _ _ _ => (pgd_name (i := 4) sc__law_put_at.nd rfl (by first | exact .inl rfl | exact .inr rfl))) (fun _ _ _ _ _ => ptsd_nil) (fun _ _ _ _ _ => (ped_if (ptd_cmp (opd_eq hu) (ped_var 4) (ped_sub hu (ped_var 1) ped_int (fun _ _ => rfl)) (nomark _)) (ped_call ih hr (by rfl) T.m__law_put_at T.F__law_put_at.kp T.b__law_put_at (pad_cons (ped_sub hu (ped_var 0) (ped_var 4) (fun _ _ => rfl)) (pad_cons (ped_sl (ped_var 1) (pod_some ped_int) pod_none) (pad_cons (ped_var 2) pad_nil))) (alen_cons (alen_cons (alen_cons alen_nil)))) (ped_sub hu (ped_var 0) (ped_var 4) (fun _ _ => rfl)))))
    (pssd_one (psd_ret (ped_if (ptd_val (ped_isi (T := .tuple) (by rfl) T.z_isinstance (by rfl) T.z_tuple (by decide +kernel) (ped_var 0))) (ped_callT calld_tuple (by rfl) T.z_tuple (by decide +kernel) (pad_cons (ped_var 3) pad_nil)) (ped_var 3))))))
def b__law_spots (self : FM) : SM := (sSeq (sSet 1 (mLst (aCons (mTup aNil) aNil)))
  (sSeq (sIf (mTB (mIs (fun d => inst .list d || inst .tuple d) (mVar 0))) (sFor (iRange (aCons (mCall gLenA (aCons (mVar 0) aNil)) aNil)) (gNm 2) (sSet 1 (mBin dAdd (mVar 1) (mLC [3] (iAny (mCallF self (aCons (mSub (mVar 0) (mVar 2)) aNil))) (gNm 3) bYes (mBin dAdd (mTup (aCons (mVar 2) aNil)) (mVar 3)))))) sNx)
  (sRet (mVar 1))))
def m__law_spots : Nat → FM
  | 0 => fun _ _ => none
  | n + 1 => mFun exitZ 4 (b__law_spots (m__law_spots n))
theorem ok__law_spots (T : Txt K mg)  : ∀ n : Nat, FnOk P w K mg base CX0 (0 + n) T.a__law_spots T.d__law_spots ["tree"] (spM K (m__law_spots n) 1)
  | 0 => fn_none fun _ _ => rfl
  | n + 1 => by
    have ih := ok__law_spots T  n
    refine fn_m (k := 0 + n) (N := n__law_spots) exitZ_ok T.F__law_spots sc__law_spots rfl rfl (by decide) fun cdv A outer s H E hr => ?_
    have hu := hu65 hr
    unfold b__law_spots
    exact (pssd_cons (psd_set (i := 1) sc__law_spots.nd rfl (by first | exact .inl rfl | exact .inr rfl) (ped_lst (pad_cons (ped_tup pad_nil) pad_nil)))
    (pssd_cons (psd_if (ptd_val (ped_isi2 (T := .list) (U := .tuple) (by rfl) T.z_isinstance (by rfl) T.z_list (by decide +kernel) (by rfl) T.z_tuple (by decide +kernel) (ped_var 0))) (pssd_one (psd_for PassesOwn.never rfl (pid_range1 (by rfl) T.z_range (ped_callB calld_lenA (by rfl) T.z_len (by decide +kernel) (pad_cons (ped_var 0) pad_nil))) (pgd_name (i := 2) sc__law_spots.nd rfl (by first | exact .inl rfl | exact .inr rfl)) (pssd_one (psd_set (i := 1) sc__law_spots.nd rfl (by first | exact .inl rfl | exact .inr rfl) (ped_bin opd_add (ped_var 1) (ped_lc rfl sc__law_spots.nd (own := [("spot", 3)]) (pid_any (ped_call ih hr (by rfl) T.m__law_spots T.F__law_spots.kp T.b__law_spots (pad_cons (ped_sub hu (ped_var 0) (ped_var 2) (fun _ _ => rfl)) pad_nil) (alen_cons alen_nil))) (blkOk_by (own := [("spot", 3)]) (N := n__law_spots) (sc := defScope s__law_spots) (by decide +kernel)) (fun _ _ _ _ _ => (pgd_name (i := 3) sc__law_spots.nd rfl (by first | exact .inl rfl | exact .inr rfl))) (fun _ _ _ _ _ => ptsd_nil) (fun _ _ _ _ _ => (ped_bin opd_add (ped_tup (pad_cons (ped_var 2) pad_nil)) (ped_var 3))))))))) pssd_nil)
    (pssd_one (psd_ret (ped_var 1)))))
def b__law_spoilt : SM := (sSeq (sSet 3 (mCallF (m__law_spots 40) (aCons (mVar 1) aNil)))
  (sSeq (sSet 4 (mCallF m__law_pick (aCons (mVar 0) (aCons (mVar 3) aNil))))
  (sSeq (sSet 5 (mCallF m__law_at (aCons (mVar 1) (aCons (mVar 4) aNil))))
  (sSeq (sSet 6 (mCallF m__law_next (aCons (mVar 0) (aCons (mC (.int 6)) aNil))))
  (sSeq (sIf (mTB (mBin dEq (mVar 6) (mC (.int 0)))) (sRet (mCallF (m__law_put_at 40) (aCons (mVar 1) (aCons (mVar 4) (aCons (mCallF m__law_at (aCons (mVar 1) (aCons (mCallF m__law_pick (aCons (mVar 0) (aCons (mVar 3) aNil))) aNil))) aNil))))) sNx)
  (sSeq (sIf (mAndB (mTB (mBin dEq (mVar 6) (mC (.int 1)))) (mTB (mIs (fun d => inst .list d || inst .tuple d) (mVar 5)))) (sRet (mCallF (m__law_put_at 40) (aCons (mVar 1) (aCons (mVar 4) (aCons (mIfE (mTB (mIs (inst .tuple) (mVar 5))) (mCall gListA (aCons (mVar 5) aNil)) (mCall gTuple (aCons (mVar 5) aNil))) aNil))))) sNx)
  (sSeq (sIf (mAndB (mTB (mBin dEq (mVar 6) (mC (.int 2)))) (mAndB (mTB (mIs (fun d => inst .list d || inst .tuple d) (mVar 5))) (mTB (mBin dGt (mCall gLenA (aCons (mVar 5) aNil)) (mC (.int 0)))))) (sSeq (sSet 7 (mCallF m__law_next (aCons (mVar 0) (aCons (mCall gLenA (aCons (mVar 5) aNil)) aNil))))
  (sRet (mCallF (m__law_put_at 40) (aCons (mVar 1) (aCons (mVar 4) (aCons (mBin dAdd (mSl (mVar 5) oNone (oSome (mVar 7))) (mSl (mVar 5) (oSome (mBin dAdd (mVar 7) (mC (.int 1)))) oNone)) aNil)))))) sNx)
  (sSeq (sIf (mAndB (mTB (mBin dEq (mVar 6) (mC (.int 3)))) (mAndB (mTB (mIs (fun d => inst .list d || inst .tuple d) (mVar 5))) (mTB (mBin dGt (mCall gLenA (aCons (mVar 5) aNil)) (mC (.int 0)))))) (sSeq (sSet 7 (mCallF m__law_next (aCons (mVar 0) (aCons (mCall gLenA (aCons (mVar 5) aNil)) aNil))))
  (sRet (mCallF (m__law_put_at 40) (aCons (mVar 1) (aCons (mVar 4) (aCons (mBin dAdd (mBin dAdd (mSl (mVar 5) oNone (oSome (mVar 7))) (mSl (mVar 5) (oSome (mVar 7)) (oSome (mBin dAdd (mVar 7) (mC (.int 1)))))) (mSl (mVar 5) (oSome (mVar 7)) oNone)) aNil)))))) sNx)
  (sSeq (sIf (mAndB (mTB (mBin dEq (mVar 6) (mC (.int 4)))) (mTB (mIs (fun d => inst .list d || inst .tuple d) (mVar 5)))) (sRet (mCallF (m__law_put_at 40) (aCons (mVar 1) (aCons (mVar 4) (aCons (mUn dRev (mVar 5)) aNil))))) sNx)
  (sRet (mCallF (m__law_put_at 40) (aCons (mVar 1) (aCons (mVar 4) (aCons (mCallF m__law_pick (aCons (mVar 0) (aCons (mVar 2) aNil))) aNil))))))))))))))
def m__law_spoilt : FM := mFun exitZ 8 b__law_spoilt
theorem ok__law_spoilt (T : Txt K mg) (G__law_at : FnOk P w K mg base CX0 1 T.a__law_at T.d__law_at ["thing", "spot"] (spM K m__law_at 2)) (G__law_next : FnOk P w K mg base CX0 1 T.a__law_next T.d__law_next ["state", "bound"] (spM K m__law_next 2)) (G__law_pick : FnOk P w K mg base CX0 2 T.a__law_pick T.d__law_pick ["state", "things"] (spM K m__law_pick 2)) (G__law_put_at : FnOk P w K mg base CX0 40 T.a__law_put_at T.d__law_put_at ["thing", "spot", "new"] (spM K (m__law_put_at 40) 3)) (G__law_spots : FnOk P w K mg base CX0 40 T.a__law_spots T.d__law_spots ["tree"] (spM K (m__law_spots 40) 1)) : FnOk P w K mg base CX0 41 T.a__law_spoilt T.d__law_spoilt ["state", "thing", "pool"] (spM K m__law_spoilt 3) := by
  refine fn_m (k := 40) (N := n__law_spoilt) exitZ_ok T.F__law_spoilt sc__law_spoilt rfl rfl (by decide) fun cdv A outer s H E hr => ?_
  have hu := hu65 hr
  unfold b__law_spoilt
  exact (pssd_cons (psd_set (i := 3) sc__law_spoilt.nd rfl (by first | exact .inl rfl | exact .inr rfl) (ped_call G__law_spots (hr.mono (by omega)) (by rfl) T.m__law_spots T.F__law_spots.kp T.b__law_spots (pad_cons (ped_var 1) pad_nil) (alen_cons alen_nil)))
    (pssd_cons (psd_set (i := 4) sc__law_spoilt.nd rfl (by first | exact .inl rfl | exact .inr rfl) (ped_call G__law_pick (hr.mono (by omega)) (by rfl) T.m__law_pick T.F__law_pick.kp T.b__law_pick (pad_cons (ped_var 0) (pad_cons (ped_var 3) pad_nil)) (alen_cons (alen_cons alen_nil))))
    (pssd_cons (psd_set (i := 5) sc__law_spoilt.nd rfl (by first | exact .inl rfl | exact .inr rfl) (ped_call G__law_at (hr.mono (by omega)) (by rfl) T.m__law_at T.F__law_at.kp T.b__law_at (pad_cons (ped_var 1) (pad_cons (ped_var 4) pad_nil)) (alen_cons (alen_cons alen_nil))))
    (pssd_cons (psd_set (i := 6) sc__law_spoilt.nd rfl (by first | exact .inl rfl | exact .inr rfl) (ped_call G__law_next (hr.mono (by omega)) (by rfl) T.m__law_next T.F__law_next.kp T.b__law_next (pad_cons (ped_var 0) (pad_cons ped_int pad_nil)) (alen_cons (alen_cons alen_nil))))
    (pssd_cons (psd_if (ptd_cmp (opd_eq hu) (ped_var 6) ped_int (nomark _)) (pssd_one (psd_ret (ped_call G__law_put_at (hr.mono (by omega)) (by rfl) T.m__law_put_at T.F__law_put_at.kp T.b__law_put_at (pad_cons (ped_var 1) (pad_cons (ped_var 4) (pad_cons (ped_call G__law_at (hr.mono (by omega)) (by rfl) T.m__law_at T.F__law_at.kp T.b__law_at (pad_cons (ped_var 1) (pad_cons (ped_call G__law_pick (hr.mono (by omega)) (by rfl) T.m__law_pick T.F__law_pick.kp T.b__law_pick (pad_cons (ped_var 0) (pad_cons (ped_var 3) pad_nil)) (alen_cons (alen_cons alen_nil))) pad_nil)) (alen_cons (alen_cons alen_nil))) pad_nil))) (alen_cons (alen_cons (alen_cons alen_nil)))))) pssd_nil)
    (pssd_cons (psd_if (PWd.pt (pwd_and (ptd_cmp (opd_eq hu) (ped_var 6) ped_int (nomark _)) (pwd_and1 (ptd_val (ped_isi2 (T := .list) (U := .tuple) (by rfl) T.z_isinstance (by rfl) T.z_list (by decide +kernel) (by rfl) T.z_tuple (by decide +kernel) (ped_var 5)))))) (pssd_one (psd_ret (ped_call G__law_put_at (hr.mono (by omega)) (by rfl) T.m__law_put_at T.F__law_put_at.kp T.b__law_put_at (pad_cons (ped_var 1) (pad_cons (ped_var 4) (pad_cons (ped_if (ptd_val (ped_isi (T := .tuple) (by rfl) T.z_isinstance (by rfl) T.z_tuple (by decide +kernel) (ped_var 5))) (ped_callT (calld_listA rfl) (by rfl) T.z_list (by decide +kernel) (pad_cons (ped_var 5) pad_nil)) (ped_callT calld_tuple (by rfl) T.z_tuple (by decide +kernel) (pad_cons (ped_var 5) pad_nil))) pad_nil))) (alen_cons (alen_cons (alen_cons alen_nil)))))) pssd_nil)
    (pssd_cons (psd_if (PWd.pt (pwd_and (ptd_cmp (opd_eq hu) (ped_var 6) ped_int (nomark _)) (pwd_and (ptd_val (ped_isi2 (T := .list) (U := .tuple) (by rfl) T.z_isinstance (by rfl) T.z_list (by decide +kernel) (by rfl) T.z_tuple (by decide +kernel) (ped_var 5))) (pwd_and1 (ptd_cmp opd_gt (ped_callB calld_lenA (by rfl) T.z_len (by decide +kernel) (pad_cons (ped_var 5) pad_nil)) ped_int (nomark _)))))) (pssd_cons (psd_set (i := 7) sc__law_spoilt.nd rfl (by first | exact .inl rfl | exact .inr rfl) (ped_call G__law_next (hr.mono (by omega)) (by rfl) T.m__law_next T.F__law_next.kp T.b__law_next (pad_cons (ped_var 0) (pad_cons (ped_callB calld_lenA (by rfl) T.z_len (by decide +kernel) (pad_cons (ped_var 5) pad_nil)) pad_nil)) (alen_cons (alen_cons alen_nil))))
    (pssd_one (psd_ret (ped_call G__law_put_at (hr.mono (by omega)) (by rfl) T.m__law_put_at T.F__law_put_at.kp T.b__law_put_at (pad_cons (ped_var 1) (pad_cons (ped_var 4) (pad_cons (ped_bin opd_add (ped_sl (ped_var 5) pod_none (pod_some (ped_var 7))) (ped_sl (ped_var 5) (pod_some (ped_bin opd_add (ped_var 7) ped_int)) pod_none)) pad_nil))) (alen_cons (alen_cons (alen_cons alen_nil))))))) pssd_nil)
    (pssd_cons (psd_if (PWd.pt (pwd_and (ptd_cmp (opd_eq hu) (ped_var 6) ped_int (nomark _)) (pwd_and (ptd_val (ped_isi2 (T := .list) (U := .tuple) (by rfl) T.z_isinstance (by rfl) T.z_list (by decide +kernel) (by rfl) T.z_tuple (by decide +kernel) (ped_var 5))) (pwd_and1 (ptd_cmp opd_gt (ped_callB calld_lenA (by rfl) T.z_len (by decide +kernel) (pad_cons (ped_var 5) pad_nil)) ped_int (nomark _)))))) (pssd_cons (psd_set (i := 7) sc__law_spoilt.nd rfl (by first | exact .inl rfl | exact .inr rfl) (ped_call G__law_next (hr.mono (by omega)) (by rfl) T.m__law_next T.F__law_next.kp T.b__law_next (pad_cons (ped_var 0) (pad_cons (ped_callB calld_lenA (by rfl) T.z_len (by decide +kernel) (pad_cons (ped_var 5) pad_nil)) pad_nil)) (alen_cons (alen_cons alen_nil))))
    (pssd_one (psd_ret (ped_call G__law_put_at (hr.mono (by omega)) (by rfl) T.m__law_put_at T.F__law_put_at.kp T.b__law_put_at (pad_cons (ped_var 1) (pad_cons (ped_var 4) (pad_cons (ped_bin opd_add (ped_bin opd_add (ped_sl (ped_var 5) pod_none (pod_some (ped_var 7))) (ped_sl (ped_var 5) (pod_some (ped_var 7)) (pod_some (ped_bin opd_add (ped_var 7) ped_int)))) (ped_sl (ped_var 5) (pod_some (ped_var 7)) pod_none)) pad_nil))) (alen_cons (alen_cons (alen_cons alen_nil))))))) pssd_nil)
    (pssd_cons (psd_if (PWd.pt (pwd_and (ptd_cmp (opd_eq hu) (ped_var 6) ped_int (nomark _)) (pwd_and1 (ptd_val (ped_isi2 (T := .list) (U := .tuple) (by rfl) T.z_isinstance (by rfl) T.z_list (by decide +kernel) (by rfl) T.z_tuple (by decide +kernel) (ped_var 5)))))) (pssd_one (psd_ret (ped_call G__law_put_at (hr.mono (by omega)) (by rfl) T.m__law_put_at T.F__law_put_at.kp T.b__law_put_at (pad_cons (ped_var 1) (pad_cons (ped_var 4) (pad_cons (ped_rev (ped_var 5)) pad_nil))) (alen_cons (alen_cons (alen_cons alen_nil)))))) pssd_nil)
    (pssd_one (psd_ret (ped_call G__law_put_at (hr.mono (by omega)) (by rfl) T.m__law_put_at T.F__law_put_at.kp T.b__law_put_at (pad_cons (ped_var 1) (pad_cons (ped_var 4) (pad_cons (ped_call G__law_pick (hr.mono (by omega)) (by rfl) T.m__law_pick T.F__law_pick.kp T.b__law_pick (pad_cons (ped_var 0) (pad_cons (ped_var 2) pad_nil)) (alen_cons (alen_cons alen_nil))) pad_nil))) (alen_cons (alen_cons (alen_cons alen_nil)))))))))))))))
def b__law_walks : SM := (sSeq (sSet 1 (mLstC aNil))
  (sSeq (sFor (iAny (mCallF m__law_paths (aCons (mVar 0) aNil))) (gNm 2) (sSeq (sSet 3 (mLst (aCons (mTup (aCons (mTup aNil) (aCons (mVar 2) aNil))) aNil)))
  (sFor (iRange (aCons (mC (.int 3)) aNil)) (gNm 4) (sSeq (sSet 5 (mLstC aNil))
  (sSeq (sFor (iAny (mVar 3)) (gTu 2 (gsCons (gNm 6) (gsCons (gNm 7) gsNil))) (sFor (iAny (mCallF m__law_better (aCons (mVar 0) (aCons (mVar 7) aNil)))) (gNm 8) (sFor (iAny (mCallF m__law_tails (aCons (mVar 8) aNil))) (gNm 9) (sIf (mTB (mBin dEq (mVar 9) (mVar 2))) (sEx (mApp (mVar 1) (mBin dAdd (mVar 6) (mTup (aCons (mTup (aCons (mVar 7) (aCons (mVar 8) aNil))) aNil))))) (sIf (mTB (mBin dLt (mCall gLenA (aCons (mVar 5) aNil)) (mC (.int 300)))) (sEx (mApp (mVar 5) (mTup (aCons (mBin dAdd (mVar 6) (mTup (aCons (mTup (aCons (mVar 7) (aCons (mVar 8) aNil))) aNil))) (aCons (mVar 9) aNil))))) sNx)))))
  (sSet 3 (mFz (mVar 5))))))))
  (sRet (mVar 1))))
def m__law_walks : FM := mFun exitZ 10 b__law_walks
theorem ok__law_walks (T : Txt K mg) (G__law_better : FnOk P w K mg base CX0 1 T.a__law_better T.d__law_better ["book", "path"] (spM K m__law_better 2)) (G__law_paths : FnOk P w K mg base CX0 1 T.a__law_paths T.d__law_paths ["book"] (spM K m__law_paths 1)) (G__law_tails : FnOk P w K mg base CX0 1 T.a__law_tails T.d__law_tails ["path"] (spM K m__law_tails 1)) : FnOk P w K mg base CX0 2 T.a__law_walks T.d__law_walks ["book"] (spM K m__law_walks 1) := by
  refine fn_m (k := 1) (N := n__law_walks) exitZ_ok T.F__law_walks sc__law_walks rfl rfl (by decide) fun cdv A outer s H E hr => ?_
  have hu := hu65 hr
  unfold b__law_walks
  exact (pssd_cons (psd_set (i := 1) sc__law_walks.nd rfl (by first | exact .inl rfl | exact .inr rfl) (ped_lstC pad_nil))
    (pssd_cons (psd_for PassesOwn.never rfl (pid_any (ped_call G__law_paths (hr.mono (by omega)) (by rfl) T.m__law_paths T.F__law_paths.kp T.b__law_paths (pad_cons (ped_var 0) pad_nil) (alen_cons alen_nil))) (pgd_name (i := 2) sc__law_walks.nd rfl (by first | exact .inl rfl | exact .inr rfl)) (pssd_cons (psd_set (i := 3) sc__law_walks.nd rfl (by first | exact .inl rfl | exact .inr rfl) (ped_lst (pad_cons (ped_tup (pad_cons (ped_tup pad_nil) (pad_cons (ped_var 2) pad_nil))) pad_nil)))
    (pssd_one (psd_for PassesOwn.never rfl (pid_range1 (by rfl) T.z_range ped_int) (pgd_name (i := 4) sc__law_walks.nd rfl (by first | exact .inl rfl | exact .inr rfl)) (pssd_cons (psd_set (i := 5) sc__law_walks.nd rfl (by first | exact .inl rfl | exact .inr rfl) (ped_lstC pad_nil))
    (pssd_cons (psd_for PassesOwn.never rfl (pid_any (ped_var 3)) (pgd_tup rfl (pgsd_cons (pgd_name (i := 6) sc__law_walks.nd rfl (by first | exact .inl rfl | exact .inr rfl)) (pgsd_cons (pgd_name (i := 7) sc__law_walks.nd rfl (by first | exact .inl rfl | exact .inr rfl)) pgsd_nil))) (pssd_one (psd_for PassesOwn.never rfl (pid_any (ped_call G__law_better (hr.mono (by omega)) (by rfl) T.m__law_better T.F__law_better.kp T.b__law_better (pad_cons (ped_var 0) (pad_cons (ped_var 7) pad_nil)) (alen_cons (alen_cons alen_nil)))) (pgd_name (i := 8) sc__law_walks.nd rfl (by first | exact .inl rfl | exact .inr rfl)) (pssd_one (psd_for PassesOwn.never rfl (pid_any (ped_call G__law_tails (hr.mono (by omega)) (by rfl) T.m__law_tails T.F__law_tails.kp T.b__law_tails (pad_cons (ped_var 8) pad_nil) (alen_cons alen_nil))) (pgd_name (i := 9) sc__law_walks.nd rfl (by first | exact .inl rfl | exact .inr rfl)) (pssd_one (psd_if (ptd_cmp (opd_eq hu) (ped_var 9) (ped_var 2) (nomark _)) (pssd_one (psd_expr (ped_append (ped_var 1) (ped_bin opd_add (ped_var 6) (ped_tup (pad_cons (ped_tup (pad_cons (ped_var 7) (pad_cons (ped_var 8) pad_nil))) pad_nil)))))) (pssd_one (psd_if (ptd_cmp opd_lt (ped_callB calld_lenA (by rfl) T.z_len (by decide +kernel) (pad_cons (ped_var 5) pad_nil)) ped_int (nomark _)) (pssd_one (psd_expr (ped_append (ped_var 5) (ped_tup (pad_cons (ped_bin opd_add (ped_var 6) (ped_tup (pad_cons (ped_tup (pad_cons (ped_var 7) (pad_cons (ped_var 8) pad_nil))) pad_nil))) (pad_cons (ped_var 9) pad_nil)))))) pssd_nil)))))))))
    (pssd_one (psd_set (i := 3) sc__law_walks.nd rfl (by first | exact .inl rfl | exact .inr rfl) (ped_fz (ped_var 5))))))))))
    (pssd_one (psd_ret (ped_var 1)))))
def b_rank_of : SM := (sRet (mIndex (mSub (mSub (mVar 0) (mC (.int 2))) (mSub (mVar 1) (mC (.int 0)))) (mVar 1)))
def m_rank_of : FM := mFun exitZ 2 b_rank_of
theorem ok_rank_of (T : Txt K mg)  : FnOk P w K mg base CX0 1 T.a_rank_of T.d_rank_of ["book", "path"] (spM K m_rank_of 2) := by
  refine fn_m (k := 0) (N := n_rank_of) exitZ_ok T.F_rank_of sc_rank_of rfl rfl (by decide) fun cdv A outer s H E hr => ?_
  have hu := hu65 hr
  unfold b_rank_of
  exact (pssd_one (psd_ret (ped_index hu (ped_sub hu (ped_sub hu (ped_var 0) ped_int (fun _ _ => rfl)) (ped_sub hu (ped_var 1) ped_int (fun _ _ => rfl)) (fun _ _ => rfl)) (ped_var 1))))
def b_better_ones : SM := (sRet (mCall gListA (aCons (mSl (mSub (mSub (mVar 0) (mC (.int 2))) (mSub (mVar 1) (mC (.int 0)))) oNone (oSome (mCallF m_rank_of (aCons (mVar 0) (aCons (mVar 1) aNil))))) aNil)))
def m_better_ones : FM := mFun exitZ 2 b_better_ones
theorem ok_better_ones (T : Txt K mg) (G_rank_of : FnOk P w K mg base CX0 1 T.a_rank_of T.d_rank_of ["book", "path"] (spM K m_rank_of 2)) : FnOk P w K mg base CX0 2 T.a_better_ones T.d_better_ones ["book", "path"] (spM K m_better_ones 2) := by
  refine fn_m (k := 1) (N := n_better_ones) exitZ_ok T.F_better_ones sc_better_ones rfl rfl (by decide) fun cdv A outer s H E hr => ?_
  have hu := hu65 hr
  unfold b_better_ones
  exact (pssd_one (psd_ret (ped_callT (calld_listA rfl) (by rfl) T.z_list (by decide +kernel) (pad_cons (ped_sl (ped_sub hu (ped_sub hu (ped_var 0) ped_int (fun _ _ => rfl)) (ped_sub hu (ped_var 1) ped_int (fun _ _ => rfl)) (fun _ _ => rfl)) pod_none (pod_some (ped_call G_rank_of (hr.mono (by omega)) (by rfl) T.m_rank_of T.F_rank_of.kp T.b_rank_of (pad_cons (ped_var 0) (pad_cons (ped_var 1) pad_nil)) (alen_cons (alen_cons alen_nil))))) pad_nil))))
def b_tails_of : SM := (sRet (mLC [1] (iRange (aCons (mC (.int 1)) (aCons (mBin dSub (mCall gLenA (aCons (mVar 0) aNil)) (mC (.int 1))) aNil))) (gNm 1) bYes (mSl (mVar 0) (oSome (mVar 1)) oNone)))
def m_tails_of : FM := mFun exitZ 2 b_tails_of
theorem ok_tails_of (T : Txt K mg)  : FnOk P w K mg base CX0 1 T.a_tails_of T.d_tails_of ["path"] (spM K m_tails_of 1) := by
  refine fn_m (k := 0) (N := n_tails_of) exitZ_ok T.F_tails_of sc_tails_of rfl rfl (by decide) fun cdv A outer s H E hr => ?_
  have hu := hu65 hr
  unfold b_tails_of
  exact (pssd_one (psd_ret (ped_lc rfl sc_tails_of.nd (own := [("k", 1)]) (pid_range2 (by rfl) T.z_range ped_int (ped_bin opd_sub (ped_callB calld_lenA (by rfl) T.z_len (by decide +kernel) (pad_cons (ped_var 0) pad_nil)) ped_int)) (blkOk_by (own := [("k", 1)]) (N := n_tails_of) (sc := defScope s_tails_of) (by decide +kernel)) (fun _ _ _ _ _ => (pgd_name (i := 1) sc_tails_of.nd rfl (by first | exact .inl rfl | exact .inr rfl))) (fun _ _ _ _ _ => ptsd_nil) (fun _ _ _ _ _ => (ped_sl (ped_var 0) (pod_some (ped_var 1)) pod_none)))))
def b_arrows : SM := (sRet (mBin dAdd (mCallF m_better_ones (aCons (mVar 0) (aCons (mVar 1) aNil))) (mCallF m_tails_of (aCons (mVar 1) aNil))))
def m_arrows : FM := mFun exitZ 2 b_arrows
theorem ok_arrows (T : Txt K mg) (G_better_ones : FnOk P w K mg base CX0 2 T.a_better_ones T.d_better_ones ["book", "path"] (spM K m_better_ones 2)) (G_tails_of : FnOk P w K mg base CX0 1 T.a_tails_of T.d_tails_of ["path"] (spM K m_tails_of 1)) : FnOk P w K mg base CX0 3 T.a_arrows T.d_arrows ["book", "path"] (spM K m_arrows 2) := by
  refine fn_m (k := 2) (N := n_arrows) exitZ_ok T.F_arrows sc_arrows rfl rfl (by decide) fun cdv A outer s H E hr => ?_
  have hu := hu65 hr
  unfold b_arrows
  exact (pssd_one (psd_ret (ped_bin opd_add (ped_call G_better_ones (hr.mono (by omega)) (by rfl) T.m_better_ones T.F_better_ones.kp T.b_better_ones (pad_cons (ped_var 0) (pad_cons (ped_var 1) pad_nil)) (alen_cons (alen_cons alen_nil))) (ped_call G_tails_of (hr.mono (by omega)) (by rfl) T.m_tails_of T.F_tails_of.kp T.b_tails_of (pad_cons (ped_var 1) pad_nil) (alen_cons alen_nil)))))
def b_is_path_of : SM := (sSeq (sIf (mOrB (mNotB (mTB (mIs (inst .tuple) (mVar 1)))) (mOrB (mTB (mBin dLt (mCall gLenA (aCons (mVar 1) aNil)) (mC (.int 2)))) (mNotB (mTB (mCall gAll (aCons (mLC [2] (iAny (mVar 1)) (gNm 2) bYes (mIs (inst .str) (mVar 2))) aNil)))))) (sRet (mC (.bool false))) sNx)
  (sRet (mAndV (mIn false (mSub (mVar 1) (mC (.int 0))) (mSub (mVar 0) (mC (.int 2)))) (mIn false (mVar 1) (mSub (mSub (mVar 0) (mC (.int 2))) (mSub (mVar 1) (mC (.int 0))))))))
def m_is_path_of : FM := mFun exitZ 3 b_is_path_of
theorem ok_is_path_of (T : Txt K mg)  : FnOk P w K mg base CX0 1 T.a_is_path_of T.d_is_path_of ["book", "thing"] (spM K m_is_path_of 2) := by
  refine fn_m (k := 0) (N := n_is_path_of) exitZ_ok T.F_is_path_of sc_is_path_of rfl rfl (by decide) fun cdv A outer s H E hr => ?_
  have hu := hu65 hr
  unfold b_is_path_of
  exact (pssd_cons (psd_if (PWd.pt (pwd_or (ptd_not (ptd_val (ped_isi (T := .tuple) (by rfl) T.z_isinstance (by rfl) T.z_tuple (by decide +kernel) (ped_var 1)))) (pwd_or (ptd_cmp opd_lt (ped_callB calld_lenA (by rfl) T.z_len (by decide +kernel) (pad_cons (ped_var 1) pad_nil)) ped_int (nomark _)) (pwd_or1 (ptd_not (ptd_val (ped_callB (calld_all rfl) (by rfl) T.z_all (by decide +kernel) (pad_cons (ped_lc rfl sc_is_path_of.nd (own := [("name", 2)]) (pid_any (ped_var 1)) (blkOk_by (own := [("name", 2)]) (N := n_is_path_of) (sc := defScope s_is_path_of) (by decide +kernel)) (fun _ _ _ _ _ => (pgd_name (i := 2) sc_is_path_of.nd rfl (by first | exact .inl rfl | exact .inr rfl))) (fun _ _ _ _ _ => ptsd_nil) (fun _ _ _ _ _ => (ped_isi (T := .str) (by rfl) T.z_isinstance (by rfl) T.z_str (by decide +kernel) (ped_var 2)))) pad_nil)))))))) (pssd_one (psd_ret ped_bl)) pssd_nil)
    (pssd_one (psd_ret (ped_and (ped_in hu (ped_sub hu (ped_var 1) ped_int (fun _ _ => rfl)) (ped_sub hu (ped_var 0) ped_int (fun _ _ => rfl))) (ped_one (ped_in hu (ped_var 1) (ped_sub hu (ped_sub hu (ped_var 0) ped_int (fun _ _ => rfl)) (ped_sub hu (ped_var 1) ped_int (fun _ _ => rfl)) (fun _ _ => rfl))))))))
def b_paths_of : SM := (sRet (mLC2 [2, 1] [1] (iAny (mCall gSorted (aCons (mSub (mVar 0) (mC (.int 2))) aNil))) (gNm 2) bYes (iAny (mSub (mSub (mVar 0) (mC (.int 2))) (mVar 2))) (gNm 1) bYes (mVar 1)))
def m_paths_of : FM := mFun exitZ 3 b_paths_of
theorem ok_paths_of (T : Txt K mg)  : FnOk P w K mg base CX0 1 T.a_paths_of T.d_paths_of ["book"] (spM K m_paths_of 1) := by
  refine fn_m (k := 0) (N := n_paths_of) exitZ_ok T.F_paths_of sc_paths_of rfl rfl (by decide) fun cdv A outer s H E hr => ?_
  have hu := hu65 hr
  unfold b_paths_of
  exact (pssd_one (psd_ret (ped_lc2 rfl sc_paths_of.nd (own := [("router", 2), ("path", 1)]) (own1 := [1]) (pid_any (ped_callB (calld_sorted rfl hu) (by rfl) T.z_sorted (by decide +kernel) (pad_cons (ped_sub hu (ped_var 0) ped_int (fun _ _ => rfl)) pad_nil))) (blkOk_by (own := [("router", 2), ("path", 1)]) (N := n_paths_of) (sc := defScope s_paths_of) (by decide +kernel)) (fun _ _ _ _ _ => (pgd_name (i := 2) sc_paths_of.nd rfl (by first | exact .inl rfl | exact .inr rfl))) (fun _ _ _ _ _ => ptsd_nil) (fun _ _ _ _ _ => (pid_any (ped_sub hu (ped_sub hu (ped_var 0) ped_int (fun _ _ => rfl)) (ped_var 2) (fun _ _ => rfl)))) (fun _ _ _ _ _ => (pgd_name (i := 1) sc_paths_of.nd rfl (by first | exact .inl rfl | exact .inr rfl))) (fun _ _ _ _ _ => ptsd_nil) (fun _ _ _ _ _ => (ped_var 1)))))
def b_order_right : SM := (sSeq (sIf (mOrB (mNotB (mTB (mIs (inst .list) (mVar 1)))) (mNotB (mTB (mCall gAll (aCons (mLC [5] (iAny (mVar 1)) (gNm 5) bYes (mCallF m_is_path_of (aCons (mVar 0) (aCons (mVar 5) aNil)))) aNil))))) (sRet (mC (.bool false))) sNx)
  (sSeq (sIf (mTB (mBin dNe (mCall gSorted (aCons (mVar 1) aNil)) (mCall gSorted (aCons (mCallF m_paths_of (aCons (mVar 0) aNil)) aNil)))) (sRet (mC (.bool false))) sNx)
  (sSeq (sSet 2 (mDcT [3] (iRange (aCons (mCall gLenA (aCons (mVar 1) aNil)) aNil)) (gNm 3) bYes (mSub (mVar 1) (mVar 3)) (mVar 3)))
  (sRet (mCall gAll (aCons (mLC2 [5, 4] [4] (iAny (mVar 1)) (gNm 5) bYes (iAny (mCallF m_arrows (aCons (mVar 0) (aCons (mVar 5) aNil)))) (gNm 4) bYes (mBin dLt (mSub (mVar 2) (mVar 4)) (mSub (mVar 2) (mVar 5)))) aNil))))))
def m_order_right : FM := mFun exitZ 6 b_order_right
theorem ok_order_right (T : Txt K mg) (G_arrows : FnOk P w K mg base CX0 3 T.a_arrows T.d_arrows ["book", "path"] (spM K m_arrows 2)) (G_is_path_of : FnOk P w K mg base CX0 1 T.a_is_path_of T.d_is_path_of ["book", "thing"] (spM K m_is_path_of 2)) (G_paths_of : FnOk P w K mg base CX0 1 T.a_paths_of T.d_paths_of ["book"] (spM K m_paths_of 1)) : FnOk P w K mg base CX0 4 T.a_order_right T.d_order_right ["book", "order"] (spM K m_order_right 2) := by
  refine fn_m (k := 3) (N := n_order_right) exitZ_ok T.F_order_right sc_order_right rfl rfl (by decide) fun cdv A outer s H E hr => ?_
  have hu := hu65 hr
  unfold b_order_right
  exact (pssd_cons (psd_if (PWd.pt (pwd_or (ptd_not (ptd_val (ped_isi (T := .list) (by rfl) T.z_isinstance (by rfl) T.z_list (by decide +kernel) (ped_var 1)))) (pwd_or1 (ptd_not (ptd_val (ped_callB (calld_all rfl) (by rfl) T.z_all (by decide +kernel) (pad_cons (ped_lc rfl sc_order_right.nd (own := [("path", 5)]) (pid_any (ped_var 1)) (blkOk_by (own := [("path", 5)]) (N := n_order_right) (sc := defScope s_order_right) (by decide +kernel)) (fun _ _ _ _ _ => (pgd_name (i := 5) sc_order_right.nd rfl (by first | exact .inl rfl | exact .inr rfl))) (fun _ _ _ _ _ => ptsd_nil) (fun _ _ _ _ _ => (ped_call G_is_path_of (hr.mono (by omega)) (by rfl) T.m_is_path_of T.F_is_path_of.kp T.b_is_path_of (pad_cons (ped_var 0) (pad_cons (ped_var 5) pad_nil)) (alen_cons (alen_cons alen_nil))))) pad_nil))))))) (pssd_one (psd_ret ped_bl)) pssd_nil)
    (pssd_cons (psd_if (ptd_cmp (opd_ne hu) (ped_callB (calld_sorted rfl hu) (by rfl) T.z_sorted (by decide +kernel) (pad_cons (ped_var 1) pad_nil)) (ped_callB (calld_sorted rfl hu) (by rfl) T.z_sorted (by decide +kernel) (pad_cons (ped_call G_paths_of (hr.mono (by omega)) (by rfl) T.m_paths_of T.F_paths_of.kp T.b_paths_of (pad_cons (ped_var 0) pad_nil) (alen_cons alen_nil)) pad_nil)) (nomark _)) (pssd_one (psd_ret ped_bl)) pssd_nil)
    (pssd_cons (psd_set (i := 2) sc_order_right.nd rfl (by first | exact .inl rfl | exact .inr rfl) (ped_dcT hu rfl sc_order_right.nd (own := [("k", 3)]) (pid_range1 (by rfl) T.z_range (ped_callB calld_lenA (by rfl) T.z_len (by decide +kernel) (pad_cons (ped_var 1) pad_nil))) (blkOk_by (own := [("k", 3)]) (N := n_order_right) (sc := defScope s_order_right) (by decide +kernel)) (fun _ _ _ _ _ => (pgd_name (i := 3) sc_order_right.nd rfl (by first | exact .inl rfl | exact .inr rfl))) (fun _ _ _ _ _ => ptsd_nil) (fun _ _ _ _ _ => (ped_sub hu (ped_var 1) (ped_var 3) (fun _ _ => rfl))) (fun _ _ _ _ _ => (ped_var 3))))
    (pssd_one (psd_ret (ped_callB (calld_all rfl) (by rfl) T.z_all (by decide +kernel) (pad_cons (ped_lc2 rfl sc_order_right.nd (own := [("path", 5), ("other", 4)]) (own1 := [4]) (pid_any (ped_var 1)) (blkOk_by (own := [("path", 5), ("other", 4)]) (N := n_order_right) (sc := defScope s_order_right) (by decide +kernel)) (fun _ _ _ _ _ => (pgd_name (i := 5) sc_order_right.nd rfl (by first | exact .inl rfl | exact .inr rfl))) (fun _ _ _ _ _ => ptsd_nil) (fun _ _ _ _ _ => (pid_any (ped_call G_arrows (hr.mono (by omega)) (by rfl) T.m_arrows T.F_arrows.kp T.b_arrows (pad_cons (ped_var 0) (pad_cons (ped_var 5) pad_nil)) (alen_cons (alen_cons alen_nil))))) (fun _ _ _ _ _ => (pgd_name (i := 4) sc_order_right.nd rfl (by first | exact .inl rfl | exact .inr rfl))) (fun _ _ _ _ _ => ptsd_nil) (fun _ _ _ _ _ => (ped_cmp opd_lt (ped_sub hu (ped_var 2) (ped_var 4) (fun _ _ => rfl)) (ped_sub hu (ped_var 2) (ped_var 5) (fun _ _ => rfl)) (nomark _)))) pad_nil)))))))
def b_is_spoke_and_rim : SM := (sSeq (sIf (mOrB (mNotB (mTB (mIs (inst .tuple) (mVar 1)))) (mOrB (mTB (mBin dNe (mCall gLenA (aCons (mVar 1) aNil)) (mC (.int 2)))) (mNotB (mTB (mCall gAll (aCons (mLC [2] (iAny (mVar 1)) (gNm 2) bYes (mCallF m_is_path_of (aCons (mVar 0) (aCons (mVar 2) aNil)))) aNil)))))) (sRet (mC (.bool false))) sNx)
  (sRet (mAndV (mBin dEq (mSub (mSub (mVar 1) (mC (.int 0))) (mC (.int 0))) (mSub (mSub (mVar 1) (mC (.int 1))) (mC (.int 0)))) (mBin dLt (mCallF m_rank_of (aCons (mVar 0) (aCons (mSub (mVar 1) (mC (.int 1))) aNil))) (mCallF m_rank_of (aCons (mVar 0) (aCons (mSub (mVar 1) (mC (.int 0))) aNil)))))))
def m_is_spoke_and_rim : FM := mFun exitZ 3 b_is_spoke_and_rim
theorem ok_is_spoke_and_rim (T : Txt K mg) (G_is_path_of : FnOk P w K mg base CX0 1 T.a_is_path_of T.d_is_path_of ["book", "thing"] (spM K m_is_path_of 2)) (G_rank_of : FnOk P w K mg base CX0 1 T.a_rank_of T.d_rank_of ["book", "path"] (spM K m_rank_of 2)) : FnOk P w K mg base CX0 2 T.a_is_spoke_and_rim T.d_is_spoke_and_rim ["book", "pair"] (spM K m_is_spoke_and_rim 2) := by
  refine fn_m (k := 1) (N := n_is_spoke_and_rim) exitZ_ok T.F_is_spoke_and_rim sc_is_spoke_and_rim rfl rfl (by decide) fun cdv A outer s H E hr => ?_
  have hu := hu65 hr
  unfold b_is_spoke_and_rim
  exact (pssd_cons (psd_if (PWd.pt (pwd_or (ptd_not (ptd_val (ped_isi (T := .tuple) (by rfl) T.z_isinstance (by rfl) T.z_tuple (by decide +kernel) (ped_var 1)))) (pwd_or (ptd_cmp (opd_ne hu) (ped_callB calld_lenA (by rfl) T.z_len (by decide +kernel) (pad_cons (ped_var 1) pad_nil)) ped_int (nomark _)) (pwd_or1 (ptd_not (ptd_val (ped_callB (calld_all rfl) (by rfl) T.z_all (by decide +kernel) (pad_cons (ped_lc rfl sc_is_spoke_and_rim.nd (own := [("path", 2)]) (pid_any (ped_var 1)) (blkOk_by (own := [("path", 2)]) (N := n_is_spoke_and_rim) (sc := defScope s_is_spoke_and_rim) (by decide +kernel)) (fun _ _ _ _ _ => (pgd_name (i := 2) sc_is_spoke_and_rim.nd rfl (by first | exact .inl rfl | exact .inr rfl))) (fun _ _ _ _ _ => ptsd_nil) (fun _ _ _ _ _ => (ped_call G_is_path_of (hr.mono (by omega)) (by rfl) T.m_is_path_of T.F_is_path_of.kp T.b_is_path_of (pad_cons (ped_var 0) (pad_cons (ped_var 2) pad_nil)) (alen_cons (alen_cons alen_nil))))) pad_nil)))))))) (pssd_one (psd_ret ped_bl)) pssd_nil)
    (pssd_one (psd_ret (ped_and (ped_cmp (opd_eq hu) (ped_sub hu (ped_sub hu (ped_var 1) ped_int (fun _ _ => rfl)) ped_int (fun _ _ => rfl)) (ped_sub hu (ped_sub hu (ped_var 1) ped_int (fun _ _ => rfl)) ped_int (fun _ _ => rfl)) (nomark _)) (ped_one (ped_cmp opd_lt (ped_call G_rank_of (hr.mono (by omega)) (by rfl) T.m_rank_of T.F_rank_of.kp T.b_rank_of (pad_cons (ped_var 0) (pad_cons (ped_sub hu (ped_var 1) ped_int (fun _ _ => rfl)) pad_nil)) (alen_cons (alen_cons alen_nil))) (ped_call G_rank_of (hr.mono (by omega)) (by rfl) T.m_rank_of T.F_rank_of.kp T.b_rank_of (pad_cons (ped_var 0) (pad_cons (ped_sub hu (ped_var 1) ped_int (fun _ _ => rfl)) pad_nil)) (alen_cons (alen_cons alen_nil))) (nomark _)))))))
def b_wheel_right : SM := (sSeq (sIf (mOrB (mNotB (mTB (mIs (inst .tuple) (mVar 1)))) (mOrB (mTB (mBin dEq (mCall gLenA (aCons (mVar 1) aNil)) (mC (.int 0)))) (mNotB (mTB (mCall gAll (aCons (mLC [4] (iAny (mVar 1)) (gNm 4) bYes (mCallF m_is_spoke_and_rim (aCons (mVar 0) (aCons (mVar 4) aNil)))) aNil)))))) (sRet (mC (.bool false))) sNx)
  (sSeq (sFor (iRange (aCons (mCall gLenA (aCons (mVar 1) aNil)) aNil)) (gNm 2) (sSeq (sSet 3 (mSub (mVar 1) (mIfE (mTB (mBin dLt (mBin dAdd (mVar 2) (mC (.int 1))) (mCall gLenA (aCons (mVar 1) aNil)))) (mBin dAdd (mVar 2) (mC (.int 1))) (mC (.int 0)))))
  (sIf (mTB (mIn true (mSub (mVar 3) (mC (.int 0))) (mCallF m_tails_of (aCons (mSub (mSub (mVar 1) (mVar 2)) (mC (.int 1))) aNil)))) (sRet (mC (.bool false))) sNx)))
  (sRet (mC (.bool true)))))
def m_wheel_right : FM := mFun exitZ 5 b_wheel_right
theorem ok_wheel_right (T : Txt K mg) (G_is_spoke_and_rim : FnOk P w K mg base CX0 2 T.a_is_spoke_and_rim T.d_is_spoke_and_rim ["book", "pair"] (spM K m_is_spoke_and_rim 2)) (G_tails_of : FnOk P w K mg base CX0 1 T.a_tails_of T.d_tails_of ["path"] (spM K m_tails_of 1)) : FnOk P w K mg base CX0 3 T.a_wheel_right T.d_wheel_right ["book", "wheel"] (spM K m_wheel_right 2) := by
  refine fn_m (k := 2) (N := n_wheel_right) exitZ_ok T.F_wheel_right sc_wheel_right rfl rfl (by decide) fun cdv A outer s H E hr => ?_
  have hu := hu65 hr
  unfold b_wheel_right
  exact (pssd_cons (psd_if (PWd.pt (pwd_or (ptd_not (ptd_val (ped_isi (T := .tuple) (by rfl) T.z_isinstance (by rfl) T.z_tuple (by decide +kernel) (ped_var 1)))) (pwd_or (ptd_cmp (opd_eq hu) (ped_callB calld_lenA (by rfl) T.z_len (by decide +kernel) (pad_cons (ped_var 1) pad_nil)) ped_int (nomark _)) (pwd_or1 (ptd_not (ptd_val (ped_callB (calld_all rfl) (by rfl) T.z_all (by decide +kernel) (pad_cons (ped_lc rfl sc_wheel_right.nd (own := [("pair", 4)]) (pid_any (ped_var 1)) (blkOk_by (own := [("pair", 4)]) (N := n_wheel_right) (sc := defScope s_wheel_right) (by decide +kernel)) (fun _ _ _ _ _ => (pgd_name (i := 4) sc_wheel_right.nd rfl (by first | exact .inl rfl | exact .inr rfl))) (fun _ _ _ _ _ => ptsd_nil) (fun _ _ _ _ _ => (ped_call G_is_spoke_and_rim (hr.mono (by omega)) (by rfl) T.m_is_spoke_and_rim T.F_is_spoke_and_rim.kp T.b_is_spoke_and_rim (pad_cons (ped_var 0) (pad_cons (ped_var 4) pad_nil)) (alen_cons (alen_cons alen_nil))))) pad_nil)))))))) (pssd_one (psd_ret ped_bl)) pssd_nil)
    (pssd_cons (psd_for PassesOwn.never rfl (pid_range1 (by rfl) T.z_range (ped_callB calld_lenA (by rfl) T.z_len (by decide +kernel) (pad_cons (ped_var 1) pad_nil))) (pgd_name (i := 2) sc_wheel_right.nd rfl (by first | exact .inl rfl | exact .inr rfl)) (pssd_cons (psd_set (i := 3) sc_wheel_right.nd rfl (by first | exact .inl rfl | exact .inr rfl) (ped_sub hu (ped_var 1) (ped_if (ptd_cmp opd_lt (ped_bin opd_add (ped_var 2) ped_int) (ped_callB calld_lenA (by rfl) T.z_len (by decide +kernel) (pad_cons (ped_var 1) pad_nil)) (nomark _)) (ped_bin opd_add (ped_var 2) ped_int) ped_int) (fun _ _ => rfl)))
    (pssd_one (psd_if (ptd_notin hu (ped_sub hu (ped_var 3) ped_int (fun _ _ => rfl)) (ped_call G_tails_of (hr.mono (by omega)) (by rfl) T.m_tails_of T.F_tails_of.kp T.b_tails_of (pad_cons (ped_sub hu (ped_sub hu (ped_var 1) (ped_var 2) (fun _ _ => rfl)) ped_int (fun _ _ => rfl)) pad_nil) (alen_cons alen_nil))) (pssd_one (psd_ret ped_bl)) pssd_nil))))
    (pssd_one (psd_ret ped_bl))))
def b_law : SM := (sSeq (sSet 1 (mCallF m__law_draws (aCons (mBin dAdd (mSl (mVar 0) oNone (oSome (mC (.int 24)))) (mLst (aCons (mC (.int 31)) aNil))) aNil)))
  (sSeq (sFor (iRange (aCons (mC (.int 3)) aNil)) (gNm 2) (sSeq (sSet 3 (mCallF m__law_small_book (aCons (mVar 1) aNil)))
  (sSeq (sSet 4 (mCallF m__law_paths (aCons (mVar 3) aNil)))
  (sSeq (sSet 5 (mCallF (m__law_copied 40) (aCons (mVar 3) aNil)))
  (sSeq (sFor (iRange (aCons (mC (.int 5)) aNil)) (gNm 6) (sSeq (sSet 7 (mCallF m__law_rows (aCons (mVar 1) (aCons (mVar 3) aNil))))
  (sIf (mNotB (mTB (mCallF (m__law_same 40) (aCons (mCallF m_order_right (aCons (mVar 5) (aCons (mCallF (m__law_copied 40) (aCons (mVar 7) aNil)) aNil))) (aCons (mCallF m__law_is_order (aCons (mVar 3) (aCons (mVar 7) aNil))) aNil))))) (sRet (mC (.bool false))) sNx)))
  (sSeq (sSet 8 (mCallF m__law_order (aCons (mVar 3) aNil)))
  (sSeq (sIf (mAndB (mTB (mBin (dIs true) (mVar 8) (mC .none))) (mTB (mBin (dIs true) (mCallF m_order_right (aCons (mVar 5) (aCons (mCall gListA (aCons (mVar 8) aNil)) aNil))) (mC (.bool true))))) (sRet (mC (.bool false))) sNx)
  (sSeq (sSet 9 (mCallF m__law_walks (aCons (mVar 3) aNil)))
  (sSeq (sSet 10 (mBin dAdd (mBin dAdd (mLst (aCons (mSub (mSub (mVar 3) (mC (.int 1))) (mC (.int 0))) (aCons (mC (.str "x")) (aCons (mC .none) (aCons (mC (.int 0)) (aCons (mC (.bool true)) (aCons (mTup aNil) (aCons (mLst aNil) aNil)))))))) (mSl (mVar 4) oNone (oSome (mC (.int 3))))) (mLC [13] (iAny (mSl (mVar 4) oNone (oSome (mC (.int 2))))) (gNm 13) bYes (mTup (aCons (mVar 13) (aCons (mVar 13) aNil))))))
  (sSeq (sFor (iRange (aCons (mC (.int 6)) aNil)) (gNm 6) (sSeq (sSet 11 (mIfE (mTB (mBin dGt (mCall gLenA (aCons (mVar 9) aNil)) (mC (.int 0)))) (mCallF m__law_pick (aCons (mVar 1) (aCons (mVar 9) aNil))) (mCall gTuple (aCons (mLC [13] (iAny (mSl (mVar 4) oNone (oSome (mC (.int 2))))) (gNm 13) bYes (mTup (aCons (mVar 13) (aCons (mVar 13) aNil)))) aNil))))
  (sSeq (sIf (mAndB (mTB (mBin dGt (mCall gLenA (aCons (mVar 9) aNil)) (mC (.int 0)))) (mTB (mBin (dIs true) (mCallF m_wheel_right (aCons (mVar 5) (aCons (mBin dAdd (mVar 11) (mVar 11)) aNil))) (mC (.bool true))))) (sRet (mC (.bool false))) sNx)
  (sSeq (sSet 12 (mCallF m__law_spoilt (aCons (mVar 1) (aCons (mVar 11) (aCons (mVar 10) aNil)))))
  (sSeq (sIf (mTB (mBin dEq (mCallF m__law_next (aCons (mVar 1) (aCons (mC (.int 3)) aNil))) (mC (.int 0)))) (sSet 12 (mCallF m__law_spoilt (aCons (mVar 1) (aCons (mVar 12) (aCons (mVar 10) aNil))))) sNx)
  (sIf (mNotB (mTB (mCallF (m__law_same 40) (aCons (mCallF m_wheel_right (aCons (mVar 5) (aCons (mCallF (m__law_copied 40) (aCons (mVar 12) aNil)) aNil))) (aCons (mCallF m__law_is_wheel (aCons (mVar 3) (aCons (mVar 12) aNil))) aNil))))) (sRet (mC (.bool false))) sNx))))))
  (sIf (mNotB (mTB (mCallF (m__law_same 40) (aCons (mVar 5) (aCons (mVar 3) aNil))))) (sRet (mC (.bool false))) sNx)))))))))))
  (sRet (mC (.bool true)))))
def m_law : FM := mFun exitZ 14 b_law
theorem ok_law (T : Txt K mg) (G__law_copied : FnOk P w K mg base CX0 40 T.a__law_copied T.d__law_copied ["value"] (spM K (m__law_copied 40) 1)) (G__law_draws : FnOk P w K mg base CX0 1 T.a__law_draws T.d__law_draws ["cells"] (spM K m__law_draws 1)) (G__law_is_order : FnOk P w K mg base CX0 42 T.a__law_is_order T.d__law_is_order ["book", "order"] (spM K m__law_is_order 2)) (G__law_is_wheel : FnOk P w K mg base CX0 42 T.a__law_is_wheel T.d__law_is_wheel ["book", "wheel"] (spM K m__law_is_wheel 2)) (G__law_next : FnOk P w K mg base CX0 1 T.a__law_next T.d__law_next ["state", "bound"] (spM K m__law_next 2)) (G__law_order : FnOk P w K mg base CX0 3 T.a__law_order T.d__law_order ["book"] (spM K m__law_order 1)) (G__law_paths : FnOk P w K mg base CX0 1 T.a__law_paths T.d__law_paths ["book"] (spM K m__law_paths 1)) (G__law_pick : FnOk P w K mg base CX0 2 T.a__law_pick T.d__law_pick ["state", "things"] (spM K m__law_pick 2)) (G__law_rows : FnOk P w K mg base CX0 4 T.a__law_rows T.d__law_rows ["state", "book"] (spM K m__law_rows 2)) (G__law_same : FnOk P w K mg base CX0 40 T.a__law_same T.d__law_same ["one", "other"] (spM K (m__law_same 40) 2)) (G__law_small_book : FnOk P w K mg base CX0 5 T.a__law_small_book T.d__law_small_book ["state"] (spM K m__law_small_book 1)) (G__law_spoilt : FnOk P w K mg base CX0 41 T.a__law_spoilt T.d__law_spoilt ["state", "thing", "pool"] (spM K m__law_spoilt 3)) (G__law_walks : FnOk P w K mg base CX0 2 T.a__law_walks T.d__law_walks ["book"] (spM K m__law_walks 1)) (G_order_right : FnOk P w K mg base CX0 4 T.a_order_right T.d_order_right ["book", "order"] (spM K m_order_right 2)) (G_wheel_right : FnOk P w K mg base CX0 3 T.a_wheel_right T.d_wheel_right ["book", "wheel"] (spM K m_wheel_right 2)) : FnOk P w K mg base CX0 43 T.a_law T.d_law ["script"] (spM K m_law 1) := by
  refine fn_m (k := 42) (N := n_law) exitZ_ok T.F_law sc_law rfl rfl (by decide) fun cdv A outer s H E hr => ?_
  have hu := hu65 hr
  unfold b_law
  exact (pssd_cons (psd_set (i := 1) sc_law.nd rfl (by first | exact .inl rfl | exact .inr rfl) (ped_call G__law_draws (hr.mono (by omega)) (by rfl) T.m__law_draws T.F__law_draws.kp T.b__law_draws (pad_cons (ped_bin opd_add (ped_sl (ped_var 0) pod_none (pod_some ped_int)) (ped_lst (pad_cons ped_int pad_nil))) pad_nil) (alen_cons alen_nil)))
    (pssd_cons (psd_for PassesOwn.never rfl (pid_range1 (by rfl) T.z_range ped_int) (pgd_name (i := 2) sc_law.nd rfl (by first | exact .inl rfl | exact .inr rfl)) (pssd_cons (psd_set (i := 3) sc_law.nd rfl (by first | exact .inl rfl | exact .inr rfl) (ped_call G__law_small_book (hr.mono (by omega)) (by rfl) T.m__law_small_book T.F__law_small_book.kp T.b__law_small_book (pad_cons (ped_var 1) pad_nil) (alen_cons alen_nil)))
    (pssd_cons (psd_set (i := 4) sc_law.nd rfl (by first | exact .inl rfl | exact .inr rfl) (ped_call G__law_paths (hr.mono (by omega)) (by rfl) T.m__law_paths T.F__law_paths.kp T.b__law_paths (pad_cons (ped_var 3) pad_nil) (alen_cons alen_nil)))
    (pssd_cons (psd_set (i := 5) sc_law.nd rfl (by first | exact .inl rfl | exact .inr rfl) (ped_call G__law_copied (hr.mono (by omega)) (by rfl) T.m__law_copied T.F__law_copied.kp T.b__law_copied (pad_cons (ped_var 3) pad_nil) (alen_cons alen_nil)))
    (pssd_cons (psd_for PassesOwn.never rfl (pid_range1 (by rfl) T.z_range ped_int) (pgd_name (i := 6) sc_law.nd rfl (by first | exact .inl rfl | exact .inr rfl)) (pssd_cons (psd_set (i := 7) sc_law.nd rfl (by first | exact .inl rfl | exact .inr rfl) (ped_call G__law_rows (hr.mono (by omega)) (by rfl) T.m__law_rows T.F__law_rows.kp T.b__law_rows (pad_cons (ped_var 1) (pad_cons (ped_var 3) pad_nil)) (alen_cons (alen_cons alen_nil))))
    (pssd_one (psd_if (ptd_not (ptd_val (ped_call G__law_same (hr.mono (by omega)) (by rfl) T.m__law_same T.F__law_same.kp T.b__law_same (pad_cons (ped_call G_order_right (hr.mono (by omega)) (by rfl) T.m_order_right T.F_order_right.kp T.b_order_right (pad_cons (ped_var 5) (pad_cons (ped_call G__law_copied (hr.mono (by omega)) (by rfl) T.m__law_copied T.F__law_copied.kp T.b__law_copied (pad_cons (ped_var 7) pad_nil) (alen_cons alen_nil)) pad_nil)) (alen_cons (alen_cons alen_nil))) (pad_cons (ped_call G__law_is_order (hr.mono (by omega)) (by rfl) T.m__law_is_order T.F__law_is_order.kp T.b__law_is_order (pad_cons (ped_var 3) (pad_cons (ped_var 7) pad_nil)) (alen_cons (alen_cons alen_nil))) pad_nil)) (alen_cons (alen_cons alen_nil))))) (pssd_one (psd_ret ped_bl)) pssd_nil))))
    (pssd_cons (psd_set (i := 8) sc_law.nd rfl (by first | exact .inl rfl | exact .inr rfl) (ped_call G__law_order (hr.mono (by omega)) (by rfl) T.m__law_order T.F__law_order.kp T.b__law_order (pad_cons (ped_var 3) pad_nil) (alen_cons alen_nil)))
    (pssd_cons (psd_if (PWd.pt (pwd_and (ptd_cmp opd_isnot (ped_var 8) ped_non (nomark _)) (pwd_and1 (ptd_cmp opd_isnot (ped_call G_order_right (hr.mono (by omega)) (by rfl) T.m_order_right T.F_order_right.kp T.b_order_right (pad_cons (ped_var 5) (pad_cons (ped_callT (calld_listA rfl) (by rfl) T.z_list (by decide +kernel) (pad_cons (ped_var 8) pad_nil)) pad_nil)) (alen_cons (alen_cons alen_nil))) ped_bl (nomark _))))) (pssd_one (psd_ret ped_bl)) pssd_nil)
    (pssd_cons (psd_set (i := 9) sc_law.nd rfl (by first | exact .inl rfl | exact .inr rfl) (ped_call G__law_walks (hr.mono (by omega)) (by rfl) T.m__law_walks T.F__law_walks.kp T.b__law_walks (pad_cons (ped_var 3) pad_nil) (alen_cons alen_nil)))
    (pssd_cons (psd_set (i := 10) sc_law.nd rfl (by first | exact .inl rfl | exact .inr rfl) (ped_bin opd_add (ped_bin opd_add (ped_lst (pad_cons (ped_sub hu (ped_sub hu (ped_var 3) ped_int (fun _ _ => rfl)) ped_int (fun _ _ => rfl)) (pad_cons ped_str (pad_cons ped_non (pad_cons ped_int (pad_cons ped_bl (pad_cons (ped_tup pad_nil) (pad_cons (ped_lst pad_nil) pad_nil)))))))) (ped_sl (ped_var 4) pod_none (pod_some ped_int))) (ped_lc rfl sc_law.nd (own := [("path", 13)]) (pid_any (ped_sl (ped_var 4) pod_none (pod_some ped_int))) (blkOk_by (own := [("path", 13)]) (N := n_law) (sc := defScope s_law) (by decide +kernel)) (fun _ _ _ _ _ => (pgd_name (i := 13) sc_law.nd rfl (by first | exact .inl rfl | exact .inr rfl))) (fun _ _ _ _ _ => ptsd_nil) (fun _ _ _ _ _ => (ped_tup (pad_cons (ped_var 13) (pad_cons (ped_var 13) pad_nil)))))))
    (pssd_cons (psd_for PassesOwn.never rfl (pid_range1 (by rfl) T.z_range ped_int) (pgd_name (i := 6) sc_law.nd rfl (by first | exact .inl rfl | exact .inr rfl)) (pssd_cons (psd_set (i := 11) sc_law.nd rfl (by first | exact .inl rfl | exact .inr rfl) (ped_if (ptd_cmp opd_gt (ped_callB calld_lenA (by rfl) T.z_len (by decide +kernel) (pad_cons (ped_var 9) pad_nil)) ped_int (nomark _)) (ped_call G__law_pick (hr.mono (by omega)) (by rfl) T.m__law_pick T.F__law_pick.kp T.b__law_pick (pad_cons (ped_var 1) (pad_cons (ped_var 9) pad_nil)) (alen_cons (alen_cons alen_nil))) (ped_callT calld_tuple (by rfl) T.z_tuple (by decide +kernel) (pad_cons (ped_lc rfl sc_law.nd (own := [("path", 13)]) (pid_any (ped_sl (ped_var 4) pod_none (pod_some ped_int))) (blkOk_by (own := [("path", 13)]) (N := n_law) (sc := defScope s_law) (by decide +kernel)) (fun _ _ _ _ _ => (pgd_name (i := 13) sc_law.nd rfl (by first | exact .inl rfl | exact .inr rfl))) (fun _ _ _ _ _ => ptsd_nil) (fun _ _ _ _ _ => (ped_tup (pad_cons (ped_var 13) (pad_cons (ped_var 13) pad_nil))))) pad_nil))))
    (pssd_cons (psd_if (PWd.pt (pwd_and (ptd_cmp opd_gt (ped_callB calld_lenA (by rfl) T.z_len (by decide +kernel) (pad_cons (ped_var 9) pad_nil)) ped_int (nomark _)) (pwd_and1 (ptd_cmp opd_isnot (ped_call G_wheel_right (hr.mono (by omega)) (by rfl) T.m_wheel_right T.F_wheel_right.kp T.b_wheel_right (pad_cons (ped_var 5) (pad_cons (ped_bin opd_add (ped_var 11) (ped_var 11)) pad_nil)) (alen_cons (alen_cons alen_nil))) ped_bl (nomark _))))) (pssd_one (psd_ret ped_bl)) pssd_nil)
    (pssd_cons (psd_set (i := 12) sc_law.nd rfl (by first | exact .inl rfl | exact .inr rfl) (ped_call G__law_spoilt (hr.mono (by omega)) (by rfl) T.m__law_spoilt T.F__law_spoilt.kp T.b__law_spoilt (pad_cons (ped_var 1) (pad_cons (ped_var 11) (pad_cons (ped_var 10) pad_nil))) (alen_cons (alen_cons (alen_cons alen_nil)))))
    (pssd_cons (psd_if (ptd_cmp (opd_eq hu) (ped_call G__law_next (hr.mono (by omega)) (by rfl) T.m__law_next T.F__law_next.kp T.b__law_next (pad_cons (ped_var 1) (pad_cons ped_int pad_nil)) (alen_cons (alen_cons alen_nil))) ped_int (nomark _)) (pssd_one (psd_set (i := 12) sc_law.nd rfl (by first | exact .inl rfl | exact .inr rfl) (ped_call G__law_spoilt (hr.mono (by omega)) (by rfl) T.m__law_spoilt T.F__law_spoilt.kp T.b__law_spoilt (pad_cons (ped_var 1) (pad_cons (ped_var 12) (pad_cons (ped_var 10) pad_nil))) (alen_cons (alen_cons (alen_cons alen_nil)))))) pssd_nil)
    (pssd_one (psd_if (ptd_not (ptd_val (ped_call G__law_same (hr.mono (by omega)) (by rfl) T.m__law_same T.F__law_same.kp T.b__law_same (pad_cons (ped_call G_wheel_right (hr.mono (by omega)) (by rfl) T.m_wheel_right T.F_wheel_right.kp T.b_wheel_right (pad_cons (ped_var 5) (pad_cons (ped_call G__law_copied (hr.mono (by omega)) (by rfl) T.m__law_copied T.F__law_copied.kp T.b__law_copied (pad_cons (ped_var 12) pad_nil) (alen_cons alen_nil)) pad_nil)) (alen_cons (alen_cons alen_nil))) (pad_cons (ped_call G__law_is_wheel (hr.mono (by omega)) (by rfl) T.m__law_is_wheel T.F__law_is_wheel.kp T.b__law_is_wheel (pad_cons (ped_var 3) (pad_cons (ped_var 12) pad_nil)) (alen_cons (alen_cons alen_nil))) pad_nil)) (alen_cons (alen_cons alen_nil))))) (pssd_one (psd_ret ped_bl)) pssd_nil)))))))
    (pssd_one (psd_if (ptd_not (ptd_val (ped_call G__law_same (hr.mono (by omega)) (by rfl) T.m__law_same T.F__law_same.kp T.b__law_same (pad_cons (ped_var 5) (pad_cons (ped_var 3) pad_nil)) (alen_cons (alen_cons alen_nil))))) (pssd_one (psd_ret ped_bl)) pssd_nil))))))))))))
    (pssd_one (psd_ret ped_bl))))
end
end NS

set_option maxHeartbeats 1000000
set_option linter.all false
set_option maxRecDepth 10000
namespace NS
open PySem Pd L2
/-- the state of the draws: the numbers, how many were taken -/
structure St where
  ns : List Int
  k : Nat
def St.l (c : St) : List (Key × SV) := [(Sum.inr "numbers", .fz (.list (c.ns.map .int))), (Sum.inr "at", .fz (.int c.k))]
def St.cell (c : St) : Cell := .dK c.l
theorem dMod_ok (i j : Int) (h : 0 < j) : dMod (.int i) (.int j) = some (.int (i.fmod j)) := by
  have : decide (j ≠ 0) = true := by simp; omega
  simp only [dMod_int, this, if_true]
theorem dDiv_ok (i j : Int) (h : 0 < j) (h2 : j < 1073741824) : dDiv (.int i) (.int j) = some (.int (i.fdiv j)) := by
  have : cDiv i j = true := by simp [cDiv]; omega
  simp [this]
@[simp] theorem ofS_inj (a b : String) : Str.ofString a = Str.ofString b ↔ a = b := by
  constructor
  · intro h
    rw [Str.ofString_eq_toList, Str.ofString_eq_toList] at h
    have h1 : a.toList.map Char.toNat = b.toList.map Char.toNat := by
      have := congrArg (fun s : Str => s.cps.toList) h
      simpa using this
    have h2 : ∀ l m : List Char, l.map Char.toNat = m.map Char.toNat → l = m := by
      intro l
      induction l with
      | nil => intro m e; cases m <;> simp_all
      | cons c l ih =>
        intro m e
        cases m with
        | nil => simp at e
        | cons d m =>
          simp only [List.map_cons, List.cons.injEq] at e
          have : c = d := Char.toNat_inj.mp e.1
          rw [this, ih m e.2]
    exact String.ext (by simpa using h2 _ _ h1)
  · rintro rfl; rfl
theorem sub_num (c : St) (R : Store) : subOf (c.cell :: R) (.ptr 0) (.str "numbers") = some (.fz (.list (c.ns.map .int))) := by
  simp [subOf, dictOf, St.cell, St.l, dlook, keyOf, lookS]
theorem sub_at (c : St) (R : Store) : subOf (c.cell :: R) (.ptr 0) (.str "at") = some (.fz (.int c.k)) := by
  simp [subOf, dictOf, St.cell, St.l, dlook, keyOf, lookS]
theorem t_next (c : St) (b : Int) (hb : 0 < b) (hn : c.ns ≠ []) (hl : c.ns.length ≤ 10000) : ∃ v : Int, 0 ≤ v ∧ v < b ∧ ∀ R : Store, m__law_next [.ptr 0, .fz (.int b)] (c.cell :: R) = some (.fz (.int v), St.cell ⟨c.ns, c.k + 1⟩ :: R) := by
  have hp : 0 < c.ns.length := List.length_pos_iff.mpr hn
  have hp2 : (0 : Int) < c.ns.length := by omega
  have hmod : ((c.k : Int).fmod c.ns.length) = (c.k : Int) % c.ns.length := Int.fmod_eq_emod_of_nonneg _ (by omega)
  have hlt : c.k % c.ns.length < c.ns.length := Nat.mod_lt _ hp
  have hx : atI (c.ns.map PyData.int) ((c.k : Int) % c.ns.length) = some (.int c.ns[c.k % c.ns.length]) := by
    rw [show ((c.k : Int) % c.ns.length) = ((c.k % c.ns.length : Nat) : Int) by simp, atI_nat']
    simp [hlt]
  refine ⟨(c.ns[c.k % c.ns.length] + (c.k : Int).fdiv c.ns.length).fmod b, Int.fmod_nonneg_of_pos _ hb, Int.fmod_lt_of_pos _ hb, fun R => ?_⟩
  simp only [m__law_next, mFun_ap, b__law_next]
  simp [startE, Pd.sDPut, sub_num, sub_at, dMod_ok, dDiv_ok, -dMod_int, -dDiv_int, hp, hp2, hmod, hx, hb, show (c.ns.length : Int) < 1073741824 by omega]
  simp [show (2:Nat) < sizeLine by decide, Pd.sDPut, St.cell, St.l, dictOf, sub_at, keyOf, putS, sub_num, subOf, dlook, lookS, dMod_ok, -dMod_int, hb]
/-- the state with numbers enough -/
def St.ok (c : St) : Prop := c.ns ≠ [] ∧ c.ns.length ≤ 10000
theorem st_next (c : St) (h : c.ok) (b : Int) (hb : 0 < b) : ∃ (v : Int) (c' : St), c'.ok ∧ 0 ≤ v ∧ v < b ∧ ∀ R : Store, m__law_next [.ptr 0, .fz (.int b)] (c.cell :: R) = some (.fz (.int v), c'.cell :: R) := by
  obtain ⟨v, v0, v1, e⟩ := t_next c b hb h.1 h.2
  exact ⟨v, ⟨c.ns, c.k + 1⟩, h, v0, v1, e⟩
theorem atI_mem {α : Type} {xs : List α} {v : Int} (h0 : 0 ≤ v) (h1 : v < xs.length) : ∃ d, d ∈ xs ∧ atI xs v = some d := by
  obtain ⟨n, rfl⟩ := Int.eq_ofNat_of_zero_le h0
  have hn : n < xs.length := by omega
  exact ⟨xs[n], List.getElem_mem hn, by rw [atI_nat', List.getElem?_eq_getElem hn]⟩
/-- one of a list -/
theorem t_pickL (c : St) (h : c.ok) (ds : List PyData) (hd : ds ≠ []) : ∃ d c', St.ok c' ∧ d ∈ ds ∧ ∀ R : Store, m__law_pick [.ptr 0, .fz (.list ds)] (c.cell :: R) = some (.fz d, St.cell c' :: R) := by
  have hp : 0 < ds.length := List.length_pos_iff.mpr hd
  obtain ⟨v, c', ok, v0, v1, e⟩ := st_next c h ds.length (by omega)
  obtain ⟨d, hm, ha⟩ := atI_mem v0 v1
  refine ⟨d, c', ok, hm, fun R => ?_⟩
  simp only [m__law_pick, mFun_ap, b__law_pick]
  simp [startE, e, ha]
/-- a sign of a text -/
theorem t_pickS (c : St) (h : c.ok) (x : Str) (hx : x.cps.toList ≠ []) (hz : x.length ≤ 1000) : ∃ k c', St.ok c' ∧ k ∈ x.cps.toList ∧ ∀ R : Store, m__law_pick [.ptr 0, .fz (.str x)] (c.cell :: R) = some (.fz (.str ⟨#[k]⟩), St.cell c' :: R) := by
  have hl : x.length = x.cps.toList.length := by simp [Str.length]
  have hp : 0 < x.cps.toList.length := List.length_pos_iff.mpr hx
  obtain ⟨v, c', ok, v0, v1, e⟩ := st_next c h x.cps.toList.length (by omega)
  obtain ⟨k, hm, ha⟩ := atI_mem v0 v1
  refine ⟨k, c', ok, hm, fun R => ?_⟩
  have hzz : x.length ≤ sizeLine := Nat.le_trans hz (by decide)
  have hg := gLenA_str hz
  rw [hl] at hg
  simp only [m__law_pick, mFun_ap, b__law_pick]
  rw [show startE 2 [SV.ptr 0, .fz (.str x)] = [some (.ptr 0), some (.fz (.str x))] from rfl]
  simp only [sRet_ap, mSub_ap, mVar_ap, mCallF_ap, aCons_ap, aNil_ap, mCall_ap, List.getElem?_cons_zero, List.getElem?_cons_succ, Option.join_some, Option.map_some, Option.bind_some, flats_cons, flats_nil, flat_fz, hg, e, subOf_str _ _ hzz, ha]
  simp
theorem str_len (x : Str) : x.length = x.cps.toList.length := by simp [Str.length]
theorem app_toList (x y : Str) : (x ++ y).cps.toList = x.cps.toList ++ y.cps.toList := by
  show (x.cps ++ y.cps).toList = _
  simp
theorem app_len (x y : Str) : (x ++ y).length = x.length + y.length := by rw [str_len, str_len, str_len, app_toList, List.length_append]
theorem dAdd_str (x y : Str) (h : x.length + y.length ≤ 1000) : dAdd (.str x) (.str y) = some (.str (x ++ y)) := by
  have : x.length + y.length ≤ sizeLine := Nat.le_trans h (by decide)
  simp [dAdd, dI, dAddS, dS, this]
theorem cell_at (P0 : Store) (c : Cell) (J : Store) : (P0 ++ c :: J)[P0.length]? = some c := by simp
theorem cell_set (P0 : Store) (c c' : Cell) (J : Store) : (P0 ++ c :: J).set P0.length c' = P0 ++ c' :: J := by
  rw [List.set_append_right _ _ (Nat.le_refl _)]; simp
/-- good data: dicts of texts among them -/
inductive Ok : Nat → PyData → Prop
  | none (n : Nat) : Ok n .none
  | bool (n : Nat) (b : Bool) : Ok n (.bool b)
  | int (n : Nat) (i : Int) : Ok n (.int i)
  | str (n : Nat) (x : Str) : Ok n (.str x)
  | list (n : Nat) (ds : List PyData) (hl : ds.length ≤ 1000) (h : ∀ d ∈ ds, Ok n d) : Ok (n + 1) (.list ds)
  | tuple (n : Nat) (ds : List PyData) (hl : ds.length ≤ 1000) (h : ∀ d ∈ ds, Ok n d) : Ok (n + 1) (.tuple ds)
  | dct (n : Nat) (l : List (Str × PyData)) (hl : l.length ≤ 1000) (hn : (l.map (·.1)).Nodup) (h : ∀ p ∈ l, Ok n p.2) : Ok (n + 1) (dctD l)
def kv (l : List (Str × PyData)) : List (Key × SV) := l.map fun p => (Sum.inr p.1, SV.fz p.2)
theorem putS_new (l : List (Str × PyData)) (x : Str) (d : PyData) (h : x ∉ l.map (·.1)) : putS (kv l) (Sum.inr x) (.fz d) = kv (l ++ [(x, d)]) := by
  have : ((kv l).any fun p => decide (p.1 = (Sum.inr x : Key))) = false := by
    rw [List.any_eq_false]
    intro p hp
    simp only [kv, List.mem_map] at hp
    obtain ⟨q, hq, rfl⟩ := hp
    simp only [decide_eq_true_eq]
    intro e
    exact h (List.mem_map.mpr ⟨q, hq, Sum.inr.inj e⟩)
  simp only [putS, this, Bool.false_eq_true, if_false]
  simp [kv]
theorem lookD_mem (l : List (Str × PyData)) (h : (l.map (·.1)).Nodup) (p : Str × PyData) (hp : p ∈ l) : lookD l p.1 = some p.2 := by
  induction l with
  | nil => simp at hp
  | cons q r ih =>
    simp only [List.map_cons, List.nodup_cons] at h
    rcases List.mem_cons.mp hp with rfl | hp
    · simp [lookD, List.find?_cons]
    · have ne : ¬ q.1 = p.1 := fun e => h.1 (e ▸ List.mem_map.mpr ⟨p, hp, rfl⟩)
      have := ih h.2 hp
      simpa [lookD, List.find?_cons, ne] using this
theorem lp_copied (self : FM) (l : List (Str × PyData)) (hn : (l.map (·.1)).Nodup) (hl : l.length ≤ 1000) (hs : ∀ p ∈ l, ∀ P : Store, self [.fz p.2] P = some (.fz p.2, P)) (P : Store) :
    ∀ (post pre : List (Str × PyData)) (s3 : Option SV), pre ++ post = l → ∃ s3', forGo (gNm 3) (Pd.sDPut (mVar 2) (mVar 3) (mCallF self (aCons (mSub (mVar 0) (mVar 3)) aNil))) (post.map fun p => .str p.1) ⟨P.length, [some (.fz (dctD l)), none, some (.ptr P.length), s3, none]⟩ (P ++ [.dK (kv pre)]) = some (.nx, ⟨P.length, [some (.fz (dctD l)), none, some (.ptr P.length), s3', none]⟩, P ++ [.dK (kv l)])
  | [], pre, s3, e => by
    refine ⟨s3, ?_⟩
    rw [List.append_nil] at e
    subst e; rfl
  | p :: post, pre, s3, e => by
    have hp : p ∈ l := by rw [← e]; simp
    obtain ⟨s3', e2⟩ := lp_copied self l hn hl hs P post (pre ++ [p]) (some (.fz (.str p.1))) (by rw [List.append_assoc]; exact e)
    refine ⟨s3', ?_⟩
    have hx : p.1 ∉ pre.map (·.1) := by
      rw [← e, List.map_append, List.map_cons] at hn
      intro hm
      exact (List.nodup_append.mp hn).2.2 _ hm _ List.mem_cons_self rfl
    have hlen : pre.length < sizeLine := by
      have : pre.length ≤ l.length := by rw [← e]; simp
      exact Nat.lt_of_le_of_lt (Nat.le_trans this hl) (by decide)
    have hput := putS_new pre p.1 p.2 hx
    have hlook := lookD_mem l hn p hp
    simp only [List.map_cons, forGo, gNm_ap, put_ap, Option.bind_some]
    have hkl : (kv pre).length < sizeLine := by simpa [kv] using hlen
    have one : Pd.sDPut (mVar 2) (mVar 3) (mCallF self (aCons (mSub (mVar 0) (mVar 3)) aNil)) ⟨P.length, [some (.fz (dctD l)), none, some (.ptr P.length), s3, none].set 3 (some (.fz (.str p.1)))⟩ (P ++ [.dK (kv pre)]) = some (.nx, ⟨P.length, [some (.fz (dctD l)), none, some (.ptr P.length), some (.fz (.str p.1)), none]⟩, P ++ [.dK (kv (pre ++ [p]))]) := by
      simp [Pd.sDPut, subOf_dct, hlook, hs p hp, hkl, keyOf, hput]
    rw [one]
    exact e2
theorem dat_kv (l : List (Str × PyData)) : (Cell.dK (kv l)).dat = some (dctD l) := by
  have h1 : (kv l).map (·.2) = (l.map (·.2)).map SV.fz := by simp [kv]
  have h2 : ((kv l).map fun p => keyD p.1).zip (l.map (·.2)) = l.map fun p => (PyData.str p.1, p.2) := by
    induction l with
    | nil => rfl
    | cons p r ih => simpa [kv, keyD] using ih (by simp [kv])
  simp only [Cell.dat, h1, fzs_map, Option.map_some, h2, dctD]
theorem t_copied : ∀ (fuel n : Nat) (d : PyData), Ok n d → n < fuel → ∀ P, m__law_copied fuel [.fz d] P = some (.fz d, P) := by
  intro fuel
  induction fuel with
  | zero => intro n d _ h; omega
  | succ fuel ih =>
    intro n d h hf P
    simp only [m__law_copied, mFun_ap, b__law_copied]
    cases h with
    | none => simp [startE, inst]
    | bool b => simp [startE, inst]
    | int i => simp [startE, inst]
    | str x => simp [startE, inst]
    | list n ds hl hi =>
      have e5 : mLC [4] (iAny (mVar 0)) (gNm 4) bYes (mCallF (m__law_copied fuel) (aCons (mVar 4) aNil)) ⟨P.length, [some (.fz (.list ds)), none, none, none, none]⟩ P = some (.fz (.list (ds.map fun d => d)), P) := by
        refine mLC_map (items := ds) (src := .fz (.list ds)) _ (by simp) (Nat.le_trans hl (by decide)) fun d hd S => ?_
        refine ⟨_, rfl, ?_⟩
        simp [EV.wipe, ih n d (hi d hd) (by omega)]
      rw [List.map_id'] at e5
      simp [startE, inst, e5]
    | tuple n ds hl hi =>
      have e5 : mLC [4] (iAny (mVar 0)) (gNm 4) bYes (mCallF (m__law_copied fuel) (aCons (mVar 4) aNil)) ⟨P.length, [some (.fz (.tuple ds)), none, none, none, none]⟩ P = some (.fz (.list (ds.map fun d => d)), P) := by
        refine mLC_map (items := ds) (src := .fz (.tuple ds)) _ (by simp) (Nat.le_trans hl (by decide)) fun d hd S => ?_
        refine ⟨_, rfl, ?_⟩
        simp [EV.wipe, ih n d (hi d hd) (by omega)]
      rw [List.map_id'] at e5
      simp [startE, inst, e5]
    | dct n l hl hn hi =>
      obtain ⟨s3, e⟩ := lp_copied (m__law_copied fuel) l hn hl (fun p hp P => ih n p.2 (hi p hp) (by omega) P) P l [] none rfl
      have i1 : inst .list (dctD l) = false := rfl
      have i2 : inst .tuple (dctD l) = false := rfl
      have i3 : inst .dict (dctD l) = true := rfl
      have hk : iAny (mVar 0) ⟨P.length, [some (.fz (dctD l)), none, some (.ptr P.length), none, none]⟩ (P ++ [.dK []]) = some (l.map (fun p => .str p.1), .fz (dctD l), P ++ [.dK []]) := by
        simp only [iAny_ap, mVar_ap, List.getElem?_cons_zero, Option.join_some, Option.map_some, Option.bind_some, dctD, isKD_dct, keysD_dct, if_true]
      have hx : exitZ P.length (.ptr P.length) (P ++ [.dK (kv l)]) = some (.fz (dctD l), P) := by
        rw [exitZ_ptr (Nat.le_refl _) (c := .dK (kv l)) (by simp) (dat_kv l)]
        simp
      have fe : (sFor (iAny (mVar 0)) (gNm 3) (Pd.sDPut (mVar 2) (mVar 3) (mCallF (m__law_copied fuel) (aCons (mSub (mVar 0) (mVar 3)) aNil)))) ⟨P.length, [some (.fz (dctD l)), none, some (.ptr P.length), none, none]⟩ (P ++ [.dK []]) = some (.nx, ⟨P.length, [some (.fz (dctD l)), none, some (.ptr P.length), s3, none]⟩, P ++ [.dK (kv l)]) := by
        rw [sFor_ap, hk]
        exact e
      simp [startE, i1, i2, i3, fe, hx, -sFor_ap]
theorem dEq_bool (a b : Bool) : dEq (.bool a) (.bool b) = some (.bool (decide (a = b))) := by cases a <;> cases b <;> rfl
theorem dNe_bool (a b : Bool) : dNe (.bool a) (.bool b) = some (.bool (!decide (a = b))) := by cases a <;> cases b <;> rfl
theorem gAll_true {α : Type} (l : List α) : gAll [.list (l.map fun _ => .bool true)] = some (.bool true) := by
  rw [gAll_map (fun _ => true) l]
  have : l.all (fun _ => true) = true := by rw [List.all_eq_true]; intro _ _; rfl
  rw [this]
def bS1 (self : FM) : XM := mLC [3] (iAny (mVar 0)) (gNm 3) bYes (mAndV (mIn false (mVar 3) (mVar 1)) (mCallF self (aCons (mSub (mVar 0) (mVar 3)) (aCons (mSub (mVar 1) (mVar 3)) aNil))))
def bS2 (self : FM) : XM := mLC [2] (iRange (aCons (mCall gLenA (aCons (mVar 0) aNil)) aNil)) (gNm 2) bYes (mCallF self (aCons (mSub (mVar 0) (mVar 2)) (aCons (mSub (mVar 1) (mVar 2)) aNil)))
theorem b_same (self : FM) : b__law_same self = (sSeq (sIf (mAndB (mTB (mIs (inst .dict) (mVar 0))) (mTB (mIs (inst .dict) (mVar 1)))) (sRet (mAndV (mBin dEq (mCall gLenA (aCons (mVar 0) aNil)) (mCall gLenA (aCons (mVar 1) aNil))) (mCall gAll (aCons (bS1 self) aNil)))) sNx)
  (sSeq (sIf (mAndB (mTB (mIs (fun d => inst .list d || inst .tuple d) (mVar 0))) (mTB (mIs (fun d => inst .list d || inst .tuple d) (mVar 1)))) (sSeq (sIf (mOrB (mTB (mBin dNe (mIs (inst .list) (mVar 0)) (mIs (inst .list) (mVar 1)))) (mTB (mBin dNe (mCall gLenA (aCons (mVar 0) aNil)) (mCall gLenA (aCons (mVar 1) aNil))))) (sRet (mC (.bool false))) sNx)
  (sRet (mCall gAll (aCons (bS2 self) aNil)))) sNx)
  (sSeq (sIf (mOrB (mTB (mIs (fun d => inst .list d || (inst .tuple d || inst .dict d)) (mVar 0))) (mTB (mIs (fun d => inst .list d || (inst .tuple d || inst .dict d)) (mVar 1)))) (sRet (mC (.bool false))) sNx)
  (sSeq (sIf (mOrB (mTB (mBin (dIs false) (mVar 0) (mC .none))) (mTB (mBin (dIs false) (mVar 1) (mC .none)))) (sRet (mAndV (mBin (dIs false) (mVar 0) (mC .none)) (mBin (dIs false) (mVar 1) (mC .none)))) sNx)
  (sSeq (sIf (mOrB (mTB (mBin dNe (mIs (inst .bool) (mVar 0)) (mIs (inst .bool) (mVar 1)))) (mTB (mBin dNe (mIs (inst .int) (mVar 0)) (mIs (inst .int) (mVar 1))))) (sRet (mC (.bool false))) sNx)
  (sSeq (sIf (mTB (mBin dNe (mIs (inst .str) (mVar 0)) (mIs (inst .str) (mVar 1)))) (sRet (mC (.bool false))) sNx)
  (sRet (mBin dEq (mVar 0) (mVar 1))))))))) := rfl
theorem same_seq (self : FM) (x : PyData) (ds : List PyData) (hx : x = .list ds ∨ x = .tuple ds) (hl : ds.length ≤ 1000) (hs : ∀ d ∈ ds, ∀ P : Store, self [.fz d, .fz d] P = some (.fz (.bool true), P)) (P : Store) :
    bS2 self ⟨P.length, [some (.fz x), some (.fz x), none, none]⟩ P = some (.fz (.list ((rangeD 0 ds.length).map fun _ => .bool true)), P) := by
  have hg : gLenA [x] = some (.int ds.length) := by rcases hx with rfl | rfl <;> rfl
  have hsub : ∀ (S : Store) (i : Nat), subOf S (.fz x) (.int i) = (ds[i]?).map .fz := by
    intro S i
    rcases hx with rfl | rfl <;> simp
  refine mLC_map (fun _ => .bool true) (iRange_nat (n := ds.length) (by simp [hg]) hl) (by rw [rangeD_len]; exact Nat.le_trans hl (by decide)) fun d hd S => ?_
  simp only [rangeD, List.mem_map, List.mem_range] at hd
  obtain ⟨i, hi, rfl⟩ := hd
  refine ⟨_, rfl, ?_⟩
  have h1 := hs ds[i] (List.getElem_mem hi)
  simp [EV.wipe, hsub, hi, h1]
theorem same_dct (self : FM) (l : List (Str × PyData)) (hl : l.length ≤ 1000) (hn : (l.map (·.1)).Nodup) (hs : ∀ p ∈ l, ∀ P : Store, self [.fz p.2, .fz p.2] P = some (.fz (.bool true), P)) (P : Store) :
    bS1 self ⟨P.length, [some (.fz (dctD l)), some (.fz (dctD l)), none, none]⟩ P = some (.fz (.list ((l.map fun p => PyData.str p.1).map fun _ => .bool true)), P) := by
  refine mLC_map (items := l.map fun p => .str p.1) (src := .fz (dctD l)) (fun _ => .bool true) ?_ (by rw [List.length_map]; exact Nat.le_trans hl (by decide)) fun d hd S => ?_
  · simp only [iAny_ap, mVar_ap, List.getElem?_cons_zero, Option.join_some, Option.map_some, Option.bind_some, dctD, isKD_dct, keysD_dct, if_true]
  · simp only [List.mem_map] at hd
    obtain ⟨p, hp, rfl⟩ := hd
    refine ⟨_, rfl, ?_⟩
    simp [EV.wipe, inOf_dct, subOf_dct, lookD_mem l hn p hp, hs p hp]
theorem fin2 (M : XM) (x : PyData) (K : List PyData) (P : Store) (e : M ⟨P.length, [some (.fz x), some (.fz x), none, none]⟩ P = some (.fz (.list K), P)) (g : gAll [.list K] = some (.bool true)) :
    (sRet (mCall gAll (aCons M aNil))) ⟨P.length, [some (.fz x), some (.fz x), none, none]⟩ P = some (.rt (.fz (.bool true)), ⟨P.length, [some (.fz x), some (.fz x), none, none]⟩, P) := by
  simp [e, g]
theorem guard2 (x : PyData) (n : Nat) (P : Store) (hg : gLenA [x] = some (.int n)) :
    (mOrB (mTB (mBin dNe (mIs (inst .list) (mVar 0)) (mIs (inst .list) (mVar 1)))) (mTB (mBin dNe (mCall gLenA (aCons (mVar 0) aNil)) (mCall gLenA (aCons (mVar 1) aNil))))) ⟨P.length, [some (.fz x), some (.fz x), none, none]⟩ P = some (false, P) := by
  simp [dNe_bool, hg]
theorem guard1 (T : PyData → Bool) (x : PyData) (P : Store) (h : T x = true) : (mAndB (mTB (mIs T (mVar 0))) (mTB (mIs T (mVar 1)))) ⟨P.length, [some (.fz x), some (.fz x), none, none]⟩ P = some (true, P) := by
  simp [h]
theorem guard0 (T : PyData → Bool) (x : PyData) (P : Store) (h : T x = false) : (mAndB (mTB (mIs T (mVar 0))) (mTB (mIs T (mVar 1)))) ⟨P.length, [some (.fz x), some (.fz x), none, none]⟩ P = some (false, P) := by
  simp [h]
theorem same_end (self : FM) (x : PyData) (n : Nat) (P : Store) (h1 : inst .dict x = false) (h2 : (inst .list x || inst .tuple x) = true) (hg : gLenA [x] = some (.int n))
    (e : (sRet (mCall gAll (aCons (bS2 self) aNil))) ⟨P.length, [some (.fz x), some (.fz x), none, none]⟩ P = some (.rt (.fz (.bool true)), ⟨P.length, [some (.fz x), some (.fz x), none, none]⟩, P)) :
    ((b__law_same self ⟨P.length, startE 4 [.fz x, .fz x]⟩ P).bind fun (fl, _, P2) => match fl with
      | .rt r => exitZ P.length r P2
      | .nx => exitZ P.length (.fz .none) P2
      | _ => none) = some (.fz (.bool true), P) := by
  rw [b_same, show startE 4 [SV.fz x, .fz x] = [some (.fz x), some (.fz x), none, none] from rfl]
  rw [sSeq_ap, sIf_ap, guard0 _ x P h1]
  simp only [Option.bind_some, Bool.false_eq_true, if_false, sNx_ap]
  rw [sSeq_ap, sIf_ap, guard1 (fun d => inst .list d || inst .tuple d) x P h2]
  simp only [Option.bind_some, if_true]
  rw [sSeq_ap, sIf_ap, guard2 x n P hg]
  simp only [Option.bind_some, Bool.false_eq_true, if_false, sNx_ap]
  rw [e]
  simp
theorem t_same : ∀ (fuel n : Nat) (d : PyData), Ok n d → n < fuel → ∀ P, m__law_same fuel [.fz d, .fz d] P = some (.fz (.bool true), P) := by
  intro fuel
  induction fuel with
  | zero => intro n d _ h; omega
  | succ fuel ih =>
    intro n d h hf P
    simp only [m__law_same, mFun_ap]
    cases h with
    | none => simp [b_same, startE, inst, Pd.isNon]
    | bool b => simp [b_same, startE, inst, Pd.isNon, dNe_bool, dEq_bool]
    | int i => simp [b_same, startE, inst, Pd.isNon, dNe_bool]
    | str x => simp [b_same, startE, inst, Pd.isNon, dNe_bool]
    | list n ds hl hi =>
      have e0 := same_seq (m__law_same fuel) (.list ds) ds (.inl rfl) hl (fun d hd P => ih n d (hi d hd) (by omega) P) P
      have e := fin2 _ _ _ P e0 (gAll_true (rangeD 0 ds.length))
      clear e0
      exact same_end (m__law_same fuel) (.list ds) ds.length P rfl rfl rfl e
    | tuple n ds hl hi =>
      have e0 := same_seq (m__law_same fuel) (.tuple ds) ds (.inr rfl) hl (fun d hd P => ih n d (hi d hd) (by omega) P) P
      have e := fin2 _ _ _ P e0 (gAll_true (rangeD 0 ds.length))
      clear e0
      exact same_end (m__law_same fuel) (.tuple ds) ds.length P rfl rfl rfl e
    | dct n l hl hn hi =>
      have e := same_dct (m__law_same fuel) l hl hn (fun p hp P => ih n p.2 (hi p hp) (by omega) P) P
      have g := gAll_true (l.map fun p => PyData.str p.1)
      generalize (l.map fun p => PyData.str p.1).map (fun _ => PyData.bool true) = K at e g
      have hg : gLenA [dctD l] = some (.int l.length) := by
        have := gLenA_dct (l.map fun p => (PyData.str p.1, p.2)) (isKD_dct l)
        rw [List.length_map] at this
        exact this
      have i3 : inst .dict (dctD l) = true := rfl
      simp [b_same, startE, i3, e, g, hg]
def putR {α : Type} (T : List (Str × α)) (x : Str) (a : α) : List (Str × α) := if (T.any fun p => decide (p.1 = x)) = true then T.map (fun p => if p.1 = x then (p.1, a) else p) else T ++ [(x, a)]
theorem putS_map {α : Type} (f : α → PyData) (T : List (Str × α)) (x : Str) (a : α) : putS (kv (T.map fun p => (p.1, f p.2))) (Sum.inr x) (.fz (f a)) = kv ((putR T x a).map fun p => (p.1, f p.2)) := by
  have h : ((kv (T.map fun p => (p.1, f p.2))).any fun p => decide (p.1 = (Sum.inr x : Key))) = (T.any fun p => decide (p.1 = x)) := by
    simp only [kv, List.map_map, List.any_map]
    congr 1
    funext p
    simp only [Function.comp_apply]
    by_cases e : p.1 = x
    · simp [e]
    · have e2 : ¬ ((Sum.inr p.1 : Key) = Sum.inr x) := fun z => e (Sum.inr.inj z)
      simp [e, e2]
  unfold putS putR
  rw [h]
  by_cases hc : (T.any fun p => decide (p.1 = x)) = true
  · rw [if_pos hc, if_pos hc]
    simp only [kv, List.map_map]
    apply List.map_congr_left
    intro p _
    by_cases e : p.1 = x
    · simp [e]
    · have e2 : ¬ ((Sum.inr p.1 : Key) = Sum.inr x) := fun z => e (Sum.inr.inj z)
      simp [e, e2]
  · rw [if_neg hc, if_neg hc]
    simp [kv]
theorem putR_mem {α : Type} {T : List (Str × α)} {x : Str} {a : α} {p : Str × α} (h : p ∈ putR T x a) : p ∈ T ∨ p = (x, a) := by
  unfold putR at h
  split at h
  · obtain ⟨q, hq, e⟩ := List.mem_map.mp h
    split at e
    · rename_i hx; subst e; right; rw [hx]
    · subst e; exact .inl hq
  · rcases List.mem_append.mp h with h | h
    · exact .inl h
    · simp at h; exact .inr h
theorem putR_len {α : Type} (T : List (Str × α)) (x : Str) (a : α) : (putR T x a).length ≤ T.length + 1 := by
  unfold putR
  split <;> simp
theorem putR_nd {α : Type} {T : List (Str × α)} (x : Str) (a : α) (h : (T.map (·.1)).Nodup) : ((putR T x a).map (·.1)).Nodup := by
  unfold putR
  split
  · have : (T.map fun p => if p.1 = x then (p.1, a) else p).map (·.1) = T.map (·.1) := by
      rw [List.map_map]
      apply List.map_congr_left
      intro p _
      by_cases e : p.1 = x <;> simp [e]
    rw [this]; exact h
  · rename_i hc
    rw [List.map_append, List.nodup_append]
    refine ⟨h, by simp, fun y hy z hz e => ?_⟩
    simp at hz
    subst hz; subst e
    apply hc
    obtain ⟨p, hp, hpe⟩ := List.mem_map.mp hy
    rw [List.any_eq_true]
    exact ⟨p, hp, by simp [hpe]⟩
/-- a text of small signs -/
def Nm (x : Str) : Prop := x.length ≤ 10 ∧ ∀ k ∈ x.cps.toList, k < 128
theorem Nm.strOk {x : Str} (h : Nm x) : PyData.strOk x = true := by
  unfold PyData.strOk
  rw [Array.all_eq_true']
  intro k hk
  have := h.2 k (by simpa using hk)
  simp; omega
theorem atI_last {α : Type} (xs : List α) (x : α) : atI (xs ++ [x]) (-1) = some x := by
  have : ixN (xs ++ [x]).length (-1) = some xs.length := by
    simp only [ixN, List.length_append, List.length_singleton]
    rw [if_neg (by omega)]
    simp
    omega
  rw [atI, this]
  simp
theorem cut_last {α : Type} (xs : List α) (x : α) : cutL (xs ++ [x]) none (some (-1)) = xs := by
  have h : HT.sIx (xs ++ [x]).length (xs ++ [x]).length (some (-1)) = xs.length := by
    show (if ((-1 : Int)) < 0 then ((-1 : Int) + ((xs ++ [x]).length : Int)).toNat else min (-1 : Int).toNat (xs ++ [x]).length) = _
    rw [if_pos (by decide)]
    simp only [List.length_append, List.length_singleton]
    omega
  rw [show cutL (xs ++ [x]) none (some (-1)) = ((xs ++ [x]).drop (HT.sIx (xs ++ [x]).length 0 none)).take (HT.sIx (xs ++ [x]).length (xs ++ [x]).length (some (-1)) - HT.sIx (xs ++ [x]).length 0 none) from rfl, h, HT.sIx_none]
  simp
theorem shaped_str {x : Str} (h : PyData.strOk x = true) : SeqAt.shaped (.str x) = true := by simp [SeqAt.shaped, PyData.canLay0, PyData.depth, h]
theorem lay_strs : ∀ {w : List Str}, (∀ x ∈ w, PyData.strOk x = true) → PyData.canLayAll0 (w.map .str) = true ∧ PyData.depthAll (w.map .str) = 0
  | [], _ => by simp [PyData.canLayAll0, PyData.depthAll]
  | x :: r, h => by
    have h1 := lay_strs (w := r) fun y hy => h y (List.mem_cons_of_mem _ hy)
    simp [PyData.canLayAll0, PyData.depthAll, PyData.canLay0, PyData.depth, h x List.mem_cons_self, h1]
theorem shaped_strsT {w : List Str} (h : ∀ x ∈ w, PyData.strOk x = true) : SeqAt.shaped (.tuple (w.map .str)) = true := by
  have := lay_strs h
  simp [SeqAt.shaped, PyData.canLay0, PyData.depth, this]
theorem shaped_strsL {w : List Str} (h : ∀ x ∈ w, PyData.strOk x = true) : SeqAt.shaped (.list (w.map .str)) = true := by
  have := lay_strs h
  simp [SeqAt.shaped, PyData.canLay0, PyData.depth, this]
theorem any_eqv (w : List Str) (x : Str) : ((w.map PyData.str).any fun y => PyData.eqv y (.str x)) = decide (x ∈ w) := by
  induction w with
  | nil => simp
  | cons y r ih =>
    rw [List.map_cons, List.any_cons, ih, eqv_str]
    by_cases h : x = y <;> simp [isS, h]
theorem in_walk {w : List Str} {x : Str} (h : ∀ y ∈ w, PyData.strOk y = true) (hx : PyData.strOk x = true) (P : Store) : inOf P (.str x) (.fz (.tuple (w.map .str))) = some (decide (x ∈ w)) := by
  rw [inOf_tup, if_pos ⟨shaped_str hx, shaped_strsT h⟩, any_eqv]
theorem in_list {w : List Str} {x : Str} (h : ∀ y ∈ w, PyData.strOk y = true) (hx : PyData.strOk x = true) (P : Store) : inOf P (.str x) (.fz (.list (w.map .str))) = some (decide (x ∈ w)) := by
  rw [inOf_lst, if_pos ⟨shaped_str hx, shaped_strsL h⟩, any_eqv]
@[simp] theorem dSl_tup (ds : List PyData) (a b : Option Int) : dSl (.tuple ds) a b = some (.tuple (cutL ds a b)) := rfl
theorem dNeg1 : dNeg (.int 1) = some (.int (-1)) := rfl
theorem nodup_le {α : Type} [DecidableEq α] : ∀ (w l : List α), w.Nodup → (∀ x ∈ w, x ∈ l) → w.length ≤ l.length
  | [], l, _, _ => Nat.zero_le _
  | x :: r, l, h, hs => by
    have hn := List.nodup_cons.mp h
    have hx : x ∈ l := hs x List.mem_cons_self
    have := nodup_le r (l.erase x) hn.2 fun y hy => by
      have ne : y ≠ x := fun e => hn.1 (e ▸ hy)
      exact (List.mem_erase_of_ne ne).mpr (hs y (List.mem_cons_of_mem _ hy))
    have hl := List.length_erase_of_mem hx
    have hp : 0 < l.length := List.length_pos_of_mem hx
    simp only [List.length_cons]; omega
theorem rangeD_get {n i : Nat} {d : PyData} (h : (rangeD 0 n)[i]? = some d) : i < n ∧ d = .int i := by
  simp only [rangeD, List.getElem?_map, Option.map_eq_some_iff] at h
  obtain ⟨k, h1, rfl⟩ := h
  obtain ⟨h2, h3⟩ := List.getElem?_eq_some_iff.mp h1
  simp only [List.length_range] at h2
  simp only [List.getElem_range] at h3
  subst h3
  exact ⟨h2, by simp⟩
theorem Nm.okD {x : Str} (n : Nat) (h : Nm x) : okD n (.str x) = true := by
  have h1 := h.strOk
  have h2 := h.1
  cases n <;> (simp only [Pd.okD, h1, Bool.true_and, decide_eq_true_eq]; omega)
theorem cut_take (ds : List PyData) (a : Nat) (h : a ≤ ds.length) : cutL ds none (some (a : Int)) = ds.take a := by
  simp [cutL, HT.sIx_none, HT.sIx_nat, Nat.min_eq_left h]
theorem cut_drop (ds : List PyData) (a : Nat) (h : a ≤ ds.length) : cutL ds (some (a : Int)) none = ds.drop a := by
  simp [cutL, HT.sIx_none, HT.sIx_nat, Nat.min_eq_left h]
  exact List.take_of_length_le (by simp)
@[simp] theorem dSl_lst (ds : List PyData) (a b : Option Int) : dSl (.list ds) a b = some (.list (cutL ds a b)) := rfl
def bMix : SM := (sSeq (sSet 4 (mCallF m__law_next (aCons (mVar 0) (aCons (mBin dAdd (mCall gLenA (aCons (mVar 2) aNil)) (mC (.int 1))) aNil))))
  (sSet 2 (mBin dAdd (mBin dAdd (mSl (mVar 2) oNone (oSome (mVar 4))) (mLst (aCons (mVar 3) aNil))) (mSl (mVar 2) (oSome (mVar 4)) oNone))))
theorem lp_mixed (b : Nat) (s1 : Option SV) (R : Store) : ∀ (items l : List PyData) (c : St) (s3 s4 : Option SV), c.ok → l.length + items.length ≤ 100 →
    ∃ l' c' s3' s4', St.ok c' ∧ (l'.Perm (l ++ items)) ∧ forGo (gNm 3) bMix items ⟨b, [some (.ptr 0), s1, some (.fz (.list l)), s3, s4]⟩ (c.cell :: R) = some (.nx, ⟨b, [some (.ptr 0), s1, some (.fz (.list l')), s3', s4']⟩, St.cell c' :: R)
  | [], l, c, s3, s4, h, hl => ⟨l, c, s3, s4, h, by simp, rfl⟩
  | d :: r, l, c, s3, s4, h, hl => by
    simp only [List.length_cons] at hl
    obtain ⟨v, c1, ok1, v0, v1, e⟩ := st_next c h ((l.length : Int) + 1) (by omega)
    obtain ⟨a, rfl⟩ := Int.eq_ofNat_of_zero_le v0
    have ha : a ≤ l.length := by omega
    obtain ⟨l', c2, s3', s4', ok2, hp, e2⟩ := lp_mixed b s1 R r (l.take a ++ [d] ++ l.drop a) c1 (some (.fz d)) (some (.fz (.int a))) ok1 (by simp; omega)
    refine ⟨l', c2, s3', s4', ok2, ?_, ?_⟩
    · refine hp.trans ?_
      have : (l.take a ++ [d] ++ l.drop a).Perm (l ++ [d]) := by
        have h1 : (l.take a ++ [d] ++ l.drop a).Perm ([d] ++ (l.take a ++ l.drop a)) := by
          rw [← List.append_assoc]
          exact List.Perm.append_right _ List.perm_append_comm
        rw [List.take_append_drop] at h1
        exact h1.trans List.perm_append_comm
      have h2 := this.append_right r
      simpa using h2
    · have h1 := dAdd_lst (l.take a) [d] (Nat.le_trans (show (l.take a).length + [d].length ≤ 1000 by simp; omega) (by decide))
      have h2 := dAdd_lst (l.take a ++ [d]) (l.drop a) (Nat.le_trans (show (l.take a ++ [d]).length + (l.drop a).length ≤ 1000 by simp; omega) (by decide))
      have one : bMix ⟨b, [some (.ptr 0), s1, some (.fz (.list l)), some (.fz d), s4]⟩ (c.cell :: R) = some (.nx, ⟨b, [some (.ptr 0), s1, some (.fz (.list (l.take a ++ [d] ++ l.drop a))), some (.fz d), some (.fz (.int a))]⟩, c1.cell :: R) := by
        simp only [bMix]
        generalize hT : l.take a ++ [d] = T at h1 h2
        simp [e, cut_take l a ha, cut_drop l a ha, h1, h2, hT]
      simp only [forGo, gNm_ap, put_ap, Option.bind_some]
      rw [show [some (SV.ptr 0), s1, some (.fz (.list l)), s3, s4].set 3 (some (.fz d)) = [some (.ptr 0), s1, some (.fz (.list l)), some (.fz d), s4] from rfl, one]
      exact e2
theorem t_mixed (c : St) (h : c.ok) (ds : List PyData) (hl : ds.length ≤ 100) (R : Store) : ∃ l c', St.ok c' ∧ (l.Perm ds) ∧ m__law_mixed [.ptr 0, .fz (.list ds)] (c.cell :: R) = some (.fz (.list l), St.cell c' :: R) := by
  obtain ⟨l, c1, s3, s4, ok, hp, e⟩ := lp_mixed (c.cell :: R).length (some (.fz (.list ds))) R ds [] c none none h (by simpa using hl)
  refine ⟨l, c1, ok, by simpa using hp, ?_⟩
  have hb : b__law_mixed = (sSeq (sSet 2 (mLst aNil)) (sSeq (sFor (iAny (mVar 1)) (gNm 3) bMix) (sRet (mVar 2)))) := rfl
  simp only [m__law_mixed, mFun_ap, hb]
  rw [show startE 5 [SV.ptr 0, .fz (.list ds)] = [some (.ptr 0), some (.fz (.list ds)), none, none, none] from rfl]
  have fe : (sFor (iAny (mVar 1)) (gNm 3) bMix) ⟨(c.cell :: R).length, [some (.ptr 0), some (.fz (.list ds)), some (.fz (.list [])), none, none]⟩ (c.cell :: R) = some (.nx, ⟨(c.cell :: R).length, [some (.ptr 0), some (.fz (.list ds)), some (.fz (.list l)), s3, s4]⟩, c1.cell :: R) := by
    rw [sFor_ap]
    simp only [iAny_ap, mVar_ap, List.getElem?_cons_zero, List.getElem?_cons_succ, Option.join_some, Option.map_some, Option.bind_some]
    exact e
  have hz : (0 : Nat) ≤ sizeLine := Nat.zero_le _
  have one : (sSet 2 (mLst aNil)) ⟨(c.cell :: R).length, [some (.ptr 0), some (.fz (.list ds)), none, none, none]⟩ (c.cell :: R) = some (.nx, ⟨(c.cell :: R).length, [some (.ptr 0), some (.fz (.list ds)), some (.fz (.list [])), none, none]⟩, c.cell :: R) := by
    simp [hz]
  rw [sSeq_ap, one]
  simp only [Option.bind_some]
  rw [sSeq_ap, fe]
  simp
/-! ### the draws, as ends -/
theorem sp_next (c : St) (h : c.ok) (b : Int) (hb : 0 < b) (R : Store) : W (m__law_next [.ptr 0, .fz (.int b)] (c.cell :: R)) fun r => ∃ (v : Int) (c' : St), c'.ok ∧ 0 ≤ v ∧ v < b ∧ r = (.fz (.int v), c'.cell :: R) := by
  obtain ⟨v, c', ok, v0, v1, e⟩ := st_next c h b hb
  exact ⟨_, e R, v, c', ok, v0, v1, rfl⟩
theorem sp_pickL (c : St) (h : c.ok) (ds : List PyData) (hd : ds ≠ []) (R : Store) : W (m__law_pick [.ptr 0, .fz (.list ds)] (c.cell :: R)) fun r => ∃ d c', St.ok c' ∧ d ∈ ds ∧ r = (.fz d, St.cell c' :: R) := by
  obtain ⟨d, c', ok, hm, e⟩ := t_pickL c h ds hd
  exact ⟨_, e R, d, c', ok, hm, rfl⟩
theorem mem_strs {d : PyData} {l : List Str} (h : d ∈ l.map PyData.str) : ∃ x, x ∈ l ∧ d = .str x := by
  obtain ⟨x, hx, rfl⟩ := List.mem_map.mp h
  exact ⟨x, hx, rfl⟩
theorem sp_pickS (c : St) (h : c.ok) (x : Str) (hx : x.cps.toList ≠ []) (hz : x.length ≤ 1000) (R : Store) : W (m__law_pick [.ptr 0, .fz (.str x)] (c.cell :: R)) fun r => ∃ k c', St.ok c' ∧ k ∈ x.cps.toList ∧ r = (.fz (.str ⟨#[k]⟩), St.cell c' :: R) := by
  obtain ⟨k, c', ok, hm, e⟩ := t_pickS c h x hx hz
  exact ⟨_, e R, k, c', ok, hm, rfl⟩
def alnum : Str := "abcdefghijklmnopqrstuvwxyz0123456789"
def alpha : Str := "abcdefghijklmnopqrstuvwxyz"
def taken : List Str := ["any", "rest", "many", "if", "then", "and", "not", "refuse", "keep", "from", "to"]
theorem alnum_ok : alnum.cps.toList ≠ [] ∧ alnum.length ≤ 1000 ∧ ∀ k ∈ alnum.cps.toList, k < 128 := by decide +kernel
theorem alpha_ok : alpha.cps.toList.length = 26 ∧ alpha.length ≤ 1000 ∧ ∀ k ∈ alpha.cps.toList, k < 128 := by decide +kernel
theorem taken_ok : ∀ y ∈ taken, PyData.strOk y = true := by decide +kernel
/-- a text of m small signs -/
def Sm (m : Nat) (x : Str) : Prop := x.length = m ∧ ∀ k ∈ x.cps.toList, k < 128
theorem Sm.app {m n : Nat} {x y : Str} (h : Sm m x) (h2 : Sm n y) : Sm (m + n) (x ++ y) := by
  refine ⟨by rw [app_len, h.1, h2.1], fun k hk => ?_⟩
  rw [app_toList] at hk
  rcases List.mem_append.mp hk with q | q
  · exact h.2 k q
  · exact h2.2 k q
theorem Sm.one {k : Nat} (h : k < 128) : Sm 1 ⟨#[k]⟩ := ⟨by simp [Str.length], fun j hj => by simp at hj; subst hj; exact h⟩
theorem Sm.nm {m : Nat} {x : Str} (h : Sm m x) (hm : m ≤ 10) : Nm x := ⟨by rw [h.1]; exact hm, h.2⟩
theorem zero_sm : Sm 1 ("0" : Str) := ⟨by decide +kernel, by decide +kernel⟩
theorem nm_atI (v : Int) (v0 : 0 ≤ v) (v1 : v < 4) : ∃ n : Nat, n ≤ 7 ∧ atI [PyData.int 0, .int 0, .int 2, .int 7] v = some (.int n) := by
  have hv : v = 0 ∨ v = 1 ∨ v = 2 ∨ v = 3 := by omega
  rcases hv with rfl | rfl | rfl | rfl
  · exact ⟨0, by decide, rfl⟩
  · exact ⟨0, by decide, rfl⟩
  · exact ⟨2, by decide, rfl⟩
  · exact ⟨7, by decide, rfl⟩
/-- the ranges of a drawn number -/
theorem W_range {f : XM} {ρ : EV} {P : Store} {Q : List PyData × SV × Store → Prop} (h : W (f ρ P) fun r => ∃ n : Nat, n ≤ 1000 ∧ r.1 = .fz (.int n) ∧ Q (rangeD 0 n, .fz .none, r.2)) : W (iRange (aCons f aNil) ρ P) Q := by
  obtain ⟨⟨s, P1⟩, e, n, hn, e2, q⟩ := h
  simp only at e2
  subst e2
  refine ⟨_, iRange_nat (n := n) (P1 := P1) ?_ hn, q⟩
  simp [e]
theorem sp_names (c : St) (h : c.ok) (n : Nat) (hn : n ≤ 26) (R : Store) : W (m__law_names [.ptr 0, .fz (.int n)] (c.cell :: R)) fun r => ∃ (ns : List Str) (c' : St), St.ok c' ∧ ns.length = n ∧ (∀ x ∈ ns, Nm x) ∧ r = (.fz (.list (ns.map .str)), St.cell c' :: R) := by
  obtain ⟨l, c1, ok1, hperm, e1⟩ := t_mixed c h (signsD alpha) (by rw [signsD, List.length_map, alpha_ok.1]; decide) R
  have hl26 : l.length = 26 := by rw [hperm.length_eq, signsD, List.length_map, alpha_ok.1]
  have hmem : ∀ d ∈ l, ∃ x, Sm 1 x ∧ d = .str x := by
    intro d hd
    have := hperm.mem_iff.mp hd
    rw [signsD] at this
    obtain ⟨k, hk, rfl⟩ := List.mem_map.mp this
    exact ⟨_, Sm.one (alpha_ok.2.2 k hk), rfl⟩
  have hgl := gListA_str alpha_ok.2.1
  refine W_fun ?_
  rw [b__law_names, show startE 8 [SV.ptr 0, .fz (.int n)] = [some (.ptr 0), some (.fz (.int n)), none, none, none, none, none, none] from rfl, sSeq_ap]
  have hct := cut_take l n (by omega)
  have hb : (c.cell :: R).length = R.length + 1 := by simp
  rw [hb]
  rw [show (sSet 2 (mSl (mCallF m__law_mixed (aCons (mVar 0) (aCons (mCall gListA (aCons (mC (.str "abcdefghijklmnopqrstuvwxyz")) aNil)) aNil))) oNone (oSome (mVar 1)))) ⟨R.length + 1, [some (.ptr 0), some (.fz (.int n)), none, none, none, none, none, none]⟩ (c.cell :: R) = some (.nx, ⟨R.length + 1, [some (.ptr 0), some (.fz (.int n)), some (.fz (.list (l.take n))), none, none, none, none, none]⟩, c1.cell :: R) by
    have hgl' : gListA [.str "abcdefghijklmnopqrstuvwxyz"] = some (.list (signsD alpha)) := hgl
    simp [hgl', e1, hct]]
  simp only [Option.bind_some]
  rw [sSeq_ap, show (sSet 3 (mLstC aNil)) ⟨R.length + 1, [some (.ptr 0), some (.fz (.int n)), some (.fz (.list (l.take n))), none, none, none, none, none]⟩ (c1.cell :: R) = some (.nx, ⟨R.length + 1, [some (.ptr 0), some (.fz (.int n)), some (.fz (.list (l.take n))), some (.ptr (R.length + 1)), none, none, none, none]⟩, c1.cell :: (R ++ [.lst []])) by simp]
  simp only [Option.bind_some]
  rw [sSeq_ap, sFor_ap, iAny_ap]
  simp only [mVar_ap, List.getElem?_cons_succ, List.getElem?_cons_zero, Option.join_some, Option.map_some, Option.bind_some, W_bind]
  refine W_for (fun i ρ S => ∃ (ns : List Str) (c' : St) (s4 s5 s6 s7 : Option SV), St.ok c' ∧ ns.length = i ∧ (∀ x ∈ ns, Nm x) ∧ ρ = ⟨R.length + 1, [some (.ptr 0), some (.fz (.int n)), some (.fz (.list (l.take n))), some (.ptr (R.length + 1)), s4, s5, s6, s7]⟩ ∧ S = St.cell c' :: (R ++ [.lst ((ns.map .str).map SV.fz)])) ⟨[], c1, none, none, none, none, ok1, rfl, by simp, rfl, rfl⟩ ?_ ?_
  · rintro i d ρ S hd ⟨ns, c2, s4, s5, s6, s7, ok2, hi, hns, rfl, rfl⟩
    obtain ⟨x, hx, rfl⟩ := hmem d (List.mem_of_mem_take (List.mem_of_getElem? hd))
    have hi26 : i < 26 := by
      have := (List.getElem?_eq_some_iff.mp hd).1
      simp at this; omega
    rw [gNm_ap, W_some]
    simp only [sSeq_ap, sSet_ap, mVar_ap, put_ap, List.set_cons_succ, List.set_cons_zero, List.getElem?_cons_succ, List.getElem?_cons_zero, Option.join_some, Option.map_some, Option.bind_some, W_bind, sFor_ap]
    refine W_range ?_
    simp
    refine (sp_next c2 ok2 4 (by decide) _).mono ?_
    rintro _ ⟨v, c3, ok3, v0, v1, rfl⟩
    obtain ⟨m, hm, hat⟩ := nm_atI v v0 v1
    simp [hat]
    refine ⟨m, by omega, rfl, ?_⟩
    refine W_for (fun j ρ S => ∃ (y : Str) (c' : St) (s6 : Option SV), St.ok c' ∧ Sm (1 + j) y ∧ ρ = ⟨R.length + 1, [some (.ptr 0), some (.fz (.int n)), some (.fz (.list (l.take n))), some (.ptr (R.length + 1)), some (.fz (.str x)), some (.fz (.str y)), s6, s7]⟩ ∧ S = St.cell c' :: (R ++ [.lst ((ns.map .str).map SV.fz)])) ⟨x, c3, s6, ok3, hx, rfl, by simp⟩ ?_ ?_
    · rintro j d2 ρ S hd2 ⟨y, c4, s6', ok4, hy, rfl, rfl⟩
      obtain ⟨hj, rfl⟩ := rangeD_get hd2
      rw [gNm_ap, W_some]
      simp
      refine (sp_pickS c4 ok4 alnum alnum_ok.1 alnum_ok.2.1 _).mono ?_
      rintro _ ⟨k, c5, ok5, hk, rfl⟩
      have h1 := Sm.one (alnum_ok.2.2 k hk)
      have ha := dAdd_str y ⟨#[k]⟩ (by rw [hy.1, h1.1]; omega)
      simp [ha]
      exact ⟨_, c5, ok5, by rw [← Nat.add_assoc]; exact hy.app h1, rfl, rfl⟩
    · rintro ρ S ⟨y, c4, s6', ok4, hy, rfl, rfl⟩
      rw [rangeD_len] at hy
      have hyn : Nm y := hy.nm (by omega)
      have hin : ∀ S, inOf S (.str y) (.fz (.list (taken.map .str))) = some (decide (y ∈ taken)) := in_list taken_ok hyn.strOk
      have hin' : ∀ S, inOf S (.str y) (.fz (.list [.str "any", .str "rest", .str "many", .str "if", .str "then", .str "and", .str "not", .str "refuse", .str "keep", .str "from", .str "to"])) = some (decide (y ∈ taken)) := hin
      have ha := dAdd_str x "0" (by rw [hx.1, zero_sm.1]; decide)
      have hlz : ns.length < sizeLine := Nat.lt_of_lt_of_le (show ns.length < 26 by omega) (by decide)
      by_cases ht : y ∈ taken
      · simp [hin', ht, ha, -inOf_lst, hlz]
        exact ⟨ns ++ [x ++ "0"], c4, ok4, by simp [hi], by
          intro z hz
          rcases List.mem_append.mp hz with hz | hz
          · exact hns z hz
          · simp at hz; subst hz; exact (hx.app zero_sm).nm (by decide), by simp⟩
      · simp [hin', ht, -inOf_lst, hlz]
        exact ⟨ns ++ [y], c4, ok4, by simp [hi], by
          intro z hz
          rcases List.mem_append.mp hz with hz | hz
          · exact hns z hz
          · simp at hz; subst hz; exact hyn, by simp⟩
  · rintro ρ S ⟨ns, c2, s4, s5, s6, s7, ok2, hi, hns, rfl, rfl⟩
    have hx : exitZ (R.length + 1) (.ptr (R.length + 1)) (St.cell c2 :: (R ++ [.lst ((ns.map .str).map SV.fz)])) = some (.fz (.list (ns.map .str)), St.cell c2 :: R) := by
      rw [exitZ_ptr (Nat.le_refl _) (c := .lst ((ns.map .str).map SV.fz)) (by simp) (by rw [dat_lst, fzs_map]; rfl)]
      simp
    simp [-List.map_map, hx]
    rw [List.length_take] at hi
    exact ⟨ns, c2, ok2, by omega, hns, rfl, rfl⟩
theorem dMul_r (i j : Int) (h : j.natAbs < 2 ^ 64) : dMulI (.int i) (.int j) = some (.int (i * j)) := by
  have : cMul i j = true := by
    simp only [cMul, Bool.or_eq_true, Bool.and_eq_true, decide_eq_true_eq]
    right; omega
  rw [dMulI_int, if_pos this]
theorem dPow18 : dPow (.int 10) (.int 18) = some (.int 1000000000000000000) := by simp [dPow, dIC, dI, cPow]
def numC (xs : List Int) : Cell := .lst ((xs.map PyData.int).map SV.fz)
def bIn : SM := (sSeq (sSet 3 (mBin dMod (mCall gInt (aCons (mBin dAdd (mBin dAdd (mBin dMulI (mVar 3) (mC (.int 48271))) (mC (.int 12345))) (mVar 4)) aNil)) (mC (.int 2147483647))))
  (sSeq (sSet 5 (mBin dMod (mCall gInt (aCons (mBin dAdd (mBin dMulI (mVar 3) (mC (.int 69621))) (mBin dMulI (mC (.int 977)) (mVar 4))) aNil)) (mC (.int 2147483629))))
  (sSeq (sEx (mApp (mVar 1) (mIfE (mTB (mBin dGe (mVar 2) (mBin dPow (mC (.int 10)) (mC (.int 18))))) (mBin dMod (mCall gInt (aCons (mVar 2) aNil)) (mC (.int 1048576))) (mBin dMod (mCall gInt (aCons (mBin dDiv (mVar 5) (mC (.int 3))) aNil)) (mC (.int 1048576))))))
  (sSet 2 (mIfE (mTB (mBin dGe (mVar 2) (mBin dPow (mC (.int 10)) (mC (.int 18))))) (mBin dDiv (mVar 2) (mC (.int 1048576))) (mVar 2))))))
theorem lp_in (s0 : Option SV) (xs : List Int) (hx : xs.length ≤ 9000) (cell seed : Int) (s4 s5 : Option SV) : W (forGo (gNm 4) bIn (rangeD 0 40) ⟨0, [s0, some (.ptr 0), some (.fz (.int cell)), some (.fz (.int seed)), s4, s5]⟩ [numC xs]) fun r => ∃ (ys : List Int) (cell seed : Int) (s4 s5 : Option SV), ys.length = xs.length + 40 ∧ r = (.nx, ⟨0, [s0, some (.ptr 0), some (.fz (.int cell)), some (.fz (.int seed)), s4, s5]⟩, [numC ys]) := by
  refine W_for (fun i ρ S => ∃ (ys : List Int) (cell seed : Int) (s4 s5 : Option SV), ys.length = xs.length + i ∧ ρ = ⟨0, [s0, some (.ptr 0), some (.fz (.int cell)), some (.fz (.int seed)), s4, s5]⟩ ∧ S = [numC ys]) ⟨xs, cell, seed, s4, s5, rfl, rfl, rfl⟩ ?_ ?_
  · rintro i d ρ S hd ⟨ys, cell, seed, s4, s5, hl, rfl, rfl⟩
    obtain ⟨hi, rfl⟩ := rangeD_get hd
    rw [gNm_ap, W_some]
    have hlz : ys.length < sizeLine := Nat.lt_of_le_of_lt (show ys.length ≤ 9040 by omega) (by decide)
    have hm1 := fun a : Int => dMul_r a 48271 (by decide)
    have hm2 := fun a : Int => dMul_r a 69621 (by decide)
    have hm3 := dMul_r 977 (i : Int) (by omega)
    have hd1 := fun a : Int => dMod_ok a 2147483647 (by decide)
    have hd2 := fun a : Int => dMod_ok a 2147483629 (by decide)
    have hd3 := fun a : Int => dMod_ok a 1048576 (by decide)
    have hq1 := fun a : Int => dDiv_ok a 1048576 (by decide) (by decide)
    have hq2 := fun a : Int => dDiv_ok a 3 (by decide) (by decide)
    have happ : ∀ z : Int, [numC ys].set 0 (.lst ((ys.map PyData.int).map SV.fz ++ [.fz (.int z)])) = [numC (ys ++ [z])] := fun z => by simp [numC]
    have hcell : [numC ys][0]? = some (.lst ((ys.map PyData.int).map SV.fz)) := rfl
    by_cases hc : (1000000000000000000 : Int) ≤ cell
    · simp [bIn, -dMod_int, -dDiv_int, -dMulI_int, hm1, hm2, hm3, hd1, hd2, hd3, hq1, hq2, dPow18, hc, numC, hlz]
      exact ⟨ys ++ [cell.fmod 1048576], by simp; omega, by simp⟩
    · simp [bIn, -dMod_int, -dDiv_int, -dMulI_int, hm1, hm2, hm3, hd1, hd2, hd3, hq1, hq2, dPow18, hc, numC, hlz]
      exact ⟨ys ++ [_], by simp; omega, by simp; rfl⟩
  · rintro ρ S ⟨ys, cell, seed, s4, s5, hl, rfl, rfl⟩
    rw [rangeD_len] at hl
    exact ⟨ys, cell, seed, s4, s5, hl, rfl⟩
theorem b__law_draws_eq : b__law_draws = (sSeq (sSet 1 (mLstC aNil))
  (sSeq (sFor (iAny (mVar 0)) (gNm 2) (sSeq (sSet 3 (mBin dMod (mCall gInt (aCons (mVar 2) aNil)) (mC (.int 2147483647)))) (sFor (iRange (aCons (mC (.int 40)) aNil)) (gNm 4) bIn)))
  (sRet (mDisp (dCons (mC (.str "numbers")) (mFz (mVar 1)) (dCons (mC (.str "at")) (mC (.int 0)) dNil)))))) := rfl
theorem sp_draws (cs : List Int) (hne : cs ≠ []) (hl : cs.length ≤ 100) : W (m__law_draws [.fz (.list (cs.map .int))] []) fun r => ∃ c : St, c.ok ∧ r = (.ptr 0, [c.cell]) := by
  refine W_fun ?_
  rw [b__law_draws_eq, show startE 6 [SV.fz (.list (cs.map .int))] = [some (.fz (.list (cs.map .int))), none, none, none, none, none] from rfl]
  simp only [sSeq_ap, W_bind, sSet_ap, mLstC_ap, aNil_ap, Option.bind_some, List.length_nil, Option.map_some, put_ap, List.set_cons_succ, List.set_cons_zero, W_some, sFor_ap, iAny_ap, mVar_ap, List.getElem?_cons_succ, List.getElem?_cons_zero, Option.join_some, List.nil_append]
  rw [if_pos (Nat.zero_le _)]
  simp only [sSeq_ap, W_bind, sSet_ap, Option.bind_some, Option.map_some, put_ap, List.set_cons_succ, List.set_cons_zero, W_some, sFor_ap, iAny_ap, mVar_ap, List.getElem?_cons_succ, List.getElem?_cons_zero, Option.join_some]
  refine W_for (fun i ρ S => ∃ (xs : List Int) (s2 s3 s4 s5 : Option SV), xs.length = 40 * i ∧ ρ = ⟨0, [some (.fz (.list (cs.map .int))), some (.ptr 0), s2, s3, s4, s5]⟩ ∧ S = [numC xs]) ⟨[], none, none, none, none, rfl, rfl, rfl⟩ ?_ ?_
  · rintro i d ρ S hd ⟨xs, s2, s3, s4, s5, hx, rfl, rfl⟩
    have hi : i < 100 := by
      have := (List.getElem?_eq_some_iff.mp hd).1
      simp at this; omega
    obtain ⟨z, _, rfl⟩ := List.mem_map.mp (List.mem_of_getElem? hd)
    have hd1 := fun a : Int => dMod_ok a 2147483647 (by decide)
    rw [gNm_ap, W_some]
    have g1 : ∀ ρ S, iRange (aCons (mC (.int 40)) aNil) ρ S = some (rangeD 0 40, .fz .none, S) := fun ρ S => iRange_nat (n := 40) rfl (by decide)
    have e1 : (sSet 3 (mBin dMod (mCall gInt (aCons (mVar 2) aNil)) (mC (.int 2147483647)))) ⟨0, [some (.fz (.list (cs.map .int))), some (.ptr 0), some (.fz (.int z)), s3, s4, s5]⟩ [numC xs] = some (.nx, ⟨0, [some (.fz (.list (cs.map .int))), some (.ptr 0), some (.fz (.int z)), some (.fz (.int (z.fmod 2147483647))), s4, s5]⟩, [numC xs]) := by
      simp [-dMod_int, hd1]
    simp only [put_ap, List.set_cons_succ, List.set_cons_zero]
    rw [sSeq_ap, e1]
    simp only [Option.bind_some]
    rw [sFor_ap, g1]
    simp only [Option.bind_some]
    refine (lp_in _ xs (by omega) z _ s4 s5).mono ?_
    rintro _ ⟨ys, cell, seed, s4, s5, hy, rfl⟩
    exact ⟨.inl rfl, ys, _, _, _, _, by omega, rfl, rfl⟩
  · rintro ρ S ⟨xs, s2, s3, s4, s5, hx, rfl, rfl⟩
    rw [List.length_map] at hx
    have hok : St.ok ⟨xs, 0⟩ := by
      have : 0 < cs.length := List.length_pos_iff.mpr hne
      exact ⟨fun e => by simp only at e; rw [e] at hx; simp at hx; omega, by show xs.length ≤ 10000; omega⟩
    have hf : frz [numC xs, Cell.dK []] (.ptr 0) = some (.list (xs.map .int), [.fz (.list (xs.map .int)), .dK []]) := by
      have : (numC xs).dat = some (.list (xs.map .int)) := by rw [numC, dat_lst, fzs_map]; rfl
      simp [frz, this]
    have hd : mDisp (dCons (mC (.str "numbers")) (mFz (mVar 1)) (dCons (mC (.str "at")) (mC (.int 0)) dNil)) ⟨0, [some (.fz (.list (cs.map .int))), some (.ptr 0), s2, s3, s4, s5]⟩ [numC xs] = some (.ptr 1, [.fz (.list (xs.map .int)), St.cell ⟨xs, 0⟩]) := by
      simp [mDisp, dCons, dNil, hf, keyOf, putS, St.cell, St.l]
    simp only
    rw [sRet_ap, hd]
    simp only [Option.map_some, W_some]
    refine ⟨_, ?_, _, hok, rfl⟩
    simp [exitC, St.cell, St.l, Cell.ps, SV.ps]
end NS

set_option maxHeartbeats 1000000
set_option linter.all false
set_option maxRecDepth 10000
namespace NS
open PySem Pd L2
/-! ### names, paths, tables, books as data -/
abbrev Path := List Str
def pathD (p : Path) : PyData := .tuple (p.map .str)
abbrev Tab := List (Str × List Path)
def rowD (ps : List Path) : PyData := .tuple (ps.map pathD)
def tabD (T : Tab) : PyData := dctD (T.map fun q => (q.1, rowD q.2))
structure Book where
  ends : List Str
  tab : Tab
def Book.keys (B : Book) : List Str := B.tab.map (·.1)
def bookD (B : Book) : PyData := .tuple [.str "book", .tuple (B.ends.map .str), tabD B.tab]
def lookR {α : Type} (T : List (Str × α)) (x : Str) : Option α := (T.find? fun p => decide (p.1 = x)).map (·.2)
theorem lookD_map {α : Type} (f : α → PyData) (T : List (Str × α)) (x : Str) : lookD (T.map fun p => (p.1, f p.2)) x = (lookR T x).map f := by
  induction T with
  | nil => rfl
  | cons p r ih =>
    by_cases h : p.1 = x
    · simp [lookD, lookR, List.find?_cons, h]
    · simpa [lookD, lookR, List.find?_cons, h] using ih
theorem lookR_mem {α : Type} {T : List (Str × α)} {x : Str} {r : α} (h : lookR T x = some r) : (x, r) ∈ T := by
  simp only [lookR, Option.map_eq_some_iff] at h
  obtain ⟨p, h1, rfl⟩ := h
  have h2 := List.find?_some h1
  simp only [decide_eq_true_eq] at h2
  subst h2
  exact List.mem_of_find?_eq_some h1
theorem lookR_none {α : Type} {T : List (Str × α)} {x : Str} : lookR T x = none ↔ x ∉ T.map (·.1) := by
  simp only [lookR, Option.map_eq_none_iff, List.find?_eq_none, decide_eq_true_eq, List.mem_map, not_exists, not_and]
theorem lookR_key {α : Type} {T : List (Str × α)} {x : Str} (h : x ∈ T.map (·.1)) : ∃ r, lookR T x = some r := by
  cases e : lookR T x with
  | some r => exact ⟨r, rfl⟩
  | none => exact absurd h (lookR_none.mp e)
theorem lookR_of {α : Type} {T : List (Str × α)} (hn : (T.map (·.1)).Nodup) {p : Str × α} (hp : p ∈ T) : lookR T p.1 = some p.2 := by
  induction T with
  | nil => simp at hp
  | cons q r ih =>
    simp only [List.map_cons, List.nodup_cons] at hn
    rcases List.mem_cons.mp hp with rfl | hp
    · simp [lookR, List.find?_cons]
    · have ne : ¬ q.1 = p.1 := fun e => hn.1 (e ▸ List.mem_map.mpr ⟨p, hp, rfl⟩)
      have := ih hn.2 hp
      simpa [lookR, List.find?_cons, ne] using this
theorem lookR_app {α : Type} (T : List (Str × α)) (n : Str) (c : α) (x : Str) : lookR (T ++ [(n, c)]) x = (lookR T x).or (if n = x then some c else none) := by
  simp only [lookR, List.find?_append]
  cases h : T.find? fun p => decide (p.1 = x) with
  | some p => simp [h]
  | none =>
    by_cases e : n = x <;> simp [h, e]
theorem lookR_isSome {α : Type} (T : List (Str × α)) (x : Str) : (lookR T x).isSome = decide (x ∈ T.map (·.1)) := by
  cases e : lookR T x with
  | some r =>
    have : x ∈ T.map (·.1) := List.mem_map.mpr ⟨_, lookR_mem e, rfl⟩
    simp [this]
  | none =>
    have := lookR_none.mp e
    simp [this]
/-! reading -/
section
variable {P : Store}
theorem sub_book2 (B : Book) : subOf P (.fz (bookD B)) (.int 2) = some (.fz (tabD B.tab)) := by rw [bookD, subOf_tup]; rfl
theorem sub_book1 (B : Book) : subOf P (.fz (bookD B)) (.int 1) = some (.fz (.tuple (B.ends.map .str))) := by rw [bookD, subOf_tup]; rfl
theorem sub_tab (T : Tab) (x : Str) : subOf P (.fz (tabD T)) (.str x) = (lookR T x).map fun ps => .fz (rowD ps) := by
  rw [tabD, subOf_dct, lookD_map rowD]
  cases lookR T x <;> rfl
theorem in_tab (T : Tab) (x : Str) : inOf P (.str x) (.fz (tabD T)) = some (decide (x ∈ T.map (·.1))) := by
  rw [tabD, inOf_dct, lookD_map rowD]
  simp [lookR_isSome]
theorem sub_path (p : Path) (k : Nat) : subOf P (.fz (pathD p)) (.int k) = (p[k]?).map fun x => .fz (.str x) := by
  rw [pathD, subOf_tup, atI_nat', List.getElem?_map]
  cases p[k]? <;> rfl
theorem sub_path0 (p : Path) : subOf P (.fz (pathD p)) (.int 0) = (p[0]?).map fun x => .fz (.str x) := sub_path p 0
theorem sub_path1 (p : Path) : subOf P (.fz (pathD p)) (.int 1) = (p[1]?).map fun x => .fz (.str x) := sub_path p 1
end
theorem dSl_path (p : Path) (k : Nat) (h : k ≤ p.length) : dSl (pathD p) (some (k : Int)) none = some (pathD (p.drop k)) := by
  rw [pathD, dSl_tup, cut_drop _ _ (by simpa using h), ← List.map_drop]; rfl
theorem dSl_path1 (p : Path) (h : 1 ≤ p.length) : dSl (pathD p) (some 1) none = some (pathD (p.drop 1)) := dSl_path p 1 h
theorem eqvAll_strs : ∀ p q : List Str, PyData.eqvAll (p.map .str) (q.map .str) = decide (p = q)
  | [], [] => by simp [PyData.eqvAll]
  | [], _ :: _ => by simp [PyData.eqvAll]
  | _ :: _, [] => by simp [PyData.eqvAll]
  | x :: p, y :: q => by
    simp only [List.map_cons, PyData.eqvAll, eqv_str, isS, eqvAll_strs p q]
    by_cases h : x = y
    · subst h; simp
    · have h2 : ¬ y = x := fun e => h e.symm
      simp [h, h2]
theorem eqv_path (p q : Path) : PyData.eqv (pathD p) (pathD q) = decide (p = q) := by
  rw [pathD, pathD, PyData.eqv, eqvAll_strs]
/-- what a router has: a path or None -/
def chD : Option Path → PyData
  | none => .none
  | some p => pathD p
def PNm (p : Path) : Prop := ∀ x ∈ p, Nm x
theorem PNm.shaped {p : Path} (h : PNm p) : SeqAt.shaped (pathD p) = true := shaped_strsT fun x hx => (h x hx).strOk
theorem ch_shaped {c : Option Path} (h : ∀ p, c = some p → PNm p) : SeqAt.shaped (chD c) = true := by
  cases c with
  | none => rfl
  | some p => exact (h p rfl).shaped
theorem eqv_ch (c : Option Path) (q : Path) : PyData.eqv (chD c) (pathD q) = decide (c = some q) := by
  cases c with
  | none => simp [chD, pathD, PyData.eqv]
  | some p => simp [chD, eqv_path]
theorem dEq_ch {c : Option Path} {q : Path} (h : ∀ p, c = some p → PNm p) (hq : PNm q) : dEq (chD c) (pathD q) = some (.bool (decide (c = some q))) := by
  have e1 := ch_shaped h
  have e2 := hq.shaped
  simp only [dEq, dEqD, e1, e2, and_self, if_true, eqv_ch]
  cases c <;> simp [dEqA, chD, pathD, atom]
theorem dNe_ch {c : Option Path} {q : Path} (h : ∀ p, c = some p → PNm p) (hq : PNm q) : dNe (chD c) (pathD q) = some (.bool (!decide (c = some q))) := by
  have e1 := ch_shaped h
  have e2 := hq.shaped
  simp only [dNe, dEqD, e1, e2, and_self, if_true, eqv_ch]
  cases c <;> simp [dEqA, chD, pathD, atom]
theorem dEq_path {p q : Path} (hp : PNm p) (hq : PNm q) : dEq (pathD p) (pathD q) = some (.bool (decide (p = q))) := by
  have := dEq_ch (c := some p) (q := q) (fun r e => by cases e; exact hp) hq
  simpa [chD] using this
/-! a list of texts in order -/
theorem sortOk_strs {xs : List Str} (h : ∀ x ∈ xs, PyData.strOk x = true) : sortOk (xs.map .str) = true := by
  simp only [sortOk, Bool.and_eq_true, Bool.or_eq_true, List.all_eq_true, List.mem_map]
  refine ⟨?_, .inr ?_, shaped_strsL h⟩
  · rintro d ⟨x, _, rfl⟩ e ⟨y, _, rfl⟩; rfl
  · rintro d ⟨x, _, rfl⟩; rfl
theorem gSorted_strs {xs : List Str} (h : ∀ x ∈ xs, PyData.strOk x = true) : gSorted [.list (xs.map .str)] = some (.list ((sortS xs).map .str)) := by
  simp only [gSorted, gSortL, sortOk_strs h, if_true, sortD_strs, Option.some_or]
theorem strKeys_dct (l : List (Str × PyData)) : strKeys (l.map fun p => (PyData.str p.1, p.2)) = some (l.map (·.1)) := by
  induction l with
  | nil => rfl
  | cons p r ih => simp [strKeys, ih]
theorem gSorted_tab {T : Tab} (h : T.length < 64) : gSorted [tabD T] = some (.list ((sortS (T.map (·.1))).map .str)) := by
  have e := strKeys_dct (T.map fun q => (q.1, rowD q.2))
  rw [List.map_map] at e
  have e2 : (T.map fun q => (q.1, rowD q.2)).map (·.1) = T.map (·.1) := by simp [Function.comp_def]
  simp only [tabD, dctD, gSorted, gSortL, gSortK, Option.none_or, List.map_map, e, Option.bind_some]
  rw [List.map_map] at e2
  rw [e2, if_pos (by simpa using h)]
theorem gList_tab (T : Tab) : gListA [tabD T] = some (.list ((T.map (·.1)).map .str)) := by
  have h1 := gListA_dct ((T.map fun q => (q.1, rowD q.2)).map fun p => (PyData.str p.1, p.2)) (isKD_dct _)
  rw [keysD_dct] at h1
  rw [show tabD T = .dict ((T.map fun q => (q.1, rowD q.2)).map fun p => (PyData.str p.1, p.2)) from rfl, h1]
  simp [Function.comp_def]
theorem mem_sortS {xs : List Str} {x : Str} : x ∈ sortS xs ↔ x ∈ xs := (sortS_perm xs).mem_iff
theorem sortS_nodup {xs : List Str} (h : xs.Nodup) : (sortS xs).Nodup := (sortS_perm xs).nodup_iff.mpr h
theorem sortS_len (xs : List Str) : (sortS xs).length = xs.length := (sortS_perm xs).length_eq
end NS

set_option maxHeartbeats 1000000
set_option linter.all false
set_option maxRecDepth 10000
namespace NS
open PySem Pd L2
/-! ### a comprehension that changes nothing, over a store that is known -/
theorem lcGo_pureP {g : GM} {tt : BM} {te : XM} {ρ : EV} (p : PyData → Bool) (h : PyData → PyData) (P : Store) : ∀ (items : List PyData) (acc : List SV), acc.length + items.length ≤ sizeLine →
    (∀ d ∈ items, ∀ J : Store, ∃ ρ1, g (.fz d) ρ (P ++ J) = some (ρ1, P ++ J) ∧ tt ρ1 (P ++ J) = some (p d, P ++ J) ∧ (p d = true → te ρ1 (P ++ J) = some (.fz (h d), P ++ J))) →
    lcGo g tt te ρ P.length items (P ++ [.lst acc]) = some (P ++ [.lst (acc ++ ((items.filter p).map fun d => SV.fz (h d)))])
  | [], acc, _, _ => by simp [lcGo]
  | d :: r, acc, hl, hh => by
    obtain ⟨ρ1, e1, e2, e3⟩ := hh d List.mem_cons_self [.lst acc]
    have ih := fun acc' (hl' : acc'.length + r.length ≤ sizeLine) => lcGo_pureP (g := g) (tt := tt) (te := te) (ρ := ρ) p h P r acc' hl' fun d hd S => hh d (List.mem_cons_of_mem _ hd) S
    simp only [List.length_cons] at hl
    simp only [lcGo, e1, e2, Option.bind_some]
    by_cases hp : p d = true
    · have hn : (P ++ [Cell.lst acc])[P.length]? = some (.lst acc) := by simp
      simp only [hp, if_true, e3 hp, Option.bind_some, hn]
      rw [if_pos (by omega)]
      have hs : (P ++ [Cell.lst acc]).set P.length (.lst (acc ++ [.fz (h d)])) = P ++ [.lst (acc ++ [.fz (h d)])] := by
        rw [List.set_append_right _ _ (Nat.le_refl _)]; simp
      rw [hs, ih _ (by simp; omega)]
      simp [List.filter_cons, hp]
    · simp only [hp, Bool.false_eq_true, if_false]
      rw [ih acc (by omega)]
      simp [List.filter_cons, hp]
theorem mLC_pureP {own : List Nat} {f : IM} {g : GM} {tt : BM} {te : XM} {ρ : EV} {P : Store} {items : List PyData} {src : SV} (p : PyData → Bool) (h : PyData → PyData) (hf : f ρ P = some (items, src, P)) (hl : items.length ≤ sizeLine)
    (hh : ∀ d ∈ items, ∀ J : Store, ∃ ρ1, g (.fz d) { ρ.wipe own with b := P.length } (P ++ J) = some (ρ1, P ++ J) ∧ tt ρ1 (P ++ J) = some (p d, P ++ J) ∧ (p d = true → te ρ1 (P ++ J) = some (.fz (h d), P ++ J))) :
    mLC own f g tt te ρ P = some (.fz (.list ((items.filter p).map h)), P) := by
  have := lcGo_pureP (g := g) (tt := tt) (te := te) (ρ := { ρ.wipe own with b := P.length }) p h P items [] (by simpa using hl) hh
  simp only [mLC, hf, Option.bind_some, this, List.nil_append]
  simp [fzs_map']
theorem mLC_mapP {own : List Nat} {f : IM} {g : GM} {te : XM} {ρ : EV} {P : Store} {items : List PyData} {src : SV} (h : PyData → PyData) (hf : f ρ P = some (items, src, P)) (hl : items.length ≤ sizeLine)
    (hh : ∀ d ∈ items, ∀ J : Store, ∃ ρ1, g (.fz d) { ρ.wipe own with b := P.length } (P ++ J) = some (ρ1, P ++ J) ∧ te ρ1 (P ++ J) = some (.fz (h d), P ++ J)) :
    mLC own f g bYes te ρ P = some (.fz (.list (items.map h)), P) := by
  have := mLC_pureP (tt := bYes) (fun _ => true) h hf hl fun d hd S => let ⟨ρ1, a, b⟩ := hh d hd S; ⟨ρ1, a, rfl, fun _ => b⟩
  have e : items.filter (fun _ => true) = items := List.filter_eq_self.mpr fun _ _ => rfl
  rw [e] at this
  exact this
theorem at_app {P J : Store} {k : Nat} {c : Cell} (h : P[k]? = some c) : (P ++ J)[k]? = some c := by
  have hk := (List.getElem?_eq_some_iff.mp h).1
  rw [List.getElem?_append_left hk]; exact h
/-! ### ranges from a to b -/
theorem iRange_two {f g : XM} {ρ : EV} {P P1 P2 : Store} {i j : Int} (h1 : f ρ P = some (.fz (.int i), P1)) (h2 : g ρ P1 = some (.fz (.int j), P2)) (hi : -1000 ≤ i ∧ i ≤ 1000) (hj : -1000 ≤ j ∧ j ≤ 1000) : iRange (aCons f (aCons g aNil)) ρ P = some (rangeD i (j - i).toNat, .fz .none, P2) := by
  have big : (1000 : Int) < 2 ^ 62 := by decide
  have small : -(2 ^ 62) ≤ (-1000 : Int) := by decide
  have a1 : -(2 ^ 62) ≤ i := Int.le_trans small hi.1
  have a2 : i < 2 ^ 62 := Int.lt_of_le_of_lt hi.2 big
  have b1 : -(2 ^ 62) ≤ j := Int.le_trans small hj.1
  have b2 : j < 2 ^ 62 := Int.lt_of_le_of_lt hj.2 big
  rw [iR]
  have e : (aCons f (aCons g aNil)) ρ P = some ([.fz (.int i), .fz (.int j)], P2) := by
    simp only [aCons_ap, h1, h2, Option.bind_some, aNil_ap, Option.map_some]
  rw [e, Option.bind_some]
  show (if -(2 ^ 62) ≤ i ∧ i < 2 ^ 62 ∧ -(2 ^ 62) ≤ j ∧ j < 2 ^ 62 then some (rangeD i (j - i).toNat, SV.fz .none, P2) else none) = _
  rw [if_pos ⟨a1, a2, b1, b2⟩]
theorem rangeD_get1 {n i : Nat} {d : PyData} (h : (rangeD 1 n)[i]? = some d) : i < n ∧ d = .int ((i + 1 : Nat) : Int) := by
  simp only [rangeD, List.getElem?_map, Option.map_eq_some_iff] at h
  obtain ⟨k, h1, rfl⟩ := h
  obtain ⟨h2, h3⟩ := List.getElem?_eq_some_iff.mp h1
  simp only [List.length_range] at h2
  simp only [List.getElem_range] at h3
  subst h3
  exact ⟨h2, by congr 1; omega⟩
/-- from 1 to the last but one of n -/
theorem rg_inner {ρ : EV} {P : Store} {f : XM} {n : Nat} (hf : f ρ P = some (.fz (.int n), P)) (hn : n ≤ 900) : iRange (aCons (mC (.int 1)) (aCons (mBin dSub f (mC (.int 1))) aNil)) ρ P = some (rangeD 1 (n - 2), .fz .none, P) := by
  have := iRange_two (f := mC (.int 1)) (g := mBin dSub f (mC (.int 1))) (ρ := ρ) (P := P) (P1 := P) (P2 := P) (i := 1) (j := (n : Int) - 1) rfl (by simp [hf]) (by omega) (by omega)
  rw [this]
  congr 3
  omega
/-! ### what is sure -/
abbrev Sure := List (Str × Option Path)
def skv (S : Sure) : List (Key × SV) := kv (S.map fun q => (q.1, chD q.2))
theorem lookS_kv (l : List (Str × PyData)) (x : Str) : lookS (kv l) (Sum.inr x) = (lookD l x).map SV.fz := lookS_dct l x
theorem look_skv (S : Sure) (x : Str) : dlook (.k (skv S)) (.str x) = some ((lookR S x).map fun c => .fz (chD c)) := by
  simp only [dlook, keyOf, Option.map_some, skv, lookS_kv, lookD_map chD]
  cases lookR S x <;> rfl
theorem dict_skv {P : Store} {k : Nat} {S : Sure} (h : P[k]? = some (.dK (skv S))) : dictOf P (.ptr k) = some (.k (skv S)) := by simp [dictOf, h]
theorem in_skv {P : Store} {k : Nat} {S : Sure} (h : P[k]? = some (.dK (skv S))) (x : Str) : inOf P (.str x) (.ptr k) = some (lookR S x).isSome := by
  simp only [inOf, dict_skv h, look_skv, Option.map_some]
  cases lookR S x <;> rfl
theorem sub_skv {P : Store} {k : Nat} {S : Sure} (h : P[k]? = some (.dK (skv S))) (x : Str) : subOf P (.ptr k) (.str x) = (lookR S x).map fun c => .fz (chD c) := by
  simp only [subOf, dict_skv h, look_skv, Option.bind_some]
  rfl
def SOk (S : Sure) : Prop := ∀ q ∈ S, ∀ p, q.2 = some p → PNm p
theorem SOk.look {S : Sure} (h : SOk S) {x : Str} {c : Option Path} (e : lookR S x = some c) : ∀ p, c = some p → PNm p := fun p hp => h _ (lookR_mem e) p hp
theorem PNm.drop {p : Path} (h : PNm p) (k : Nat) : PNm (p.drop k) := fun x hx => h x (List.mem_of_mem_drop hx)
theorem PNm.at {p : Path} (h : PNm p) {k : Nat} {x : Str} (e : p[k]? = some x) : Nm x := h x (List.mem_of_getElem? e)
theorem gLen_path (p : Path) : gLenA [pathD p] = some (.int p.length) := by rw [pathD, gLenA_tup, List.length_map]
end NS

set_option maxHeartbeats 1000000
set_option linter.all false
set_option maxRecDepth 10000
namespace NS
open PySem Pd L2
/-! ### good books -/
def Let (B : Book) : Path → Prop
  | [] => False
  | [e] => e ∈ B.ends
  | x :: y :: r => ∃ ps, (x, ps) ∈ B.tab ∧ (x :: y :: r) ∈ ps
structure Good (B : Book) : Prop where
  endsNe : B.ends ≠ []
  endsNm : ∀ e ∈ B.ends, Nm e
  endsLen : B.ends.length ≤ 8
  tabLen : B.tab.length ≤ 8
  nd : B.keys.Nodup
  nm : ∀ k ∈ B.keys, Nm k
  sep : ∀ k ∈ B.keys, k ∉ B.ends
  many : ∀ q ∈ B.tab, q.2.length ≤ 4
  uniq : ∀ q ∈ B.tab, q.2.Nodup
  path : ∀ q ∈ B.tab, ∀ p ∈ q.2, p.length ≤ 9 ∧ ∃ t, p = q.1 :: t ∧ Let B t
section
variable {B : Book} (G : Good B)
include G
theorem Good.key {q : Str × List Path} (h : q ∈ B.tab) : q.1 ∈ B.keys := List.mem_map.mpr ⟨q, h, rfl⟩
theorem Good.look {q : Str × List Path} (h : q ∈ B.tab) : lookR B.tab q.1 = some q.2 := lookR_of G.nd h
theorem Good.at {x : Str} {ps : List Path} (h : lookR B.tab x = some ps) {p : Path} (hp : p ∈ ps) : p.length ≤ 9 ∧ ∃ t, p = x :: t ∧ Let B t := G.path (x, ps) (lookR_mem h) p hp
theorem Good.letNm : ∀ (n : Nat) (t : Path), t.length ≤ n → Let B t → PNm t := by
  intro n
  induction n with
  | zero =>
    intro t h hl
    cases t with
    | nil => exact hl.elim
    | cons x r => simp at h
  | succ n ih =>
    intro t h hl
    match t, h, hl with
    | [e], _, hl =>
      intro x hx
      simp at hx; subst hx
      exact G.endsNm _ hl
    | x :: y :: r, h, ⟨ps, hq, hp⟩ =>
      obtain ⟨_, t, e, ht⟩ := G.path (x, ps) hq _ hp
      have e2 : y :: r = t := (List.cons.inj e).2
      subst e2
      have := ih _ (by simpa using h) ht
      intro z hz
      rcases List.mem_cons.mp hz with rfl | hz
      · exact G.nm _ (G.key hq)
      · exact this z hz
theorem Good.pnm {x : Str} {ps : List Path} (h : lookR B.tab x = some ps) {p : Path} (hp : p ∈ ps) : PNm p := by
  obtain ⟨_, t, rfl, ht⟩ := G.at h hp
  have := G.letNm _ t (Nat.le_refl _) ht
  intro z hz
  rcases List.mem_cons.mp hz with rfl | hz
  · exact G.nm _ (G.key (lookR_mem h))
  · exact this z hz
/-- the second place of a let path -/
theorem Good.second {x : Str} {ps : List Path} (h : lookR B.tab x = some ps) {p : Path} (hp : p ∈ ps) : ∃ y t, p = x :: y :: t ∧ ((y ∈ B.ends ∧ t = []) ∨ (y ∉ B.ends ∧ t ≠ [] ∧ ∃ qs, lookR B.tab y = some qs ∧ (y :: t) ∈ qs)) := by
  obtain ⟨_, t, rfl, ht⟩ := G.at h hp
  match t, ht with
  | [e], ht => exact ⟨e, [], rfl, .inl ⟨ht, rfl⟩⟩
  | y :: z :: r, ⟨qs, hq, hm⟩ => exact ⟨y, z :: r, rfl, .inr ⟨G.sep _ (G.key hq), by simp, qs, G.look hq, hm⟩⟩
end
theorem in_ends {B : Book} (G : Good B) {P : Store} {x : Str} (hx : Nm x) : inOf P (.str x) (.fz (.tuple (B.ends.map .str))) = some (decide (x ∈ B.ends)) := in_walk (fun y hy => (G.endsNm y hy).strOk) hx.strOk P
/-! ### what is known so far -/
@[simp] theorem chD_some (p : Path) : chD (some p) = pathD p := rfl
@[simp] theorem chD_none : chD none = .none := rfl
theorem iAny_row {B : Book} {x : Str} {ps : List Path} (h : lookR B.tab x = some ps) {fb fr : XM} {ρ : EV} {P : Store} (h1 : fb ρ P = some (.fz (bookD B), P)) (h2 : fr ρ P = some (.fz (.str x), P)) : iAny (mSub (mSub fb (mC (.int 2))) fr) ρ P = some (ps.map pathD, .fz (rowD ps), P) := by
  have e1 := sub_book2 (P := P) B
  have e2 := sub_tab (P := P) B.tab x
  rw [h] at e2
  simp only [iAny_ap, mSub_ap, h1, h2, mC_ap, Option.bind_some, flat_fz, e1, Option.map_some, e2]
  rfl
end NS

set_option maxHeartbeats 1000000
set_option linter.all false
set_option maxRecDepth 10000
namespace NS
open PySem Pd L2
/-! ### the law's same, of any data without dicts -/
mutual
def sameB : PyData → PyData → Bool
  | .none, .none => true
  | .bool a, .bool b => decide (a = b)
  | .int a, .int b => decide (a = b)
  | .str a, .str b => decide (a = b)
  | .list ds, .list es => sameL ds es
  | .tuple ds, .tuple es => sameL ds es
  | _, _ => false
def sameL : List PyData → List PyData → Bool
  | [], [] => true
  | d :: ds, e :: es => sameB d e && sameL ds es
  | _, _ => false
end
theorem sameL_len : ∀ {ds es : List PyData}, sameL ds es = true → ds.length = es.length
  | [], [], _ => rfl
  | [], _ :: _, h => by simp [sameL] at h
  | _ :: _, [], h => by simp [sameL] at h
  | d :: ds, e :: es, h => by
    simp only [sameL, Bool.and_eq_true] at h
    simp [sameL_len h.2]
theorem sameL_all : ∀ (ds es : List PyData), ds.length = es.length → sameL ds es = (List.range ds.length).all fun i => sameB (ds.getD i .none) (es.getD i .none)
  | [], [], _ => rfl
  | [], _ :: _, h => by simp at h
  | _ :: _, [], h => by simp at h
  | d :: ds, e :: es, h => by
    have ih := sameL_all ds es (by simpa using h)
    simp only [sameL, ih, List.length_cons, List.range_succ_eq_map, List.all_cons, List.all_map]
    rfl
/-- the parts of two rows of one length -/
theorem sameB_seq (self : FM) (x y : PyData) (ds es : List PyData) (hx : (x = .list ds ∧ y = .list es) ∨ (x = .tuple ds ∧ y = .tuple es)) (hl : ds.length ≤ 1000) (he : ds.length = es.length) (hs : ∀ d ∈ ds, ∀ e ∈ es, ∀ P : Store, self [.fz d, .fz e] P = some (.fz (.bool (sameB d e)), P)) (P : Store) :
    (sRet (mCall gAll (aCons (bS2 self) aNil))) ⟨P.length, [some (.fz x), some (.fz y), none, none]⟩ P = some (.rt (.fz (.bool (sameL ds es))), ⟨P.length, [some (.fz x), some (.fz y), none, none]⟩, P) := by
  have hg : gLenA [x] = some (.int ds.length) := by rcases hx with ⟨rfl, rfl⟩ | ⟨rfl, rfl⟩ <;> rfl
  have hs1 : ∀ (S : Store) (i : Nat), subOf S (.fz x) (.int i) = (ds[i]?).map .fz := by
    intro S i
    rcases hx with ⟨rfl, rfl⟩ | ⟨rfl, rfl⟩ <;> simp
  have hs2 : ∀ (S : Store) (i : Nat), subOf S (.fz y) (.int i) = (es[i]?).map .fz := by
    intro S i
    rcases hx with ⟨rfl, rfl⟩ | ⟨rfl, rfl⟩ <;> simp
  have e0 : bS2 self ⟨P.length, [some (.fz x), some (.fz y), none, none]⟩ P = some (.fz (.list ((rangeD 0 ds.length).map fun d => match d with | .int i => .bool (sameB (ds.getD i.toNat .none) (es.getD i.toNat .none)) | _ => .none)), P) := by
    refine mLC_map _ (iRange_nat (n := ds.length) (by simp [hg]) hl) (by rw [rangeD_len]; exact Nat.le_trans hl (by decide)) fun d hd S => ?_
    simp only [rangeD, List.mem_map, List.mem_range] at hd
    obtain ⟨i, hi, rfl⟩ := hd
    refine ⟨_, rfl, ?_⟩
    have hi2 : i < es.length := by omega
    have h1 := hs ds[i] (List.getElem_mem hi) es[i] (List.getElem_mem hi2)
    simp [EV.wipe, hs1, hs2, hi, hi2, h1]
  have e1 : (rangeD 0 ds.length).map (fun d => match d with | .int i => PyData.bool (sameB (ds.getD i.toNat .none) (es.getD i.toNat .none)) | _ => .none) = (List.range ds.length).map fun i => .bool (sameB (ds.getD i .none) (es.getD i .none)) := by
    rw [rangeD, List.map_map]
    apply List.map_congr_left
    intro i _
    simp
  rw [e1] at e0
  have g := gAll_map (fun i => sameB (ds.getD i .none) (es.getD i .none)) (List.range ds.length)
  rw [← sameL_all ds es he] at g
  generalize (List.range ds.length).map (fun i => PyData.bool (sameB (ds.getD i .none) (es.getD i .none))) = K at *
  simp [e0, g]
theorem okD_list {n : Nat} {ds : List PyData} (h : okD n (.list ds) = true) : ∃ m, n = m + 1 ∧ ds.length ≤ 1000 ∧ ∀ d ∈ ds, okD m d = true := by
  cases n with
  | zero => simp [okD] at h
  | succ m =>
    simp only [okD, Bool.and_eq_true, decide_eq_true_eq, List.all_eq_true] at h
    exact ⟨m, rfl, h.1, h.2⟩
theorem okD_tuple {n : Nat} {ds : List PyData} (h : okD n (.tuple ds) = true) : ∃ m, n = m + 1 ∧ ds.length ≤ 1000 ∧ ∀ d ∈ ds, okD m d = true := by
  cases n with
  | zero => simp [okD] at h
  | succ m =>
    simp only [okD, Bool.and_eq_true, decide_eq_true_eq, List.all_eq_true] at h
    exact ⟨m, rfl, h.1, h.2⟩
theorem okD_dict {n : Nat} {ds : List (PyData × PyData)} (h : okD n (.dict ds) = true) : False := by
  cases n <;> simp [okD] at h
theorem gd0 (T : PyData → Bool) (x y : PyData) (P : Store) : (mAndB (mTB (mIs T (mVar 0))) (mTB (mIs T (mVar 1)))) ⟨P.length, [some (.fz x), some (.fz y), none, none]⟩ P = some (T x && T y, P) := by
  cases h : T x <;> simp [h]
theorem gd2 (x y : PyData) (m n : Nat) (P : Store) (hi : inst .list x = inst .list y) (h1 : gLenA [x] = some (.int m)) (h2 : gLenA [y] = some (.int n)) :
    (mOrB (mTB (mBin dNe (mIs (inst .list) (mVar 0)) (mIs (inst .list) (mVar 1)))) (mTB (mBin dNe (mCall gLenA (aCons (mVar 0) aNil)) (mCall gLenA (aCons (mVar 1) aNil))))) ⟨P.length, [some (.fz x), some (.fz y), none, none]⟩ P = some (!decide (m = n), P) := by
  simp [dNe_bool, hi, h1, h2]
  omega
theorem sameB_two (self : FM) (x y : PyData) (ds es : List PyData) (P : Store) (hx : (x = .list ds ∧ y = .list es) ∨ (x = .tuple ds ∧ y = .tuple es)) (hl : ds.length ≤ 1000) (hs : ∀ d ∈ ds, ∀ e ∈ es, ∀ P : Store, self [.fz d, .fz e] P = some (.fz (.bool (sameB d e)), P)) :
    mFun exitZ 4 (b__law_same self) [.fz x, .fz y] P = some (.fz (.bool (sameL ds es)), P) := by
  rw [mFun_ap, b_same, show startE 4 [SV.fz x, .fz y] = [some (.fz x), some (.fz y), none, none] from rfl]
  have hd : (inst .dict x && inst .dict y) = false := by rcases hx with ⟨rfl, rfl⟩ | ⟨rfl, rfl⟩ <;> rfl
  have hsq : ((inst .list x || inst .tuple x) && (inst .list y || inst .tuple y)) = true := by rcases hx with ⟨rfl, rfl⟩ | ⟨rfl, rfl⟩ <;> rfl
  have hi : inst .list x = inst .list y := by rcases hx with ⟨rfl, rfl⟩ | ⟨rfl, rfl⟩ <;> rfl
  have h1 : gLenA [x] = some (.int ds.length) := by rcases hx with ⟨rfl, rfl⟩ | ⟨rfl, rfl⟩ <;> rfl
  have h2 : gLenA [y] = some (.int es.length) := by rcases hx with ⟨rfl, rfl⟩ | ⟨rfl, rfl⟩ <;> rfl
  rw [sSeq_ap, sIf_ap, gd0, hd]
  simp only [Option.bind_some, Bool.false_eq_true, if_false, sNx_ap]
  rw [sSeq_ap, sIf_ap, gd0 (fun d => inst .list d || inst .tuple d), hsq]
  simp only [Option.bind_some, if_true]
  rw [sSeq_ap, sIf_ap, gd2 x y _ _ P hi h1 h2]
  by_cases he : ds.length = es.length
  · simp only [he, decide_true, Bool.not_true, Option.bind_some, Bool.false_eq_true, if_false, sNx_ap]
    rw [sameB_seq self x y ds es hx hl he hs]
    simp
  · have : sameL ds es = false := by
      cases h : sameL ds es with
      | true => exact absurd (sameL_len h) he
      | false => rfl
    simp [he, this]
theorem t_sameB : ∀ (fuel n : Nat) (d e : PyData), okD n d = true → okD n e = true → n < fuel → ∀ P, m__law_same fuel [.fz d, .fz e] P = some (.fz (.bool (sameB d e)), P) := by
  intro fuel
  induction fuel with
  | zero => intro n d e _ _ h; omega
  | succ fuel ih =>
    intro n d e hd he hf P
    simp only [m__law_same]
    cases d with
    | dict => exact (okD_dict hd).elim
    | list ds =>
      cases e with
      | dict => exact (okD_dict he).elim
      | list es =>
        obtain ⟨m, rfl, h1, h2⟩ := okD_list hd
        obtain ⟨m', e', _, h4⟩ := okD_list he
        cases e'
        rw [sameB_two _ _ _ ds es P (.inl ⟨rfl, rfl⟩) h1 fun d hd e he P => ih m d e (h2 d hd) (h4 e he) (by omega) P]
        simp [sameB]
      | _ => simp [mFun_ap, b_same, startE, inst, sameB, dNe_bool]
    | tuple ds =>
      cases e with
      | dict => exact (okD_dict he).elim
      | tuple es =>
        obtain ⟨m, rfl, h1, h2⟩ := okD_tuple hd
        obtain ⟨m', e', _, h4⟩ := okD_tuple he
        cases e'
        rw [sameB_two _ _ _ ds es P (.inr ⟨rfl, rfl⟩) h1 fun d hd e he P => ih m d e (h2 d hd) (h4 e he) (by omega) P]
        simp [sameB]
      | _ => simp [mFun_ap, b_same, startE, inst, sameB, dNe_bool]
    | none =>
      cases e with
      | dict => exact (okD_dict he).elim
      | _ => simp [mFun_ap, b_same, startE, inst, sameB, dNe_bool, Pd.isNon]
    | bool b =>
      cases e with
      | dict => exact (okD_dict he).elim
      | _ => simp [mFun_ap, b_same, startE, inst, sameB, dNe_bool, dEq_bool, Pd.isNon]
    | int i =>
      cases e with
      | dict => exact (okD_dict he).elim
      | _ => simp [mFun_ap, b_same, startE, inst, sameB, dNe_bool, Pd.isNon]
    | str x =>
      cases e with
      | dict => exact (okD_dict he).elim
      | _ => simp [mFun_ap, b_same, startE, inst, sameB, dNe_bool, Pd.isNon]
/-! ### a told choice against data -/
def chEq (c : PyData) : Option Path → Bool
  | none => Pd.isNon c
  | some p => match c with
    | .tuple ds => decide (strsD ds = some p)
    | _ => false
theorem strsD_map : ∀ p : List Str, strsD (p.map .str) = some p
  | [] => rfl
  | x :: r => by simp [strsD, strsD_map r]
theorem strsD_some : ∀ {ds : List PyData} {p : List Str}, strsD ds = some p → ds = p.map .str
  | [], p, h => by simp only [strsD, Option.some.injEq] at h; subst h; rfl
  | d :: r, p, h => by
    cases d with
    | str x =>
      simp only [strsD, Option.map_eq_some_iff] at h
      obtain ⟨q, h1, rfl⟩ := h
      rw [strsD_some h1]; rfl
    | _ => simp [strsD] at h
theorem chEq_eq {c : PyData} {o : Option Path} (h : chEq c o = true) : c = chD o := by
  cases o with
  | none => cases c <;> simp_all [chEq, Pd.isNon]
  | some p =>
    cases c with
    | tuple ds =>
      simp only [chEq, decide_eq_true_eq] at h
      rw [strsD_some h]; rfl
    | _ => simp [chEq] at h
theorem sameL_strs : ∀ (p : List Str) (ds : List PyData), sameL (p.map .str) ds = decide (strsD ds = some p)
  | [], [] => by simp [sameL, strsD]
  | [], d :: r => by
    cases d with
    | str x => cases h : strsD r <;> simp [sameL, strsD, h]
    | _ => simp [sameL, strsD]
  | x :: p, [] => by simp [sameL, strsD]
  | x :: p, d :: r => by
    have ih := sameL_strs p r
    cases d with
    | str y =>
      simp only [List.map_cons, sameL, sameB, ih, strsD]
      by_cases e : x = y
      · subst e; simp
      · have e2 : ¬ y = x := fun z => e z.symm
        simp [e, e2]
    | _ => simp [sameL, sameB, strsD]
theorem sameB_ch (o : Option Path) (c : PyData) : sameB (chD o) c = chEq c o := by
  cases o with
  | none => cases c <;> rfl
  | some p =>
    cases c with
    | tuple ds => simp only [chD, pathD, sameB, sameL_strs, chEq]
    | _ => rfl
theorem all_str {ds : List PyData} : ds.all (inst .str) = (strsD ds).isSome := by
  induction ds with
  | nil => rfl
  | cons d r ih =>
    cases d with
    | str x => simp [inst, strsD, ih]
    | _ => simp [inst, strsD]
theorem okD_strs {n : Nat} : ∀ {ds : List PyData} {p : List Str}, (∀ d ∈ ds, okD n d = true) → strsD ds = some p → ∀ x ∈ p, PyData.strOk x = true
  | [], p, _, h, x, hx => by simp only [strsD, Option.some.injEq] at h; subst h; simp at hx
  | d :: r, p, hd, h, x, hx => by
    cases d with
    | str y =>
      simp only [strsD, Option.map_eq_some_iff] at h
      obtain ⟨q, h1, rfl⟩ := h
      rcases List.mem_cons.mp hx with rfl | hx
      · have := hd (.str x) List.mem_cons_self
        cases n <;> (simp only [okD, Bool.and_eq_true] at this; exact this.1)
      · exact okD_strs (fun d hd' => hd d (List.mem_cons_of_mem _ hd')) h1 x hx
    | _ => simp [strsD] at h
theorem okD_mono : ∀ {n m : Nat} {d : PyData}, okD n d = true → n ≤ m → okD m d = true
  | 0, 0, _, h, _ => h
  | n + 1, 0, _, _, hl => absurd hl (by omega)
  | 0, m + 1, d, h, _ => by
    cases d with
    | none => rfl
    | bool b => rfl
    | int i => simpa [okD] using h
    | str x => simpa [okD] using h
    | list ds => simp [okD] at h
    | tuple ds => simp [okD] at h
    | dict ds => simp [okD] at h
  | n + 1, m + 1, d, h, hl => by
    cases d with
    | none => rfl
    | bool b => rfl
    | int i => simpa [okD] using h
    | str x => simpa [okD] using h
    | list ds =>
      simp only [okD, Bool.and_eq_true, decide_eq_true_eq, List.all_eq_true] at h ⊢
      exact ⟨h.1, fun e he => okD_mono (h.2 e he) (by omega)⟩
    | tuple ds =>
      simp only [okD, Bool.and_eq_true, decide_eq_true_eq, List.all_eq_true] at h ⊢
      exact ⟨h.1, fun e he => okD_mono (h.2 e he) (by omega)⟩
    | dict ds => simp [okD] at h
theorem okD_path {p : Path} (h : PNm p) (hl : p.length ≤ 1000) (n : Nat) : okD (n + 1) (pathD p) = true := by
  simp only [pathD, okD, Bool.and_eq_true, decide_eq_true_eq, List.all_eq_true, List.mem_map, List.length_map]
  refine ⟨hl, ?_⟩
  rintro d ⟨x, hx, rfl⟩
  exact (h x hx).okD n
theorem okD_ch {c : Option Path} (h : ∀ p, c = some p → PNm p ∧ p.length ≤ 1000) (n : Nat) : okD (n + 1) (chD c) = true := by
  cases c with
  | none => rfl
  | some p => exact okD_path (h p rfl).1 (h p rfl).2 n
end NS

set_option maxHeartbeats 1000000
set_option linter.all false
set_option maxRecDepth 10000
namespace NS
open PySem Pd L2
/-- the names of a book, in order -/
def names (B : Book) : List Str := sortS B.keys
theorem names_ok {B : Book} (G : Good B) : ∀ x ∈ B.keys, PyData.strOk x = true := fun x hx => (G.nm x hx).strOk
/-! ### plain: what a rest has, what an order tells -/
def rowOf (B : Book) (x : Str) : List Path := (lookR B.tab x).getD []
/-! orders -/
def tailsL (p : Path) : List Path := (List.range (p.length - 2)).map fun k => p.drop (k + 1)
def betterL (ps : List Path) (p : Path) : List Path := ps.takeWhile fun q => decide (q ≠ p)
def arrows (B : Book) (p : Path) : List Path := betterL (rowOf B (p.headD ⟨#[]⟩)) p ++ tailsL p
def pathsL (B : Book) : List Path := (names B).flatMap (rowOf B)
inductive Ord (B : Book) : List Path → Prop
  | nil : Ord B []
  | snoc {O : List Path} {p : Path} : Ord B O → p ∈ pathsL B → p ∉ O → (∀ a ∈ arrows B p, a ∈ O) → Ord B (O ++ [p])
theorem Ord.closed {B : Book} {O : List Path} (h : Ord B O) : ∀ p ∈ O, ∀ a ∈ arrows B p, a ∈ O := by
  induction h with
  | nil => simp
  | snoc _ _ _ ha ih =>
    intro p hp a hm
    rcases List.mem_append.mp hp with hp | hp
    · exact List.mem_append_left _ (ih p hp a hm)
    · simp only [List.mem_singleton] at hp; subst hp
      exact List.mem_append_left _ (ha a hm)
theorem Ord.sub {B : Book} {O : List Path} (h : Ord B O) : O.Nodup ∧ ∀ p ∈ O, p ∈ pathsL B := by
  induction h with
  | nil => simp
  | snoc _ hp hn _ ih =>
    refine ⟨?_, ?_⟩
    · rw [List.nodup_append]
      refine ⟨ih.1, by simp, fun a ha b hb e => ?_⟩
      simp at hb; subst hb; subst e; exact hn ha
    · intro q hq
      rcases List.mem_append.mp hq with hq | hq
      · exact ih.2 q hq
      · simp at hq; subst hq; exact hp
theorem mem_paths {B : Book} {p : Path} : p ∈ pathsL B ↔ ∃ x ∈ B.keys, p ∈ rowOf B x := by
  simp only [pathsL, List.mem_flatMap, names, mem_sortS]
theorem row_path {B : Book} (G : Good B) {x : Str} {p : Path} (h : p ∈ rowOf B x) : ∃ ps, lookR B.tab x = some ps ∧ p ∈ ps := by
  unfold rowOf at h
  cases e : lookR B.tab x with
  | none => simp [e] at h
  | some ps => exact ⟨ps, rfl, by simpa [e] using h⟩
theorem Ord.len {B : Book} {O : List Path} (h : Ord B O) : O.length ≤ (pathsL B).length := nodup_le _ _ h.sub.1 h.sub.2
theorem Ord.full {B : Book} {O : List Path} (h : Ord B O) (hl : (pathsL B).length ≤ O.length) : ∀ p ∈ pathsL B, p ∈ O := by
  intro p hp
  refine Classical.byContradiction fun hn => ?_
  have := nodup_le (p :: O) (pathsL B) (List.nodup_cons.mpr ⟨hn, h.sub.1⟩) (by
    intro q hq
    rcases List.mem_cons.mp hq with rfl | hq
    · exact hp
    · exact h.sub.2 q hq)
  simp at this; omega
theorem better_mem {ps pre post : List Path} {p q : Path} (e : ps = pre ++ q :: post) (hp : p ∈ ps) (hpre : p ∉ pre) (hne : p ≠ q) : q ∈ betterL ps p := by
  subst e
  unfold betterL
  induction pre with
  | nil =>
    have : decide (q ≠ p) = true := decide_eq_true fun e => hne e.symm
    rw [List.nil_append, List.takeWhile_cons, if_pos this]; exact List.mem_cons_self
  | cons r pre ih =>
    simp only [List.mem_cons, not_or] at hpre
    have h1 : decide (r ≠ p) = true := decide_eq_true fun e => hpre.1 e.symm
    rw [List.cons_append, List.takeWhile_cons, h1, if_pos rfl]
    refine List.mem_cons_of_mem _ (ih hpre.2 ?_)
    rcases List.mem_cons.mp hp with rfl | hp
    · exact absurd rfl hpre.1
    · exact hp
theorem better_pre {pre post : List Path} {p b : Path} (h : b ∈ betterL (pre ++ p :: post) p) : b ∈ pre := by
  induction pre with
  | nil => simp [betterL, List.takeWhile_cons] at h
  | cons r pre ih =>
    rw [betterL, List.cons_append, List.takeWhile_cons] at h
    split at h
    · rcases List.mem_cons.mp h with rfl | h
      · exact List.mem_cons_self
      · exact List.mem_cons_of_mem _ (ih h)
    · simp at h
end NS

set_option maxHeartbeats 1000000
set_option linter.all false
set_option maxRecDepth 10000
namespace NS
open PySem Pd L2
/-! ### tails, better ones, arrows, all paths -/
theorem rangeD1_map (n : Nat) (f : Nat → PyData) : (rangeD 1 n).map (fun d => match d with | .int i => f i.toNat | _ => .none) = (List.range n).map fun k => f (k + 1) := by
  simp only [rangeD, List.map_map]
  refine List.map_congr_left fun k _ => ?_
  simp only [Function.comp]
  congr 1; omega
theorem t_tails (p : Path) (hl : p.length ≤ 900) (P : Store) : m__law_tails [.fz (pathD p)] P = some (.fz (.list ((tailsL p).map pathD)), P) := by
  refine W.of (W_fun ?_)
  rw [b__law_tails, show startE 2 [SV.fz (pathD p)] = [some (.fz (pathD p)), none] from rfl]
  have hg := gLen_path p
  have := mLC_map (own := [1]) (f := iRange (aCons (mC (.int 1)) (aCons (mBin dSub (mCall gLenA (aCons (mVar 0) aNil)) (mC (.int 1))) aNil))) (g := gNm 1) (te := mSl (mVar 0) (oSome (mVar 1)) oNone) (ρ := ⟨P.length, [some (.fz (pathD p)), none]⟩) (P := P)
    (fun d => match d with | .int i => pathD (p.drop i.toNat) | _ => .none) (rg_inner (n := p.length) (by simp [hg]) hl) (by rw [rangeD_len]; exact Nat.le_trans (show p.length - 2 ≤ 900 by omega) (by decide)) fun d hd S => by
      simp only [rangeD, List.mem_map, List.mem_range] at hd
      obtain ⟨k, hk, rfl⟩ := hd
      refine ⟨_, rfl, ?_⟩
      have e := dSl_path p (1 + k) (by omega)
      have e2 : ((1 + k : Nat) : Int) = 1 + (k : Int) := by omega
      rw [e2] at e
      have e3 : ((1 : Int) + (k : Int)).toNat = 1 + k := by omega
      simp [EV.wipe, e, e3]
  rw [rangeD1_map _ fun k => pathD (p.drop k)] at this
  rw [sRet_ap, this]
  simp [tailsL, Function.comp_def]
theorem idx_path (ps : List Path) (p : Path) (h : p ∈ ps) : ∃ j, j ≤ ps.length ∧ (ps.map pathD).findIdx? (fun y => PyData.eqv y (pathD p)) = some j ∧ ps.take j = betterL ps p := by
  induction ps with
  | nil => simp at h
  | cons q r ih =>
    by_cases e : q = p
    · refine ⟨0, by simp, ?_, ?_⟩
      · simp [List.findIdx?_cons, eqv_path, e]
      · simp [betterL, List.takeWhile_cons, e]
    · have h2 : p ∈ r := (List.mem_cons.mp h).resolve_left fun h => e h.symm
      obtain ⟨j, hj, h3, h4⟩ := ih h2
      refine ⟨j + 1, by simpa using hj, ?_, ?_⟩
      · simp [List.findIdx?_cons, eqv_path, e, h3]
      · simp only [betterL] at h4
        simp [betterL, List.takeWhile_cons, e, h4]
theorem paths_okD {ps : List Path} (h : ∀ p ∈ ps, PNm p ∧ p.length ≤ 1000) (hl : ps.length ≤ 1000) : okD 2 (.list (ps.map pathD)) = true := by
  simp only [okD, Bool.and_eq_true, decide_eq_true_eq, List.all_eq_true, List.mem_map, List.length_map]
  refine ⟨hl, ?_⟩
  rintro d ⟨p, hp, rfl⟩
  exact okD_path (h p hp).1 (h p hp).2 0
theorem row_ok {B : Book} (G : Good B) {x : Str} {ps : List Path} (h : lookR B.tab x = some ps) : (∀ p ∈ ps, PNm p ∧ p.length ≤ 1000) ∧ ps.length ≤ 4 :=
  ⟨fun p hp => ⟨G.pnm h hp, by have := (G.at h hp).1; omega⟩, G.many (x, ps) (lookR_mem h)⟩
theorem better_len (ps : List Path) (p : Path) : (betterL ps p).length ≤ ps.length := by
  unfold betterL
  exact (List.takeWhile_sublist _).length_le
theorem better_sub {ps : List Path} {p q : Path} (h : q ∈ betterL ps p) : q ∈ ps := (List.takeWhile_sublist _).subset h
theorem row_book {B : Book} {x : Str} {ps : List Path} (h : lookR B.tab x = some ps) (P : Store) : subOf P (.fz (tabD B.tab)) (.str x) = some (.fz (rowD ps)) := by
  rw [sub_tab, h]; rfl
theorem t_better {B : Book} (G : Good B) {x : Str} {ps : List Path} (h : lookR B.tab x = some ps) {p : Path} (hp : p ∈ ps) (P : Store) : m__law_better [.fz (bookD B), .fz (pathD p)] P = some (.fz (.list ((betterL ps p).map pathD)), P) := by
  refine W.of (W_fun ?_)
  rw [b__law_better, show startE 3 [SV.fz (bookD B), .fz (pathD p)] = [some (.fz (bookD B)), some (.fz (pathD p)), none] from rfl]
  obtain ⟨y, t, rfl, _⟩ := G.second h hp
  have h0 := sub_path0 (P := P) (x :: y :: t)
  have h1 := sub_book2 (P := P) B
  have h2 := row_book h P
  have ⟨r1, r2⟩ := row_ok G h
  have s1 := okD_shaped (paths_okD r1 (by omega)) (by omega)
  have s2 := (G.pnm h hp).shaped
  obtain ⟨j, hj, e1, e2⟩ := idx_path ps _ hp
  have e3 := cut_take (ps.map pathD) j (by simpa using hj)
  rw [← List.map_take, e2] at e3
  have e4 : gListA [rowD ps] = some (.list (ps.map pathD)) := rfl
  have e5 : gIndex (.list (ps.map pathD)) (pathD (x :: y :: t)) = some j := by simp only [gIndex, s1, s2, and_self, if_true, e1]
  simp only [List.getElem?_cons_zero, Option.map_some] at h0
  generalize ps.map pathD = L at *
  simp [h0, h1, h2, e4, mIndex, isLD, e5, e3]
theorem t_arrows {B : Book} (G : Good B) {x : Str} {ps : List Path} (h : lookR B.tab x = some ps) {p : Path} (hp : p ∈ ps) (P : Store) : m__law_arrows [.fz (bookD B), .fz (pathD p)] P = some (.fz (.list ((arrows B p).map pathD)), P) := by
  refine W.of (W_fun ?_)
  rw [b__law_arrows, show startE 2 [SV.fz (bookD B), .fz (pathD p)] = [some (.fz (bookD B)), some (.fz (pathD p))] from rfl]
  have hl := (G.at h hp).1
  have e1 := t_better G h hp P
  have e2 := t_tails p (by omega) P
  have hr := row_ok G h
  have b1 := better_len ps p
  have e3 : arrows B p = betterL ps p ++ tailsL p := by
    obtain ⟨y, t, rfl, _⟩ := G.second h hp
    simp [arrows, rowOf, h]
  have b2 : (tailsL p).length = p.length - 2 := by simp [tailsL]
  have e4 := dAdd_lst ((betterL ps p).map pathD) ((tailsL p).map pathD) (by simp only [List.length_map]; exact Nat.le_trans (show _ ≤ 100 by omega) (by decide))
  rw [← List.map_append, ← e3] at e4
  simp only [sRet_ap, mBin_ap, mCallF_ap, aCons_ap, aNil_ap, mVar_ap, List.getElem?_cons_succ, List.getElem?_cons_zero, Option.join_some, Option.map_some, Option.bind_some, e1, e2, flat_fz, e4]
  simp
theorem names_row {B : Book} {x : Str} (h : x ∈ names B) : ∃ ps, lookR B.tab x = some ps := lookR_key (mem_sortS.mp h)
theorem flat_len {B : Book} (G : Good B) : ∀ l : List Str, (l.flatMap (rowOf B)).length ≤ 4 * l.length
  | [] => by simp
  | x :: l => by
    have h1 := flat_len G l
    have h2 : (rowOf B x).length ≤ 4 := by
      unfold rowOf
      cases e : lookR B.tab x with
      | none => simp
      | some ps => exact (row_ok G e).2
    simp only [List.flatMap_cons, List.length_append, List.length_cons]
    omega
theorem names_len {B : Book} (G : Good B) : (names B).length ≤ 8 := by
  rw [names, sortS_len]; have := G.tabLen; simpa [Book.keys] using this
theorem paths_len {B : Book} (G : Good B) : (pathsL B).length ≤ 32 := by
  have h1 := flat_len G (names B)
  have h2 := names_len G
  unfold pathsL; omega
theorem sorted_tab {B : Book} (G : Good B) : gSorted [.list ((B.tab.map (·.1)).map .str)] = some (.list ((names B).map .str)) := gSorted_strs (xs := B.keys) (names_ok G)
theorem t_paths {B : Book} (G : Good B) (P : Store) : m__law_paths [.fz (bookD B)] P = some (.fz (.list ((pathsL B).map pathD)), P) := by
  refine W.of (W_fun ?_)
  rw [b__law_paths, show startE 3 [SV.fz (bookD B)] = [some (.fz (bookD B)), none, none] from rfl]
  have h1 := sub_book2 (P := P) B
  have h2 := gList_tab B.tab
  have h3 := sorted_tab G
  simp only [sSeq_ap, sSet_ap, mLst_ap, aNil_ap, Option.bind_some, Option.map_some, put_ap, List.set_cons_succ, List.set_cons_zero, sFor_ap, iAny_ap, mCall_ap, aCons_ap, mSub_ap, mVar_ap, List.getElem?_cons_succ, List.getElem?_cons_zero, Option.join_some, mC_ap, flat_fz, h1, h2, h3, flats_cons, flats_nil, W_bind, show fzs [] = some [] from rfl, List.length_nil, Nat.zero_le, if_true, W_some, gListA_lst]
  refine W_forR (fun i ρ Z => ∃ s2, ρ = ⟨P.length, [some (.fz (bookD B)), some (.fz (.list ((((names B).take i).flatMap (rowOf B)).map pathD))), s2]⟩ ∧ Z = P) ⟨none, by simp, rfl⟩ ?_ ?_
  · rintro i d ρ Z hd ⟨s2, rfl, rfl⟩
    rw [List.getElem?_map, Option.map_eq_some_iff] at hd
    obtain ⟨n, hni, rfl⟩ := hd
    obtain ⟨ps, hps⟩ := names_row (List.mem_of_getElem? hni)
    have e2 := row_book hps Z
    have e4 : gListA [rowD ps] = some (.list (ps.map pathD)) := rfl
    obtain ⟨hi, e⟩ := List.getElem?_eq_some_iff.mp hni
    have e5 : ((names B).take (i + 1)).flatMap (rowOf B) = ((names B).take i).flatMap (rowOf B) ++ ps := by
      rw [List.take_succ_eq_append_getElem hi, List.flatMap_append, e]
      simp [rowOf, hps]
    have hl := flat_len G ((names B).take i)
    have hn := names_len G
    have hr := row_ok G hps
    have hln : ((names B).take i).length ≤ (names B).length := by simp; omega
    have e6 := dAdd_lst ((((names B).take i).flatMap (rowOf B)).map pathD) (ps.map pathD) (by simp only [List.length_map]; exact Nat.le_trans (show _ ≤ 100 by omega) (by decide))
    rw [← List.map_append, ← e5] at e6
    have h1 := sub_book2 (P := Z) B
    simp only [gNm_ap, W_some, put_ap, List.set_cons_succ, List.set_cons_zero, sSet_ap, mBin_ap, mVar_ap, List.getElem?_cons_succ, List.getElem?_cons_zero, Option.join_some, Option.map_some, Option.bind_some, mCall_ap, aCons_ap, aNil_ap, mSub_ap, mC_ap, flat_fz, h1, e2, flats_cons, flats_nil, e4, e6]
    exact .inl ⟨trivial, _, rfl, trivial⟩
  · rintro ρ Z ⟨s2, rfl, rfl⟩
    simp [pathsL]
end NS

set_option maxHeartbeats 1000000
set_option linter.all false
set_option maxRecDepth 10000
namespace NS
open PySem Pd L2
theorem mDNewT_ap' (ρ : EV) (P : Store) : mDNewT ρ P = some (.ptr P.length, P ++ [.dT []]) := rfl
/-! ### the order -/
def keyP (p : Path) : List Key := p.map Sum.inr
def plL (O : List Path) : List (List Key × SV) := O.map fun p => (keyP p, .fz (.bool true))
def orC (O : List Path) : Cell := .lst ((O.map pathD).map SV.fz)
theorem orC_dat (O : List Path) : (orC O).dat = some (.list (O.map pathD)) := by rw [orC, dat_lst, fzs_map]; rfl
theorem tkey_path (p : Path) : tkeyOf (pathD p) = some (keyP p) := by
  have : ∀ q : Path, keysOf (q.map .str) = some (keyP q) := by
    intro q
    induction q with
    | nil => rfl
    | cons x r ih => simp [keysOf, keyOf, ih, keyP]
  simp only [pathD, tkeyOf, this]
theorem keyP_inj {p q : Path} : keyP p = keyP q ↔ p = q := by
  constructor
  · intro h
    induction p generalizing q with
    | nil => cases q <;> simp_all [keyP]
    | cons x r ih =>
      cases q with
      | nil => simp [keyP] at h
      | cons y s =>
        simp only [keyP, List.map_cons, List.cons.injEq] at h
        rw [Sum.inr.inj h.1, ih h.2]
  · rintro rfl; rfl
theorem look_pl (O : List Path) (q : Path) : (lookS (plL O) (keyP q)).isSome = decide (q ∈ O) := by
  induction O with
  | nil => rfl
  | cons p r ih =>
    by_cases h : p = q
    · simp [lookS, plL, h]
    · have h2 : ¬ keyP p = keyP q := fun e => h (keyP_inj.mp e)
      have h3 : ¬ q = p := fun e => h e.symm
      simp only [lookS, plL, List.map_cons, List.find?_cons, h2, decide_false, List.mem_cons, h3, false_or] at ih ⊢
      exact ih
theorem in_pl {P : Store} {k : Nat} {O : List Path} (h : P[k]? = some (.dT (plL O))) (q : Path) : inOf P (pathD q) (.ptr k) = some (decide (q ∈ O)) := by
  have e : dictOf P (.ptr k) = some (.t (plL O)) := by simp [dictOf, h]
  have e2 : dlook (.t (plL O)) (pathD q) = some (lookS (plL O) (keyP q)) := by simp only [dlook, tkey_path, Option.map_some]
  rw [← look_pl]
  simp only [inOf, e, e2]
  rfl
theorem put_pl {O : List Path} {q : Path} (h : q ∉ O) : putS (plL O) (keyP q) (.fz (.bool true)) = plL (O ++ [q]) := by
  have : ((plL O).any fun p => decide (p.1 = keyP q)) = false := by
    rw [List.any_eq_false]
    intro p hp
    obtain ⟨r, hr, rfl⟩ := List.mem_map.mp hp
    simp only [decide_eq_true_eq]
    exact fun e => h (keyP_inj.mp e ▸ hr)
  simp only [putS, this, Bool.false_eq_true, if_false]
  simp [plL]
theorem paths_pnm {B : Book} (G : Good B) {p : Path} (h : p ∈ pathsL B) : ∃ x ps, lookR B.tab x = some ps ∧ p ∈ ps := by
  obtain ⟨x, _, hp⟩ := mem_paths.mp h
  obtain ⟨ps, h1, h2⟩ := row_path G hp
  exact ⟨x, ps, h1, h2⟩
theorem arrows_len {B : Book} (G : Good B) {p : Path} (h : p ∈ pathsL B) : (arrows B p).length ≤ 20 := by
  obtain ⟨x, ps, h1, h2⟩ := paths_pnm G h
  have hl := (G.at h1 h2).1
  have hr := row_ok G h1
  obtain ⟨y, t, rfl, _⟩ := G.second h1 h2
  have hb := better_len ps (x :: y :: t)
  have : (tailsL (x :: y :: t)).length = (x :: y :: t).length - 2 := by simp [tailsL]
  simp only [arrows, List.length_append, this, List.headD_cons, rowOf, h1, Option.getD_some]
  omega
def readyP (B : Book) (O : List Path) : PyData → Bool
  | .int i => match (pathsL B)[i.toNat]? with
    | some p => decide (p ∉ O) && (arrows B p).all fun a => decide (a ∈ O)
    | none => false
  | _ => false
theorem in_map {O : List Path} (a : Path) : ((O.map pathD).any fun e => PyData.eqv e (pathD a)) = decide (a ∈ O) := by
  rw [List.any_map]
  simp [Function.comp_def, eqv_path, List.any_eq]
theorem all_in (O A : List Path) : gAll [.list ((A.map pathD).map fun d => .bool ((O.map pathD).any fun e => PyData.eqv e d))] = some (.bool (A.all fun a => decide (a ∈ O))) := by
  rw [List.map_map, show ((fun d => PyData.bool ((O.map pathD).any fun e => PyData.eqv e d)) ∘ pathD) = fun a => PyData.bool (decide (a ∈ O)) from ?_, gAll_map]
  funext a
  simp only [Function.comp, in_map]
theorem lc_arrows {b k i : Nat} {Z : Store} {O A : List Path} {PT : PyData} {s0 s1 s3 s5 s7 s8 : Option SV} (hk : Z[k]? = some (.dT (plL O))) (hl : A.length ≤ 1000) (he : ∀ Z, subOf Z (.fz PT) (.int (i : Int)) = some (.fz (.list (A.map pathD)))) :
    mLC [7] (iAny (mSub (mVar 4) (mVar 6))) (gNm 7) bYes (mIn false (mVar 7) (mVar 2)) ⟨b, [s0, s1, some (.ptr k), s3, some (.fz PT), s5, some (.fz (.int i)), s7, s8]⟩ Z = some (.fz (.list ((A.map pathD).map fun d => .bool ((O.map pathD).any fun e => PyData.eqv e d))), Z) := by
  refine mLC_mapP (items := A.map pathD) (src := .fz (.list (A.map pathD))) (fun d => .bool ((O.map pathD).any fun e => PyData.eqv e d)) (by
          simp only [iAny_ap, mSub_ap, mVar_ap, List.getElem?_cons_succ, List.getElem?_cons_zero, Option.join_some, Option.map_some, Option.bind_some, flat_fz, he]) (by rw [List.length_map]; exact Nat.le_trans hl (by decide)) fun d hd J2 => ?_
  obtain ⟨a, ha, rfl⟩ := List.mem_map.mp hd
  have e5 := in_pl (P := Z ++ J2) (at_app hk) a
  have e6 := in_map (O := O) a
  refine ⟨_, rfl, ?_⟩
  simp [EV.wipe, e5, e6]
theorem lc_ready {B : Book} (G : Good B) {b : Nat} {s0 s3 s5 s6 s7 s8 : Option SV} {P : Store} {k : Nat} {O : List Path} (hk : P[k]? = some (.dT (plL O))) :
    mLC [6] (iRange (aCons (mCall gLenA (aCons (mVar 1) aNil)) aNil)) (gNm 6) (mAndB (mTB (mIn true (mSub (mVar 1) (mVar 6)) (mVar 2))) (mTB (mCall gAll (aCons (mLC [7] (iAny (mSub (mVar 4) (mVar 6))) (gNm 7) bYes (mIn false (mVar 7) (mVar 2))) aNil)))) (mVar 6)
      ⟨b, [s0, some (.fz (.list ((pathsL B).map pathD))), some (.ptr k), s3, some (.fz (.list ((pathsL B).map fun p => .list ((arrows B p).map pathD)))), s5, s6, s7, s8]⟩ P
      = some (.fz (.list (((rangeD 0 (pathsL B).length).filter (readyP B O)).map fun d => d)), P) := by
  have hn := paths_len G
  refine mLC_pureP (readyP B O) (fun d => d) (iRange_nat (n := (pathsL B).length) (by simp) (by omega)) (by rw [rangeD_len]; exact Nat.le_trans hn (by decide)) fun d hd J => ?_
  simp only [rangeD, List.mem_map, List.mem_range] at hd
  obtain ⟨i, hi, rfl⟩ := hd
  have hk2 : (P ++ J)[k]? = some (.dT (plL O)) := at_app hk
  have hm : (pathsL B)[i] ∈ pathsL B := List.getElem_mem hi
  have hz : ((0 : Int) + (i : Nat)) = (i : Int) := by omega
  have hal := arrows_len G hm
  have e8 : readyP B O (.int i) = (decide ((pathsL B)[i] ∉ O) && (arrows B (pathsL B)[i]).all fun a => decide (a ∈ O)) := by
    simp [readyP, hi]
  have e1 : ∀ Z, subOf Z (.fz (.list ((pathsL B).map pathD))) (.int (i : Int)) = some (.fz (pathD (pathsL B)[i])) := fun Z => by simp [hi]
  have e2 : ∀ Z, subOf Z (.fz (.list ((pathsL B).map fun p => .list ((arrows B p).map pathD)))) (.int (i : Int)) = some (.fz (.list ((arrows B (pathsL B)[i]).map pathD))) := fun Z => by simp [hi]
  have e3 := in_pl hk2 (pathsL B)[i]
  rw [hz, e8]
  generalize (pathsL B)[i] = p at *
  generalize PyData.list ((pathsL B).map pathD) = L1 at *
  generalize PyData.list ((pathsL B).map fun p => .list ((arrows B p).map pathD)) = L2 at *
  refine ⟨⟨P.length, [s0, some (.fz L1), some (.ptr k), s3, some (.fz L2), s5, some (.fz (.int i)), s7, s8]⟩, by simp [EV.wipe], ?_, fun _ => by simp⟩
  have e4 := lc_arrows (b := P.length) (s0 := s0) (s1 := some (.fz L1)) (s3 := s3) (s5 := s5) (s7 := s7) (s8 := s8) hk2 (by omega) e2
  have e7 := all_in O (arrows B p)
  generalize ((arrows B p).map pathD).map (fun d => PyData.bool ((O.map pathD).any fun e => PyData.eqv e d)) = K at e4 e7
  simp only [mAndB_ap, mTB_ap, mIn_ap, mSub_ap, mVar_ap, List.getElem?_cons_succ, List.getElem?_cons_zero, Option.join_some, Option.map_some, Option.bind_some, flat_fz, e1, e3, mCall_ap, aCons_ap, aNil_ap, e4, flats_cons, flats_nil, e7]
  by_cases h : p ∈ O <;> simp [h]
theorem ready_mem {B : Book} {O : List Path} {d : PyData} (h : d ∈ (rangeD 0 (pathsL B).length).filter (readyP B O)) : ∃ (i : Nat) (hi : i < (pathsL B).length), d = .int i ∧ (pathsL B)[i] ∉ O ∧ ∀ a ∈ arrows B (pathsL B)[i], a ∈ O := by
  obtain ⟨h1, h2⟩ := List.mem_filter.mp h
  simp only [rangeD, List.mem_map, List.mem_range] at h1
  obtain ⟨i, hi, rfl⟩ := h1
  have hz : ((0 : Int) + (i : Nat)) = (i : Int) := by omega
  rw [hz] at h2 ⊢
  refine ⟨i, hi, rfl, ?_⟩
  simpa [readyP, hi] using h2
theorem sp_order {B : Book} (G : Good B) (P : Store) : W (m__law_order [.fz (bookD B)] P) fun r => r = (.fz .none, P) ∨ ∃ O, Ord B O ∧ (pathsL B).length ≤ O.length ∧ r = (.fz (.list (O.map pathD)), P) := by
  have hn := paths_len G
  refine W_fun ?_
  rw [b__law_order, show startE 9 [SV.fz (bookD B)] = [some (.fz (bookD B)), none, none, none, none, none, none, none, none] from rfl]
  have e0 := t_paths G P
  simp only [sSeq_ap, sSet_ap, mCallF_ap, aCons_ap, aNil_ap, mVar_ap, List.getElem?_cons_succ, List.getElem?_cons_zero, Option.join_some, Option.map_some, Option.bind_some, e0, put_ap, List.set_cons_succ, List.set_cons_zero, mDNewT_ap', mLstC_ap, List.length_nil, Nat.zero_le, if_true]
  have e4 := mLC_mapP (own := [8]) (f := iAny (mVar 1)) (g := gNm 8) (te := mCallF m__law_arrows (aCons (mVar 0) (aCons (mVar 8) aNil))) (ρ := ⟨P.length, [some (.fz (bookD B)), some (.fz (.list ((pathsL B).map pathD))), some (.ptr P.length), some (.ptr (P ++ [Cell.dT []]).length), none, none, none, none, none]⟩) (P := P ++ [Cell.dT []] ++ [.lst []])
    (items := (pathsL B).map pathD) (src := .fz (.list ((pathsL B).map pathD))) (fun d => match (pathsL B).find? (fun p => PyData.eqv (pathD p) d) with | some p => .list ((arrows B p).map pathD) | none => .none) (by simp) (by rw [List.length_map]; exact Nat.le_trans hn (by decide)) fun d hd J => by
      obtain ⟨p, hp, rfl⟩ := List.mem_map.mp hd
      obtain ⟨x, ps, h1, h2⟩ := paths_pnm G hp
      have e1 := t_arrows G h1 h2
      have e2 : (pathsL B).find? (fun q => PyData.eqv (pathD q) (pathD p)) = some p := by
        simp only [eqv_path]
        cases hf : (pathsL B).find? fun q => decide (q = p) with
        | none => rw [List.find?_eq_none] at hf; exact absurd (hf p hp) (by simp)
        | some q => have := List.find?_some hf; simp at this; rw [this]
      refine ⟨_, rfl, ?_⟩
      simp [EV.wipe, e1, e2]
  have e5 : ((pathsL B).map pathD).map (fun d => match (pathsL B).find? (fun p => PyData.eqv (pathD p) d) with | some p => PyData.list ((arrows B p).map pathD) | none => .none) = (pathsL B).map fun p => .list ((arrows B p).map pathD) := by
    rw [List.map_map]
    refine List.map_congr_left fun p hp => ?_
    simp only [Function.comp, eqv_path]
    cases hf : (pathsL B).find? fun q => decide (q = p) with
    | none => rw [List.find?_eq_none] at hf; exact absurd (hf p hp) (by simp)
    | some q => have := List.find?_some hf; simp at this; rw [this]
  rw [e5] at e4
  simp only [e4, Option.map_some, Option.bind_some, put_ap, List.set_cons_succ, List.set_cons_zero, W_bind]
  refine W_while (fun k ρ Z => ∃ (O : List Path) (s5 s6 s7 s8 : Option SV), Ord B O ∧ k = (pathsL B).length - O.length ∧ ρ = ⟨P.length, [some (.fz (bookD B)), some (.fz (.list ((pathsL B).map pathD))), some (.ptr P.length), some (.ptr (P.length + 1)), some (.fz (.list ((pathsL B).map fun p => .list ((arrows B p).map pathD)))), s5, s6, s7, s8]⟩ ∧ Z = P ++ [.dT (plL O), orC O]) ?_ (k := (pathsL B).length) ⟨[], none, none, none, none, .nil, by simp, by simp, by simp [plL, orC]⟩ (by omega)
  rintro k ρ Z ⟨O, s5, s6, s7, s8, ho, hk, rfl, rfl⟩
  have hol := ho.len
  have hc3 : flat (P ++ [Cell.dT (plL O), orC O]) (.ptr (P.length + 1)) = some (.list (O.map pathD)) := by
    simp only [flat]
    rw [List.getElem?_append_right (by omega)]
    simp [orC_dat]
  by_cases hlt : O.length < (pathsL B).length
  · have hd : decide ((O.length : Int) < (pathsL B).length) = true := by simp; omega
    have hc2 : (P ++ [Cell.dT (plL O), orC O])[P.length]? = some (.dT (plL O)) := by simp
    have er := lc_ready G (b := P.length) (s0 := some (.fz (bookD B))) (s3 := some (.ptr (P.length + 1))) (s5 := s5) (s6 := s6) (s7 := s7) (s8 := s8) hc2
    rw [List.map_id'] at er
    have hmem := fun d => ready_mem (B := B) (O := O) (d := d)
    generalize (rangeD 0 (pathsL B).length).filter (readyP B O) = L at er hmem
    simp only [mTB_ap, mBin_ap, mCall_ap, aCons_ap, aNil_ap, mVar_ap, List.getElem?_cons_succ, List.getElem?_cons_zero, Option.join_some, Option.map_some, Option.bind_some, flats_cons, flats_nil, hc3, flat_fz, gLenA_lst, List.length_map, dLt_int, hd, W_some, if_true, sSeq_ap, sSet_ap, er, put_ap, List.set_cons_succ, List.set_cons_zero]
    cases L with
    | nil => simp
    | cons d L =>
      obtain ⟨i, hi, rfl, hno, har⟩ := hmem d List.mem_cons_self
      have e1 : ∀ Z, subOf Z (.fz (.list ((pathsL B).map pathD))) (.int (i : Int)) = some (.fz (pathD (pathsL B)[i])) := fun Z => by simp [hi]
      have e0 : ∀ Z, subOf Z (.fz (.list (PyData.int i :: L))) (.int 0) = some (.fz (.int i)) := fun Z => by rw [subOf_lst]; simp
      have hz1 : (plL O).length < sizeLine := by simp only [plL, List.length_map]; exact Nat.lt_of_lt_of_le (show O.length < 100 by omega) (by decide)
      have hz2 : ((O.map pathD).map SV.fz).length < sizeLine := by simp only [List.length_map]; exact Nat.lt_of_lt_of_le (show O.length < 100 by omega) (by decide)
      have hput := put_pl hno
      have hnz : (((L.length : Int) + 1) = 0) = False := by simp; omega
      have hset1 : ∀ x y z : Cell, (P ++ [x, y]).set P.length z = P ++ [z, y] := fun x y z => by
        rw [List.set_append_right _ _ (Nat.le_refl _)]; simp
      have hset2 : ∀ x y z : Cell, (P ++ [x, y]).set (P.length + 1) z = P ++ [x, z] := fun x y z => by
        rw [List.set_append_right _ _ (by omega)]; simp
      have hat2 : ∀ x y : Cell, (P ++ [x, y])[P.length + 1]? = some y := fun x y => by
        rw [List.getElem?_append_right (by omega)]; simp
      have hz3 : O.length < sizeLine := by simpa using hz2
      rw [show orC O = .lst ((O.map pathD).map SV.fz) from rfl]
      simp [-subOf_lst, hnz, e0, e1, Pd.sDPut, hc2, hz1, tkey_path, hput, hset1, hset2, hat2, hz3, -List.map_map]
      refine ⟨(pathsL B).length - (O ++ [(pathsL B)[i]]).length, ?_, O ++ [(pathsL B)[i]], ho.snoc (List.getElem_mem hi) hno har, rfl, rfl, ?_⟩
      · simp; omega
      · simp [orC]
  · have hd : decide ((O.length : Int) < (pathsL B).length) = false := by simp; omega
    have hx : exitZ P.length (.ptr (P.length + 1)) (P ++ [Cell.dT (plL O), orC O]) = some (.fz (.list (O.map pathD)), P) := by
      rw [exitZ_ptr (c := orC O) (by omega) (by rw [List.getElem?_append_right (by omega)]; simp) (orC_dat O)]
      simp
    simp [hc3, hlt, hx]
    exact ⟨O, ho, by omega, rfl⟩
end NS

set_option maxHeartbeats 1000000
set_option linter.all false
set_option maxRecDepth 10000
namespace NS
open PySem Pd L2
/-! ### new tables, row by row -/
def tkv (T : Tab) : List (Key × SV) := kv (T.map fun q => (q.1, rowD q.2))
theorem tkv_dat (T : Tab) : (Cell.dK (tkv T)).dat = some (tabD T) := dat_kv _
theorem tkv_put {T : Tab} {x : Str} (h : x ∉ T.map (·.1)) (ps : List Path) : putS (tkv T) (Sum.inr x) (.fz (rowD ps)) = tkv (T ++ [(x, ps)]) := by
  have := putS_new (T.map fun q => (q.1, rowD q.2)) x (rowD ps) (by simpa [Function.comp_def] using h)
  rw [tkv, this, tkv]
  simp
theorem tkv_len (T : Tab) : (tkv T).length = T.length := by simp [tkv, kv]
theorem keys_strs (B : Book) : ((B.tab.map fun q => (q.1, rowD q.2)).map fun p => PyData.str p.1) = B.keys.map .str := by
  simp [Book.keys, Function.comp_def]
theorem iAny_tab {B : Book} {f : XM} {ρ : EV} {P : Store} (h : f ρ P = some (.fz (tabD B.tab), P)) : iAny f ρ P = some (B.keys.map .str, .fz (tabD B.tab), P) := by
  rw [← keys_strs]
  simp only [iAny_ap, h, Option.bind_some, tabD, dctD, isKD_dct, keysD_dct, if_true]
theorem W_table {B : Book} (G : Good B) (f : List Path → List Path) {body : SM} {P : Store} {s0 s1 s3 : Option SV} {rest : List (Option SV)} {m : Nat} (hm : rest.length = m) {Q : Fl × EV × Store → Prop}
    (hs : ∀ q ∈ B.tab, ∀ (T : Tab) (rest : List (Option SV)), rest.length = m → T.length ≤ 8 → q.1 ∉ T.map (·.1) → W (body ⟨P.length, s0 :: s1 :: some (.ptr P.length) :: some (.fz (.str q.1)) :: rest⟩ (P ++ [.dK (tkv T)])) fun r => r.1 = .nx ∧ ∃ rest', rest'.length = m ∧ r.2 = (⟨P.length, s0 :: s1 :: some (.ptr P.length) :: some (.fz (.str q.1)) :: rest'⟩, P ++ [.dK (tkv (T ++ [(q.1, f q.2)]))]))
    (hQ : ∀ s3 rest', rest'.length = m → Q (.nx, ⟨P.length, s0 :: s1 :: some (.ptr P.length) :: s3 :: rest'⟩, P ++ [.dK (tkv (B.tab.map fun q => (q.1, f q.2)))])) :
    W (forGo (gNm 3) body (B.keys.map .str) ⟨P.length, s0 :: s1 :: some (.ptr P.length) :: s3 :: rest⟩ (P ++ [.dK []])) Q := by
  have hT := G.tabLen
  refine W_forR (fun i ρ Z => ∃ s3 rest', rest'.length = m ∧ ρ = ⟨P.length, s0 :: s1 :: some (.ptr P.length) :: s3 :: rest'⟩ ∧ Z = P ++ [.dK (tkv ((B.tab.take i).map fun q => (q.1, f q.2)))]) ⟨s3, rest, hm, rfl, rfl⟩ ?_ ?_
  · rintro i d ρ Z hd ⟨s3, rest', hm', rfl, rfl⟩
    rw [List.getElem?_map, Option.map_eq_some_iff] at hd
    obtain ⟨n, hni, rfl⟩ := hd
    rw [Book.keys, List.getElem?_map, Option.map_eq_some_iff] at hni
    obtain ⟨q, hq, rfl⟩ := hni
    obtain ⟨hi, e⟩ := List.getElem?_eq_some_iff.mp hq
    simp only [gNm_ap, W_some, put_ap, List.set_cons_succ, List.set_cons_zero]
    have hsplit : B.tab.take (i + 1) = B.tab.take i ++ [q] := by rw [List.take_succ_eq_append_getElem hi, e]
    have hnd := G.nd
    have hk : q.1 ∉ ((B.tab.take i).map fun q => (q.1, f q.2)).map (·.1) := by
      intro h
      have h2 : B.tab = B.tab.take i ++ B.tab.drop i := (List.take_append_drop i _).symm
      rw [Book.keys, h2, List.map_append, List.nodup_append] at hnd
      refine hnd.2.2 q.1 ?_ q.1 ?_ rfl
      · simpa [Function.comp_def] using h
      · rw [List.drop_eq_getElem_cons hi, e]; simp
    have := hs q (List.mem_of_getElem? hq) ((B.tab.take i).map fun q => (q.1, f q.2)) rest' hm' (by simp; omega) hk
    refine this.mono ?_
    rintro ⟨fl, ρ2, Z2⟩ ⟨rfl, rest2, h2, he⟩
    cases he
    refine .inl ⟨rfl, _, rest2, h2, rfl, ?_⟩
    rw [hsplit, List.map_append]; rfl
  · rintro ρ Z ⟨s3, rest', hm', rfl, rfl⟩
    have := hQ s3 rest' hm'
    rwa [List.length_map, Book.keys, List.length_map, List.take_length]
/-- the book with another table -/
def withT (B : Book) (f : List Path → List Path) : Book := ⟨B.ends, B.tab.map fun q => (q.1, f q.2)⟩
theorem lookR_map {α β : Type} (f : α → β) (T : List (Str × α)) (x : Str) : lookR (T.map fun q => (q.1, f q.2)) x = (lookR T x).map f := by
  induction T with
  | nil => rfl
  | cons p r ih =>
    by_cases h : p.1 = x
    · simp [lookR, List.find?_cons, h]
    · simpa [lookR, List.find?_cons, h] using ih
theorem good_with {B : Book} (G : Good B) (f : List Path → List Path) (hsub : ∀ ps, (f ps).length ≤ ps.length ∧ ∀ p ∈ f ps, p ∈ ps) (hu : ∀ ps : List Path, ps.Nodup → (f ps).Nodup)
    (hlet : ∀ q ∈ B.tab, ∀ x y z r, x :: y :: z :: r ∈ f q.2 → ∀ ps, (y, ps) ∈ B.tab → (y :: z :: r) ∈ ps → (y :: z :: r) ∈ f ps) : Good (withT B f) := by
  have hkeys : (withT B f).keys = B.keys := by simp [withT, Book.keys, Function.comp_def]
  refine ⟨G.endsNe, G.endsNm, G.endsLen, by simpa [withT] using G.tabLen, hkeys ▸ G.nd, hkeys ▸ G.nm, hkeys ▸ G.sep, ?_, ?_, ?_⟩
  · intro q hq
    obtain ⟨q0, h0, rfl⟩ := List.mem_map.mp hq
    exact Nat.le_trans (hsub _).1 (G.many q0 h0)
  · intro q hq
    obtain ⟨q0, h0, rfl⟩ := List.mem_map.mp hq
    exact hu _ (G.uniq q0 h0)
  · intro q hq p hp
    obtain ⟨q0, h0, rfl⟩ := List.mem_map.mp hq
    obtain ⟨h1, t, e, h2⟩ := G.path q0 h0 p ((hsub _).2 p hp)
    refine ⟨h1, t, e, ?_⟩
    match t, h2 with
    | [e], h2 => exact h2
    | y :: z :: r, ⟨ps, h3, h4⟩ =>
      subst e
      refine ⟨f ps, List.mem_map.mpr ⟨(y, ps), h3, rfl⟩, ?_⟩
      exact hlet q0 h0 _ y z r hp ps h3 h4
theorem len2 {α : Type} {l : List α} (h : l.length = 2) : ∃ a b, l = [a, b] := by
  match l, h with
  | [a, b], _ => exact ⟨a, b, rfl⟩
theorem len3 {α : Type} {l : List α} (h : l.length = 3) : ∃ a b c, l = [a, b, c] := by
  match l, h with
  | [a, b, c], _ => exact ⟨a, b, c, rfl⟩
/-! struck -/
def pathP (f : Path → Bool) : PyData → Bool
  | .tuple ds => match strsD ds with
    | some p => f p
    | none => false
  | _ => false
theorem pathP_ap (f : Path → Bool) (p : Path) : pathP f (pathD p) = f p := by simp [pathP, pathD, strsD_map]
theorem filter_paths (f : Path → Bool) (ps : List Path) : (ps.map pathD).filter (pathP f) = (ps.filter f).map pathD := by
  induction ps with
  | nil => rfl
  | cons p r ih =>
    by_cases h : f p = true
    · simp [List.filter_cons, pathP_ap, h, ih]
    · simp [List.filter_cons, pathP_ap, h, ih]
theorem in_listP {L : List Path} (hL : ∀ p ∈ L, PNm p ∧ p.length ≤ 1000) (hl : L.length ≤ 1000) {q : Path} (hq : PNm q) (P : Store) : inOf P (pathD q) (.fz (.list (L.map pathD))) = some (decide (q ∈ L)) := by
  have h1 := okD_shaped (paths_okD hL hl) (by omega)
  rw [inOf_lst, if_pos ⟨hq.shaped, h1⟩, in_map]
theorem tails_mem {p q : Path} (h : q ∈ tailsL p) : ∃ k, q = p.drop k := by
  obtain ⟨k, _, rfl⟩ := List.mem_map.mp h
  exact ⟨_, rfl⟩
end NS

set_option maxHeartbeats 1000000
set_option linter.all false
set_option maxRecDepth 10000
namespace NS
open PySem Pd L2
theorem seq_nx {m n : SM} {ρ ρ1 : EV} {P P1 : Store} (h : m ρ P = some (.nx, ρ1, P1)) : sSeq m n ρ P = n ρ1 P1 := by rw [sSeq_ap, h]; rfl
theorem for_at {f : IM} {g : GM} {body : SM} {ρ : EV} {P P1 : Store} {items : List PyData} {src : SV} (h : f ρ P = some (items, src, P1)) : sFor f g body ρ P = forGo g body items ρ P1 := by rw [sFor_ap, h]; rfl
/-! ### parts of the law -/
theorem if_ff {C : BM} {A : SM} {ρ : EV} {P P1 : Store} (h : C ρ P = some (false, P1)) : sIf C A sNx ρ P = some (.nx, ρ, P1) := by
  rw [sIf_ap, h]; rfl
theorem ife_t {c : BM} {f g : XM} {ρ : EV} {P P1 : Store} (h : c ρ P = some (true, P1)) : mIfE c f g ρ P = f ρ P1 := by rw [mIfE_ap, h]; rfl
theorem ife_f {c : BM} {f g : XM} {ρ : EV} {P P1 : Store} (h : c ρ P = some (false, P1)) : mIfE c f g ρ P = g ρ P1 := by rw [mIfE_ap, h]; rfl
theorem callF_at {F : FM} {g : AM} {ρ : EV} {P P1 : Store} {l : List SV} (h : g ρ P = some (l, P1)) : mCallF F g ρ P = F l P1 := by rw [mCallF_ap, h]; rfl
theorem W_seq {m n : SM} {ρ : EV} {P : Store} {Q : Fl × EV × Store → Prop} (h : W (m ρ P) fun r => r.1 = .nx ∧ W (n r.2.1 r.2.2) Q) : W (sSeq m n ρ P) Q := by
  obtain ⟨⟨fl, ρ1, P1⟩, e, h1, h2⟩ := h
  simp only at h1
  subst h1
  rw [seq_nx e]
  exact h2
theorem W_set {i : Nat} {f : XM} {ρ : EV} {P : Store} {Q : Fl × EV × Store → Prop} (h : W (f ρ P) fun r => Q (.nx, ρ.put i r.1, r.2)) : W (sSet i f ρ P) Q := by
  obtain ⟨⟨s, P1⟩, e, h1⟩ := h
  rw [sSet_ap, e]
  exact ⟨_, rfl, h1⟩
theorem W_callF {F : FM} {g : AM} {ρ : EV} {P P1 : Store} {l : List SV} {Q : SV × Store → Prop} (h : g ρ P = some (l, P1)) (q : W (F l P1) Q) : W (mCallF F g ρ P) Q := by rw [callF_at h]; exact q
end NS

set_option maxHeartbeats 1000000
set_option linter.all false
set_option maxRecDepth 10000
namespace NS
open PySem Pd L2
/-! ### names that are unlike -/
def hd1 (x : Str) : Option Nat := x.cps.toList.head?
def sHd : PyData → Option Nat
  | .str x => hd1 x
  | _ => none
theorem hd1_app {x y : Str} {m : Nat} (hm : 0 < m) (h : Sm m x) : hd1 (x ++ y) = hd1 x := by
  have h1 := h.1
  rw [str_len] at h1
  unfold hd1
  rw [app_toList]
  cases e : x.cps.toList with
  | nil => rw [e] at h1; simp at h1; omega
  | cons k r => rfl
theorem nodup_map {α β : Type} {f : α → β} : ∀ {l : List α}, (l.map f).Nodup → l.Nodup
  | [], _ => List.nodup_nil
  | x :: r, h => by
    rw [List.map_cons, List.nodup_cons] at h
    exact List.nodup_cons.mpr ⟨fun hx => h.1 (List.mem_map.mpr ⟨x, hx, rfl⟩), nodup_map h.2⟩
theorem sp_names2 (c : St) (h : c.ok) (n : Nat) (hn : n ≤ 26) (R : Store) : W (m__law_names [.ptr 0, .fz (.int n)] (c.cell :: R)) fun r => ∃ (ns : List Str) (c' : St), St.ok c' ∧ ns.length = n ∧ (∀ x ∈ ns, Nm x) ∧ ns.Nodup ∧ r = (.fz (.list (ns.map .str)), St.cell c' :: R) := by
  obtain ⟨l, c1, ok1, hperm, e1⟩ := t_mixed c h (signsD alpha) (by rw [signsD, List.length_map, alpha_ok.1]; decide) R
  have hl26 : l.length = 26 := by rw [hperm.length_eq, signsD, List.length_map, alpha_ok.1]
  have hmem : ∀ d ∈ l, ∃ x, Sm 1 x ∧ d = .str x := by
    intro d hd
    have := hperm.mem_iff.mp hd
    rw [signsD] at this
    obtain ⟨k, hk, rfl⟩ := List.mem_map.mp this
    exact ⟨_, Sm.one (alpha_ok.2.2 k hk), rfl⟩
  have hgl := gListA_str alpha_ok.2.1
  refine W_fun ?_
  rw [b__law_names, show startE 8 [SV.ptr 0, .fz (.int n)] = [some (.ptr 0), some (.fz (.int n)), none, none, none, none, none, none] from rfl, sSeq_ap]
  have hct := cut_take l n (by omega)
  have hb : (c.cell :: R).length = R.length + 1 := by simp
  rw [hb]
  rw [show (sSet 2 (mSl (mCallF m__law_mixed (aCons (mVar 0) (aCons (mCall gListA (aCons (mC (.str "abcdefghijklmnopqrstuvwxyz")) aNil)) aNil))) oNone (oSome (mVar 1)))) ⟨R.length + 1, [some (.ptr 0), some (.fz (.int n)), none, none, none, none, none, none]⟩ (c.cell :: R) = some (.nx, ⟨R.length + 1, [some (.ptr 0), some (.fz (.int n)), some (.fz (.list (l.take n))), none, none, none, none, none]⟩, c1.cell :: R) by
    have hgl' : gListA [.str "abcdefghijklmnopqrstuvwxyz"] = some (.list (signsD alpha)) := hgl
    simp [hgl', e1, hct]]
  simp only [Option.bind_some]
  rw [sSeq_ap, show (sSet 3 (mLstC aNil)) ⟨R.length + 1, [some (.ptr 0), some (.fz (.int n)), some (.fz (.list (l.take n))), none, none, none, none, none]⟩ (c1.cell :: R) = some (.nx, ⟨R.length + 1, [some (.ptr 0), some (.fz (.int n)), some (.fz (.list (l.take n))), some (.ptr (R.length + 1)), none, none, none, none]⟩, c1.cell :: (R ++ [.lst []])) by simp]
  simp only [Option.bind_some]
  rw [sSeq_ap, sFor_ap, iAny_ap]
  simp only [mVar_ap, List.getElem?_cons_succ, List.getElem?_cons_zero, Option.join_some, Option.map_some, Option.bind_some, W_bind]
  refine W_for (fun i ρ S => ∃ (ns : List Str) (c' : St) (s4 s5 s6 s7 : Option SV), St.ok c' ∧ ns.length = i ∧ (∀ x ∈ ns, Nm x) ∧ ns.map hd1 = (l.take i).map sHd ∧ ρ = ⟨R.length + 1, [some (.ptr 0), some (.fz (.int n)), some (.fz (.list (l.take n))), some (.ptr (R.length + 1)), s4, s5, s6, s7]⟩ ∧ S = St.cell c' :: (R ++ [.lst ((ns.map .str).map SV.fz)])) ⟨[], c1, none, none, none, none, ok1, rfl, by simp, by simp, rfl, rfl⟩ ?_ ?_
  · rintro i d ρ S hd ⟨ns, c2, s4, s5, s6, s7, ok2, hi, hns, hhd, rfl, rfl⟩
    obtain ⟨x, hx, rfl⟩ := hmem d (List.mem_of_mem_take (List.mem_of_getElem? hd))
    have hi26 : i < 26 := by
      have := (List.getElem?_eq_some_iff.mp hd).1
      simp at this; omega
    have hnew : ∀ y, hd1 y = hd1 x → (ns ++ [y]).map hd1 = (l.take (i + 1)).map sHd := fun y hy => by
      have hd' := hd
      rw [List.getElem?_take] at hd'
      split at hd'
      · obtain ⟨hil, e⟩ := List.getElem?_eq_some_iff.mp hd'
        rw [List.take_succ_eq_append_getElem hil, List.map_append, List.map_append, hhd, e]
        simp [sHd, hy]
      · cases hd'
    rw [gNm_ap, W_some]
    simp only [sSeq_ap, sSet_ap, mVar_ap, put_ap, List.set_cons_succ, List.set_cons_zero, List.getElem?_cons_succ, List.getElem?_cons_zero, Option.join_some, Option.map_some, Option.bind_some, W_bind, sFor_ap]
    refine W_range ?_
    simp
    refine (sp_next c2 ok2 4 (by decide) _).mono ?_
    rintro _ ⟨v, c3, ok3, v0, v1, rfl⟩
    obtain ⟨m, hm, hat⟩ := nm_atI v v0 v1
    simp [hat]
    refine ⟨m, by omega, rfl, ?_⟩
    refine W_for (fun j ρ S => ∃ (y : Str) (c' : St) (s6 : Option SV), St.ok c' ∧ Sm (1 + j) y ∧ hd1 y = hd1 x ∧ ρ = ⟨R.length + 1, [some (.ptr 0), some (.fz (.int n)), some (.fz (.list (l.take n))), some (.ptr (R.length + 1)), some (.fz (.str x)), some (.fz (.str y)), s6, s7]⟩ ∧ S = St.cell c' :: (R ++ [.lst ((ns.map .str).map SV.fz)])) ⟨x, c3, s6, ok3, hx, rfl, rfl, by simp⟩ ?_ ?_
    · rintro j d2 ρ S hd2 ⟨y, c4, s6', ok4, hy, hyh, rfl, rfl⟩
      obtain ⟨hj, rfl⟩ := rangeD_get hd2
      rw [gNm_ap, W_some]
      simp
      refine (sp_pickS c4 ok4 alnum alnum_ok.1 alnum_ok.2.1 _).mono ?_
      rintro _ ⟨k, c5, ok5, hk, rfl⟩
      have h1 := Sm.one (alnum_ok.2.2 k hk)
      have ha := dAdd_str y ⟨#[k]⟩ (by rw [hy.1, h1.1]; omega)
      simp [ha]
      exact ⟨_, c5, ok5, by rw [← Nat.add_assoc]; exact hy.app h1, by rw [hd1_app (by omega) hy, hyh], rfl, rfl⟩
    · rintro ρ S ⟨y, c4, s6', ok4, hy, hyh, rfl, rfl⟩
      rw [rangeD_len] at hy
      have hyn : Nm y := hy.nm (by omega)
      have hin : ∀ S, inOf S (.str y) (.fz (.list (taken.map .str))) = some (decide (y ∈ taken)) := in_list taken_ok hyn.strOk
      have hin' : ∀ S, inOf S (.str y) (.fz (.list [.str "any", .str "rest", .str "many", .str "if", .str "then", .str "and", .str "not", .str "refuse", .str "keep", .str "from", .str "to"])) = some (decide (y ∈ taken)) := hin
      have ha := dAdd_str x "0" (by rw [hx.1, zero_sm.1]; decide)
      have hlz : ns.length < sizeLine := Nat.lt_of_lt_of_le (show ns.length < 26 by omega) (by decide)
      by_cases ht : y ∈ taken
      · simp [hin', ht, ha, -inOf_lst, hlz]
        exact ⟨ns ++ [x ++ "0"], c4, ok4, by simp [hi], by
          intro z hz
          rcases List.mem_append.mp hz with hz | hz
          · exact hns z hz
          · simp at hz; subst hz; exact (hx.app zero_sm).nm (by decide), by rw [← List.map_take]; exact hnew _ (hd1_app (by decide) hx), by simp⟩
      · simp [hin', ht, -inOf_lst, hlz]
        exact ⟨ns ++ [y], c4, ok4, by simp [hi], by
          intro z hz
          rcases List.mem_append.mp hz with hz | hz
          · exact hns z hz
          · simp at hz; subst hz; exact hyn, by rw [← List.map_take]; exact hnew _ hyh, by simp⟩
  · rintro ρ S ⟨ns, c2, s4, s5, s6, s7, ok2, hi, hns, hhd, rfl, rfl⟩
    have hx : exitZ (R.length + 1) (.ptr (R.length + 1)) (St.cell c2 :: (R ++ [.lst ((ns.map .str).map SV.fz)])) = some (.fz (.list (ns.map .str)), St.cell c2 :: R) := by
      rw [exitZ_ptr (Nat.le_refl _) (c := .lst ((ns.map .str).map SV.fz)) (by simp) (by rw [dat_lst, fzs_map]; rfl)]
      simp
    simp [-List.map_map, hx]
    have hnd : ns.Nodup := by
      have h1 : (l.map sHd).Nodup := (hperm.map sHd).nodup_iff.mpr (by decide +kernel)
      have h2 : ((l.take n).map sHd).Nodup := ((List.take_sublist n l).map sHd).nodup h1
      rw [List.length_take] at hhd
      have h3 : l.take (min n l.length) = l.take n := by
        congr 1; omega
      rw [h3] at hhd
      rw [← hhd] at h2
      exact nodup_map h2
    rw [List.length_take] at hi
    exact ⟨ns, c2, ok2, by omega, hns, hnd, rfl, rfl⟩
end NS

set_option maxHeartbeats 1000000
set_option linter.all false
set_option maxRecDepth 10000
namespace NS
open PySem Pd L2
/-! ### links -/
def lnK (p : Str × Str) : List Key := [Sum.inr p.1, Sum.inr p.2]
def lnL (L : List (Str × Str)) : List (List Key × SV) := L.map fun p => (lnK p, .fz (.bool true))
def linkD (L : List (Str × Str)) : PyData := .dict (L.map fun p => (.tuple [.str p.1, .str p.2], .bool true))
theorem ln_put (L : List (Str × Str)) (p : Str × Str) : ∃ L', putS (lnL L) (lnK p) (.fz (.bool true)) = lnL L' ∧ L' ≠ [] ∧ L'.length ≤ L.length + 1 := by
  by_cases h : ((lnL L).any fun q => decide (q.1 = lnK p)) = true
  · refine ⟨L, ?_, ?_, by omega⟩
    · simp only [putS, h, if_true]
      simp only [lnL, List.map_map]
      refine List.map_congr_left fun q _ => ?_
      simp only [Function.comp]
      split <;> rfl
    · rintro rfl; simp [lnL] at h
  · refine ⟨L ++ [p], ?_, by simp, by simp⟩
    simp only [putS, h, if_false]
    simp [lnL]
theorem ln_dat {L : List (Str × Str)} (h : L ≠ []) : (Cell.dT (lnL L)).dat = some (linkD L) := by
  have h1 : (lnL L).isEmpty = false := by cases L <;> simp_all [lnL]
  have h2 : (lnL L).map (·.2) = (L.map fun _ => PyData.bool true).map SV.fz := by simp [lnL]
  have h3 : ((lnL L).map fun p => PyData.tuple (p.1.map keyD)).zip (L.map fun _ => PyData.bool true) = L.map fun p => (.tuple [.str p.1, .str p.2], .bool true) := by
    clear h h1 h2
    induction L with
    | nil => rfl
    | cons p r ih => simpa [lnL, lnK, keyD] using ih
  simp only [Cell.dat, h1, h2, fzs_map, Option.map_some, h3, linkD, Bool.false_eq_true, if_false]
theorem ln_parse : ∀ L : List (Str × Str), parseT (L.map fun p => (PyData.tuple [.str p.1, .str p.2], PyData.bool true)) = some (lnL L)
  | [] => rfl
  | p :: r => by simp [parseT, tkeyOf, keysOf, keyOf, ln_parse r, lnL, lnK]
theorem in_link {L : List (Str × Str)} (h : L ≠ []) (x y : Str) (P : Store) : ∃ b, inOf P (.tuple [.str x, .str y]) (.fz (linkD L)) = some b := by
  have e : dictOf P (.fz (linkD L)) = some (.t (lnL L)) := by
    cases L with
    | nil => exact absurd rfl h
    | cons p r =>
      have := ln_parse (p :: r)
      simp only [List.map_cons] at this
      simp [dictOf, linkD, parseK, keyOf, this]
  have e2 : dlook (.t (lnL L)) (.tuple [.str x, .str y]) = some (lookS (lnL L) [Sum.inr x, Sum.inr y]) := by simp [dlook, tkeyOf, keysOf, keyOf]
  refine ⟨_, by simp only [inOf, e, e2]; rfl⟩
def bLn : SM := (sIf (mOrB (mTB (mBin dEq (mBin dAdd (mVar 5) (mC (.int 1))) (mVar 4))) (mTB (mBin dLt (mCallF m__law_next (aCons (mVar 0) (aCons (mC (.int 5)) aNil))) (mVar 3)))) (sSeq (sDPut (mVar 2) (mTup (aCons (mSub (mVar 1) (mVar 5)) (aCons (mSub (mVar 1) (mVar 4)) aNil))) (mC (.bool true)))
  (sDPut (mVar 2) (mTup (aCons (mSub (mVar 1) (mVar 4)) (aCons (mSub (mVar 1) (mVar 5)) aNil))) (mC (.bool true)))) sNx)
theorem b_links : b__law_links = (sSeq (sSet 2 mDNewT)
  (sSeq (sSet 3 (mBin dAdd (mC (.int 1)) (mCallF m__law_next (aCons (mVar 0) (aCons (mC (.int 4)) aNil)))))
  (sSeq (sFor (iRange (aCons (mCall gLenA (aCons (mVar 1) aNil)) aNil)) (gNm 4) (sFor (iRange (aCons (mVar 4) aNil)) (gNm 5) bLn))
  (sRet (mVar 2))))) := rfl
theorem sp_bLn {ns : List Str} (hns : ns.length ≤ 26) {c : St} (h : c.ok) {R : Store} {L : List (Str × Str)} (hL : L.length ≤ 10000) {sh : Int} {k j : Nat} (hj : j < k) (hk : k < ns.length) :
    W (bLn ⟨R.length + 1, [some (.ptr 0), some (.fz (.list (ns.map .str))), some (.ptr (R.length + 1)), some (.fz (.int sh)), some (.fz (.int k)), some (.fz (.int j))]⟩ (c.cell :: (R ++ [.dT (lnL L)]))) fun r => r.1 = .nx ∧ ∃ (c' : St) (L' : List (Str × Str)), c'.ok ∧ L'.length ≤ L.length + 2 ∧ (L ≠ [] → L' ≠ []) ∧ (j + 1 = k → L' ≠ []) ∧ r.2 = (⟨R.length + 1, [some (.ptr 0), some (.fz (.list (ns.map .str))), some (.ptr (R.length + 1)), some (.fz (.int sh)), some (.fz (.int k)), some (.fz (.int j))]⟩, c'.cell :: (R ++ [.dT (lnL L')])) := by
  have hjn : j < ns.length := by omega
  have e1 : ∀ Z, subOf Z (.fz (.list (ns.map .str))) (.int (j : Int)) = some (.fz (.str ns[j])) := fun Z => by simp [hjn]
  have e2 : ∀ Z, subOf Z (.fz (.list (ns.map .str))) (.int (k : Int)) = some (.fz (.str ns[k])) := fun Z => by simp [hk]
  have hs2 : (2 : Nat) ≤ sizeLine := by decide
  obtain ⟨L1, p1, n1, l1⟩ := ln_put L (ns[j], ns[k])
  obtain ⟨L2, p2, n2, l2⟩ := ln_put L1 (ns[k], ns[j])
  have z1 : (lnL L).length < sizeLine := by simp only [lnL, List.length_map]; exact Nat.lt_of_le_of_lt hL (by decide)
  have z2 : (lnL L1).length < sizeLine := by simp only [lnL, List.length_map]; exact Nat.lt_of_le_of_lt (show _ ≤ 10001 by omega) (by decide)
  have at1 : ∀ (x y : Cell), (x :: (R ++ [y]))[R.length + 1]? = some y := fun x y => by simp
  have set1 : ∀ (x y z : Cell), (x :: (R ++ [y])).set (R.length + 1) z = x :: (R ++ [z]) := fun x y z => by
    rw [List.set_cons_succ, List.set_append_right _ _ (Nat.le_refl _)]; simp
  have k1 : keysOf [PyData.str ns[j], .str ns[k]] = some (lnK (ns[j], ns[k])) := rfl
  have k2 : keysOf [PyData.str ns[k], .str ns[j]] = some (lnK (ns[k], ns[j])) := rfl
  -- the two puts
  have puts : ∀ c : St, (sSeq (Pd.sDPut (mVar 2) (mTup (aCons (mSub (mVar 1) (mVar 5)) (aCons (mSub (mVar 1) (mVar 4)) aNil))) (mC (.bool true)))
      (Pd.sDPut (mVar 2) (mTup (aCons (mSub (mVar 1) (mVar 4)) (aCons (mSub (mVar 1) (mVar 5)) aNil))) (mC (.bool true)))) ⟨R.length + 1, [some (.ptr 0), some (.fz (.list (ns.map .str))), some (.ptr (R.length + 1)), some (.fz (.int sh)), some (.fz (.int k)), some (.fz (.int j))]⟩ (c.cell :: (R ++ [.dT (lnL L)])) = some (.nx, ⟨R.length + 1, [some (.ptr 0), some (.fz (.list (ns.map .str))), some (.ptr (R.length + 1)), some (.fz (.int sh)), some (.fz (.int k)), some (.fz (.int j))]⟩, c.cell :: (R ++ [.dT (lnL L2)])) := fun c => by
    simp [-subOf_lst, Pd.sDPut, e1, e2, fzs, hs2, at1, z1, tkeyOf, k1, p1, set1, z2, k2, p2]
  rw [bLn, sIf_ap]
  generalize (sSeq (Pd.sDPut (mVar 2) (mTup (aCons (mSub (mVar 1) (mVar 5)) (aCons (mSub (mVar 1) (mVar 4)) aNil))) (mC (.bool true)))
      (Pd.sDPut (mVar 2) (mTup (aCons (mSub (mVar 1) (mVar 4)) (aCons (mSub (mVar 1) (mVar 5)) aNil))) (mC (.bool true)))) = SS at puts ⊢
  by_cases hc : j + 1 = k
  · have hci : ((j : Int) + 1 = k) := by omega
    simp [hci, puts]
    exact ⟨c, h, L2, by omega, fun _ => n2, fun _ => n2, rfl, rfl⟩
  · have hci : ¬ ((j : Int) + 1 = k) := by omega
    simp [hci]
    refine (sp_next c h 5 (by decide) _).mono ?_
    rintro _ ⟨v, c3, ok3, v0, v1, rfl⟩
    by_cases hv : v < sh
    · simp [hv, puts]
      exact ⟨c3, ok3, L2, by omega, fun _ => n2, fun e => absurd e hc, rfl, rfl⟩
    · simp [hv]
      exact ⟨c3, ok3, L, by omega, fun h => h, fun e => absurd e hc, rfl, rfl⟩
theorem sp_links (c : St) (h : c.ok) (ns : List Str) (h2 : 2 ≤ ns.length) (hn : ns.length ≤ 26) (R : Store) : W (m__law_links [.ptr 0, .fz (.list (ns.map .str))] (c.cell :: R)) fun r => ∃ (L : List (Str × Str)) (c' : St), St.ok c' ∧ L ≠ [] ∧ r = (.fz (linkD L), St.cell c' :: R) := by
  refine W_fun ?_
  rw [b_links, show startE 6 [SV.ptr 0, .fz (.list (ns.map .str))] = [some (.ptr 0), some (.fz (.list (ns.map .str))), none, none, none, none] from rfl]
  have hb : (c.cell :: R).length = R.length + 1 := by simp
  rw [hb]
  simp only [sSeq_ap, sSet_ap, mDNewT_ap', Option.bind_some, Option.map_some, put_ap, List.set_cons_succ, List.set_cons_zero, hb, List.cons_append, mBin_ap, mC_ap, mCallF_ap, aCons_ap, aNil_ap, mVar_ap, List.getElem?_cons_zero, List.getElem?_cons_succ, Option.join_some, W_bind, W_map]
  refine (sp_next c h 4 (by decide) _).mono ?_
  rintro _ ⟨v, c1, ok1, v0, v1, rfl⟩
  simp only [flat_fz, Option.bind_some, dAdd_int, Option.map_some, W_some, sFor_ap]
  rw [iRange_nat (n := ns.length) (P1 := c1.cell :: (R ++ [.dT []])) (by simp) (by omega)]
  simp only [Option.bind_some, W_bind]
  refine W_forR (fun i ρ Z => ∃ (c' : St) (L : List (Str × Str)) (s4 s5 : Option SV), c'.ok ∧ L.length ≤ 52 * i ∧ (2 ≤ i → L ≠ []) ∧ ρ = ⟨R.length + 1, [some (.ptr 0), some (.fz (.list (ns.map .str))), some (.ptr (R.length + 1)), some (.fz (.int (1 + v))), s4, s5]⟩ ∧ Z = c'.cell :: (R ++ [.dT (lnL L)])) ⟨c1, [], none, none, ok1, by simp, by omega, rfl, rfl⟩ ?_ ?_
  · rintro i d ρ Z hd ⟨c2, L0, s4, s5, ok2, hL0, hne0, rfl, rfl⟩
    obtain ⟨hi, rfl⟩ := rangeD_get hd
    simp only [gNm_ap, W_some, put_ap, List.set_cons_succ, List.set_cons_zero, sFor_ap]
    rw [iRange_nat (n := i) (P1 := c2.cell :: (R ++ [.dT (lnL L0)])) (by simp) (by omega)]
    simp only [Option.bind_some]
    refine (W_forR (Q := fun r => r.1 = .nx ∧ ∃ (c' : St) (L : List (Str × Str)) (s5 : Option SV), c'.ok ∧ L.length ≤ L0.length + 2 * i ∧ (L0 ≠ [] → L ≠ []) ∧ (0 < i → L ≠ []) ∧ r.2 = (⟨R.length + 1, [some (.ptr 0), some (.fz (.list (ns.map .str))), some (.ptr (R.length + 1)), some (.fz (.int (1 + v))), some (.fz (.int i)), s5]⟩, c'.cell :: (R ++ [.dT (lnL L)])))
      (fun j ρ Z => ∃ (c' : St) (L : List (Str × Str)) (s5 : Option SV), c'.ok ∧ L.length ≤ L0.length + 2 * j ∧ (L0 ≠ [] → L ≠ []) ∧ (j = i → 0 < i → L ≠ []) ∧ ρ = ⟨R.length + 1, [some (.ptr 0), some (.fz (.list (ns.map .str))), some (.ptr (R.length + 1)), some (.fz (.int (1 + v))), some (.fz (.int i)), s5]⟩ ∧ Z = c'.cell :: (R ++ [.dT (lnL L)])) ⟨c2, L0, s5, ok2, by omega, fun h => h, by omega, rfl, rfl⟩ ?_ ?_).mono ?_
    · rintro j d ρ Z hd ⟨c3, L, s5, ok3, hL, hne, hz, rfl, rfl⟩
      obtain ⟨hj, rfl⟩ := rangeD_get hd
      simp only [gNm_ap, W_some, put_ap, List.set_cons_succ, List.set_cons_zero]
      refine (sp_bLn hn ok3 (by omega) hj hi).mono ?_
      rintro ⟨fl, ρ2, Z2⟩ ⟨h1, c4, L4, ok4, hL4, hn4, hn5, he⟩
      cases he
      exact .inl ⟨h1, c4, L4, _, ok4, by omega, fun h => hn4 (hne h), fun e _ => hn5 (by omega), rfl, rfl⟩
    · rintro ρ Z ⟨c3, L, s5, ok3, hL, hne, hz, rfl, rfl⟩
      rw [rangeD_len] at hL hz
      exact ⟨rfl, c3, L, s5, ok3, hL, hne, hz rfl, rfl⟩
    · rintro ⟨fl, ρ2, Z2⟩ ⟨h1, c3, L, s5, ok3, hL, hne, hz, he⟩
      cases he
      exact .inl ⟨h1, c3, L, _, s5, ok3, by omega, fun hi2 => hz (by omega), rfl, rfl⟩
  · rintro ρ Z ⟨c2, L, s4, s5, ok2, hL, hne, rfl, rfl⟩
    rw [rangeD_len] at hne
    have hx : exitZ (R.length + 1) (.ptr (R.length + 1)) (St.cell c2 :: (R ++ [.dT (lnL L)])) = some (.fz (linkD L), St.cell c2 :: R) := by
      rw [exitZ_ptr (Nat.le_refl _) (c := .dT (lnL L)) (by simp) (ln_dat (hne h2))]
      simp
    simp [hx]
    exact ⟨L, c2, ok2, hne h2, rfl, rfl⟩
end NS

set_option maxHeartbeats 1000000
set_option linter.all false
set_option maxRecDepth 10000
namespace NS
open PySem Pd L2
theorem iAny_lst {f : XM} {ρ : EV} {P : Store} {ds : List PyData} (h : f ρ P = some (.fz (.list ds), P)) : iAny f ρ P = some (ds, .fz (.list ds), P) := by
  simp only [iAny_ap, h, Option.bind_some]
/-! ### the book: plain parts -/
def tbl : Nat → List Str → List (Key × SV)
  | _, [] => []
  | b, r :: rs => (Sum.inr r, .ptr b) :: tbl (b + 1) rs
theorem tbl_app (r : Str) : ∀ (rs : List Str) (b : Nat), tbl b (rs ++ [r]) = tbl b rs ++ [(Sum.inr r, .ptr (b + rs.length))]
  | [], b => rfl
  | x :: rs, b => by simp [tbl, tbl_app r rs (b + 1)]; omega
theorem tbl_len : ∀ (rs : List Str) (b : Nat), (tbl b rs).length = rs.length
  | [], _ => rfl
  | _ :: rs, b => by simp [tbl, tbl_len rs]
theorem tbl_look : ∀ (rs : List Str) (b i : Nat) (x : Str), rs.Nodup → rs[i]? = some x → lookS (tbl b rs) (Sum.inr x : Key) = some (.ptr (b + i))
  | [], _, _, _, _, h => by simp at h
  | r :: rs, b, 0, x, _, h => by
    simp at h; subst h
    simp [lookS, tbl]
  | r :: rs, b, i + 1, x, hn, h => by
    rw [List.getElem?_cons_succ] at h
    rw [List.nodup_cons] at hn
    have hm := List.mem_of_getElem? h
    have hne : ¬ ((Sum.inr r : Key) = Sum.inr x) := fun e => hn.1 (by rw [Sum.inr.inj e]; exact hm)
    have := tbl_look rs (b + 1) i x hn.2 h
    simp only [lookS, tbl, List.find?_cons, hne, decide_false] at this ⊢
    rw [this]; congr 2; omega
theorem tbl_put {rs : List Str} {b : Nat} {x : Str} (h : x ∉ rs) (s : SV) : putS (tbl b rs) (Sum.inr x : Key) s = tbl b rs ++ [(Sum.inr x, s)] := by
  have : ((tbl b rs).any fun p => decide (p.1 = (Sum.inr x : Key))) = false := by
    induction rs generalizing b with
    | nil => rfl
    | cons r rs ih =>
      simp only [List.mem_cons, not_or] at h
      have hne : ¬ ((Sum.inr r : Key) = Sum.inr x) := fun e => h.1 (Sum.inr.inj e).symm
      simp only [tbl, List.any_cons, hne, decide_false, Bool.false_or]
      exact ih h.2
  simp only [putS, this, Bool.false_eq_true, if_false]
/-! the store while a book grows -/
def BkS (c : Cell) (R : Store) (tb : List (Key × SV)) (M J : Store) (f : Cell) : Store := c :: (R ++ .dK tb :: (M ++ (J ++ [f])))
section
variable (c : Cell) (R : Store) (tb : List (Key × SV)) (M J : Store) (f : Cell)
theorem bk_tb : (BkS c R tb M J f)[R.length + 1]? = some (.dK tb) := by simp [BkS]
theorem bk_row {i : Nat} {x : Cell} (h : M[i]? = some x) : (BkS c R tb M J f)[R.length + 2 + i]? = some x := by
  have hi := (List.getElem?_eq_some_iff.mp h).1
  rw [BkS, show R.length + 2 + i = (R.length + 1 + i) + 1 by omega, List.getElem?_cons_succ, List.getElem?_append_right (by omega), show R.length + 1 + i - R.length = i + 1 by omega, List.getElem?_cons_succ, List.getElem?_append_left hi, h]
theorem bk_setrow {i : Nat} (h : i < M.length) (x : Cell) : (BkS c R tb M J f).set (R.length + 2 + i) x = BkS c R tb (M.set i x) J f := by
  rw [BkS, show R.length + 2 + i = (R.length + 1 + i) + 1 by omega, List.set_cons_succ, List.set_append_right _ _ (by omega), show R.length + 1 + i - R.length = i + 1 by omega, List.set_cons_succ, List.set_append_left _ _ h]
  rfl
theorem bk_f : (BkS c R tb M J f)[R.length + 2 + M.length + J.length]? = some f := by
  rw [BkS, show R.length + 2 + M.length + J.length = (R.length + 1 + M.length + J.length) + 1 by omega, List.getElem?_cons_succ, List.getElem?_append_right (by omega), show R.length + 1 + M.length + J.length - R.length = (M.length + J.length) + 1 by omega, List.getElem?_cons_succ, List.getElem?_append_right (by omega), show M.length + J.length - M.length = J.length by omega, List.getElem?_append_right (by omega)]
  simp
theorem bk_setf (x : Cell) : (BkS c R tb M J f).set (R.length + 2 + M.length + J.length) x = BkS c R tb M J x := by
  rw [BkS, show R.length + 2 + M.length + J.length = (R.length + 1 + M.length + J.length) + 1 by omega, List.set_cons_succ, List.set_append_right _ _ (by omega), show R.length + 1 + M.length + J.length - R.length = (M.length + J.length) + 1 by omega, List.set_cons_succ, List.set_append_right _ _ (by omega), show M.length + J.length - M.length = J.length by omega, List.set_append_right _ _ (by omega)]
  simp [BkS]
end
/-! rows of paths -/
def LetR (E U : List Str) (rows : List (List Path)) : Path → Prop
  | [] => False
  | [e] => e ∈ E
  | x :: y :: r => ∃ (i : Nat) (ps : List Path), U[i]? = some x ∧ rows[i]? = some ps ∧ (x :: y :: r) ∈ ps
def RowsLe (a b : List (List Path)) : Prop := ∀ (i : Nat) (ps : List Path), a[i]? = some ps → ∃ qs, b[i]? = some qs ∧ ∀ p ∈ ps, p ∈ qs
theorem LetR.mono {E U : List Str} {a b : List (List Path)} (h : RowsLe a b) : ∀ {p : Path}, LetR E U a p → LetR E U b p
  | [], h1 => h1
  | [_], h1 => h1
  | _ :: _ :: _, ⟨i, ps, h1, h2, h3⟩ => by
    obtain ⟨qs, h4, h5⟩ := h i ps h2
    exact ⟨i, qs, h1, h4, h5 _ h3⟩
theorem RowsLe.refl (a : List (List Path)) : RowsLe a a := fun _ ps h => ⟨ps, h, fun _ h => h⟩
theorem RowsLe.trans {a b c : List (List Path)} (h1 : RowsLe a b) (h2 : RowsLe b c) : RowsLe a c := fun i ps h => by
  obtain ⟨qs, h3, h4⟩ := h1 i ps h
  obtain ⟨rs, h5, h6⟩ := h2 i qs h3
  exact ⟨rs, h5, fun p hp => h6 p (h4 p hp)⟩
theorem rows_set {rows : List (List Path)} {i : Nat} {ps : List Path} (h : rows[i]? = some ps) (p : Path) : RowsLe rows (rows.set i (ps ++ [p])) := by
  intro j qs hj
  by_cases e : i = j
  · subst e
    rw [h] at hj; cases hj
    have hi := (List.getElem?_eq_some_iff.mp h).1
    exact ⟨ps ++ [p], by simp [hi], fun q hq => List.mem_append_left _ hq⟩
  · exact ⟨qs, by rw [List.getElem?_set_ne e]; exact hj, fun q hq => hq⟩
theorem sum_set : ∀ {rows : List (List Path)} {i : Nat} {ps : List Path} (p : Path), rows[i]? = some ps → ((rows.set i (ps ++ [p])).map List.length).sum = (rows.map List.length).sum + 1
  | [], _, _, _, h => by simp at h
  | a :: r, 0, ps, p, h => by
    simp at h; subst h
    simp; omega
  | a :: r, i + 1, ps, p, h => by
    rw [List.getElem?_cons_succ] at h
    have := sum_set p h
    rw [List.set_cons_succ, List.map_cons, List.sum_cons, this, List.map_cons, List.sum_cons]; omega
structure Rows (E U : List Str) (t : Nat) (rows : List (List Path)) : Prop where
  len : rows.length = U.length
  row : ∀ (i : Nat) (r : Str) (ps : List Path), U[i]? = some r → rows[i]? = some ps → ps.length ≤ t ∧ ∀ p ∈ ps, p.length ≤ 9 ∧ ∃ tl, p = r :: tl ∧ LetR E U rows tl
  nd : ∀ ps ∈ rows, ps.Nodup
/-- a path one may go on with -/
structure Lv (E U : List Str) (rows : List (List Path)) (n : Nat) (p : Path) : Prop where
  len : p.length = n
  nd : p.Nodup
  sub : ∀ x ∈ p, x ∈ E ++ U
  has : LetR E U rows p
theorem Lv.mono {E U : List Str} {a b : List (List Path)} {n : Nat} {p : Path} (h : RowsLe a b) (l : Lv E U a n p) : Lv E U b n p := ⟨l.len, l.nd, l.sub, l.has.mono h⟩
theorem Rows.sum {E U : List Str} {t : Nat} {rows : List (List Path)} (h : Rows E U t rows) (ht : t ≤ 4) (hU : U.length ≤ 8) : (rows.map List.length).sum ≤ 32 := by
  have key : ∀ l : List (List Path), (∀ ps ∈ l, ps.length ≤ 4) → (l.map List.length).sum ≤ 4 * l.length := by
    intro l
    induction l with
    | nil => intro _; simp
    | cons a r ih =>
      intro h
      have h1 := h a List.mem_cons_self
      have h2 := ih fun p hp => h p (List.mem_cons_of_mem _ hp)
      simp only [List.map_cons, List.sum_cons, List.length_cons]; omega
  have := key rows fun ps hp => by
    obtain ⟨i, hi, rfl⟩ := List.mem_iff_getElem.mp hp
    have hiU : i < U.length := by rw [← h.len]; exact hi
    have := (h.row i U[i] rows[i] (List.getElem?_eq_getElem hiU) (List.getElem?_eq_getElem hi)).1
    omega
  have := h.len
  omega
/-- one path more -/
theorem Rows.more {E U : List Str} {t : Nat} {rows : List (List Path)} (h : Rows E U t rows) (hEU : (E ++ U).length ≤ 9) {i : Nat} {r : Str} {ps : List Path} (hr : U[i]? = some r) (hps : rows[i]? = some ps) (hl : ps.length < t) {n : Nat} {p : Path} (hp : Lv E U rows n p) (hne : p ≠ []) (hn : r ∉ p) (hnew : r :: p ∉ ps) :
    Rows E U t (rows.set i (ps ++ [r :: p])) ∧ Lv E U (rows.set i (ps ++ [r :: p])) (n + 1) (r :: p) := by
  have hi := (List.getElem?_eq_some_iff.mp hps).1
  have hle := rows_set hps (r :: p)
  have hnd : (r :: p).Nodup := List.nodup_cons.mpr ⟨hn, hp.nd⟩
  have hsub : ∀ x ∈ r :: p, x ∈ E ++ U := by
    intro x hx
    rcases List.mem_cons.mp hx with rfl | hx
    · exact List.mem_append_right _ (List.mem_of_getElem? hr)
    · exact hp.sub x hx
  have h9 := nodup_le (r :: p) (E ++ U) hnd hsub
  have hrn : ∀ qs ∈ rows.set i (ps ++ [r :: p]), qs.Nodup := by
    intro qs hqs
    rcases List.mem_or_eq_of_mem_set hqs with hq | hq
    · exact h.nd qs hq
    · subst hq
      rw [List.nodup_append]
      refine ⟨h.nd ps (List.mem_of_getElem? hps), by simp, fun a ha b hb e => ?_⟩
      simp only [List.mem_singleton] at hb
      subst hb; subst e; exact hnew ha
  refine ⟨⟨by simpa using h.len, ?_, hrn⟩, ⟨by simp [hp.len], hnd, hsub, ?_⟩⟩
  · intro j r' qs hr' hqs
    by_cases e : i = j
    · subst e
      rw [hr] at hr'; cases hr'
      rw [List.getElem?_set_self hi] at hqs; cases hqs
      refine ⟨by simp; omega, fun q hq => ?_⟩
      rcases List.mem_append.mp hq with hq | hq
      · obtain ⟨h1, tl, h2, h3⟩ := (h.row i r ps hr hps).2 q hq
        exact ⟨h1, tl, h2, h3.mono hle⟩
      · simp only [List.mem_singleton] at hq; subst hq
        exact ⟨by omega, p, rfl, hp.has.mono hle⟩
    · rw [List.getElem?_set_ne e] at hqs
      obtain ⟨h1, h2⟩ := h.row j r' qs hr' hqs
      refine ⟨h1, fun q hq => ?_⟩
      obtain ⟨h3, tl, h4, h5⟩ := h2 q hq
      exact ⟨h3, tl, h4, h5.mono hle⟩
  · cases p with
    | nil => exact absurd rfl hne
    | cons y p => exact ⟨i, ps ++ [r :: y :: p], hr, List.getElem?_set_self hi, by simp⟩
/-- a permutation of things that are told apart -/
theorem perm_ex {α : Type} (f : α → PyData) (g : PyData → Option α) (hg : ∀ x, g (f x) = some x) {l : List PyData} {xs : List α} (h : l.Perm (xs.map f)) : ∃ ys : List α, ys.Perm xs ∧ l = ys.map f := by
  have e1 : ∀ xs : List α, (xs.map f).filterMap g = xs := by
    intro xs
    induction xs with
    | nil => rfl
    | cons x r ih => simp [List.filterMap_cons, hg, ih]
  have e2 : ∀ l : List PyData, (∀ d ∈ l, ∃ x, d = f x) → (l.filterMap g).map f = l := by
    intro l
    induction l with
    | nil => intro _; rfl
    | cons d r ih =>
      intro h
      obtain ⟨x, rfl⟩ := h d List.mem_cons_self
      simp [List.filterMap_cons, hg, ih fun d hd => h d (List.mem_cons_of_mem _ hd)]
  refine ⟨l.filterMap g, ?_, (e2 l ?_).symm⟩
  · have := h.filterMap g
    rwa [e1] at this
  · intro d hd
    obtain ⟨x, _, rfl⟩ := List.mem_map.mp (h.mem_iff.mp hd)
    exact ⟨x, rfl⟩
def unStr : PyData → Option Str
  | .str x => some x
  | _ => none
def unPath : PyData → Option Path
  | .tuple ds => strsD ds
  | _ => none
theorem unPath_path (p : Path) : unPath (pathD p) = some p := by simp [unPath, pathD, strsD_map]
/-- what the table tells as a book -/
theorem rows_good {E U U' : List Str} {t : Nat} {rows : List (List Path)} (h : Rows E U t rows) (ht : t ≤ 4) (hE : E ≠ []) (hEl : E.length ≤ 8) (hUl : U.length ≤ 8) (hEn : ∀ x ∈ E, Nm x) (hUn : ∀ x ∈ U, Nm x) (hUd : U.Nodup) (hs : ∀ x ∈ U, x ∉ E) {T : Tab} (hp : U'.Perm U) (hk : T.map (·.1) = U')
    (hT : ∀ q ∈ T, ∃ (i : Nat) (ps : List Path), U[i]? = some q.1 ∧ rows[i]? = some ps ∧ q.2.Perm ps) : Good ⟨E, T⟩ := by
  have hl : T.length = U.length := by
    have := congrArg List.length hk
    simp only [List.length_map] at this
    rw [this, hp.length_eq]
  have hkeys : (Book.mk E T).keys = U' := hk
  refine ⟨hE, hEn, hEl, by show T.length ≤ 8; omega, hkeys ▸ hp.nodup_iff.mpr hUd, hkeys ▸ fun x hx => hUn x (hp.mem_iff.mp hx), hkeys ▸ fun x hx => hs x (hp.mem_iff.mp hx), ?_, ?_, ?_⟩
  · intro q hq
    obtain ⟨i, ps, h1, h2, h3⟩ := hT q hq
    have := (h.row i q.1 ps h1 h2).1
    rw [h3.length_eq]; omega
  · intro q hq
    obtain ⟨i, ps, h1, h2, h3⟩ := hT q hq
    exact h3.nodup_iff.mpr (h.nd ps (List.mem_of_getElem? h2))
  · intro q hq p hpm
    obtain ⟨i, ps, h1, h2, h3⟩ := hT q hq
    obtain ⟨h4, tl, h5, h6⟩ := (h.row i q.1 ps h1 h2).2 p (h3.mem_iff.mp hpm)
    refine ⟨h4, tl, h5, ?_⟩
    match tl, h6 with
    | [e], h6 => exact h6
    | x :: y :: r, ⟨j, qs, h7, h8, h9⟩ =>
      have hx : x ∈ T.map (·.1) := by rw [hk]; exact hp.mem_iff.mpr (List.mem_of_getElem? h7)
      obtain ⟨q2, hq2, rfl⟩ := List.mem_map.mp hx
      obtain ⟨j2, qs2, g1, g2, g3⟩ := hT q2 hq2
      have hj : j = j2 := by
        obtain ⟨a1, a2⟩ := List.getElem?_eq_some_iff.mp h7
        obtain ⟨b1, b2⟩ := List.getElem?_eq_some_iff.mp g1
        exact (List.getElem_inj hUd).mp (a2.trans b2.symm)
      subst hj
      rw [h8] at g2; cases g2
      exact ⟨q2.2, hq2, g3.mem_iff.mpr h9⟩
end NS

set_option maxHeartbeats 1000000
set_option linter.all false
set_option maxRecDepth 10000
namespace NS
open PySem Pd L2
/-! ### the book: one step -/
def bkA : SM := (sSeq (sEx (mApp (mSub (mVar 8) (mVar 9)) (mBin dAdd (mTup (aCons (mVar 9) aNil)) (mVar 12))))
  (sEx (mApp (mVar 11) (mBin dAdd (mTup (aCons (mVar 9) aNil)) (mVar 12)))))
def bkC : BM := (mAndB (mTB (mIn true (mVar 9) (mVar 12))) (mAndB (mTB (mIn false (mTup (aCons (mVar 9) (aCons (mSub (mVar 12) (mC (.int 0))) aNil))) (mVar 7))) (mAndB (mTB (mBin dLt (mCall gLenA (aCons (mSub (mVar 8) (mVar 9)) aNil)) (mVar 3))) (mTB (mBin dGt (mCallF m__law_next (aCons (mVar 0) (aCons (mC (.int 4)) aNil))) (mC (.int 0)))))))
def bkT : SM := sIf bkC bkA sNx
def bkN : SM := sFor (iAny (mVar 6)) (gNm 9) bkT
def bkL : SM := (sSeq (sSet 11 (mLstC aNil))
  (sSeq (sFor (iAny (mVar 10)) (gNm 12) bkN)
  (sSet 10 (mFz (mVar 11)))))
def bkM : SM := (Pd.sDPut (mVar 13) (mVar 9) (mCall gTuple (aCons (mCallF m__law_mixed (aCons (mVar 0) (aCons (mFz (mSub (mVar 8) (mVar 9))) aNil))) aNil)))
theorem b_book : b__law_book = (sSeq (sSet 4 (mCallF m__law_names (aCons (mVar 0) (aCons (mBin dAdd (mVar 1) (mVar 2)) aNil))))
  (sSeq (sSet 5 (mCall gSorted (aCons (mSl (mVar 4) oNone (oSome (mVar 2))) aNil)))
  (sSeq (sSet 6 (mCall gSorted (aCons (mSl (mVar 4) (oSome (mVar 2)) oNone) aNil)))
  (sSeq (sSet 7 (mCallF m__law_links (aCons (mVar 0) (aCons (mVar 4) aNil))))
  (sSeq (sSet 8 mDNewK)
  (sSeq (sFor (iAny (mVar 6)) (gNm 9) (Pd.sDPut (mVar 8) (mVar 9) (mLstC aNil)))
  (sSeq (sSet 10 (mLC [9] (iAny (mVar 5)) (gNm 9) bYes (mTup (aCons (mVar 9) aNil))))
  (sSeq (whGo (mTB (mBin dGt (mCall gLenA (aCons (mVar 10) aNil)) (mC (.int 0)))) bkL 100000)
  (sSeq (sSet 13 mDNewK)
  (sSeq (sFor (iAny (mCallF m__law_mixed (aCons (mVar 0) (aCons (mVar 6) aNil)))) (gNm 9) bkM)
  (sRet (mTup (aCons (mC (.str "book")) (aCons (mCall gTuple (aCons (mVar 5) aNil)) (aCons (mFz (mVar 13)) aNil))))))))))))))) := rfl
theorem sub_tbl {P : Store} {k b i : Nat} {U : List Str} {r : Str} (h : P[k]? = some (.dK (tbl b U))) (hn : U.Nodup) (hr : U[i]? = some r) : subOf P (.ptr k) (.str r) = some (.ptr (b + i)) := by
  have e : dictOf P (.ptr k) = some (.k (tbl b U)) := by simp [dictOf, h]
  have e2 : dlook (.k (tbl b U)) (.str r) = some (some (.ptr (b + i))) := by simp only [dlook, keyOf, Option.map_some, tbl_look U b i r hn hr]
  simp only [subOf, e, Option.bind_some, e2]
  rfl
/-- what stays the same while a book is built -/
structure Bk (E U : List Str) (t : Nat) (L : List (Str × Str)) : Prop where
  En : ∀ x ∈ E, Nm x
  Un : ∀ x ∈ U, Nm x
  Ud : U.Nodup
  Ed : E.Nodup
  Ul : U.length ≤ 8
  EUl : (E ++ U).length ≤ 9
  t4 : t ≤ 4
  Ln : L ≠ []
theorem Lv.pnm {E U : List Str} {t : Nat} {L : List (Str × Str)} (K : Bk E U t L) {rows : List (List Path)} {n : Nat} {p : Path} (h : Lv E U rows n p) : PNm p := fun x hx => by
  rcases List.mem_append.mp (h.sub x hx) with h | h
  · exact K.En x h
  · exact K.Un x h
/-- the state of the rows while the next level is made -/
structure BkI (E U : List Str) (t n : Nat) (rows0 rows : List (List Path)) (F : List Path) : Prop where
  ok : Rows E U t rows
  le : RowsLe rows0 rows
  lv : ∀ q ∈ F, Lv E U rows (n + 1) q
  fl : F.length ≤ (rows.map List.length).sum
  nd : F.Nodup
  top : ∀ ps ∈ rows, ∀ q ∈ ps, q.length ≤ n ∨ q ∈ F
theorem sp_bkT {E U : List Str} {t : Nat} {L : List (Str × Str)} (K : Bk E U t L) {c : St} (hc : c.ok) {i : Nat} {r : Str} (hr : U[i]? = some r) {rows0 rows : List (List Path)} {F : List Path} {n : Nat} (I : BkI E U t n rows0 rows F) {p : Path} (hp : Lv E U rows0 n p) (hne : p ≠ []) (hfr : r :: p ∉ F) {s1 s2 s4 s5 s6 s10 s13 : Option SV} {R J : Store} :
    W (bkT ⟨R.length + 1, [some (.ptr 0), s1, s2, some (.fz (.int t)), s4, s5, s6, some (.fz (linkD L)), some (.ptr (R.length + 1)), some (.fz (.str r)), s10, some (.ptr (R.length + 2 + U.length + J.length)), some (.fz (pathD p)), s13]⟩ (BkS c.cell R (tbl (R.length + 2) U) (rows.map orC) J (orC F))) fun z => z.1 = .nx ∧ ∃ (c' : St) (rows' : List (List Path)) (F' : List Path), c'.ok ∧ BkI E U t n rows0 rows' F' ∧ (∀ q ∈ F', q ∈ F ∨ q = r :: p) ∧
      z.2 = (⟨R.length + 1, [some (.ptr 0), s1, s2, some (.fz (.int t)), s4, s5, s6, some (.fz (linkD L)), some (.ptr (R.length + 1)), some (.fz (.str r)), s10, some (.ptr (R.length + 2 + U.length + J.length)), some (.fz (pathD p)), s13]⟩, BkS c'.cell R (tbl (R.length + 2) U) (rows'.map orC) J (orC F')) := by
  have hp' := hp.mono I.le
  have hpn := hp.pnm K
  have hrn := K.Un r (List.mem_of_getElem? hr)
  have hlen := I.ok.len
  have hi : i < rows.length := by rw [hlen]; exact (List.getElem?_eq_some_iff.mp hr).1
  obtain ⟨ps, hps⟩ : ∃ ps, rows[i]? = some ps := ⟨rows[i], List.getElem?_eq_getElem hi⟩
  have hM : (rows.map orC)[i]? = some (orC ps) := by rw [List.getElem?_map, hps]; rfl
  have hMl : (rows.map orC).length = U.length := by rw [List.length_map, hlen]
  have hrow := (I.ok.row i r ps hr hps).1
  have hs1 : (1 : Nat) ≤ sizeLine := by decide
  have hs2 : (2 : Nat) ≤ sizeLine := by decide
  obtain ⟨y, p', rfl⟩ : ∃ y p', p = y :: p' := by cases p with | nil => exact absurd rfl hne | cons y p' => exact ⟨y, p', rfl⟩
  -- the test
  have e1 : ∀ Z, inOf Z (.str r) (.fz (pathD (y :: p'))) = some (decide (r ∈ y :: p')) := fun Z => in_walk (fun z hz => (hpn z hz).strOk) hrn.strOk Z
  have e2 : ∀ Z, subOf Z (.fz (pathD (y :: p'))) (.int 0) = some (.fz (.str y)) := fun Z => sub_path0 _
  obtain ⟨bl, hbl⟩ : ∃ f : Store → Bool, ∀ Z, inOf Z (.tuple [.str r, .str y]) (.fz (linkD L)) = some (f Z) := ⟨fun Z => (in_link K.Ln r y Z).choose, fun Z => (in_link K.Ln r y Z).choose_spec⟩
  have e4 : ∀ c M f, subOf (BkS c R (tbl (R.length + 2) U) M J f) (.ptr (R.length + 1)) (.str r) = some (.ptr (R.length + 2 + i)) := fun c M f => sub_tbl (bk_tb c R _ M J f) K.Ud hr
  have a1 := fun c f => bk_row c R (tbl (R.length + 2) U) (rows.map orC) J f hM
  have e5 : ∀ c f, flat (BkS c R (tbl (R.length + 2) U) (rows.map orC) J f) (.ptr (R.length + 2 + i)) = some (.list (ps.map pathD)) := fun c f => by
    simp only [flat, a1, Option.bind_some, orC_dat]
  obtain ⟨v, c2, ok2, v0, v1, enx⟩ := st_next c hc 4 (by decide)
  have e6 : m__law_next [.ptr 0, .fz (.int 4)] (BkS c.cell R (tbl (R.length + 2) U) (rows.map orC) J (orC F)) = some (.fz (.int v), BkS c2.cell R (tbl (R.length + 2) U) (rows.map orC) J (orC F)) := enx _
  -- the two appends
  have hF := I.fl
  have hsum := I.ok.sum K.t4 K.Ul
  have hz1 : ps.length < sizeLine := Nat.lt_of_le_of_lt (show ps.length ≤ 4 by have := K.t4; omega) (by decide)
  have hz2 : F.length < sizeLine := Nat.lt_of_le_of_lt (show F.length ≤ 32 by omega) (by decide)
  have hpl : (y :: p').length ≤ 9 := Nat.le_trans (nodup_le _ _ hp.nd hp.sub) K.EUl
  have e7 := dAdd_tup [.str r] ((y :: p').map .str) (by simp only [List.length_map, List.length_singleton]; exact Nat.le_trans (show _ ≤ 10 by omega) (by decide))
  have e7' : dAdd (.tuple [.str r]) (pathD (y :: p')) = some (pathD (r :: y :: p')) := e7
  have a2 := fun x => bk_setrow c2.cell R (tbl (R.length + 2) U) (rows.map orC) J (orC F) (i := i) (by rw [List.length_map]; exact hi) x
  have a3 : ∀ x, (BkS c2.cell R (tbl (R.length + 2) U) ((rows.map orC).set i x) J (orC F))[R.length + 2 + U.length + J.length]? = some (orC F) := fun x => by
    have := bk_f c2.cell R (tbl (R.length + 2) U) ((rows.map orC).set i x) J (orC F)
    rwa [List.length_set, hMl] at this
  have a4 : ∀ x y, (BkS c2.cell R (tbl (R.length + 2) U) ((rows.map orC).set i x) J (orC F)).set (R.length + 2 + U.length + J.length) y = BkS c2.cell R (tbl (R.length + 2) U) ((rows.map orC).set i x) J y := fun x y => by
    have := bk_setf c2.cell R (tbl (R.length + 2) U) ((rows.map orC).set i x) J (orC F) y
    rwa [List.length_set, hMl] at this
  have o1 : ∀ (X : List Path) (q : Path), Cell.lst ((X.map pathD).map SV.fz ++ [.fz (pathD q)]) = orC (X ++ [q]) := fun X q => by simp [orC]
  have o2 : (rows.map orC).set i (orC (ps ++ [r :: y :: p'])) = (rows.set i (ps ++ [r :: y :: p'])).map orC := by rw [List.map_set]
  have app : bkA ⟨R.length + 1, [some (.ptr 0), s1, s2, some (.fz (.int t)), s4, s5, s6, some (.fz (linkD L)), some (.ptr (R.length + 1)), some (.fz (.str r)), s10, some (.ptr (R.length + 2 + U.length + J.length)), some (.fz (pathD (y :: p'))), s13]⟩ (BkS c2.cell R (tbl (R.length + 2) U) (rows.map orC) J (orC F)) = some (.nx, ⟨R.length + 1, [some (.ptr 0), s1, s2, some (.fz (.int t)), s4, s5, s6, some (.fz (linkD L)), some (.ptr (R.length + 1)), some (.fz (.str r)), s10, some (.ptr (R.length + 2 + U.length + J.length)), some (.fz (pathD (y :: p'))), s13]⟩, BkS c2.cell R (tbl (R.length + 2) U) ((rows.set i (ps ++ [r :: y :: p'])).map orC) J (orC (F ++ [r :: y :: p']))) := by
    have u1 : ∀ X : List Path, orC X = .lst ((X.map pathD).map SV.fz) := fun _ => rfl
    have b1 := a1 c2.cell (orC F)
    rw [u1 ps] at b1
    have b3 := a3 (orC (ps ++ [r :: y :: p']))
    have b4 := a4 (orC (ps ++ [r :: y :: p'])) (orC (F ++ [r :: y :: p']))
    rw [o2] at b3 b4
    have b3' : (BkS c2.cell R (tbl (R.length + 2) U) ((rows.set i (ps ++ [r :: y :: p'])).map orC) J (orC F))[R.length + 2 + U.length + J.length]? = some (.lst ((F.map pathD).map SV.fz)) := b3
    have b2 := a2 (orC (ps ++ [r :: y :: p']))
    rw [o2] at b2
    generalize hM2 : (rows.set i (ps ++ [r :: y :: p'])).map orC = M2 at *
    simp [-List.map_map, bkA, e4, e7', fzs, hs1, b1, hz1, o1, b2, b3', hz2, b4]
  have stay : ∀ c', St.ok c' → ∃ (c'' : St) (rows' : List (List Path)) (F' : List Path), c''.ok ∧ BkI E U t n rows0 rows' F' ∧ (∀ q ∈ F', q ∈ F) ∧ BkS c'.cell R (tbl (R.length + 2) U) (rows.map orC) J (orC F) = BkS c''.cell R (tbl (R.length + 2) U) (rows'.map orC) J (orC F') := fun c' ok' => ⟨c', rows, F, ok', I, fun q h => h, rfl⟩
  rw [bkT, sIf_ap]
  have ctest : bkC ⟨R.length + 1, [some (.ptr 0), s1, s2, some (.fz (.int t)), s4, s5, s6, some (.fz (linkD L)), some (.ptr (R.length + 1)), some (.fz (.str r)), s10, some (.ptr (R.length + 2 + U.length + J.length)), some (.fz (pathD (y :: p'))), s13]⟩ (BkS c.cell R (tbl (R.length + 2) U) (rows.map orC) J (orC F)) = some (false, BkS c.cell R (tbl (R.length + 2) U) (rows.map orC) J (orC F)) ∨ bkC ⟨R.length + 1, [some (.ptr 0), s1, s2, some (.fz (.int t)), s4, s5, s6, some (.fz (linkD L)), some (.ptr (R.length + 1)), some (.fz (.str r)), s10, some (.ptr (R.length + 2 + U.length + J.length)), some (.fz (pathD (y :: p'))), s13]⟩ (BkS c.cell R (tbl (R.length + 2) U) (rows.map orC) J (orC F)) = some (false, BkS c2.cell R (tbl (R.length + 2) U) (rows.map orC) J (orC F)) ∨
      (r ∉ y :: p' ∧ ps.length < t ∧ bkC ⟨R.length + 1, [some (.ptr 0), s1, s2, some (.fz (.int t)), s4, s5, s6, some (.fz (linkD L)), some (.ptr (R.length + 1)), some (.fz (.str r)), s10, some (.ptr (R.length + 2 + U.length + J.length)), some (.fz (pathD (y :: p'))), s13]⟩ (BkS c.cell R (tbl (R.length + 2) U) (rows.map orC) J (orC F)) = some (true, BkS c2.cell R (tbl (R.length + 2) U) (rows.map orC) J (orC F))) := by
    generalize hM2 : rows.map orC = M2 at *
    rw [bkC]
    simp only [mAndB_ap, mTB_ap, mIn_ap, mVar_ap, List.getElem?_cons_succ, List.getElem?_cons_zero, Option.join_some, Option.map_some, Option.bind_some, flat_fz, e1]
    by_cases h1 : r ∈ y :: p'
    · left
      simp [h1]
    · have hd1 : (true != decide (r ∈ y :: p')) = true := by simp [h1]
      simp only [hd1, if_true, mTup_ap, aCons_ap, aNil_ap, mVar_ap, List.getElem?_cons_succ, List.getElem?_cons_zero, Option.join_some, Option.map_some, Option.bind_some, mSub_ap, mC_ap, flat_fz, e2, show fzs [SV.fz (.str r), .fz (.str y)] = some [.str r, .str y] from rfl, List.length_cons, List.length_nil, Nat.zero_add, Nat.reduceAdd, hs2, hbl]
      cases hb : bl (BkS c.cell R (tbl (R.length + 2) U) M2 J (orC F)) with
      | false => left; simp
      | true =>
        by_cases h3 : ps.length < t
        · have h3i : decide (((ps.map pathD).length : Int) < t) = true := by simp; omega
          simp only [Bool.false_bne, if_true, mBin_ap, mCall_ap, aCons_ap, aNil_ap, mSub_ap, mVar_ap, List.getElem?_cons_succ, List.getElem?_cons_zero, Option.join_some, Option.map_some, Option.bind_some, flat_fz, e4, flats_cons, flats_nil, e5, gLenA_lst, dLt_int, h3i, mCallF_ap, mC_ap, e6, dGt_int]
          right
          by_cases h4 : (0 : Int) < v
          · right
            exact ⟨h1, h3, by simp [h4]⟩
          · left; simp [h4]
        · have h3i : decide (((ps.map pathD).length : Int) < t) = false := by simp; omega
          left
          simp only [Bool.false_bne, if_true, mBin_ap, mCall_ap, aCons_ap, aNil_ap, mSub_ap, mVar_ap, List.getElem?_cons_succ, List.getElem?_cons_zero, Option.join_some, Option.map_some, Option.bind_some, flat_fz, e4, flats_cons, flats_nil, e5, gLenA_lst, dLt_int, h3i]
          simp
  rcases ctest with h | h | ⟨h1, h3, h⟩
  · rw [h]
    obtain ⟨c'', rows', F', k1, k2, k4, k3⟩ := stay c hc
    simp only [Option.bind_some, Bool.false_eq_true, if_false, sNx_ap, W_some]
    exact ⟨trivial, c'', rows', F', k1, k2, fun q h => .inl (k4 q h), by rw [k3]⟩
  · rw [h]
    obtain ⟨c'', rows', F', k1, k2, k4, k3⟩ := stay c2 ok2
    simp only [Option.bind_some, Bool.false_eq_true, if_false, sNx_ap, W_some]
    exact ⟨trivial, c'', rows', F', k1, k2, fun q h => .inl (k4 q h), by rw [k3]⟩
  · rw [h]
    simp only [Option.bind_some, if_true, app, W_some]
    have hnew : r :: y :: p' ∉ ps := fun h => by
      rcases I.top ps (List.mem_of_getElem? hps) _ h with h | h
      · have := hp.len
        simp only [List.length_cons] at h this; omega
      · exact hfr h
    obtain ⟨m1, m2⟩ := I.ok.more K.EUl hr hps h3 hp' (by simp) h1 hnew
    have hle := rows_set hps (r :: y :: p')
    refine ⟨trivial, c2, rows.set i (ps ++ [r :: y :: p']), F ++ [r :: y :: p'], ok2, ⟨m1, I.le.trans hle, ?_, ?_, ?_, ?_⟩, fun q hq => ?_, rfl⟩
    · intro q hq
      rcases List.mem_append.mp hq with hq | hq
      · exact (I.lv q hq).mono hle
      · simp only [List.mem_singleton] at hq; subst hq; exact m2
    · rw [sum_set _ hps, List.length_append, List.length_singleton]; omega
    · rw [List.nodup_append]
      refine ⟨I.nd, by simp, fun a ha b hb e => ?_⟩
      simp only [List.mem_singleton] at hb
      subst hb; subst e; exact hfr ha
    · intro qs hqs q hq
      rcases List.mem_or_eq_of_mem_set hqs with h | h
      · exact (I.top qs h q hq).imp id fun h => List.mem_append_left _ h
      · subst h
        rcases List.mem_append.mp hq with h | h
        · exact (I.top ps (List.mem_of_getElem? hps) q h).imp id fun h => List.mem_append_left _ h
        · exact .inr (List.mem_append_right _ h)
    · rcases List.mem_append.mp hq with h | h
      · exact .inl h
      · exact .inr (List.mem_singleton.mp h)
end NS

set_option maxHeartbeats 1000000
set_option linter.all false
set_option maxRecDepth 10000
namespace NS
open PySem Pd L2
theorem sp_bkN {E U : List Str} {t : Nat} {L : List (Str × Str)} (K : Bk E U t L) {c : St} (hc : c.ok) {rows0 rows : List (List Path)} {F : List Path} {n : Nat} (I : BkI E U t n rows0 rows F) {p : Path} (hp : Lv E U rows0 n p) (hne : p ≠ []) (hfr : ∀ r, r :: p ∉ F) {s1 s2 s4 s5 s9 s10 s13 : Option SV} {R J : Store} :
    W (bkN ⟨R.length + 1, [some (.ptr 0), s1, s2, some (.fz (.int t)), s4, s5, some (.fz (.list (U.map .str))), some (.fz (linkD L)), some (.ptr (R.length + 1)), s9, s10, some (.ptr (R.length + 2 + U.length + J.length)), some (.fz (pathD p)), s13]⟩ (BkS c.cell R (tbl (R.length + 2) U) (rows.map orC) J (orC F))) fun z => z.1 = .nx ∧ ∃ (c' : St) (rows' : List (List Path)) (F' : List Path) (s9 : Option SV), c'.ok ∧ BkI E U t n rows0 rows' F' ∧ (∀ q ∈ F', q ∈ F ∨ ∃ r, q = r :: p) ∧
      z.2 = (⟨R.length + 1, [some (.ptr 0), s1, s2, some (.fz (.int t)), s4, s5, some (.fz (.list (U.map .str))), some (.fz (linkD L)), some (.ptr (R.length + 1)), s9, s10, some (.ptr (R.length + 2 + U.length + J.length)), some (.fz (pathD p)), s13]⟩, BkS c'.cell R (tbl (R.length + 2) U) (rows'.map orC) J (orC F')) := by
  rw [bkN, sFor_ap, iAny_lst (ds := U.map .str) (by simp)]
  simp only [Option.bind_some]
  refine W_forR (fun i ρ Z => ∃ (c' : St) (rows' : List (List Path)) (F' : List Path) (s9 : Option SV), c'.ok ∧ BkI E U t n rows0 rows' F' ∧ (∀ q ∈ F', q ∈ F ∨ ∃ (j : Nat) (r : Str), j < i ∧ U[j]? = some r ∧ q = r :: p) ∧
      ρ = ⟨R.length + 1, [some (.ptr 0), s1, s2, some (.fz (.int t)), s4, s5, some (.fz (.list (U.map .str))), some (.fz (linkD L)), some (.ptr (R.length + 1)), s9, s10, some (.ptr (R.length + 2 + U.length + J.length)), some (.fz (pathD p)), s13]⟩ ∧ Z = BkS c'.cell R (tbl (R.length + 2) U) (rows'.map orC) J (orC F')) ⟨c, rows, F, s9, hc, I, fun q h => .inl h, rfl, rfl⟩ ?_ ?_
  · rintro i d ρ Z hd ⟨c1, rows1, F1, s9, ok1, I1, hF1, rfl, rfl⟩
    rw [List.getElem?_map, Option.map_eq_some_iff] at hd
    obtain ⟨r, hr, rfl⟩ := hd
    have hfr1 : r :: p ∉ F1 := fun h => by
      rcases hF1 _ h with h | ⟨j, r', hj, hr', e⟩
      · exact hfr r h
      · have e1 : r = r' := (List.cons.inj e).1
        subst e1
        obtain ⟨a1, a2⟩ := List.getElem?_eq_some_iff.mp hr
        obtain ⟨b1, b2⟩ := List.getElem?_eq_some_iff.mp hr'
        have := (List.getElem_inj K.Ud).mp (a2.trans b2.symm)
        omega
    simp only [gNm_ap, W_some, put_ap, List.set_cons_succ, List.set_cons_zero]
    refine (sp_bkT K ok1 hr I1 hp hne hfr1).mono ?_
    rintro ⟨fl, ρ2, Z2⟩ ⟨h1, c2, rows2, F2, ok2, I2, hF2, he⟩
    cases he
    refine .inl ⟨h1, c2, rows2, F2, _, ok2, I2, fun q hq => ?_, rfl, rfl⟩
    rcases hF2 q hq with h | h
    · rcases hF1 q h with h | ⟨j, r', hj, h⟩
      · exact .inl h
      · exact .inr ⟨j, r', by omega, h⟩
    · exact .inr ⟨i, r, by omega, hr, h⟩
  · rintro ρ Z ⟨c1, rows1, F1, s9, ok1, I1, hF1, rfl, rfl⟩
    refine ⟨rfl, c1, rows1, F1, s9, ok1, I1, fun q hq => ?_, rfl⟩
    rcases hF1 q hq with h | ⟨j, r', _, _, h⟩
    · exact .inl h
    · exact .inr ⟨r', h⟩
def BkZ (c : Cell) (R : Store) (tb : List (Key × SV)) (M J : Store) : Store := c :: (R ++ .dK tb :: (M ++ J))
theorem sp_bkL {E U : List Str} {t : Nat} {L : List (Str × Str)} (K : Bk E U t L) {c : St} (hc : c.ok) {rows : List (List Path)} {Lp : List Path} {n : Nat} (hr : Rows E U t rows) (hL : ∀ p ∈ Lp, Lv E U rows (n + 1) p) (hLn : Lp.Nodup) (htop : ∀ ps ∈ rows, ∀ q ∈ ps, q.length ≤ n + 1) {s1 s2 s4 s5 s9 s11 s12 s13 : Option SV} {R J : Store} :
    W (bkL ⟨R.length + 1, [some (.ptr 0), s1, s2, some (.fz (.int t)), s4, s5, some (.fz (.list (U.map .str))), some (.fz (linkD L)), some (.ptr (R.length + 1)), s9, some (.fz (.list (Lp.map pathD))), s11, s12, s13]⟩ (BkZ c.cell R (tbl (R.length + 2) U) (rows.map orC) J)) fun z => z.1 = .nx ∧ ∃ (c' : St) (rows' : List (List Path)) (F : List Path) (J' : Store) (s9 s11 s12 : Option SV), c'.ok ∧ Rows E U t rows' ∧ RowsLe rows rows' ∧ (∀ q ∈ F, Lv E U rows' (n + 2) q) ∧ F.Nodup ∧ (∀ ps ∈ rows', ∀ q ∈ ps, q.length ≤ n + 2) ∧
      z.2 = (⟨R.length + 1, [some (.ptr 0), s1, s2, some (.fz (.int t)), s4, s5, some (.fz (.list (U.map .str))), some (.fz (linkD L)), some (.ptr (R.length + 1)), s9, some (.fz (.list (F.map pathD))), s11, s12, s13]⟩, BkZ c'.cell R (tbl (R.length + 2) U) (rows'.map orC) J') := by
  have hZ : (BkZ c.cell R (tbl (R.length + 2) U) (rows.map orC) J).length = R.length + 2 + U.length + J.length := by
    simp [BkZ, hr.len]; omega
  have hZ2 : BkZ c.cell R (tbl (R.length + 2) U) (rows.map orC) J ++ [.lst []] = BkS c.cell R (tbl (R.length + 2) U) (rows.map orC) J (orC []) := by
    simp [BkZ, BkS, orC]
  rw [bkL]
  simp only [sSeq_ap, sSet_ap, mLstC_ap, aNil_ap, Option.bind_some, List.length_nil, Nat.zero_le, if_true, Option.map_some, put_ap, List.set_cons_succ, List.set_cons_zero, hZ, hZ2, sFor_ap]
  rw [iAny_lst (ds := Lp.map pathD) (by simp)]
  simp only [Option.bind_some, W_bind]
  refine W_forR (fun i ρ Z => ∃ (c' : St) (rows' : List (List Path)) (F' : List Path) (s9 s12 : Option SV), c'.ok ∧ BkI E U t (n + 1) rows rows' F' ∧ (∀ q ∈ F', ∃ (j : Nat) (p : Path) (r : Str), j < i ∧ Lp[j]? = some p ∧ q = r :: p) ∧
      ρ = ⟨R.length + 1, [some (.ptr 0), s1, s2, some (.fz (.int t)), s4, s5, some (.fz (.list (U.map .str))), some (.fz (linkD L)), some (.ptr (R.length + 1)), s9, some (.fz (.list (Lp.map pathD))), some (.ptr (R.length + 2 + U.length + J.length)), s12, s13]⟩ ∧ Z = BkS c'.cell R (tbl (R.length + 2) U) (rows'.map orC) J (orC F')) ⟨c, rows, [], s9, s12, hc, ⟨hr, RowsLe.refl _, by simp, by simp, by simp, fun ps hps q hq => .inl (htop ps hps q hq)⟩, by simp, rfl, rfl⟩ ?_ ?_
  · rintro i d ρ Z hd ⟨c1, rows1, F1, s9, s12, ok1, I1, hF1, rfl, rfl⟩
    rw [List.getElem?_map, Option.map_eq_some_iff] at hd
    obtain ⟨p, hpi, rfl⟩ := hd
    have hp := List.mem_of_getElem? hpi
    have hpl := hL p hp
    have hfr1 : ∀ r, r :: p ∉ F1 := fun r h => by
      obtain ⟨j, p', r', hj, hp', e⟩ := hF1 _ h
      have e1 : p = p' := (List.cons.inj e).2
      subst e1
      obtain ⟨a1, a2⟩ := List.getElem?_eq_some_iff.mp hpi
      obtain ⟨b1, b2⟩ := List.getElem?_eq_some_iff.mp hp'
      have := (List.getElem_inj hLn).mp (a2.trans b2.symm)
      omega
    simp only [gNm_ap, W_some, put_ap, List.set_cons_succ, List.set_cons_zero]
    refine (sp_bkN K ok1 I1 hpl (by rintro rfl; have := hpl.len; simp at this) hfr1).mono ?_
    rintro ⟨fl, ρ2, Z2⟩ ⟨h1, c2, rows2, F2, s9, ok2, I2, hF2, he⟩
    cases he
    refine .inl ⟨h1, c2, rows2, F2, s9, _, ok2, I2, fun q hq => ?_, rfl, rfl⟩
    rcases hF2 q hq with h | ⟨r, h⟩
    · obtain ⟨j, p', r', hj, h⟩ := hF1 q h
      exact ⟨j, p', r', by omega, h⟩
    · exact ⟨i, p, r, by omega, hpi, h⟩
  · rintro ρ Z ⟨c1, rows1, F1, s9, s12, ok1, I1, hF1, rfl, rfl⟩
    have htop2 : ∀ ps ∈ rows1, ∀ q ∈ ps, q.length ≤ n + 2 := fun ps hps q hq => by
      rcases I1.top ps hps q hq with h | h
      · omega
      · have := (I1.lv q h).len; omega
    have a3 : (BkS c1.cell R (tbl (R.length + 2) U) (rows1.map orC) J (orC F1))[R.length + 2 + U.length + J.length]? = some (orC F1) := by
      have := bk_f c1.cell R (tbl (R.length + 2) U) (rows1.map orC) J (orC F1)
      rwa [List.length_map, I1.ok.len] at this
    have a4 : (BkS c1.cell R (tbl (R.length + 2) U) (rows1.map orC) J (orC F1)).set (R.length + 2 + U.length + J.length) (.fz (.list (F1.map pathD))) = BkZ c1.cell R (tbl (R.length + 2) U) (rows1.map orC) (J ++ [.fz (.list (F1.map pathD))]) := by
      have := bk_setf c1.cell R (tbl (R.length + 2) U) (rows1.map orC) J (orC F1) (.fz (.list (F1.map pathD)))
      rw [List.length_map, I1.ok.len] at this
      rw [this]; rfl
    have hd := orC_dat F1
    simp only [mFz_ap, mVar_ap, List.getElem?_cons_succ, List.getElem?_cons_zero, Option.join_some, Option.map_some, Option.bind_some, frz, a3, hd, a4, W_some, put_ap, List.set_cons_succ, List.set_cons_zero, W_map]
    exact ⟨trivial, c1, rows1, F1, _, _, _, _, ok1, I1.ok, I1.le, I1.lv, I1.nd, htop2, rfl⟩
/-- the rows told at the end -/
def Cells (rows : List (List Path)) (M : Store) : Prop := ∀ (i : Nat) (ps : List Path), rows[i]? = some ps → ∃ x, M[i]? = some x ∧ x.dat = some (.list (ps.map pathD))
theorem sp_bkM {E U : List Str} {t : Nat} {L : List (Str × Str)} (K : Bk E U t L) {rows : List (List Path)} (hr : Rows E U t rows) {U' : List Str} (hp : U'.Perm U) {s1 s2 s3 s4 s5 s6 s7 s9 s10 s11 s12 : Option SV} {R M : Store} (hM : Cells rows M) {c : St} (hc : c.ok) {Q : Fl × EV × Store → Prop}
    (hQ : ∀ (c' : St) (T : Tab) (M' : Store) (s9 : Option SV), c'.ok → M'.length = M.length → T.map (·.1) = U' → (∀ q ∈ T, ∃ (i : Nat) (ps : List Path), U[i]? = some q.1 ∧ rows[i]? = some ps ∧ q.2.Perm ps) → Q (.nx, ⟨R.length + 1, [some (.ptr 0), s1, s2, s3, s4, s5, s6, s7, some (.ptr (R.length + 1)), s9, s10, s11, s12, some (.ptr (R.length + 2 + M.length))]⟩, BkS c'.cell R (tbl (R.length + 2) U) M' [] (.dK (tkv T)))) :
    W (forGo (gNm 9) bkM (U'.map .str) ⟨R.length + 1, [some (.ptr 0), s1, s2, s3, s4, s5, s6, s7, some (.ptr (R.length + 1)), s9, s10, s11, s12, some (.ptr (R.length + 2 + M.length))]⟩ (BkS c.cell R (tbl (R.length + 2) U) M [] (.dK []))) Q := by
  have hUl := K.Ul
  refine W_forR (fun i ρ Z => ∃ (c' : St) (T : Tab) (M' : Store) (s9 : Option SV), c'.ok ∧ M'.length = M.length ∧ Cells rows M' ∧ T.map (·.1) = U'.take i ∧ (∀ q ∈ T, ∃ (i : Nat) (ps : List Path), U[i]? = some q.1 ∧ rows[i]? = some ps ∧ q.2.Perm ps) ∧ ρ = ⟨R.length + 1, [some (.ptr 0), s1, s2, s3, s4, s5, s6, s7, some (.ptr (R.length + 1)), s9, s10, s11, s12, some (.ptr (R.length + 2 + M.length))]⟩ ∧ Z = BkS c'.cell R (tbl (R.length + 2) U) M' [] (.dK (tkv T))) ⟨c, [], M, s9, hc, rfl, hM, rfl, by simp, rfl, rfl⟩ ?_ ?_
  · rintro k d ρ Z hd ⟨c1, T, M1, s9, ok1, hl1, hM1, hT, hTq, rfl, rfl⟩
    rw [List.getElem?_map, Option.map_eq_some_iff] at hd
    obtain ⟨r, hrk, rfl⟩ := hd
    obtain ⟨hk, e⟩ := List.getElem?_eq_some_iff.mp hrk
    have hsplit : U'.take (k + 1) = U'.take k ++ [r] := by rw [List.take_succ_eq_append_getElem hk, e]
    have hnd : U'.Nodup := hp.nodup_iff.mpr K.Ud
    have hno : r ∉ T.map (·.1) := by
      rw [hT]
      intro h
      have h2 : U' = U'.take k ++ U'.drop k := (List.take_append_drop k _).symm
      rw [h2, List.nodup_append] at hnd
      refine hnd.2.2 r h r ?_ rfl
      rw [List.drop_eq_getElem_cons hk, e]; simp
    obtain ⟨i, hi, hri⟩ := List.mem_iff_getElem.mp (hp.mem_iff.mp (List.mem_of_getElem? hrk))
    have hr? : U[i]? = some r := by rw [List.getElem?_eq_getElem hi, hri]
    have hir : i < rows.length := by rw [hr.len]; exact hi
    have hps : rows[i]? = some rows[i] := List.getElem?_eq_getElem hir
    have hrow := hr.row i r rows[i] hr? hps
    generalize rows[i] = ps at *
    obtain ⟨x, hx, hxd⟩ := hM1 i ps hps
    have hiM : i < M1.length := (List.getElem?_eq_some_iff.mp hx).1
    have e4 : ∀ c M f, subOf (BkS c R (tbl (R.length + 2) U) M [] f) (.ptr (R.length + 1)) (.str r) = some (.ptr (R.length + 2 + i)) := fun c M f => sub_tbl (bk_tb c R _ M [] f) K.Ud hr?
    have a1 := fun c f => bk_row c R (tbl (R.length + 2) U) M1 [] f hx
    have a2 := fun c f y => bk_setrow c R (tbl (R.length + 2) U) M1 [] f hiM y
    have hT8 : T.length ≤ 8 := by
      have := congrArg List.length hT
      rw [List.length_map, List.length_take] at this
      have := hp.length_eq
      omega
    have hpl : (ps.map pathD).length ≤ 100 := by rw [List.length_map]; have := hrow.1; have := K.t4; omega
    obtain ⟨l, c2, ok2, hperm, emix⟩ := t_mixed c1 ok1 (ps.map pathD) hpl (R ++ .dK (tbl (R.length + 2) U) :: (M1.set i (.fz (.list (ps.map pathD))) ++ ([] ++ [.dK (tkv T)])))
    obtain ⟨ps', hpp, rfl⟩ := perm_ex pathD unPath unPath_path hperm
    have emix' : m__law_mixed [.ptr 0, .fz (.list (ps.map pathD))] (BkS c1.cell R (tbl (R.length + 2) U) (M1.set i (.fz (.list (ps.map pathD)))) [] (.dK (tkv T))) = some (.fz (.list (ps'.map pathD)), BkS c2.cell R (tbl (R.length + 2) U) (M1.set i (.fz (.list (ps.map pathD)))) [] (.dK (tkv T))) := emix
    have a3 := bk_f c2.cell R (tbl (R.length + 2) U) (M1.set i (.fz (.list (ps.map pathD)))) [] (.dK (tkv T))
    have a4 := fun y => bk_setf c2.cell R (tbl (R.length + 2) U) (M1.set i (.fz (.list (ps.map pathD)))) [] (.dK (tkv T)) y
    simp only [List.length_set, hl1, List.length_nil, Nat.add_zero] at a3
    simp only [List.length_set, hl1, List.length_nil, Nat.add_zero] at a4
    have hput := tkv_put hno ps'
    rw [rowD] at hput
    have hz1 : (tkv T).length < sizeLine := by rw [tkv_len]; exact Nat.lt_of_le_of_lt hT8 (by decide)
    simp only [gNm_ap, W_some, put_ap, List.set_cons_succ, List.set_cons_zero]
    generalize hD : PyData.list (ps.map pathD) = D at *
    rw [bkM]
    simp only [Pd.sDPut, mCall_ap, mCallF_ap, aCons_ap, aNil_ap, mVar_ap, List.getElem?_cons_succ, List.getElem?_cons_zero, Option.join_some, Option.map_some, Option.bind_some, mFz_ap, mSub_ap, flat_fz, e4, frz, a1, hxd, a2, emix', flats_cons, flats_nil, gTuple_lst, a3, hz1, okPtr_fz, and_self, if_true, keyOf, hput, a4, W_some]
    refine .inl ⟨trivial, c2, T ++ [(r, ps')], M1.set i (.fz D), _, ok2, by simp [hl1], ?_, by rw [List.map_append, hT, hsplit]; rfl, ?_, rfl, rfl⟩
    · intro j qs hj
      by_cases e : i = j
      · subst e
        rw [hps] at hj; cases hj
        exact ⟨.fz D, by rw [List.getElem?_set_self hiM], by rw [hD]; rfl⟩
      · rw [List.getElem?_set_ne e]; exact hM1 j qs hj
    · intro q hq
      rcases List.mem_append.mp hq with hq | hq
      · exact hTq q hq
      · simp only [List.mem_singleton] at hq; subst hq
        exact ⟨i, ps, hr?, hps, hpp⟩
  · rintro ρ Z ⟨c1, T, M1, s9, ok1, hl1, hM1, hT, hTq, rfl, rfl⟩
    rw [List.length_map, List.take_length] at hT
    exact hQ c1 T M1 s9 ok1 hl1 hT hTq
end NS

set_option maxHeartbeats 1000000
set_option linter.all false
set_option maxRecDepth 10000
namespace NS
open PySem Pd L2
/-! ### the book -/
theorem take_bk (c : Cell) (R : Store) (tb : List (Key × SV)) (M J : Store) (f : Cell) : (BkS c R tb M J f).take (R.length + 1) = c :: R := by simp [BkS]
theorem unStr_str (x : Str) : unStr (.str x) = some x := rfl
theorem row0 (n : Nat) : (List.replicate n ([] : List Path)).map orC = List.replicate n (.lst []) := by simp [orC]
theorem sp_table {U : List Str} (hU : U.Nodup) {c : Cell} {R : Store} {s0 s1 s2 s3 s4 s5 s6 s7 s9 s10 s11 s12 s13 : Option SV} (hl : U.length ≤ 8) :
    W (forGo (gNm 9) (Pd.sDPut (mVar 8) (mVar 9) (mLstC aNil)) (U.map .str) ⟨R.length + 1, [s0, s1, s2, s3, s4, s5, s6, s7, some (.ptr (R.length + 1)), s9, s10, s11, s12, s13]⟩ (BkZ c R [] [] [])) fun z => ∃ s9, z = (.nx, ⟨R.length + 1, [s0, s1, s2, s3, s4, s5, s6, s7, some (.ptr (R.length + 1)), s9, s10, s11, s12, s13]⟩, BkZ c R (tbl (R.length + 2) U) ((List.replicate U.length ([] : List Path)).map orC) []) := by
  refine W_forR (fun i ρ Z => ∃ s9, ρ = ⟨R.length + 1, [s0, s1, s2, s3, s4, s5, s6, s7, some (.ptr (R.length + 1)), s9, s10, s11, s12, s13]⟩ ∧ Z = BkZ c R (tbl (R.length + 2) (U.take i)) (List.replicate i (.lst [])) []) ⟨s9, rfl, rfl⟩ ?_ ?_
  · rintro i d ρ Z hd ⟨s9, rfl, rfl⟩
    rw [List.getElem?_map, Option.map_eq_some_iff] at hd
    obtain ⟨r, hr, rfl⟩ := hd
    obtain ⟨hi, e⟩ := List.getElem?_eq_some_iff.mp hr
    have hsplit : U.take (i + 1) = U.take i ++ [r] := by rw [List.take_succ_eq_append_getElem hi, e]
    have hno : r ∉ U.take i := by
      intro h
      have h2 : U = U.take i ++ U.drop i := (List.take_append_drop i _).symm
      rw [h2, List.nodup_append] at hU
      refine hU.2.2 r h r ?_ rfl
      rw [List.drop_eq_getElem_cons hi, e]; simp
    have hzl : (BkZ c R (tbl (R.length + 2) (U.take i)) (List.replicate i (.lst [])) []).length = R.length + 2 + i := by simp [BkZ]; omega
    have e1 : BkZ c R (tbl (R.length + 2) (U.take i)) (List.replicate i (.lst [])) [] ++ [.lst []] = BkS c R (tbl (R.length + 2) (U.take i)) (List.replicate i (.lst [])) [] (.lst []) := by simp [BkZ, BkS]
    have e2 := bk_tb c R (tbl (R.length + 2) (U.take i)) (List.replicate i (.lst [])) [] (.lst [])
    have hput := tbl_put (b := R.length + 2) hno (.ptr (R.length + 2 + i))
    have happ := tbl_app r (U.take i) (R.length + 2)
    rw [List.length_take, Nat.min_eq_left (by omega)] at happ
    rw [← happ, ← hsplit] at hput
    have hz1 : (tbl (R.length + 2) (U.take i)).length < sizeLine := by rw [tbl_len, List.length_take]; exact Nat.lt_of_le_of_lt (show _ ≤ 8 by omega) (by decide)
    have e3 : (BkS c R (tbl (R.length + 2) (U.take i)) (List.replicate i (.lst [])) [] (.lst [])).set (R.length + 1) (.dK (tbl (R.length + 2) (U.take (i + 1)))) = BkZ c R (tbl (R.length + 2) (U.take (i + 1))) (List.replicate (i + 1) (.lst [])) [] := by
      rw [BkS, List.set_cons_succ, List.set_append_right _ _ (Nat.le_refl _), Nat.sub_self, List.set_cons_zero, BkZ, List.replicate_succ']
      simp
    have hok : okPtr (R.length + 1) (R.length + 1) (.ptr (R.length + 2 + i)) = true := by simp [okPtr]
    simp only [gNm_ap, W_some, put_ap, List.set_cons_succ, List.set_cons_zero, Pd.sDPut, mLstC_ap, aNil_ap, Option.bind_some, List.length_nil, Nat.zero_le, if_true, hzl, e1, mVar_ap, List.getElem?_cons_succ, List.getElem?_cons_zero, Option.join_some, Option.map_some, flat_fz, e2, hz1, hok, and_self, keyOf, hput, e3]
    exact .inl ⟨trivial, _, rfl, trivial⟩
  · rintro ρ Z ⟨s9, rfl, rfl⟩
    rw [List.length_map, List.take_length, row0]
    exact ⟨s9, rfl⟩
theorem sp_grow {E U : List Str} {t : Nat} {L : List (Str × Str)} (K : Bk E U t L) {c : St} (hc : c.ok) {s1 s2 s4 s5 s9 s11 s12 s13 : Option SV} {R : Store} :
    W (whGo (mTB (mBin dGt (mCall gLenA (aCons (mVar 10) aNil)) (mC (.int 0)))) bkL 100000 ⟨R.length + 1, [some (.ptr 0), s1, s2, some (.fz (.int t)), s4, s5, some (.fz (.list (U.map .str))), some (.fz (linkD L)), some (.ptr (R.length + 1)), s9, some (.fz (.list ((E.map fun e => [e]).map pathD))), s11, s12, s13]⟩ (BkZ c.cell R (tbl (R.length + 2) U) ((List.replicate U.length ([] : List Path)).map orC) [])) fun z => ∃ (c' : St) (rows : List (List Path)) (J : Store) (s9 s10 s11 s12 : Option SV), c'.ok ∧ Rows E U t rows ∧
      z = (.nx, ⟨R.length + 1, [some (.ptr 0), s1, s2, some (.fz (.int t)), s4, s5, some (.fz (.list (U.map .str))), some (.fz (linkD L)), some (.ptr (R.length + 1)), s9, s10, s11, s12, s13]⟩, BkZ c'.cell R (tbl (R.length + 2) U) (rows.map orC) J) := by
  have hEU := K.EUl
  have hr0 : Rows E U t (List.replicate U.length ([] : List Path)) := ⟨by simp, fun i r ps _ h => by
    have := List.mem_of_getElem? h
    rw [List.mem_replicate] at this
    rw [this.2]
    exact ⟨by simp, by simp⟩, fun ps h => by
    rw [List.mem_replicate] at h
    rw [h.2]; simp⟩
  have hL0 : ∀ p ∈ E.map fun e => [e], Lv E U (List.replicate U.length ([] : List Path)) (0 + 1) p := by
    intro p hp
    obtain ⟨e, he, rfl⟩ := List.mem_map.mp hp
    exact ⟨rfl, by simp, fun x hx => by simp at hx; subst hx; exact List.mem_append_left _ he, he⟩
  have hLn0 : (E.map fun e => [e]).Nodup := K.Ed.map _ fun a b hab e => hab (List.cons.inj e).1
  have htop0 : ∀ ps ∈ List.replicate U.length ([] : List Path), ∀ q ∈ ps, q.length ≤ 0 + 1 := fun ps h q hq => by
    rw [List.mem_replicate] at h
    rw [h.2] at hq; simp at hq
  refine W_while (fun k ρ Z => ∃ (c' : St) (rows : List (List Path)) (Lp : List Path) (n : Nat) (J : Store) (s9 s11 s12 : Option SV), c'.ok ∧ Rows E U t rows ∧ (∀ p ∈ Lp, Lv E U rows (n + 1) p) ∧ Lp.Nodup ∧ (∀ ps ∈ rows, ∀ q ∈ ps, q.length ≤ n + 1) ∧ k = (E ++ U).length + 1 - n ∧ ρ = ⟨R.length + 1, [some (.ptr 0), s1, s2, some (.fz (.int t)), s4, s5, some (.fz (.list (U.map .str))), some (.fz (linkD L)), some (.ptr (R.length + 1)), s9, some (.fz (.list (Lp.map pathD))), s11, s12, s13]⟩ ∧ Z = BkZ c'.cell R (tbl (R.length + 2) U) (rows.map orC) J) ?_ (k := (E ++ U).length + 1) ⟨c, _, _, 0, [], _, _, _, hc, hr0, hL0, hLn0, htop0, rfl, rfl, rfl⟩ (by omega)
  rintro k ρ Z ⟨c1, rows, Lp, n, J, s9, s11, s12, ok1, hr, hL, hLn, htop, rfl, rfl, rfl⟩
  cases Lp with
  | nil =>
    simp
    exact ⟨c1, ok1, rows, hr, J, rfl⟩
  | cons p Lp =>
    have hpl := hL p List.mem_cons_self
    have hn : n + 1 ≤ (E ++ U).length := by rw [← hpl.len]; exact nodup_le _ _ hpl.nd hpl.sub
    have hz : decide ((0 : Int) < (((p :: Lp).map pathD).length : Int)) = true := by simp
    simp only [mTB_ap, mBin_ap, mCall_ap, aCons_ap, aNil_ap, mVar_ap, List.getElem?_cons_succ, List.getElem?_cons_zero, Option.join_some, Option.map_some, Option.bind_some, flats_cons, flats_nil, flat_fz, gLenA_lst, mC_ap, dGt_int, hz, W_some, if_true]
    refine (sp_bkL K ok1 hr hL hLn htop).mono ?_
    rintro ⟨fl, ρ2, Z2⟩ ⟨h1, c2, rows2, F, J2, s9, s11, s12, ok2, hr2, hle, hF, hFn, hFt, he⟩
    simp only at h1
    subst h1
    cases he
    exact ⟨_, by omega, c2, rows2, F, n + 1, J2, s9, s11, s12, ok2, hr2, hF, hFn, hFt, rfl, rfl, rfl⟩
theorem sp_book (c : St) (h : c.ok) (m o t : Nat) (hm : 1 ≤ m) (ho : 1 ≤ o) (hmo : m + o ≤ 8) (ht : t ≤ 4) (R : Store) : W (m__law_book [.ptr 0, .fz (.int m), .fz (.int o), .fz (.int t)] (c.cell :: R)) fun r => ∃ (B : Book) (c' : St), Good B ∧ St.ok c' ∧ B.keys ≠ [] ∧ r = (.fz (bookD B), St.cell c' :: R) := by
  refine W_fun ?_
  rw [b_book, show startE 14 [SV.ptr 0, .fz (.int m), .fz (.int o), .fz (.int t)] = [some (.ptr 0), some (.fz (.int m)), some (.fz (.int o)), some (.fz (.int t)), none, none, none, none, none, none, none, none, none, none] from rfl]
  have hb : (c.cell :: R).length = R.length + 1 := by simp
  rw [hb]
  have hadd : ((m : Int) + (o : Int)) = ((m + o : Nat) : Int) := by omega
  simp only [sSeq_ap, sSet_ap, mCallF_ap, aCons_ap, aNil_ap, mVar_ap, List.getElem?_cons_succ, List.getElem?_cons_zero, Option.join_some, Option.map_some, Option.bind_some, mBin_ap, flat_fz, dAdd_int, hadd, W_bind, W_map]
  refine (sp_names2 c h (m + o) (by omega) R).mono ?_
  rintro _ ⟨ns, c1, ok1, hl, hnm, hnd, rfl⟩
  have hE := gSorted_strs (xs := ns.take o) fun x hx => (hnm x (List.mem_of_mem_take hx)).strOk
  have hU := gSorted_strs (xs := ns.drop o) fun x hx => (hnm x (List.mem_of_mem_drop hx)).strOk
  have hc1 := cut_take (ns.map .str) o (by simp; omega)
  have hc2 := cut_drop (ns.map .str) o (by simp; omega)
  rw [← List.map_take] at hc1
  rw [← List.map_drop] at hc2
  simp only [put_ap, List.set_cons_succ, List.set_cons_zero, mCall_ap, aCons_ap, aNil_ap, mSl_ap, oSome_ap, oNone_ap, mVar_ap, List.getElem?_cons_succ, List.getElem?_cons_zero, Option.join_some, Option.map_some, Option.bind_some, flat_fz, dSl_lst, hc1, hc2, flats_cons, flats_nil, hE, hU, W_some, W_bind, W_map]
  refine (sp_links c1 ok1 ns (by omega) (by omega) R).mono ?_
  rintro _ ⟨L, c2, ok2, hL, rfl⟩
  have hb2 : (c2.cell :: R).length = R.length + 1 := by simp
  -- the two kinds of names
  have hlE : (sortS (ns.take o)).length = o := by rw [sortS_len, List.length_take]; omega
  have hlU : (sortS (ns.drop o)).length = m := by rw [sortS_len, List.length_drop]; omega
  have hsplit : (ns.take o ++ ns.drop o).Nodup := by rw [List.take_append_drop]; exact hnd
  rw [List.nodup_append] at hsplit
  have hEn : ∀ x ∈ sortS (ns.take o), Nm x := fun x hx => hnm x (List.mem_of_mem_take (mem_sortS.mp hx))
  have hUn : ∀ x ∈ sortS (ns.drop o), Nm x := fun x hx => hnm x (List.mem_of_mem_drop (mem_sortS.mp hx))
  have hUd : (sortS (ns.drop o)).Nodup := sortS_nodup hsplit.2.1
  have hEd : (sortS (ns.take o)).Nodup := sortS_nodup hsplit.1
  have hsep : ∀ x ∈ sortS (ns.drop o), x ∉ sortS (ns.take o) := fun x hx hx2 => hsplit.2.2 x (mem_sortS.mp hx2) x (mem_sortS.mp hx) rfl
  have hEne : sortS (ns.take o) ≠ [] := fun e => by rw [e] at hlE; simp at hlE; omega
  have hUne : sortS (ns.drop o) ≠ [] := fun e => by rw [e] at hlU; simp at hlU; omega
  generalize sortS (ns.take o) = E at *
  generalize sortS (ns.drop o) = U at *
  have K : Bk E U t L := ⟨hEn, hUn, hUd, hEd, by omega, by rw [List.length_append]; omega, ht, hL⟩
  simp only [put_ap, List.set_cons_succ, List.set_cons_zero, mDNewK_ap, Option.map_some, Option.bind_some, hb2, sFor_ap, W_some, W_bind, W_map]
  rw [iAny_lst (ds := U.map .str) (by simp)]
  simp only [W_some]
  refine (sp_table hUd (c := c2.cell) (R := R) (by omega)).mono ?_
  rintro _ ⟨s9, rfl⟩
  have e1 := mLC_map (own := [9]) (f := iAny (mVar 5)) (g := gNm 9) (te := mTup (aCons (mVar 9) aNil)) (ρ := ⟨R.length + 1, [some (.ptr 0), some (.fz (.int m)), some (.fz (.int o)), some (.fz (.int t)), some (.fz (.list (ns.map .str))), some (.fz (.list (E.map .str))), some (.fz (.list (U.map .str))), some (.fz (linkD L)), some (.ptr (R.length + 1)), s9, none, none, none, none]⟩) (P := BkZ c2.cell R (tbl (R.length + 2) U) ((List.replicate U.length ([] : List Path)).map orC) []) (items := E.map .str) (src := .fz (.list (E.map .str))) (fun d => .tuple [d]) (by simp) (by rw [List.length_map, hlE]; exact Nat.le_trans (show o ≤ 8 by omega) (by decide)) fun d hd S => by
    have h1 : (1 : Nat) ≤ sizeLine := by decide
    obtain ⟨x, _, rfl⟩ := List.mem_map.mp hd
    exact ⟨_, rfl, by simp [EV.wipe, fzs, h1]⟩
  have e2 : (E.map PyData.str).map (fun d => PyData.tuple [d]) = (E.map fun e => [e]).map pathD := by simp [pathD, Function.comp_def]
  rw [e2] at e1
  simp only [e1, Option.map_some, Option.bind_some, put_ap, List.set_cons_succ, List.set_cons_zero, W_some, W_bind]
  refine (sp_grow K ok2).mono ?_
  rintro _ ⟨c3, rows, J, s9, s10, s11, s12, ok3, hr, rfl⟩
  have hzl : (BkZ c3.cell R (tbl (R.length + 2) U) (rows.map orC) J).length = R.length + 2 + (rows.map orC ++ J).length := by simp [BkZ]; omega
  have hz2 : BkZ c3.cell R (tbl (R.length + 2) U) (rows.map orC) J ++ [.dK []] = BkS c3.cell R (tbl (R.length + 2) U) (rows.map orC ++ J) [] (.dK []) := by simp [BkZ, BkS]
  obtain ⟨l, c4, ok4, hperm, emix⟩ := t_mixed c3 ok3 (U.map .str) (by rw [List.length_map]; omega) (R ++ .dK (tbl (R.length + 2) U) :: ((rows.map orC ++ J) ++ ([] ++ [.dK []])))
  obtain ⟨U', hUp, rfl⟩ := perm_ex PyData.str unStr unStr_str hperm
  have emix' : m__law_mixed [.ptr 0, .fz (.list (U.map .str))] (BkS c3.cell R (tbl (R.length + 2) U) (rows.map orC ++ J) [] (.dK [])) = some (.fz (.list (U'.map .str)), BkS c4.cell R (tbl (R.length + 2) U) (rows.map orC ++ J) [] (.dK [])) := emix
  have hcells : Cells rows (rows.map orC ++ J) := fun i ps hi => by
    have hil := (List.getElem?_eq_some_iff.mp hi).1
    exact ⟨orC ps, by rw [List.getElem?_append_left (by simpa using hil), List.getElem?_map, hi]; rfl, orC_dat ps⟩
  simp only [hzl, hz2, Option.map_some, Option.bind_some, put_ap, List.set_cons_succ, List.set_cons_zero, iAny_ap, mCallF_ap, aCons_ap, aNil_ap, mVar_ap, List.getElem?_cons_succ, List.getElem?_cons_zero, Option.join_some, emix', W_some, W_bind]
  refine sp_bkM K hr hUp hcells ok4 ?_
  intro c5 T M' s9 ok5 hl5 hT hTq
  have hG := rows_good hr ht hEne (by omega) (by omega) hEn hUn hUd hsep hUp hT hTq
  have a3 := bk_f c5.cell R (tbl (R.length + 2) U) M' [] (.dK (tkv T))
  have a4 := fun y => bk_setf c5.cell R (tbl (R.length + 2) U) M' [] (.dK (tkv T)) y
  simp only [hl5, List.length_nil, Nat.add_zero] at a3 a4
  have hd := tkv_dat T
  have hs3 : (3 : Nat) ≤ sizeLine := by decide
  have htk := fun y => take_bk c5.cell R (tbl (R.length + 2) U) M' [] y
  simp only [sRet_ap, mTup_ap, aCons_ap, aNil_ap, mC_ap, mCall_ap, mVar_ap, List.getElem?_cons_succ, List.getElem?_cons_zero, Option.join_some, Option.map_some, Option.bind_some, flats_cons, flats_nil, flat_fz, gTuple_lst, mFz_ap, frz, a3, hd, a4, show fzs [SV.fz (.str "book"), .fz (.tuple (E.map .str)), .fz (tabD T)] = some [.str "book", .tuple (E.map .str), tabD T] from rfl, List.length_cons, List.length_nil, Nat.zero_add, Nat.reduceAdd, hs3, if_true, W_some, exitZ_fz, htk]
  refine ⟨⟨E, T⟩, c5, hG, ok5, ?_, rfl⟩
  show T.map (·.1) ≠ []
  rw [hT]
  intro e
  rw [e] at hUp
  exact hUne (List.perm_nil.mp hUp.symm)
end NS

set_option maxHeartbeats 1000000
set_option linter.all false
set_option maxRecDepth 10000
namespace NS
open PySem Pd L2
/-! ### the small book -/
theorem sm_at (v : Int) (v0 : 0 ≤ v) (v1 : v < 7) : ∃ m t : Nat, 1 ≤ m ∧ m ≤ 4 ∧ t ≤ 4 ∧ atI [PyData.tuple [.int 2, .int 2], .tuple [.int 2, .int 3], .tuple [.int 3, .int 2], .tuple [.int 3, .int 3], .tuple [.int 3, .int 4], .tuple [.int 4, .int 2], .tuple [.int 4, .int 3]] v = some (.tuple [.int m, .int t]) := by
  have hv : v = 0 ∨ v = 1 ∨ v = 2 ∨ v = 3 ∨ v = 4 ∨ v = 5 ∨ v = 6 := by omega
  rcases hv with rfl | rfl | rfl | rfl | rfl | rfl | rfl
  · exact ⟨2, 2, by decide, by decide, by decide, rfl⟩
  · exact ⟨2, 3, by decide, by decide, by decide, rfl⟩
  · exact ⟨3, 2, by decide, by decide, by decide, rfl⟩
  · exact ⟨3, 3, by decide, by decide, by decide, rfl⟩
  · exact ⟨3, 4, by decide, by decide, by decide, rfl⟩
  · exact ⟨4, 2, by decide, by decide, by decide, rfl⟩
  · exact ⟨4, 3, by decide, by decide, by decide, rfl⟩
theorem so_at (v : Int) (v0 : 0 ≤ v) (v1 : v < 4) : ∃ o : Nat, 1 ≤ o ∧ o ≤ 2 ∧ atI [PyData.int 1, .int 1, .int 1, .int 2] v = some (.int o) := by
  have hv : v = 0 ∨ v = 1 ∨ v = 2 ∨ v = 3 := by omega
  rcases hv with rfl | rfl | rfl | rfl
  · exact ⟨1, by decide, by decide, rfl⟩
  · exact ⟨1, by decide, by decide, rfl⟩
  · exact ⟨1, by decide, by decide, rfl⟩
  · exact ⟨2, by decide, by decide, rfl⟩
theorem sp_small_book (c : St) (h : c.ok) (R : Store) : W (m__law_small_book [.ptr 0] (c.cell :: R)) fun r => ∃ (B : Book) (c' : St), Good B ∧ St.ok c' ∧ B.keys ≠ [] ∧ r = (.fz (bookD B), St.cell c' :: R) := by
  refine W_fun ?_
  rw [b__law_small_book, show startE 3 [SV.ptr 0] = [some (.ptr 0), none, none] from rfl]
  obtain ⟨v, c1, ok1, v0, v1, e1⟩ := st_next c h 7 (by decide)
  obtain ⟨m, t, hm1, hm2, ht, hat⟩ := sm_at v v0 v1
  obtain ⟨u, c2, ok2, u0, u1, e2⟩ := st_next c1 ok1 4 (by decide)
  obtain ⟨o, ho1, ho2, hao⟩ := so_at u u0 u1
  have hs2 : (2 : Nat) ≤ sizeLine := by decide
  have hs4 : (4 : Nat) ≤ sizeLine := by decide
  have hs7 : (7 : Nat) ≤ sizeLine := by decide
  have e3 := e1 R
  have e4 := e2 R
  simp [e3, hat, e4, hao, fzs, hs2, hs4, hs7]
  refine (sp_book c2 ok2 m o t hm1 ho1 (by omega) ht R).mono ?_
  rintro _ ⟨B, c3, G, ok3, hne, rfl⟩
  simp
  exact ⟨B, G, c3, ok3, hne, rfl, rfl⟩
end NS

set_option maxHeartbeats 1000000
set_option linter.all false
set_option maxRecDepth 10000
namespace NS
open PySem Pd L2
/-! ### what is spoilt stays data -/
def okL (L : Nat) : Nat → PyData → Bool
  | _, .none => true
  | _, .bool _ => true
  | _, .int _ => true
  | _, .str x => PyData.strOk x && decide (x.length ≤ 1000)
  | n + 1, .list ds => decide (ds.length ≤ L) && ds.all (okL L n)
  | n + 1, .tuple ds => decide (ds.length ≤ L) && ds.all (okL L n)
  | _, _ => false
def parts : PyData → Option (List PyData)
  | .list ds => some ds
  | .tuple ds => some ds
  | _ => none
theorem okL_okD {L : Nat} (hL : L ≤ 1000) : ∀ {n : Nat} {d : PyData}, okL L n d = true → okD n d = true
  | 0, d, h => by cases d <;> simp_all [okL, okD]
  | n + 1, d, h => by
    cases d with
    | list ds =>
      simp only [okL, okD, Bool.and_eq_true, decide_eq_true_eq, List.all_eq_true] at h ⊢
      exact ⟨by omega, fun e he => okL_okD hL (h.2 e he)⟩
    | tuple ds =>
      simp only [okL, okD, Bool.and_eq_true, decide_eq_true_eq, List.all_eq_true] at h ⊢
      exact ⟨by omega, fun e he => okL_okD hL (h.2 e he)⟩
    | _ => simp_all [okL, okD]
theorem okL_mono {L M : Nat} (hL : L ≤ M) : ∀ {n m : Nat} {d : PyData}, n ≤ m → okL L n d = true → okL M m d = true
  | 0, m, d, _, h => by cases m <;> (cases d <;> simp_all [okL])
  | n + 1, 0, d, h1, _ => absurd h1 (by omega)
  | n + 1, m + 1, d, h1, h => by
    cases d with
    | list ds =>
      simp only [okL, Bool.and_eq_true, decide_eq_true_eq, List.all_eq_true] at h ⊢
      exact ⟨by omega, fun e he => okL_mono hL (by omega) (h.2 e he)⟩
    | tuple ds =>
      simp only [okL, Bool.and_eq_true, decide_eq_true_eq, List.all_eq_true] at h ⊢
      exact ⟨by omega, fun e he => okL_mono hL (by omega) (h.2 e he)⟩
    | _ => simp_all [okL]
theorem parts_ok {L n : Nat} {d : PyData} {ds : List PyData} (h : okL L n d = true) (hp : parts d = some ds) : ∃ m, n = m + 1 ∧ ds.length ≤ L ∧ ∀ e ∈ ds, okL L m e = true := by
  cases n with
  | zero => cases d <;> simp_all [okL, parts]
  | succ n =>
    cases d with
    | list es =>
      simp only [parts, Option.some.injEq] at hp; subst hp
      simp only [okL, Bool.and_eq_true, decide_eq_true_eq, List.all_eq_true] at h
      exact ⟨n, rfl, h.1, h.2⟩
    | tuple es =>
      simp only [parts, Option.some.injEq] at hp; subst hp
      simp only [okL, Bool.and_eq_true, decide_eq_true_eq, List.all_eq_true] at h
      exact ⟨n, rfl, h.1, h.2⟩
    | _ => simp [parts] at hp
def mk (t : Bool) (ds : List PyData) : PyData := if t = true then .tuple ds else .list ds
theorem parts_mk {d : PyData} {ds : List PyData} (h : parts d = some ds) : ∃ t, d = mk t ds := by
  cases d <;> simp only [parts, Option.some.injEq, reduceCtorEq] at h
  · subst h; exact ⟨false, rfl⟩
  · subst h; exact ⟨true, rfl⟩
theorem okL_mk {L m : Nat} {t : Bool} {ds : List PyData} (hl : ds.length ≤ L) (h : ∀ e ∈ ds, okL L m e = true) : okL L (m + 1) (mk t ds) = true := by
  cases t <;> simp [mk, okL, hl] <;> exact h
def isSeq (d : PyData) : Bool := inst .list d || inst .tuple d
theorem isSeq_parts {d : PyData} : isSeq d = (parts d).isSome := by cases d <;> rfl
theorem sub_mk (P : Store) (t : Bool) (ds : List PyData) (i : Nat) : subOf P (.fz (mk t ds)) (.int i) = (ds[i]?).map .fz := by
  cases t <;> simp [mk]
theorem len_mk (t : Bool) (ds : List PyData) : gLenA [mk t ds] = some (.int ds.length) := by cases t <;> rfl
def atS : PyData → List Nat → Option PyData
  | d, [] => some d
  | d, k :: s => (parts d).bind fun ds => (ds[k]?).bind fun e => atS e s
def spotD (s : List Nat) : PyData := .tuple (s.map fun (k : Nat) => PyData.int (k : Int))
theorem atS_ok {L : Nat} : ∀ {s : List Nat} {n : Nat} {d e : PyData}, okL L n d = true → atS d s = some e → okL L n e = true
  | [], n, d, e, h, ha => by simp only [atS, Option.some.injEq] at ha; subst ha; exact h
  | k :: s, n, d, e, h, ha => by
    simp only [atS, Option.bind_eq_some_iff] at ha
    obtain ⟨ds, h1, f, h2, h3⟩ := ha
    obtain ⟨m, rfl, _, h4⟩ := parts_ok h h1
    exact okL_mono (Nat.le_refl _) (by omega) (atS_ok (h4 f (List.mem_of_getElem? h2)) h3)
theorem t_at {d e : PyData} {s : List Nat} (h : atS d s = some e) (P : Store) : m__law_at [.fz d, .fz (spotD s)] P = some (.fz e, P) := by
  refine W.of (W_fun ?_)
  rw [b__law_at, show startE 3 [SV.fz d, .fz (spotD s)] = [some (.fz d), some (.fz (spotD s)), none] from rfl]
  simp only [sSeq_ap, sFor_ap, iAny_ap, mVar_ap, List.getElem?_cons_succ, List.getElem?_cons_zero, Option.join_some, Option.map_some, Option.bind_some, spotD, W_bind]
  refine W_forR (fun i ρ Z => Z = P ∧ ∃ f s2, atS f (s.drop i) = some e ∧ ρ = ⟨P.length, [some (.fz f), some (.fz (spotD s)), s2]⟩) ⟨rfl, d, none, by simpa using h, rfl⟩ ?_ ?_
  · rintro i k ρ Z hd ⟨rfl, f, s2, hf, rfl⟩
    rw [List.getElem?_map, Option.map_eq_some_iff] at hd
    obtain ⟨k, hk, rfl⟩ := hd
    obtain ⟨hi, ek⟩ := List.getElem?_eq_some_iff.mp hk
    rw [List.drop_eq_getElem_cons hi, ek] at hf
    simp only [atS, Option.bind_eq_some_iff] at hf
    obtain ⟨ds, h1, g, h2, h3⟩ := hf
    obtain ⟨t, rfl⟩ := parts_mk h1
    have e1 := sub_mk Z t ds k
    rw [h2, Option.map_some] at e1
    simp only [gNm_ap, W_some, put_ap, List.set_cons_succ, List.set_cons_zero, sSet_ap, mSub_ap, mVar_ap, List.getElem?_cons_succ, List.getElem?_cons_zero, Option.join_some, Option.map_some, Option.bind_some, flat_fz, e1]
    exact .inl ⟨trivial, trivial, g, _, h3, rfl⟩
  · rintro ρ Z ⟨rfl, f, s2, hf, rfl⟩
    rw [List.length_map, List.drop_length] at hf
    simp only [atS, Option.some.injEq] at hf
    subst hf
    simp
theorem spots_step {d : PyData} {ds : List PyData} {k : Nat} {g : PyData} (h1 : parts d = some ds) (h2 : ds[k]? = some g) {s : List Nat} {e : PyData} (h : atS g s = some e) : atS d (k :: s) = some e := by
  simp only [atS, h1, Option.bind_some, h2, h]
mutual
/-- the number of places of data -/
def siz : PyData → Nat
  | .list ds => 1 + sizL ds
  | .tuple ds => 1 + sizL ds
  | _ => 1
def sizL : List PyData → Nat
  | [] => 0
  | d :: r => siz d + sizL r
end
theorem siz_mk (t : Bool) (ds : List PyData) : siz (mk t ds) = 1 + sizL ds := by cases t <;> rfl
theorem siz_parts {d : PyData} {ds : List PyData} (h : parts d = some ds) : siz d = 1 + sizL ds := by
  obtain ⟨t, rfl⟩ := parts_mk h
  exact siz_mk t ds
theorem siz_pos (d : PyData) : 1 ≤ siz d := by cases d <;> simp [siz]
theorem sizL_app : ∀ (xs ys : List PyData), sizL (xs ++ ys) = sizL xs + sizL ys
  | [], ys => by simp [sizL]
  | x :: xs, ys => by simp only [List.cons_append, sizL, sizL_app xs ys]; omega
theorem sizL_td (ds : List PyData) (k : Nat) : sizL (ds.take k) + sizL (ds.drop k) = sizL ds := by
  rw [← sizL_app, List.take_append_drop]
theorem sizL_rev (ds : List PyData) : sizL ds.reverse = sizL ds := by
  induction ds with
  | nil => rfl
  | cons d r ih => rw [List.reverse_cons, sizL_app, ih]; simp only [sizL]; omega
theorem sizL_succ {ds : List PyData} {i : Nat} (h : i < ds.length) : sizL (ds.take (i + 1)) = sizL (ds.take i) + siz ds[i] := by
  rw [List.take_succ_eq_append_getElem h, sizL_app]; simp [sizL]
theorem sizL_mem {ds : List PyData} {d : PyData} (h : d ∈ ds) : siz d ≤ sizL ds := by
  induction ds with
  | nil => simp at h
  | cons e r ih =>
    simp only [sizL]
    rcases List.mem_cons.mp h with rfl | h
    · omega
    · have := ih h; omega
theorem sizL_len (ds : List PyData) : ds.length ≤ sizL ds := by
  induction ds with
  | nil => simp
  | cons e r ih => have := siz_pos e; simp only [sizL, List.length_cons]; omega
theorem atS_siz : ∀ {s : List Nat} {d e : PyData}, atS d s = some e → siz e ≤ siz d
  | [], d, e, h => by simp only [atS, Option.some.injEq] at h; subst h; exact Nat.le_refl _
  | k :: s, d, e, h => by
    simp only [atS, Option.bind_eq_some_iff] at h
    obtain ⟨ds, h1, f, h2, h3⟩ := h
    have a := atS_siz h3
    have b := sizL_mem (List.mem_of_getElem? h2)
    rw [siz_parts h1]; omega
theorem sp_spots {L : Nat} (hL : L ≤ 1000) : ∀ (fuel n : Nat) (d : PyData), okL L n d = true → n < fuel → n ≤ 40 → siz d ≤ 100000 → ∀ P, W (m__law_spots fuel [.fz d] P) fun r => ∃ Ss : List (List Nat), Ss.length = siz d ∧ Ss ≠ [] ∧ (∀ s ∈ Ss, s.length ≤ n ∧ ∃ e, atS d s = some e) ∧ r = (.fz (.list (Ss.map spotD)), P) := by
  intro fuel
  induction fuel with
  | zero => intro n d _ h; omega
  | succ fuel ih =>
    intro n d hd hf hn hsz P
    have hs1 : (1 : Nat) ≤ sizeLine := by decide
    simp only [m__law_spots]
    refine W_fun ?_
    rw [b__law_spots, show startE 4 [SV.fz d] = [some (.fz d), none, none, none] from rfl]
    have e0 : ∀ l, (mLst (aCons (mTup aNil) aNil)) ⟨P.length, l⟩ P = some (.fz (.list (([[]] : List (List Nat)).map spotD)), P) := fun l => by
      simp [fzs, hs1, spotD]
    have hi : (mTB (mIs (fun d => inst .list d || inst .tuple d) (mVar 0))) ⟨P.length, [some (.fz d), some (.fz (.list (([[]] : List (List Nat)).map spotD))), none, none]⟩ P = some ((parts d).isSome, P) := by
      rw [← isSeq_parts]
      simp [isSeq]
    rw [seq_nx (m := sSet 1 _) (ρ1 := ⟨P.length, [some (.fz d), some (.fz (.list (([[]] : List (List Nat)).map spotD))), none, none]⟩) (P1 := P) (by rw [sSet_ap, e0]; rfl)]
    rw [sSeq_ap, sIf_ap, hi]
    cases hp : parts d with
    | none =>
      simp
      have h1 : siz d = 1 := by cases d <;> simp_all [parts, siz]
      exact ⟨[[]], h1.symm, by simp, by
        intro s hs
        simp at hs; subst hs
        exact ⟨by simp, d, rfl⟩, rfl⟩
    | some ds =>
      obtain ⟨m, rfl, hl, hall⟩ := parts_ok hd hp
      obtain ⟨t, rfl⟩ := parts_mk hp
      have hsm : siz (mk t ds) = 1 + sizL ds := siz_mk t ds
      have hg := len_mk t ds
      have q4 : (iRange (aCons (mCall gLenA (aCons (mVar 0) aNil)) aNil)) ⟨P.length, [some (.fz (mk t ds)), some (.fz (.list (([[]] : List (List Nat)).map spotD))), none, none]⟩ P = some (rangeD 0 ds.length, .fz .none, P) := iRange_nat (by simp [hg]) (by omega)
      simp only [Option.bind_some, Option.isSome_some, if_true, for_at q4, W_bind]
      refine W_forR (fun i ρ Z => Z = P ∧ ∃ (Ss : List (List Nat)) (s2 : Option SV), Ss.length = 1 + sizL (ds.take i) ∧ Ss ≠ [] ∧ (∀ s ∈ Ss, s.length ≤ m + 1 ∧ ∃ e, atS (mk t ds) s = some e) ∧ ρ = ⟨P.length, [some (.fz (mk t ds)), some (.fz (.list (Ss.map spotD))), s2, none]⟩) ⟨rfl, [[]], none, by simp [sizL], by simp, by
        intro s hs
        simp at hs; subst hs
        exact ⟨by simp, _, rfl⟩, rfl⟩ ?_ ?_
      · rintro i k ρ Z hd2 ⟨rfl, Ss, s2, hSl, hSn, hS, rfl⟩
        obtain ⟨hi2, rfl⟩ := rangeD_get hd2
        have hgi : ds[i]? = some ds[i] := List.getElem?_eq_getElem hi2
        have e1 := sub_mk Z t ds i
        rw [hgi, Option.map_some] at e1
        have hsp := ih m ds[i] (hall _ (List.getElem_mem hi2)) (by omega) (by omega) (by have := sizL_mem (List.getElem_mem hi2); omega) Z
        obtain ⟨r, er, Ts, hTl, hTn, hT, rfl⟩ := hsp
        have e5 := mLC_map (own := [3]) (f := iAny (mCallF (m__law_spots fuel) (aCons (mSub (mVar 0) (mVar 2)) aNil))) (g := gNm 3) (te := mBin dAdd (mTup (aCons (mVar 2) aNil)) (mVar 3)) (ρ := ⟨Z.length, [some (.fz (mk t ds)), some (.fz (.list (Ss.map spotD))), some (.fz (.int i)), none]⟩) (P := Z) (items := Ts.map spotD) (src := .fz (.list (Ts.map spotD))) (fun d => match d with | .tuple es => .tuple (.int i :: es) | _ => .none) (by
            simp only [iAny_ap, mCallF_ap, aCons_ap, aNil_ap, mSub_ap, mVar_ap, List.getElem?_cons_succ, List.getElem?_cons_zero, Option.join_some, Option.map_some, Option.bind_some, flat_fz, e1, er]) (by rw [List.length_map]; exact Nat.le_trans (show _ ≤ 100000 by have := sizL_mem (List.getElem_mem hi2); omega) (by decide)) fun d hd S => by
          obtain ⟨s, hs, rfl⟩ := List.mem_map.mp hd
          have hsl := (hT s hs).1
          have a1 := dAdd_tup [.int i] (s.map fun (k : Nat) => PyData.int (k : Int)) (by simp only [List.length_map, List.length_singleton]; exact Nat.le_trans (show _ ≤ 100 by omega) (by decide))
          refine ⟨_, rfl, ?_⟩
          simp [EV.wipe, fzs, hs1, spotD, a1]
        have e6 : (Ts.map spotD).map (fun d => match d with | .tuple es => .tuple (.int i :: es) | _ => PyData.none) = (Ts.map fun s => i :: s).map spotD := by
          rw [List.map_map, List.map_map]; rfl
        rw [e6] at e5
        have hil := sizL_succ hi2
        have hil2 := sizL_td ds (i + 1)
        have a2 := dAdd_lst (Ss.map spotD) ((Ts.map fun s => i :: s).map spotD) (by simp only [List.length_map]; exact Nat.le_trans (show _ ≤ 200000 by omega) (by decide))
        rw [← List.map_append] at a2
        simp only [gNm_ap, W_some, put_ap, List.set_cons_succ, List.set_cons_zero, sSet_ap, mBin_ap, mVar_ap, List.getElem?_cons_succ, List.getElem?_cons_zero, Option.join_some, Option.map_some, Option.bind_some, e5, flat_fz, a2]
        refine .inl ⟨trivial, trivial, Ss ++ Ts.map fun s => i :: s, _, ?_, by simp [hSn], ?_, rfl⟩
        · rw [List.length_append, List.length_map]; omega
        · intro s hs
          rcases List.mem_append.mp hs with h | h
          · exact hS s h
          · obtain ⟨u, hu, rfl⟩ := List.mem_map.mp h
            obtain ⟨g1, e, g2⟩ := hT u hu
            exact ⟨by simp; omega, e, spots_step hp hgi g2⟩
      · rintro ρ Z ⟨rfl, Ss, s2, hSl, hSn, hS, rfl⟩
        rw [rangeD_len, List.take_length] at hSl
        simp
        exact ⟨Ss, by omega, hSn, hS, rfl⟩
end NS

set_option maxHeartbeats 1000000
set_option linter.all false
set_option maxRecDepth 10000
namespace NS
open PySem Pd L2
theorem sp_put_at {L : Nat} (hL : L ≤ 1000) : ∀ (fuel n : Nat) (d : PyData) (s : List Nat) (new : PyData) (m : Nat), okL L n d = true → okL L m new = true → s.length < fuel → (∃ e, atS d s = some e) → ∀ P, W (m__law_put_at fuel [.fz d, .fz (spotD s), .fz new] P) fun r => ∃ d', okL L (n + m) d' = true ∧ siz d' ≤ siz d + siz new ∧ r = (.fz d', P) := by
  intro fuel
  induction fuel with
  | zero => intro n d s new m _ _ h; omega
  | succ fuel ih =>
    intro n d s new m hd hnew hf hat P
    simp only [m__law_put_at]
    refine W_fun ?_
    rw [b__law_put_at, show startE 5 [SV.fz d, .fz (spotD s), .fz new] = [some (.fz d), some (.fz (spotD s)), some (.fz new), none, none] from rfl]
    cases s with
    | nil =>
      have hg : gLenA [spotD []] = some (.int 0) := rfl
      simp [hg]
      exact okL_mono (Nat.le_refl _) (by omega) hnew
    | cons k0 s =>
      obtain ⟨e, he⟩ := hat
      simp only [atS, Option.bind_eq_some_iff] at he
      obtain ⟨ds, h1, g, h2, h3⟩ := he
      obtain ⟨n', rfl, hl, hall⟩ := parts_ok hd h1
      obtain ⟨t, rfl⟩ := parts_mk h1
      have hg : gLenA [spotD (k0 :: s)] = some (.int ((s.length + 1 : Nat) : Int)) := by rw [spotD, gLenA_tup]; simp
      have hz : ¬ (((s.length + 1 : Nat) : Int) = 0) := by omega
      have hgl := len_mk t ds
      have e0 : ∀ Z, subOf Z (.fz (spotD (k0 :: s))) (.int 0) = some (.fz (.int k0)) := fun Z => by
        rw [spotD, subOf_tup, show (0 : Int) = ((0 : Nat) : Int) from rfl, atI_nat']; rfl
      have e1 : dSl (spotD (k0 :: s)) (some 1) none = some (spotD s) := by
        have := cut_drop ((k0 :: s).map fun (k : Nat) => PyData.int (k : Int)) 1 (by simp)
        rw [spotD, dSl_tup]
        have h1 : ((1 : Nat) : Int) = 1 := rfl
        rw [h1] at this
        rw [this]; rfl
      have q1 : (sIf (mTB (mBin dEq (mCall gLenA (aCons (mVar 1) aNil)) (mC (.int 0)))) (sRet (mVar 2)) sNx) ⟨P.length, [some (.fz (mk t ds)), some (.fz (spotD (k0 :: s))), some (.fz new), none, none]⟩ P = some (.nx, ⟨P.length, [some (.fz (mk t ds)), some (.fz (spotD (k0 :: s))), some (.fz new), none, none]⟩, P) := by
        simp only [sIf_ap, mTB_ap, mBin_ap, mCall_ap, aCons_ap, aNil_ap, mVar_ap, List.getElem?_cons_succ, List.getElem?_cons_zero, Option.join_some, Option.map_some, Option.bind_some, flats_cons, flats_nil, flat_fz, hg, mC_ap, dEq_int, decide_eq_false hz, Bool.false_eq_true, if_false, sNx_ap]
      rw [seq_nx q1, sSeq_ap, sSet_ap]
      simp only [W_bind, W_map]
      have q4 : (iRange (aCons (mCall gLenA (aCons (mVar 0) aNil)) aNil)) ⟨P.length, [some (.fz (mk t ds)), some (.fz (spotD (k0 :: s))), some (.fz new), none, none]⟩ P = some (rangeD 0 ds.length, .fz .none, P) := iRange_nat (by simp [hgl]) (by omega)
      refine W_lc (fun i acc S => S = P ∧ acc.length = i ∧ (∀ e ∈ acc, okL L (n' + m) e = true) ∧ sizL acc ≤ sizL (ds.take i) + (if k0 < i then siz new else 0)) q4 (by rw [rangeD_len]; exact Nat.le_trans (Nat.le_trans hl hL) (by decide)) ⟨rfl, rfl, by simp, by simp [sizL]⟩ ?_ ?_
      · rintro i k acc S hd2 ⟨rfl, hal, hao, hsz⟩ hS
        obtain ⟨hi, rfl⟩ := rangeD_get hd2
        have hsu := sizL_succ hi
        have hgi : ds[i]? = some ds[i] := List.getElem?_eq_getElem hi
        have e2 := sub_mk (S ++ [.lst (acc.map SV.fz)]) t ds i
        rw [hgi, Option.map_some] at e2
        have hoi := hall ds[i] (List.getElem_mem hi)
        simp only [gNm_ap, EV.wipe, W_some, bYes_ap, if_true]
        by_cases hk : i = k0
        · subst hk
          rw [hgi] at h2
          cases h2
          have hp := ih n' ds[i] s new m hoi hnew (by simp at hf; omega) ⟨e, h3⟩ (S ++ [.lst (acc.map SV.fz)])
          have hke : decide ((i : Int) = (i : Int)) = true := by simp
          simp only [put_ap, List.foldr_cons, List.foldr_nil, List.set_cons_succ, List.set_cons_zero, mIfE_ap, mTB_ap, mBin_ap, mVar_ap, List.getElem?_cons_succ, List.getElem?_cons_zero, Option.join_some, Option.map_some, Option.bind_some, mSub_ap, mC_ap, flat_fz, e0, dEq_int, hke, if_true, mCallF_ap, aCons_ap, aNil_ap, mSl_ap, oSome_ap, oNone_ap, e1, e2]
          refine hp.mono ?_
          rintro _ ⟨d', hd', hsd, rfl⟩
          rw [if_neg (Nat.lt_irrefl _)] at hsz
          exact ⟨d', S, rfl, rfl, rfl, by simp [hal], fun e he => by
            rcases List.mem_append.mp he with h | h
            · exact hao e h
            · simp only [List.mem_singleton] at h; subst h; exact hd', by rw [sizL_app, if_pos (Nat.lt_succ_self _)]; simp only [sizL]; omega⟩
        · have hke : decide ((i : Int) = (k0 : Int)) = false := by simp; omega
          simp only [put_ap, List.foldr_cons, List.foldr_nil, List.set_cons_succ, List.set_cons_zero, mIfE_ap, mTB_ap, mBin_ap, mVar_ap, List.getElem?_cons_succ, List.getElem?_cons_zero, Option.join_some, Option.map_some, Option.bind_some, mSub_ap, mC_ap, flat_fz, e0, dEq_int, hke, Bool.false_eq_true, if_false, e2, W_some]
          exact ⟨ds[i], S, rfl, rfl, rfl, by simp [hal], fun e he => by
            rcases List.mem_append.mp he with h | h
            · exact hao e h
            · simp only [List.mem_singleton] at h; subst h; exact okL_mono (Nat.le_refl _) (by omega) hoi, by
            rw [sizL_app]
            simp only [sizL]
            by_cases h1 : k0 < i
            · rw [if_pos h1] at hsz; rw [if_pos (by omega)]; omega
            · rw [if_neg h1] at hsz; rw [if_neg (by omega)]; omega⟩
      · rintro acc S ⟨rfl, hal, hao, hsz⟩ hS hle
        rw [rangeD_len] at hal
        have hle30 : acc.length ≤ L := by omega
        rw [rangeD_len, List.take_length] at hsz
        have hsz2 : sizL acc ≤ sizL ds + siz new := by split at hsz <;> omega
        cases t with
        | true =>
          have hit : inst .tuple (mk true ds) = true := rfl
          simp [hit]
          have := okL_mk (L := L) (t := true) hle30 hao
          rw [show n' + 1 + m = n' + m + 1 by omega]
          exact ⟨this, by have h1 := siz_mk true acc; have h2 := siz_mk true ds; simp only [mk, if_true] at h1 h2 ⊢; omega⟩
        | false =>
          have hit : inst .tuple (mk false ds) = false := rfl
          simp [hit]
          have := okL_mk (L := L) (t := false) hle30 hao
          rw [show n' + 1 + m = n' + m + 1 by omega]
          exact ⟨this, by have h1 := siz_mk false acc; have h2 := siz_mk false ds; simp only [mk, Bool.false_eq_true, if_false] at h1 h2 ⊢; omega⟩
theorem if_seq {C : BM} {A N : SM} {ρ : EV} {P : Store} {Q : Fl × EV × Store → Prop} (b : Bool) (hC : C ρ P = some (b, P)) (hA : b = true → W (A ρ P) fun r => (∃ s, r.1 = .rt s) ∧ Q r) (hN : W (N ρ P) Q) : W (sSeq (sIf C A sNx) N ρ P) Q := by
  rw [sSeq_ap, sIf_ap, hC]
  cases b with
  | true =>
    obtain ⟨⟨fl, ρ2, P2⟩, e, ⟨s, hs⟩, hq⟩ := hA rfl
    simp only at hs
    subst hs
    simp only [Option.bind_some, if_true, e]
    exact ⟨_, rfl, hq⟩
  | false => exact hN
theorem dRev_mk (t : Bool) (ds : List PyData) : dRev (mk t ds) = some (mk t ds.reverse) := by cases t <;> rfl
theorem cut_mid (ds : List PyData) (a : Nat) (h : a < ds.length) : cutL ds (some (a : Int)) (some ((a : Int) + 1)) = (ds.drop a).take 1 := by
  have h1 : ((a : Int) + 1) = ((a + 1 : Nat) : Int) := by omega
  rw [h1]
  simp only [cutL, HT.sIx_nat, Nat.min_eq_left (show a ≤ ds.length by omega), Nat.min_eq_left (show a + 1 ≤ ds.length by omega)]
  congr 1; omega
theorem cut_drop1 (ds : List PyData) (a : Nat) (h : a < ds.length) : cutL ds (some ((a : Int) + 1)) none = ds.drop (a + 1) := by
  have h1 : ((a : Int) + 1) = ((a + 1 : Nat) : Int) := by omega
  rw [h1, cut_drop _ _ (by omega)]
theorem dSl_mk (t : Bool) (ds : List PyData) (a b : Option Int) : dSl (mk t ds) a b = some (mk t (cutL ds a b)) := by cases t <;> rfl
theorem dAdd_mk (t : Bool) (xs ys : List PyData) (h : xs.length + ys.length ≤ sizeLine) : dAdd (mk t xs) (mk t ys) = some (mk t (xs ++ ys)) := by
  cases t
  · exact dAdd_lst xs ys h
  · exact dAdd_tup xs ys h
/-- what a spoilt list is -/
def SpQ (L n M : Nat) (R : Store) (r : Fl × EV × Store) : Prop := ∃ (d' : PyData) (c' : St), c'.ok ∧ okL (L + 1) (n + n) d' = true ∧ siz d' ≤ 3 * M ∧ r.1 = .rt (.fz d') ∧ r.2.2 = c'.cell :: R
theorem put_ret {L n M : Nat} (hL : L < 1000) (hn40 : n < 40) {X : XM} {ρ : EV} {R : Store} {c c' : St} (hc : c'.ok) {thing new : PyData} {s : List Nat} (h1 : okL L n thing = true) (z1 : siz thing ≤ M) (hn : okL (L + 1) n new = true) (z2 : siz new ≤ 2 * M) (hs : s.length ≤ n) (hat : ∃ e, atS thing s = some e) (v1 : ρ.sl[1]? = some (some (.fz thing))) (v4 : ρ.sl[4]? = some (some (.fz (spotD s)))) (hX : X ρ (c.cell :: R) = some (.fz new, c'.cell :: R)) :
    W ((sRet (mCallF (m__law_put_at 40) (aCons (mVar 1) (aCons (mVar 4) (aCons X aNil))))) ρ (c.cell :: R)) fun r => (∃ s, r.1 = .rt s) ∧ SpQ L n M R r := by
  have hp := sp_put_at (L := L + 1) (by omega) 40 n thing s new n (okL_mono (by omega) (Nat.le_refl _) h1) hn (by omega) hat (c'.cell :: R)
  have e1 : ∀ Z, mVar 1 ρ Z = some (.fz thing, Z) := fun Z => by simp only [mVar, v1, Option.join_some, Option.map_some]
  have e4 : ∀ Z, mVar 4 ρ Z = some (.fz (spotD s), Z) := fun Z => by simp only [mVar, v4, Option.join_some, Option.map_some]
  simp only [sRet_ap, mCallF_ap, aCons_ap, aNil_ap, e1, e4, hX, Option.map_some, Option.bind_some, W_map]
  refine hp.mono ?_
  rintro _ ⟨d', hd', hsd, rfl⟩
  exact ⟨⟨_, rfl⟩, d', c', hc, hd', by omega, rfl, rfl⟩
def seqM : XM := mIs (fun d => inst .list d || inst .tuple d) (mVar 5)
def sk1 (k : Int) : BM := (mAndB (mTB (mBin dEq (mVar 6) (mC (.int k)))) (mTB seqM))
def sk2 (k : Int) : BM := (mAndB (mTB (mBin dEq (mVar 6) (mC (.int k)))) (mAndB (mTB seqM) (mTB (mBin dGt (mCall gLenA (aCons (mVar 5) aNil)) (mC (.int 0))))))
def pA (X : XM) : SM := (sRet (mCallF (m__law_put_at 40) (aCons (mVar 1) (aCons (mVar 4) (aCons X aNil)))))
def spX1 : XM := (mIfE (mTB (mIs (inst .tuple) (mVar 5))) (mCall gListA (aCons (mVar 5) aNil)) (mCall gTuple (aCons (mVar 5) aNil)))
def spX2 : XM := (mBin dAdd (mSl (mVar 5) oNone (oSome (mVar 7))) (mSl (mVar 5) (oSome (mBin dAdd (mVar 7) (mC (.int 1)))) oNone))
def spX3 : XM := (mBin dAdd (mBin dAdd (mSl (mVar 5) oNone (oSome (mVar 7))) (mSl (mVar 5) (oSome (mVar 7)) (oSome (mBin dAdd (mVar 7) (mC (.int 1)))))) (mSl (mVar 5) (oSome (mVar 7)) oNone))
def sp7 : SM := (sSet 7 (mCallF m__law_next (aCons (mVar 0) (aCons (mCall gLenA (aCons (mVar 5) aNil)) aNil))))
def spN : SM := (sSeq (sIf (mTB (mBin dEq (mVar 6) (mC (.int 0)))) (pA (mCallF m__law_at (aCons (mVar 1) (aCons (mCallF m__law_pick (aCons (mVar 0) (aCons (mVar 3) aNil))) aNil)))) sNx)
  (sSeq (sIf (sk1 1) (pA spX1) sNx)
  (sSeq (sIf (sk2 2) (sSeq sp7 (pA spX2)) sNx)
  (sSeq (sIf (sk2 3) (sSeq sp7 (pA spX3)) sNx)
  (sSeq (sIf (sk1 4) (pA (mUn dRev (mVar 5))) sNx)
  (pA (mCallF m__law_pick (aCons (mVar 0) (aCons (mVar 2) aNil)))))))))
theorem b_spoilt : b__law_spoilt = (sSeq (sSet 3 (mCallF (m__law_spots 40) (aCons (mVar 1) aNil)))
  (sSeq (sSet 4 (mCallF m__law_pick (aCons (mVar 0) (aCons (mVar 3) aNil))))
  (sSeq (sSet 5 (mCallF m__law_at (aCons (mVar 1) (aCons (mVar 4) aNil))))
  (sSeq (sSet 6 (mCallF m__law_next (aCons (mVar 0) (aCons (mC (.int 6)) aNil)))) spN)))) := rfl
section
variable {b : Nat} {s0 s1 s2 s3 s4 s7 : Option SV} {here : PyData} {v : Int} {Z : Store}
theorem sk1_ap (k : Int) : sk1 k ⟨b, [s0, s1, s2, s3, s4, some (.fz here), some (.fz (.int v)), s7]⟩ Z = some (decide (v = k) && isSeq here, Z) := by
  by_cases h : v = k
  · simp [sk1, seqM, h, isSeq]
  · simp [sk1, h]
theorem sk2_ap (k : Int) : sk2 k ⟨b, [s0, s1, s2, s3, s4, some (.fz here), some (.fz (.int v)), s7]⟩ Z = some (decide (v = k) && (isSeq here && decide (0 < ((parts here).getD []).length)), Z) := by
  by_cases h : v = k
  · cases hp : parts here with
    | none =>
      have : isSeq here = false := by rw [isSeq_parts, hp]; rfl
      have h2 := this
      simp only [isSeq, Bool.or_eq_false_iff] at h2
      simp [sk2, seqM, h, this, h2]
    | some ds =>
      obtain ⟨t, rfl⟩ := parts_mk hp
      have : isSeq (mk t ds) = true := by rw [isSeq_parts, hp]; rfl
      have h2 : (inst .list (mk t ds) || inst .tuple (mk t ds)) = true := this
      have hg := len_mk t ds
      simp only [sk2, seqM, mAndB_ap, mTB_ap, mBin_ap, mVar_ap, List.getElem?_cons_succ, List.getElem?_cons_zero, Option.join_some, Option.map_some, Option.bind_some, flat_fz, mC_ap, dEq_int, decide_eq_true h, if_true, mIs_ap, h2, mCall_ap, aCons_ap, aNil_ap, flats_cons, flats_nil, hg, dGt_int, this]
      simp
  · simp [sk2, h]
end
theorem mk_not {L n : Nat} {t : Bool} {ds : List PyData} (h : okL L n (mk t ds) = true) : okL L n (mk (!t) ds) = true := by
  obtain ⟨m, rfl, h1, h2⟩ := parts_ok (ds := ds) h (by cases t <;> rfl)
  exact okL_mk h1 h2
theorem mk_sub {L n : Nat} {t : Bool} {ds es : List PyData} (h : okL L n (mk t ds) = true) (hl : es.length ≤ L + 1) (hs : ∀ e ∈ es, e ∈ ds) : okL (L + 1) n (mk t es) = true := by
  obtain ⟨m, rfl, h1, h2⟩ := parts_ok (ds := ds) h (by cases t <;> rfl)
  exact okL_mk hl fun e he => okL_mono (by omega) (Nat.le_refl _) (h2 e (hs e he))
theorem sp_spN {L n M : Nat} (hL : L < 900) (hn40 : n < 40) {c : St} (hc : c.ok) {thing here : PyData} (ht : okL L n thing = true) (hz : siz thing ≤ M) {pool : List PyData} (hp : pool ≠ []) (hpo : ∀ d ∈ pool, okL L n d = true ∧ siz d ≤ M) {Ss : List (List Nat)} (hSn : Ss ≠ []) (hSs : ∀ s ∈ Ss, s.length ≤ n ∧ ∃ e, atS thing s = some e) {s : List Nat} (hs : s ∈ Ss) (hh : atS thing s = some here) {v : Int} {R : Store} :
    W (spN ⟨R.length + 1, [some (.ptr 0), some (.fz thing), some (.fz (.list pool)), some (.fz (.list (Ss.map spotD))), some (.fz (spotD s)), some (.fz here), some (.fz (.int v)), none]⟩ (c.cell :: R)) (SpQ L n M R) := by
  have hho := atS_ok ht hh
  have hhz := atS_siz hh
  have hl0 : L < 1000 := by omega
  have hsl := (hSs s hs).1
  have up : ∀ {d : PyData}, okL L n d = true → okL (L + 1) n d = true := fun h => okL_mono (by omega) (Nat.le_refl _) h
  rw [spN]
  refine if_seq (decide (v = 0)) (by simp) (fun _ => ?_) ?_
  · obtain ⟨d, c', ok', hd, e⟩ := t_pickL c hc (Ss.map spotD) (by simpa using hSn)
    obtain ⟨s', hs', rfl⟩ := List.mem_map.mp hd
    obtain ⟨_, f, hf⟩ := hSs s' hs'
    have ha := t_at hf (c'.cell :: R)
    have e' := e R
    exact put_ret hl0 hn40 ok' ht hz (up (atS_ok ht hf)) (by have := atS_siz hf; omega) hsl ⟨_, hh⟩ rfl rfl (by simp [e', ha])
  refine if_seq _ (sk1_ap 1) (fun h => ?_) ?_
  · simp only [Bool.and_eq_true, isSeq_parts, Option.isSome_iff_exists] at h
    obtain ⟨_, ds, hds⟩ := h
    obtain ⟨t, rfl⟩ := parts_mk hds
    refine put_ret hl0 hn40 hc ht hz (new := mk (!t) ds) (up (mk_not hho)) (by rw [siz_mk] at hhz ⊢; omega) hsl ⟨_, hh⟩ rfl rfl ?_
    cases t
    · have hit : inst .tuple (mk false ds) = false := rfl
      have hg : gTuple [mk false ds] = some (mk true ds) := rfl
      simp [spX1, hit, hg]
    · have hit : inst .tuple (mk true ds) = true := rfl
      have hg : gListA [mk true ds] = some (mk false ds) := rfl
      simp [spX1, hit, hg]
  refine if_seq _ (sk2_ap 2) (fun h => ?_) ?_
  · simp only [Bool.and_eq_true, isSeq_parts, Option.isSome_iff_exists, decide_eq_true_eq] at h
    obtain ⟨_, ⟨ds, hds⟩, hpos⟩ := h
    rw [hds, Option.getD_some] at hpos
    obtain ⟨t, rfl⟩ := parts_mk hds
    obtain ⟨m, hm, hl20, _⟩ := parts_ok hho hds
    obtain ⟨w, c', ok', w0, w1, e⟩ := st_next c hc ds.length (by omega)
    obtain ⟨a, rfl⟩ := Int.eq_ofNat_of_zero_le w0
    have ha : a < ds.length := by omega
    have hg := len_mk t ds
    have e' := e R
    have q7 : sp7 ⟨R.length + 1, [some (.ptr 0), some (.fz thing), some (.fz (.list pool)), some (.fz (.list (Ss.map spotD))), some (.fz (spotD s)), some (.fz (mk t ds)), some (.fz (.int v)), none]⟩ (c.cell :: R) = some (.nx, ⟨R.length + 1, [some (.ptr 0), some (.fz thing), some (.fz (.list pool)), some (.fz (.list (Ss.map spotD))), some (.fz (spotD s)), some (.fz (mk t ds)), some (.fz (.int v)), some (.fz (.int (a : Nat)))]⟩, c'.cell :: R) := by
      simp [sp7, hg, e']
    rw [seq_nx q7]
    have b1 := cut_take ds a (by omega)
    have b2 := cut_drop1 ds a ha
    have b3 := dAdd_mk t (ds.take a) (ds.drop (a + 1)) (by simp only [List.length_take, List.length_drop]; exact Nat.le_trans (show _ ≤ 2000 by omega) (by decide))
    refine put_ret hl0 hn40 (c := c') ok' ht hz (new := mk t (ds.take a ++ ds.drop (a + 1))) (mk_sub hho (by simp; omega) ?_) (by rw [siz_mk] at hhz ⊢; rw [sizL_app]; have g1 := sizL_td ds a; have g2 := sizL_td ds (a + 1); have g3 := sizL_succ ha; omega) hsl ⟨_, hh⟩ rfl rfl ?_
    · intro e he
      rcases List.mem_append.mp he with h | h
      · exact List.mem_of_mem_take h
      · exact List.mem_of_mem_drop h
    · simp [spX2, dSl_mk, b1, b2, b3]
  refine if_seq _ (sk2_ap 3) (fun h => ?_) ?_
  · simp only [Bool.and_eq_true, isSeq_parts, Option.isSome_iff_exists, decide_eq_true_eq] at h
    obtain ⟨_, ⟨ds, hds⟩, hpos⟩ := h
    rw [hds, Option.getD_some] at hpos
    obtain ⟨t, rfl⟩ := parts_mk hds
    obtain ⟨m, hm, hl20, _⟩ := parts_ok hho hds
    obtain ⟨w, c', ok', w0, w1, e⟩ := st_next c hc ds.length (by omega)
    obtain ⟨a, rfl⟩ := Int.eq_ofNat_of_zero_le w0
    have ha : a < ds.length := by omega
    have hg := len_mk t ds
    have e' := e R
    have q7 : sp7 ⟨R.length + 1, [some (.ptr 0), some (.fz thing), some (.fz (.list pool)), some (.fz (.list (Ss.map spotD))), some (.fz (spotD s)), some (.fz (mk t ds)), some (.fz (.int v)), none]⟩ (c.cell :: R) = some (.nx, ⟨R.length + 1, [some (.ptr 0), some (.fz thing), some (.fz (.list pool)), some (.fz (.list (Ss.map spotD))), some (.fz (spotD s)), some (.fz (mk t ds)), some (.fz (.int v)), some (.fz (.int (a : Nat)))]⟩, c'.cell :: R) := by
      simp [sp7, hg, e']
    rw [seq_nx q7]
    have b1 := cut_take ds a (by omega)
    have b2 := cut_mid ds a ha
    have b3 := cut_drop ds a (by omega)
    have l1 : (ds.take a).length ≤ L := by simp; omega
    have l2 : ((ds.drop a).take 1).length ≤ 1 := by simp; omega
    have l3 : (ds.take a).length + (ds.drop a).length = ds.length := by simp; omega
    have b4 := dAdd_mk t (ds.take a) ((ds.drop a).take 1) (Nat.le_trans (show _ ≤ 2000 by omega) (by decide))
    have b5 := dAdd_mk t (ds.take a ++ (ds.drop a).take 1) (ds.drop a) (by rw [List.length_append]; exact Nat.le_trans (show _ ≤ 2000 by omega) (by decide))
    refine put_ret hl0 hn40 (c := c') ok' ht hz (new := mk t (ds.take a ++ (ds.drop a).take 1 ++ ds.drop a)) (mk_sub hho (by rw [List.length_append, List.length_append]; omega) ?_) (by rw [siz_mk] at hhz ⊢; rw [sizL_app, sizL_app]; have g1 := sizL_td ds a; have g2 := sizL_td (ds.drop a) 1; omega) hsl ⟨_, hh⟩ rfl rfl ?_
    · intro e he
      rcases List.mem_append.mp he with h | h
      · rcases List.mem_append.mp h with h | h
        · exact List.mem_of_mem_take h
        · exact List.mem_of_mem_drop (List.mem_of_mem_take h)
      · exact List.mem_of_mem_drop h
    · generalize hT : ds.take a = T at *
      generalize hM : (ds.drop a).take 1 = M at *
      generalize hD : ds.drop a = D at *
      simp [-List.append_assoc, spX3, dSl_mk, b1, b2, b3, b4, b5]
  refine if_seq _ (sk1_ap 4) (fun h => ?_) ?_
  · simp only [Bool.and_eq_true, isSeq_parts, Option.isSome_iff_exists] at h
    obtain ⟨_, ds, hds⟩ := h
    obtain ⟨t, rfl⟩ := parts_mk hds
    obtain ⟨m, hm, hl20, _⟩ := parts_ok hho hds
    refine put_ret hl0 hn40 hc ht hz (new := mk t ds.reverse) (mk_sub hho (by simp; omega) fun e he => List.mem_reverse.mp he) (by rw [siz_mk] at hhz ⊢; rw [sizL_rev]; omega) hsl ⟨_, hh⟩ rfl rfl ?_
    simp [dRev_mk]
  · obtain ⟨d, c', ok', hd, e⟩ := t_pickL c hc pool hp
    have e' := e R
    refine (put_ret hl0 hn40 ok' ht hz (up (hpo d hd).1) (by have := (hpo d hd).2; omega) hsl ⟨_, hh⟩ rfl rfl (by simp [e'])).mono ?_
    rintro r ⟨_, h⟩
    exact h
theorem sp_spoilt {L n M : Nat} (hL : L < 900) (hn40 : n < 40) (hM : M ≤ 100000) {c : St} (hc : c.ok) {thing : PyData} (ht : okL L n thing = true) (hz : siz thing ≤ M) {pool : List PyData} (hp : pool ≠ []) (hpo : ∀ d ∈ pool, okL L n d = true ∧ siz d ≤ M) (R : Store) : W (m__law_spoilt [.ptr 0, .fz thing, .fz (.list pool)] (c.cell :: R)) fun r => ∃ (d' : PyData) (c' : St), c'.ok ∧ okL (L + 1) (n + n) d' = true ∧ siz d' ≤ 3 * M ∧ r = (.fz d', c'.cell :: R) := by
  refine W_fun ?_
  rw [b_spoilt, show startE 8 [SV.ptr 0, .fz thing, .fz (.list pool)] = [some (.ptr 0), some (.fz thing), some (.fz (.list pool)), none, none, none, none, none] from rfl]
  have hb : (c.cell :: R).length = R.length + 1 := by simp
  rw [hb]
  obtain ⟨_, e1, Ss, _, hSn, hSs, rfl⟩ := sp_spots (L := L) (by omega) 40 n thing ht (by omega) (by omega) (by omega) (c.cell :: R)
  obtain ⟨d, c1, ok1, hd, e2⟩ := t_pickL c hc (Ss.map spotD) (by simpa using hSn)
  obtain ⟨s, hs, rfl⟩ := List.mem_map.mp hd
  obtain ⟨hsl, here, hh⟩ := hSs s hs
  have e2' := e2 R
  have e3 := t_at hh (c1.cell :: R)
  obtain ⟨v, c2, ok2, v0, v1, e4⟩ := st_next c1 ok1 6 (by decide)
  have e4' := e4 R
  rw [seq_nx (m := sSet 3 _) (by simp only [sSet_ap, mCallF_ap, aCons_ap, aNil_ap, mVar_ap, List.getElem?_cons_succ, List.getElem?_cons_zero, Option.join_some, Option.map_some, Option.bind_some, e1, put_ap, List.set_cons_succ, List.set_cons_zero]; rfl)]
  rw [seq_nx (m := sSet 4 _) (by simp only [sSet_ap, mCallF_ap, aCons_ap, aNil_ap, mVar_ap, List.getElem?_cons_succ, List.getElem?_cons_zero, Option.join_some, Option.map_some, Option.bind_some, e2', put_ap, List.set_cons_succ, List.set_cons_zero]; rfl)]
  rw [seq_nx (m := sSet 5 _) (by simp only [sSet_ap, mCallF_ap, aCons_ap, aNil_ap, mVar_ap, List.getElem?_cons_succ, List.getElem?_cons_zero, Option.join_some, Option.map_some, Option.bind_some, e3, put_ap, List.set_cons_succ, List.set_cons_zero]; rfl)]
  rw [seq_nx (m := sSet 6 _) (by simp only [sSet_ap, mCallF_ap, aCons_ap, aNil_ap, mVar_ap, List.getElem?_cons_succ, List.getElem?_cons_zero, Option.join_some, Option.map_some, Option.bind_some, mC_ap, e4', put_ap, List.set_cons_succ, List.set_cons_zero]; rfl)]
  refine (sp_spN hL hn40 ok2 ht hz hp hpo hSn hSs hs hh).mono ?_
  rintro ⟨fl, ρ2, Z2⟩ ⟨d', c3, ok3, hd', hsd, h1, h2⟩
  simp only at h1 h2
  subst h1 h2
  simp
  exact ⟨d', c3, ok3, hd', hsd, rfl, rfl⟩
end NS

set_option maxHeartbeats 1000000
set_option linter.all false
set_option maxRecDepth 10000
namespace NS
open PySem Pd L2
theorem okL_Ok {L : Nat} (hL : L ≤ 1000) : ∀ {n : Nat} {d : PyData}, okL L n d = true → Ok n d
  | n, .none, _ => .none n
  | n, .bool b, _ => .bool n b
  | n, .int i, _ => .int n i
  | n, .str x, _ => .str n x
  | 0, .list _, h => by simp [okL] at h
  | 0, .tuple _, h => by simp [okL] at h
  | 0, .dict _, h => by simp [okL] at h
  | n + 1, .dict _, h => by simp [okL] at h
  | n + 1, .list ds, h => by
    simp only [okL, Bool.and_eq_true, decide_eq_true_eq, List.all_eq_true] at h
    exact .list n ds (by omega) fun e he => okL_Ok hL (h.2 e he)
  | n + 1, .tuple ds, h => by
    simp only [okL, Bool.and_eq_true, decide_eq_true_eq, List.all_eq_true] at h
    exact .tuple n ds (by omega) fun e he => okL_Ok hL (h.2 e he)
theorem ok_path (n : Nat) {p : Path} (h : p.length ≤ 1000) : Ok (n + 1) (pathD p) := .tuple n _ (by simpa using h) fun d hd => by
  obtain ⟨x, _, rfl⟩ := List.mem_map.mp hd
  exact .str n x
theorem ok_book {B : Book} (G : Good B) : Ok 4 (bookD B) := by
  refine .tuple 3 _ (by simp) fun d hd => ?_
  simp only [List.mem_cons, List.not_mem_nil, or_false] at hd
  rcases hd with rfl | rfl | rfl
  · exact .str 3 _
  · refine .tuple 2 _ (by have := G.endsLen; simp; omega) fun d hd => ?_
    obtain ⟨x, _, rfl⟩ := List.mem_map.mp hd
    exact .str 2 x
  · refine .dct 2 _ (by have := G.tabLen; simp; omega) ?_ fun q hq => ?_
    · have := G.nd
      simpa [Book.keys, Function.comp_def] using this
    · obtain ⟨q0, h0, rfl⟩ := List.mem_map.mp hq
      have hm := G.many q0 h0
      refine .tuple 1 _ (by simp; omega) fun d hd => ?_
      obtain ⟨p, hp, rfl⟩ := List.mem_map.mp hd
      exact ok_path 0 (by have := (G.path q0 h0 p hp).1; omega)
theorem okL_str {L n : Nat} {x : Str} (h : Nm x) : okL L n (.str x) = true := by
  have h1 := h.strOk
  have h2 := h.1
  cases n <;> (simp only [okL, h1, Bool.true_and, decide_eq_true_eq]; omega)
theorem okL_path {p : Path} (h : PNm p) (hl : p.length ≤ 20) (n : Nat) : okL 20 (n + 1) (pathD p) = true := by
  simp only [pathD, okL, Bool.and_eq_true, decide_eq_true_eq, List.all_eq_true, List.mem_map, List.length_map]
  refine ⟨hl, ?_⟩
  rintro d ⟨x, hx, rfl⟩
  exact okL_str (h x hx)
end NS

set_option maxHeartbeats 1000000
set_option linter.all false
set_option maxRecDepth 10000
namespace NS
open PySem Pd L2
theorem let_paths {B : Book} {t : Path} (hl : 2 ≤ t.length) (h : Let B t) (G : Good B) : t ∈ pathsL B := by
  match t, h with
  | [e], _ => simp at hl
  | x :: y :: r, ⟨ps, h1, h2⟩ => exact mem_paths.mpr ⟨x, G.key h1, by simp [rowOf, G.look h1, h2]⟩
theorem drop_let {B : Book} (G : Good B) : ∀ (k : Nat) (t : Path), Let B t → k + 2 ≤ t.length → Let B (t.drop k)
  | 0, t, h, _ => by simpa using h
  | k + 1, t, h, hl => by
    match t, h with
    | [e], _ => simp at hl
    | x :: y :: r, ⟨ps, h1, h2⟩ =>
      obtain ⟨_, t, e, ht⟩ := G.path (x, ps) h1 _ h2
      have e2 : y :: r = t := (List.cons.inj e).2
      subst e2
      exact drop_let G k _ ht (by simp at hl ⊢; omega)
theorem tails_paths {B : Book} (G : Good B) {p q : Path} (hp : p ∈ pathsL B) (hq : q ∈ tailsL p) : q ∈ pathsL B := by
  obtain ⟨x, ps, h1, h2⟩ := paths_pnm G hp
  obtain ⟨_, t, rfl, ht⟩ := G.at h1 h2
  obtain ⟨k, hk, rfl⟩ := List.mem_map.mp hq
  simp only [List.mem_range, List.length_cons] at hk
  rw [List.drop_succ_cons]
  exact let_paths (by simp; omega) (drop_let G k t ht (by omega)) G
theorem better_paths {B : Book} (G : Good B) {x : Str} {ps : List Path} (h : lookR B.tab x = some ps) {p q : Path} (hq : q ∈ betterL ps p) : q ∈ pathsL B :=
  mem_paths.mpr ⟨x, List.mem_map.mpr ⟨_, lookR_mem h, rfl⟩, by simp [rowOf, h, better_sub hq]⟩
theorem pnm_paths {B : Book} (G : Good B) {p : Path} (h : p ∈ pathsL B) : PNm p ∧ p.length ≤ 9 := by
  obtain ⟨x, ps, h1, h2⟩ := paths_pnm G h
  exact ⟨G.pnm h1 h2, (G.at h1 h2).1⟩
/-- a loop in which something grows -/
theorem W_forN {g : GM} {body : SM} {ρ : EV} {P : Store} {items : List PyData} (I : Nat → EV → Store → Prop) (c n : Nat) (h0 : I n ρ P)
    (hs : ∀ d ∈ items, ∀ (k : Nat) (ρ : EV) (P : Store), k + c ≤ n + c * items.length → I k ρ P → W (g (.fz d) ρ P) fun r => W (body r.1 r.2) fun r => r.1 = .nx ∧ I (k + c) r.2.1 r.2.2) :
    W (forGo g body items ρ P) fun r => r.1 = .nx ∧ I (n + c * items.length) r.2.1 r.2.2 := by
  refine W_forR (fun i ρ P => I (n + c * i) ρ P) (by simpa using h0) ?_ ?_
  · intro i d ρ P hd h
    have hi := (List.getElem?_eq_some_iff.mp hd).1
    have hle : n + c * i + c ≤ n + c * items.length := by
      have : c * (i + 1) ≤ c * items.length := Nat.mul_le_mul_left _ hi
      rw [Nat.mul_succ] at this; omega
    refine (hs d (List.mem_of_getElem? hd) _ ρ P hle h).mono ?_
    intro a ha
    refine ha.mono ?_
    rintro ⟨fl, ρ2, P2⟩ ⟨rfl, h2⟩
    refine .inl ⟨rfl, ?_⟩
    rw [Nat.mul_succ, ← Nat.add_assoc]; exact h2
  · intro ρ P h
    exact ⟨rfl, h⟩
end NS

set_option maxHeartbeats 1000000
set_option linter.all false
set_option maxRecDepth 10000
namespace NS
open PySem Pd L2
/-! ### walks -/
abbrev Pairs := List (Path × Path)
def pairD (q : Path × Path) : PyData := .tuple [pathD q.1, pathD q.2]
def pairsD (w : Pairs) : PyData := .tuple (w.map pairD)
def rwD (r : Pairs × Path) : PyData := .tuple [pairsD r.1, pathD r.2]
def fC (F : List Pairs) : Cell := .lst ((F.map pairsD).map SV.fz)
def lC (R : List (Pairs × Path)) : Cell := .lst ((R.map rwD).map SV.fz)
theorem fC_dat (F : List Pairs) : (fC F).dat = some (.list (F.map pairsD)) := by rw [fC, dat_lst, fzs_map]; rfl
theorem lC_dat (R : List (Pairs × Path)) : (lC R).dat = some (.list (R.map rwD)) := by rw [lC, dat_lst, fzs_map]; rfl
/-- the better ones of a path's router -/
def betterOf (B : Book) (s : Path) : List Path := betterL (rowOf B (s.headD ⟨#[]⟩)) s
theorem betterOf_row {B : Book} (G : Good B) {x : Str} {ps : List Path} (h : lookR B.tab x = some ps) {p : Path} (hp : p ∈ ps) : betterOf B p = betterL ps p := by
  obtain ⟨y, t, rfl, _⟩ := G.second h hp
  simp [betterOf, rowOf, h]
/-- a way of pairs from st on to a path -/
inductive Ways (B : Book) (st : Path) : Pairs → Path → Prop
  | nil : Ways B st [] st
  | snoc {w : Pairs} {s r q : Path} : Ways B st w s → s ∈ pathsL B → r ∈ pathsL B → r ∈ betterOf B s → q ∈ tailsL r → Ways B st (w ++ [(s, r)]) q
theorem Ways.good {B : Book} {st : Path} {w : Pairs} {sp : Path} (h : Ways B st w sp) : ∀ q ∈ w, q.1 ∈ pathsL B ∧ q.2 ∈ pathsL B ∧ q.2 ∈ betterOf B q.1 := by
  induction h with
  | nil => simp
  | snoc _ h1 h2 h3 _ ih =>
    intro q hq
    rcases List.mem_append.mp hq with hq | hq
    · exact ih q hq
    · simp at hq; subst hq; exact ⟨h1, h2, h3⟩
theorem Ways.first {B : Book} {st : Path} {w : Pairs} {sp : Path} (h : Ways B st w sp) : (w = [] ∧ sp = st) ∨ ∃ r w', w = (st, r) :: w' := by
  induction h with
  | nil => exact .inl ⟨rfl, rfl⟩
  | @snoc w s r q _ _ _ _ _ ih =>
    rcases ih with ⟨rfl, rfl⟩ | ⟨r', w', rfl⟩
    · exact .inr ⟨r, [], rfl⟩
    · exact .inr ⟨r', w' ++ [(s, r)], rfl⟩
/-- each pair's better path has the next spoke, or the end, as a tail -/
theorem Ways.next {B : Book} {st : Path} {w : Pairs} {sp : Path} (h : Ways B st w sp) : ∀ (k : Nat) (q : Path × Path), w[k]? = some q → (match w[k + 1]? with | some q' => q'.1 | none => sp) ∈ tailsL q.2 := by
  induction h with
  | nil => intro k q h; simp at h
  | @snoc w s r q hw _ _ _ ht ih =>
    intro k p hk
    by_cases h1 : k < w.length
    · rw [List.getElem?_append_left h1] at hk
      have := ih k p hk
      by_cases h2 : k + 1 < w.length
      · rw [List.getElem?_append_left h2]; rw [List.getElem?_eq_getElem h2] at this ⊢; exact this
      · have h3 : k + 1 = w.length := by omega
        rw [List.getElem?_eq_none (by omega)] at this
        rw [List.getElem?_append_right (by omega), h3]
        simpa using this
    · have h2 := (List.getElem?_eq_some_iff.mp hk).1
      simp only [List.length_append, List.length_singleton] at h2
      have h3 : k = w.length := by omega
      subst h3
      rw [List.getElem?_append_right (by omega)] at hk
      simp at hk; subst hk
      rw [List.getElem?_eq_none (by simp)]
      exact ht
def FGood (B : Book) (F : List Pairs) : Prop := ∀ w ∈ F, w ≠ [] ∧ (∃ st, Ways B st w st) ∧ w.length ≤ 10
def RGood (B : Book) (st : Path) (j : Nat) (R : List (Pairs × Path)) : Prop := ∀ r ∈ R, r.1.length ≤ j ∧ Ways B st r.1 r.2 ∧ r.2 ∈ pathsL B
def wT : SM := (sIf (mTB (mBin dEq (mVar 9) (mVar 2))) (sEx (mApp (mVar 1) (mBin dAdd (mVar 6) (mTup (aCons (mTup (aCons (mVar 7) (aCons (mVar 8) aNil))) aNil))))) (sIf (mTB (mBin dLt (mCall gLenA (aCons (mVar 5) aNil)) (mC (.int 300)))) (sEx (mApp (mVar 5) (mTup (aCons (mBin dAdd (mVar 6) (mTup (aCons (mTup (aCons (mVar 7) (aCons (mVar 8) aNil))) aNil))) (aCons (mVar 9) aNil))))) sNx))
def wR : SM := (sFor (iAny (mCallF m__law_tails (aCons (mVar 8) aNil))) (gNm 9) wT)
def wS : SM := (sFor (iAny (mCallF m__law_better (aCons (mVar 0) (aCons (mVar 7) aNil)))) (gNm 8) wR)
def wL : SM := (sSeq (sSet 5 (mLstC aNil))
  (sSeq (sFor (iAny (mVar 3)) (gTu 2 (gsCons (gNm 6) (gsCons (gNm 7) gsNil))) wS)
  (sSet 3 (mFz (mVar 5)))))
def wP : SM := (sSeq (sSet 3 (mLst (aCons (mTup (aCons (mTup aNil) (aCons (mVar 2) aNil))) aNil)))
  (sFor (iRange (aCons (mC (.int 3)) aNil)) (gNm 4) wL))
theorem b_walks : b__law_walks = (sSeq (sSet 1 (mLstC aNil))
  (sSeq (sFor (iAny (mCallF m__law_paths (aCons (mVar 0) aNil))) (gNm 2) wP)
  (sRet (mVar 1)))) := rfl
section
variable {B : Book} (P J : Store)
/-- what is kept while one row of walks is made longer -/
def Ws (B : Book) (P J : Store) (st : Path) (j n : Nat) (Z : Store) : Prop := ∃ F R, FGood B F ∧ F.length ≤ n ∧ RGood B st j R ∧ R.length ≤ 300 ∧ Z = P ++ fC F :: (J ++ [lC R])
theorem at_f (c : Cell) (K : Store) : (P ++ c :: K)[P.length]? = some c := by simp
theorem set_f (c c' : Cell) (K : Store) : (P ++ c :: K).set P.length c' = P ++ c' :: K := cell_set _ _ _ _
theorem at_l (c c' : Cell) : (P ++ c :: (J ++ [c']))[P.length + 1 + J.length]? = some c' := by
  rw [List.getElem?_append_right (by omega), show P.length + 1 + J.length - P.length = J.length + 1 by omega]; simp
theorem set_l (c c' c2 : Cell) : (P ++ c :: (J ++ [c'])).set (P.length + 1 + J.length) c2 = P ++ c :: (J ++ [c2]) := by
  rw [List.set_append_right _ _ (by omega), show P.length + 1 + J.length - P.length = J.length + 1 by omega]; simp
theorem sp_wT (G : Good B) {j n : Nat} (hj : j ≤ 3) (hn : n + 1 ≤ 1000000) {st sp rm q : Path} {w : Pairs} (hst : st ∈ pathsL B) (hsp : sp ∈ pathsL B) (hrm : rm ∈ pathsL B) (hq : q ∈ pathsL B) (hw : w.length ≤ j) (hwg : Ways B st w sp) (hbt : rm ∈ betterOf B sp) (htl : q ∈ tailsL rm) {s0 s3 s4 : Option SV} {Z : Store} (h : Ws B P J st (j + 1) n Z) :
    W (wT ⟨P.length, [s0, some (.ptr P.length), some (.fz (pathD st)), s3, s4, some (.ptr (P.length + 1 + J.length)), some (.fz (pairsD w)), some (.fz (pathD sp)), some (.fz (pathD rm)), some (.fz (pathD q))]⟩ Z) fun r => r.1 = .nx ∧ r.2.1 = ⟨P.length, [s0, some (.ptr P.length), some (.fz (pathD st)), s3, s4, some (.ptr (P.length + 1 + J.length)), some (.fz (pairsD w)), some (.fz (pathD sp)), some (.fz (pathD rm)), some (.fz (pathD q))]⟩ ∧ Ws B P J st (j + 1) (n + 1) r.2.2 := by
  obtain ⟨F, R, hF, hFn, hR, hRn, rfl⟩ := h
  have e1 := dEq_path (pnm_paths G hq).1 (pnm_paths G hst).1
  have e2 := dAdd_tup (w.map pairD) [.tuple [pathD sp, pathD rm]] (by simp only [List.length_map, List.length_singleton]; exact Nat.le_trans (show _ ≤ 10 by omega) (by decide))
  have hwd : PyData.tuple (w.map pairD ++ [.tuple [pathD sp, pathD rm]]) = pairsD (w ++ [(sp, rm)]) := by simp [pairsD, pairD]
  rw [hwd] at e2
  have e2' : dAdd (pairsD w) (.tuple [.tuple [pathD sp, pathD rm]]) = some (pairsD (w ++ [(sp, rm)])) := e2
  have hg : Ways B st (w ++ [(sp, rm)]) q := hwg.snoc hsp hrm hbt htl
  have hzF : ((F.map pairsD).map SV.fz).length < sizeLine := by simp only [List.length_map]; exact Nat.lt_of_lt_of_le (show F.length < 1000001 by omega) (by decide)
  have hzR : ((R.map rwD).map SV.fz).length < sizeLine := by simp only [List.length_map]; exact Nat.lt_of_lt_of_le (show R.length < 1000001 by omega) (by decide)
  have a1 := at_f P (fC F) (J ++ [lC R])
  have a2 := at_l P J (fC F) (lC R)
  have a3 := set_f P (fC F) (fC (F ++ [w ++ [(sp, rm)]])) (J ++ [lC R])
  have a4 := set_l P J (fC F) (lC R) (lC (R ++ [(w ++ [(sp, rm)], q)]))
  have f1 : Cell.lst ((F.map pairsD).map SV.fz ++ [.fz (pairsD (w ++ [(sp, rm)]))]) = fC (F ++ [w ++ [(sp, rm)]]) := by simp [fC]
  have f2 : Cell.lst ((R.map rwD).map SV.fz ++ [.fz (.tuple [pairsD (w ++ [(sp, rm)]), pathD q])]) = lC (R ++ [(w ++ [(sp, rm)], q)]) := by simp [lC, rwD]
  have hfl : flat (P ++ fC F :: (J ++ [lC R])) (.ptr (P.length + 1 + J.length)) = some (.list (R.map rwD)) := by
    simp only [flat, a2, Option.bind_some, lC_dat]
  by_cases hqs : q = st
  · rw [decide_eq_true hqs] at e1
    refine W.eq (a := (.nx, ⟨P.length, [s0, some (.ptr P.length), some (.fz (pathD st)), s3, s4, some (.ptr (P.length + 1 + J.length)), some (.fz (pairsD w)), some (.fz (pathD sp)), some (.fz (pathD rm)), some (.fz (pathD q))]⟩, P ++ fC (F ++ [w ++ [(sp, rm)]]) :: (J ++ [lC R]))) ?_ ⟨rfl, rfl, F ++ [w ++ [(sp, rm)]], R, ?_, by simp; omega, hR, hRn, rfl⟩
    · rw [show fC F = .lst ((F.map pairsD).map SV.fz) from rfl] at a1 a3
      rw [wT, show fC F = .lst ((F.map pairsD).map SV.fz) from rfl]
      simp [e1, e2', a1, hzF, f1, a3, -List.map_map]
      simpa using hzF
    · intro p hp
      rcases List.mem_append.mp hp with hp | hp
      · exact hF p hp
      · simp at hp; subst hp; exact ⟨by simp, ⟨st, hqs ▸ hg⟩, by simp; omega⟩
  · rw [decide_eq_false hqs] at e1
    by_cases hr : R.length < 300
    · have hri : (R.length : Int) < 300 := by omega
      have hzR' : R.length < sizeLine := by simpa using hzR
      refine W.eq (a := (.nx, ⟨P.length, [s0, some (.ptr P.length), some (.fz (pathD st)), s3, s4, some (.ptr (P.length + 1 + J.length)), some (.fz (pairsD w)), some (.fz (pathD sp)), some (.fz (pathD rm)), some (.fz (pathD q))]⟩, P ++ fC F :: (J ++ [lC (R ++ [(w ++ [(sp, rm)], q)])]))) ?_ ⟨rfl, rfl, F, R ++ [(w ++ [(sp, rm)], q)], hF, by omega, ?_, by simp; omega, rfl⟩
      · rw [show lC R = .lst ((R.map rwD).map SV.fz) from rfl] at a2 a4 hfl
        rw [wT, show lC R = .lst ((R.map rwD).map SV.fz) from rfl]
        simp [e1, e2', hfl, hri, a2, hzR', f2, a4, -List.map_map]
      · intro p hp
        rcases List.mem_append.mp hp with hp | hp
        · exact hR p hp
        · simp at hp; subst hp; exact ⟨by simp; omega, hg, hq⟩
    · refine W.eq (a := (.nx, ⟨P.length, [s0, some (.ptr P.length), some (.fz (pathD st)), s3, s4, some (.ptr (P.length + 1 + J.length)), some (.fz (pairsD w)), some (.fz (pathD sp)), some (.fz (pathD rm)), some (.fz (pathD q))]⟩, P ++ fC F :: (J ++ [lC R]))) ?_ ⟨rfl, rfl, F, R, hF, by omega, hR, hRn, rfl⟩
      have hri : ¬ (R.length : Int) < 300 := by omega
      rw [wT]
      simp [e1, hfl, hri, -List.map_map]
end
end NS

set_option maxHeartbeats 1000000
set_option linter.all false
set_option maxRecDepth 10000
namespace NS
open PySem Pd L2
theorem Ws.mono {B : Book} {P J : Store} {st : Path} {j n m : Nat} {Z : Store} (h : Ws B P J st j n Z) (hm : n ≤ m) : Ws B P J st j m Z := by
  obtain ⟨F, R, h1, h2, h3, h4, h5⟩ := h
  exact ⟨F, R, h1, by omega, h3, h4, h5⟩
section
variable {B : Book} (P J : Store)
theorem sp_wR (G : Good B) {j n : Nat} (hj : j ≤ 3) (hn : n + 7 ≤ 1000000) {st sp rm : Path} {w : Pairs} (hst : st ∈ pathsL B) (hsp : sp ∈ pathsL B) (hrm : rm ∈ pathsL B) (hw : w.length ≤ j) (hwg : Ways B st w sp) (hbt : rm ∈ betterOf B sp) {s0 s3 s4 s9 : Option SV} {Z : Store} (h : Ws B P J st (j + 1) n Z) :
    W (wR ⟨P.length, [s0, some (.ptr P.length), some (.fz (pathD st)), s3, s4, some (.ptr (P.length + 1 + J.length)), some (.fz (pairsD w)), some (.fz (pathD sp)), some (.fz (pathD rm)), s9]⟩ Z) fun r => r.1 = .nx ∧ ∃ s9, r.2.1 = ⟨P.length, [s0, some (.ptr P.length), some (.fz (pathD st)), s3, s4, some (.ptr (P.length + 1 + J.length)), some (.fz (pairsD w)), some (.fz (pathD sp)), some (.fz (pathD rm)), s9]⟩ ∧ Ws B P J st (j + 1) (n + 7) r.2.2 := by
  have hrl := (pnm_paths G hrm).2
  have e1 := t_tails rm (by omega)
  have htl : ((tailsL rm).map pathD).length ≤ 7 := by simp [tailsL]; omega
  rw [wR, sFor_ap, iAny_lst (ds := (tailsL rm).map pathD) (by simp [e1])]
  simp only [Option.bind_some]
  refine (W_forN (fun k ρ Z => ∃ s9, ρ = ⟨P.length, [s0, some (.ptr P.length), some (.fz (pathD st)), s3, s4, some (.ptr (P.length + 1 + J.length)), some (.fz (pairsD w)), some (.fz (pathD sp)), some (.fz (pathD rm)), s9]⟩ ∧ Ws B P J st (j + 1) k Z) 1 n ⟨s9, rfl, h⟩ ?_).mono ?_
  · rintro d hd k ρ Z hk ⟨s9, rfl, hW⟩
    obtain ⟨q, hq, rfl⟩ := List.mem_map.mp hd
    simp only [gNm_ap, W_some, put_ap, List.set_cons_succ, List.set_cons_zero]
    refine (sp_wT P J G hj (by omega) hst hsp hrm (tails_paths G hrm hq) hw hwg hbt hq hW).mono ?_
    rintro ⟨fl, ρ2, Z2⟩ ⟨h1, h2, h3⟩
    exact ⟨h1, _, h2, h3⟩
  · rintro ⟨fl, ρ2, Z2⟩ ⟨h1, s9, h2, h3⟩
    exact ⟨h1, s9, h2, h3.mono (by omega)⟩
theorem sp_wS (G : Good B) {j n : Nat} (hj : j ≤ 3) (hn : n + 28 ≤ 1000000) {st sp : Path} {w : Pairs} (hst : st ∈ pathsL B) (hsp : sp ∈ pathsL B) (hw : w.length ≤ j) (hwg : Ways B st w sp) {s3 s4 s8 s9 : Option SV} {Z : Store} (h : Ws B P J st (j + 1) n Z) :
    W (wS ⟨P.length, [some (.fz (bookD B)), some (.ptr P.length), some (.fz (pathD st)), s3, s4, some (.ptr (P.length + 1 + J.length)), some (.fz (pairsD w)), some (.fz (pathD sp)), s8, s9]⟩ Z) fun r => r.1 = .nx ∧ ∃ s8 s9, r.2.1 = ⟨P.length, [some (.fz (bookD B)), some (.ptr P.length), some (.fz (pathD st)), s3, s4, some (.ptr (P.length + 1 + J.length)), some (.fz (pairsD w)), some (.fz (pathD sp)), s8, s9]⟩ ∧ Ws B P J st (j + 1) (n + 28) r.2.2 := by
  obtain ⟨x, ps, hl, hm⟩ := paths_pnm G hsp
  have e1 := t_better G hl hm
  have htl : ((betterL ps sp).map pathD).length ≤ 4 := by
    have := better_len ps sp
    have := (row_ok G hl).2
    simp only [List.length_map]; omega
  rw [wS, sFor_ap, iAny_lst (ds := (betterL ps sp).map pathD) (by simp [e1])]
  simp only [Option.bind_some]
  refine (W_forN (fun k ρ Z => ∃ s8 s9, ρ = ⟨P.length, [some (.fz (bookD B)), some (.ptr P.length), some (.fz (pathD st)), s3, s4, some (.ptr (P.length + 1 + J.length)), some (.fz (pairsD w)), some (.fz (pathD sp)), s8, s9]⟩ ∧ Ws B P J st (j + 1) k Z) 7 n ⟨s8, s9, rfl, h⟩ ?_).mono ?_
  · rintro d hd k ρ Z hk ⟨s8, s9, rfl, hW⟩
    obtain ⟨q, hq, rfl⟩ := List.mem_map.mp hd
    simp only [gNm_ap, W_some, put_ap, List.set_cons_succ, List.set_cons_zero]
    refine (sp_wR P J G hj (by omega) hst hsp (better_paths G hl hq) hw hwg (by rw [betterOf_row G hl hm]; exact hq) hW).mono ?_
    rintro ⟨fl, ρ2, Z2⟩ ⟨h1, s9, h2, h3⟩
    exact ⟨h1, _, s9, h2, h3⟩
  · rintro ⟨fl, ρ2, Z2⟩ ⟨h1, s8, s9, h2, h3⟩
    exact ⟨h1, s8, s9, h2, h3.mono (by omega)⟩
/-- what is kept between the rounds -/
def Wr (B : Book) (P : Store) (n : Nat) (Z : Store) : Prop := ∃ F J, FGood B F ∧ F.length ≤ n ∧ Z = P ++ fC F :: J
theorem sp_wL (G : Good B) {j n : Nat} (hj : j ≤ 3) (hn : n + 8400 ≤ 1000000) {st : Path} (hst : st ∈ pathsL B) {R0 : List (Pairs × Path)} (hR0 : RGood B st j R0) (hRl : R0.length ≤ 300) {s4 s5 s6 s7 s8 s9 : Option SV} {Z : Store} (h : Wr B P n Z) :
    W (wL ⟨P.length, [some (.fz (bookD B)), some (.ptr P.length), some (.fz (pathD st)), some (.fz (.list (R0.map rwD))), s4, s5, s6, s7, s8, s9]⟩ Z) fun r => r.1 = .nx ∧ ∃ R s5 s6 s7 s8 s9, r.2.1 = ⟨P.length, [some (.fz (bookD B)), some (.ptr P.length), some (.fz (pathD st)), some (.fz (.list (R.map rwD))), s4, s5, s6, s7, s8, s9]⟩ ∧ RGood B st (j + 1) R ∧ R.length ≤ 300 ∧ Wr B P (n + 8400) r.2.2 := by
  obtain ⟨F, J, hF, hFn, rfl⟩ := h
  have hZ : (P ++ fC F :: J).length = P.length + 1 + J.length := by simp; omega
  have hW0 : Ws B P J st (j + 1) n (P ++ fC F :: J ++ [.lst []]) := ⟨F, [], hF, hFn, by intro r hr; simp at hr, by simp, by simp [lC]⟩
  rw [wL]
  simp only [sSeq_ap, sSet_ap, mLstC_ap, aNil_ap, Option.bind_some, List.length_nil, Nat.zero_le, if_true, Option.map_some, put_ap, List.set_cons_succ, List.set_cons_zero, hZ, sFor_ap]
  rw [iAny_lst (ds := R0.map rwD) (by simp)]
  simp only [Option.bind_some, W_bind]
  refine (W_forN (fun k ρ Z => ∃ s6 s7 s8 s9, ρ = ⟨P.length, [some (.fz (bookD B)), some (.ptr P.length), some (.fz (pathD st)), some (.fz (.list (R0.map rwD))), s4, some (.ptr (P.length + 1 + J.length)), s6, s7, s8, s9]⟩ ∧ Ws B P J st (j + 1) k Z) 28 n ⟨s6, s7, s8, s9, rfl, hW0⟩ ?_).mono ?_
  · rintro d hd k ρ Z hk ⟨s6, s7, s8, s9, rfl, hW⟩
    obtain ⟨r, hr, rfl⟩ := List.mem_map.mp hd
    obtain ⟨g1, g2, g3⟩ := hR0 r hr
    have hlen : 28 * (R0.map rwD).length ≤ 8400 := by simp only [List.length_map]; omega
    rw [rwD]
    simp only [gTu_ap, List.length_cons, List.length_nil, Nat.zero_add, Nat.reduceAdd, if_true, gsCons_ap, gsNil_ap, gNm_ap, Option.bind_some, W_some, put_ap, List.set_cons_succ, List.set_cons_zero]
    refine (sp_wS P J G hj (by omega) hst g3 g1 g2 hW).mono ?_
    rintro ⟨fl, ρ2, Z2⟩ ⟨h1, s8, s9, h2, h3⟩
    exact ⟨h1, _, _, s8, s9, h2, h3⟩
  · rintro ⟨fl, ρ2, Z2⟩ ⟨h1, s6, s7, s8, s9, h2, F2, R, hF2, hFn2, hR2, hRl2, h3⟩
    simp only at h1 h2 h3
    subst h1 h2 h3
    have hlen : 28 * (R0.map rwD).length ≤ 8400 := by simp only [List.length_map]; omega
    have a2 := at_l P J (fC F2) (lC R)
    have a4 := set_l P J (fC F2) (lC R) (.fz (.list (R.map rwD)))
    have hd := lC_dat R
    simp [frz, a2, hd, a4]
    exact ⟨R, rfl, hR2, hRl2, F2, _, hF2, by omega, rfl⟩
theorem sp_wP (G : Good B) {n : Nat} (hn : n + 25200 ≤ 1000000) {st : Path} (hst : st ∈ pathsL B) {s3 s4 s5 s6 s7 s8 s9 : Option SV} {Z : Store} (h : Wr B P n Z) :
    W (wP ⟨P.length, [some (.fz (bookD B)), some (.ptr P.length), some (.fz (pathD st)), s3, s4, s5, s6, s7, s8, s9]⟩ Z) fun r => r.1 = .nx ∧ (∃ s3 s4 s5 s6 s7 s8 s9, r.2.1 = ⟨P.length, [some (.fz (bookD B)), some (.ptr P.length), some (.fz (pathD st)), s3, s4, s5, s6, s7, s8, s9]⟩) ∧ Wr B P (n + 25200) r.2.2 := by
  have e0 : fzs [SV.fz (rwD ([], st))] = some [rwD ([], st)] := rfl
  have h1 : (1 : Nat) ≤ sizeLine := by decide
  have h2 : (2 : Nat) ≤ sizeLine := by decide
  rw [wP]
  have e1 : ∀ b l, (mLst (aCons (mTup (aCons (mTup aNil) (aCons (mVar 2) aNil))) aNil)) ⟨b, some (.fz (bookD B)) :: some (.ptr P.length) :: some (.fz (pathD st)) :: l⟩ Z = some (.fz (.list ([(([] : Pairs), st)].map rwD)), Z) := fun b l => by
    simp [fzs, h1, h2, rwD, pairsD]
  simp only [sSeq_ap, sSet_ap, e1, Option.map_some, Option.bind_some, put_ap, List.set_cons_succ, List.set_cons_zero, sFor_ap]
  rw [iRange_nat (n := 3) (P1 := Z) (by simp) (by omega)]
  simp only [Option.bind_some]
  refine W_forR (fun i ρ Z => ∃ R s4 s5 s6 s7 s8 s9, RGood B st i R ∧ R.length ≤ 300 ∧ ρ = ⟨P.length, [some (.fz (bookD B)), some (.ptr P.length), some (.fz (pathD st)), some (.fz (.list (R.map rwD))), s4, s5, s6, s7, s8, s9]⟩ ∧ Wr B P (n + 8400 * i) Z) ⟨[([], st)], _, _, _, _, _, _, ?_, by simp, rfl, by simpa using h⟩ ?_ ?_
  · intro r hr
    simp at hr; subst hr
    exact ⟨by simp, .nil, hst⟩
  · rintro i d ρ Z hd ⟨R, s4, s5, s6, s7, s8, s9, hR, hRl, rfl, hW⟩
    obtain ⟨hi, rfl⟩ := rangeD_get hd
    simp only [gNm_ap, W_some, put_ap, List.set_cons_succ, List.set_cons_zero]
    refine (sp_wL P G (by omega) (by omega) hst hR hRl hW).mono ?_
    rintro ⟨fl, ρ2, Z2⟩ ⟨h1, R2, s5, s6, s7, s8, s9, h2, h3, h4, h5⟩
    refine .inl ⟨h1, R2, _, s5, s6, s7, s8, s9, h3, h4, h2, ?_⟩
    rw [show n + 8400 * (i + 1) = n + 8400 * i + 8400 by omega]
    exact h5
  · rintro ρ Z ⟨R, s4, s5, s6, s7, s8, s9, hR, hRl, rfl, hW⟩
    rw [rangeD_len] at hW
    exact ⟨rfl, ⟨_, _, _, _, _, _, _, rfl⟩, by simpa using hW⟩
end
theorem sp_walks {B : Book} (G : Good B) (P : Store) : W (m__law_walks [.fz (bookD B)] P) fun r => ∃ F, FGood B F ∧ r = (.fz (.list (F.map pairsD)), P) := by
  have hn := paths_len G
  have e0 := t_paths G
  refine W_fun ?_
  rw [b_walks, show startE 10 [SV.fz (bookD B)] = [some (.fz (bookD B)), none, none, none, none, none, none, none, none, none] from rfl]
  simp only [sSeq_ap, sSet_ap, mLstC_ap, aNil_ap, Option.bind_some, List.length_nil, Nat.zero_le, if_true, Option.map_some, put_ap, List.set_cons_succ, List.set_cons_zero, sFor_ap]
  rw [iAny_lst (ds := (pathsL B).map pathD) (by simp [e0])]
  simp only [Option.bind_some, W_bind]
  refine (W_forN (fun k ρ Z => (∃ s2 s3 s4 s5 s6 s7 s8 s9, ρ = ⟨P.length, [some (.fz (bookD B)), some (.ptr P.length), s2, s3, s4, s5, s6, s7, s8, s9]⟩) ∧ Wr B P k Z) 25200 0 ⟨⟨_, _, _, _, _, _, _, _, rfl⟩, [], [], by intro w hw; simp at hw, by simp, by simp [fC]⟩ ?_).mono ?_
  · rintro d hd k ρ Z hk ⟨⟨s2, s3, s4, s5, s6, s7, s8, s9, rfl⟩, hW⟩
    obtain ⟨st, hst, rfl⟩ := List.mem_map.mp hd
    have hlen : 25200 * ((pathsL B).map pathD).length ≤ 806400 := by simp only [List.length_map]; omega
    simp only [gNm_ap, W_some, put_ap, List.set_cons_succ, List.set_cons_zero]
    refine (sp_wP P G (by omega) hst hW).mono ?_
    rintro ⟨fl, ρ2, Z2⟩ ⟨h1, ⟨s3, s4, s5, s6, s7, s8, s9, h2⟩, h3⟩
    exact ⟨h1, ⟨_, _, _, _, _, _, _, _, h2⟩, h3⟩
  · rintro ⟨fl, ρ2, Z2⟩ ⟨h1, ⟨s2, s3, s4, s5, s6, s7, s8, s9, h2⟩, F, J, hF, _, h3⟩
    simp only at h1 h2 h3
    subst h1 h2 h3
    have hx : exitZ P.length (.ptr P.length) (P ++ fC F :: J) = some (.fz (.list (F.map pairsD)), P) := by
      rw [exitZ_ptr (Nat.le_refl _) (c := fC F) (by simp) (fC_dat F)]
      simp
    simp [hx]
    exact ⟨F, hF, rfl⟩
end NS

set_option maxHeartbeats 400000
set_option linter.all false
set_option maxRecDepth 10000
namespace NS
open PySem Pd L2
/-! ### comprehensions of two fors that change nothing -/
theorem lc2Go_pureP {g g1 : GM} {tt tt1 : BM} {f1 : IM} {own1 : List Nat} {te : XM} {ρ : EV} (inn : PyData → List PyData) (h : PyData → PyData → PyData) (P : Store) : ∀ (items : List PyData) (acc : List SV), acc.length + (items.flatMap fun d => (inn d).map (h d)).length ≤ sizeLine →
    (∀ d ∈ items, ∀ J : Store, ∃ ρ1, g (.fz d) ρ (P ++ J) = some (ρ1, P ++ J) ∧ tt ρ1 (P ++ J) = some (true, P ++ J) ∧ (∃ src, f1 ρ1 (P ++ J) = some (inn d, src, P ++ J)) ∧
      ∀ e ∈ inn d, ∀ J2 : Store, ∃ ρ2, g1 (.fz e) { ({ ρ1 with b := P.length } : EV).wipe own1 with b := P.length } (P ++ J2) = some (ρ2, P ++ J2) ∧ tt1 ρ2 (P ++ J2) = some (true, P ++ J2) ∧ te ρ2 (P ++ J2) = some (.fz (h d e), P ++ J2)) →
    lc2Go g tt f1 own1 g1 tt1 te ρ P.length items (P ++ [.lst acc]) = some (P ++ [.lst (acc ++ (items.flatMap fun d => (inn d).map (h d)).map SV.fz)])
  | [], acc, _, _ => by simp [lc2Go]
  | d :: r, acc, hl, hh => by
    obtain ⟨ρ1, e1, e2, ⟨src, e3⟩, e4⟩ := hh d List.mem_cons_self [.lst acc]
    simp only [List.flatMap_cons, List.length_append, List.length_map] at hl
    have e5 := lcGo_pureP (g := g1) (tt := tt1) (te := te) (ρ := { ({ ρ1 with b := P.length } : EV).wipe own1 with b := P.length }) (fun _ => true) (h d) P (inn d) acc (by omega) fun e he J2 => by
      obtain ⟨ρ2, a1, a2, a3⟩ := e4 e he J2
      exact ⟨ρ2, a1, a2, fun _ => a3⟩
    have ef : (inn d).filter (fun _ => true) = inn d := List.filter_eq_self.mpr fun _ _ => rfl
    rw [ef] at e5
    have ih := lc2Go_pureP (g := g) (tt := tt) (f1 := f1) (own1 := own1) (g1 := g1) (tt1 := tt1) (te := te) (ρ := ρ) inn h P r (acc ++ (inn d).map fun e => SV.fz (h d e)) (by simp only [List.length_append, List.length_map]; omega) fun d' hd' => hh d' (List.mem_cons_of_mem _ hd')
    simp only [lc2Go, e1, e2, e3, Option.bind_some, if_true, e5, ih]
    simp [List.map_append, Function.comp_def]
theorem mLC2_pureP {own own1 : List Nat} {f f1 : IM} {g g1 : GM} {tt tt1 : BM} {te : XM} {ρ : EV} {P : Store} {items : List PyData} {src : SV} (inn : PyData → List PyData) (h : PyData → PyData → PyData) (hf : f ρ P = some (items, src, P)) (hl : (items.flatMap fun d => (inn d).map (h d)).length ≤ sizeLine)
    (hh : ∀ d ∈ items, ∀ J : Store, ∃ ρ1, g (.fz d) { ρ.wipe own with b := P.length } (P ++ J) = some (ρ1, P ++ J) ∧ tt ρ1 (P ++ J) = some (true, P ++ J) ∧ (∃ src, f1 ρ1 (P ++ J) = some (inn d, src, P ++ J)) ∧
      ∀ e ∈ inn d, ∀ J2 : Store, ∃ ρ2, g1 (.fz e) { ({ ρ1 with b := P.length } : EV).wipe own1 with b := P.length } (P ++ J2) = some (ρ2, P ++ J2) ∧ tt1 ρ2 (P ++ J2) = some (true, P ++ J2) ∧ te ρ2 (P ++ J2) = some (.fz (h d e), P ++ J2)) :
    mLC2 own own1 f g tt f1 g1 tt1 te ρ P = some (.fz (.list (items.flatMap fun d => (inn d).map (h d))), P) := by
  have := lc2Go_pureP (g := g) (tt := tt) (f1 := f1) (own1 := own1) (g1 := g1) (tt1 := tt1) (te := te) (ρ := { ρ.wipe own with b := P.length }) inn h P items [] (by simpa using hl) hh
  simp only [mLC2, hf, Option.bind_some, this, List.nil_append]
  simp [fzs_map]
/-! ### the program: tails, ranks, better ones, arrows, all paths -/
theorem tails_of_eq : m_tails_of = m__law_tails := rfl
theorem row_keyAll {ps : List Path} (h : ps ≠ []) : keyAll (ps.map pathD) = false := by
  cases ps with
  | nil => exact absurd rfl h
  | cons p r => rfl
theorem rowT_shaped {B : Book} (G : Good B) {x : Str} {ps : List Path} (h : lookR B.tab x = some ps) : SeqAt.shaped (.tuple (ps.map pathD)) = true := by
  have ⟨r1, r2⟩ := row_ok G h
  have : okD 2 (.tuple (ps.map pathD)) = true := paths_okD (ps := ps) r1 (by omega)
  exact okD_shaped this (by omega)
theorem idx_row {B : Book} (G : Good B) {x : Str} {ps : List Path} (h : lookR B.tab x = some ps) {p : Path} (hp : p ∈ ps) : gIndexT (ps.map pathD) (pathD p) = some (betterL ps p).length := by
  have s1 := rowT_shaped G h
  have s2 := (G.pnm h hp).shaped
  obtain ⟨j, hj, e1, e2⟩ := idx_path ps p hp
  have hne : ps ≠ [] := fun e => by rw [e] at hp; simp at hp
  have hk := row_keyAll hne
  have hl : (betterL ps p).length = j := by rw [← e2, List.length_take]; omega
  simp only [gIndexT, hk, s1, s2, and_self, if_true, e1, hl]
theorem t_rank {B : Book} (G : Good B) {x : Str} {ps : List Path} (h : lookR B.tab x = some ps) {p : Path} (hp : p ∈ ps) (P : Store) : m_rank_of [.fz (bookD B), .fz (pathD p)] P = some (.fz (.int ((betterL ps p).length : Nat)), P) := by
  have e5 := idx_row G h hp
  have hne : ps ≠ [] := fun e => by rw [e] at hp; simp at hp
  have hk := row_keyAll hne
  refine W.of (W_fun ?_)
  rw [b_rank_of, show startE 2 [SV.fz (bookD B), .fz (pathD p)] = [some (.fz (bookD B)), some (.fz (pathD p))] from rfl]
  obtain ⟨y, t, rfl, _⟩ := G.second h hp
  have h0 := sub_path0 (P := P) (x :: y :: t)
  have h1 := sub_book2 (P := P) B
  have h2 := row_book h P
  simp only [List.getElem?_cons_zero, Option.map_some] at h0
  have q : (mSub (mSub (mVar 0) (mC (.int 2))) (mSub (mVar 1) (mC (.int 0)))) ⟨P.length, [some (.fz (bookD B)), some (.fz (pathD (x :: y :: t)))]⟩ P = some (.fz (.tuple (ps.map pathD)), P) := by
    simp only [mSub_ap, mVar_ap, List.getElem?_cons_zero, List.getElem?_cons_succ, Option.join_some, Option.map_some, Option.bind_some, mC_ap, flat_fz, h1, h0, h2]
    rfl
  rw [sRet_ap, mIndex_t q hk (k := .fz (pathD (x :: y :: t))) (P2 := P) rfl rfl e5]
  simp
theorem t_better_ones {B : Book} (G : Good B) {x : Str} {ps : List Path} (h : lookR B.tab x = some ps) {p : Path} (hp : p ∈ ps) (P : Store) : m_better_ones [.fz (bookD B), .fz (pathD p)] P = some (.fz (.list ((betterL ps p).map pathD)), P) := by
  have e5 := t_rank G h hp P
  refine W.of (W_fun ?_)
  rw [b_better_ones, show startE 2 [SV.fz (bookD B), .fz (pathD p)] = [some (.fz (bookD B)), some (.fz (pathD p))] from rfl]
  obtain ⟨j, hj, e1, e2⟩ := idx_path ps p hp
  have hl : (betterL ps p).length = j := by rw [← e2, List.length_take]; omega
  have e3 := cut_take (ps.map pathD) j (by simpa using hj)
  rw [← List.map_take, e2] at e3
  rw [hl] at e5
  obtain ⟨y, t, rfl, _⟩ := G.second h hp
  have h0 := sub_path0 (P := P) (x :: y :: t)
  have h1 := sub_book2 (P := P) B
  have h2 := row_book h P
  simp only [List.getElem?_cons_zero, Option.map_some] at h0
  have h3 : dSl (rowD ps) none (some (j : Int)) = some (.tuple ((betterL ps (x :: y :: t)).map pathD)) := by rw [rowD, dSl_tup, e3]
  simp [h0, h1, h2, e5, h3]
theorem t_arrows_of {B : Book} (G : Good B) {x : Str} {ps : List Path} (h : lookR B.tab x = some ps) {p : Path} (hp : p ∈ ps) (P : Store) : m_arrows [.fz (bookD B), .fz (pathD p)] P = some (.fz (.list ((arrows B p).map pathD)), P) := by
  refine W.of (W_fun ?_)
  rw [b_arrows, show startE 2 [SV.fz (bookD B), .fz (pathD p)] = [some (.fz (bookD B)), some (.fz (pathD p))] from rfl]
  have hl := (G.at h hp).1
  have e1 := t_better_ones G h hp P
  have e2 := t_tails p (by omega) P
  rw [← tails_of_eq] at e2
  have hr := row_ok G h
  have b1 := better_len ps p
  have e3 : arrows B p = betterL ps p ++ tailsL p := by
    obtain ⟨y, t, rfl, _⟩ := G.second h hp
    simp [arrows, rowOf, h]
  have b2 : (tailsL p).length = p.length - 2 := by simp [tailsL]
  have e4 := dAdd_lst ((betterL ps p).map pathD) ((tailsL p).map pathD) (by simp only [List.length_map]; exact Nat.le_trans (show _ ≤ 100 by omega) (by decide))
  rw [← List.map_append, ← e3] at e4
  simp only [sRet_ap, mBin_ap, mCallF_ap, aCons_ap, aNil_ap, mVar_ap, List.getElem?_cons_succ, List.getElem?_cons_zero, Option.join_some, Option.map_some, Option.bind_some, e1, e2, flat_fz, e4]
  simp
def rowsI (B : Book) : PyData → List PyData
  | .str x => (rowOf B x).map pathD
  | _ => []
theorem t_paths_of {B : Book} (G : Good B) (P : Store) : m_paths_of [.fz (bookD B)] P = some (.fz (.list ((pathsL B).map pathD)), P) := by
  have h1 := fun Z => sub_book2 (P := Z) B
  have h2 := gSorted_tab (T := B.tab) (Nat.lt_of_le_of_lt G.tabLen (by decide))
  have hfl : (((names B).map PyData.str).flatMap fun d => (rowsI B d).map fun e => e) = (pathsL B).map pathD := by
    rw [pathsL, List.map_flatMap, List.flatMap_map]
    congr 1
    funext x
    simp [rowsI]
  have e1 := mLC2_pureP (own := [2, 1]) (own1 := [1]) (f := iAny (mCall gSorted (aCons (mSub (mVar 0) (mC (.int 2))) aNil))) (f1 := iAny (mSub (mSub (mVar 0) (mC (.int 2))) (mVar 2))) (g := gNm 2) (g1 := gNm 1) (tt := bYes) (tt1 := bYes) (te := mVar 1) (ρ := ⟨P.length, [some (.fz (bookD B)), none, none]⟩) (P := P) (items := (names B).map .str) (src := .fz (.list ((names B).map .str)))
    (rowsI B) (fun _ e => e) (iAny_lst (by simp only [mCall_ap, aCons_ap, aNil_ap, mSub_ap, mVar_ap, List.getElem?_cons_succ, List.getElem?_cons_zero, Option.join_some, Option.map_some, Option.bind_some, mC_ap, flat_fz, h1, h2, flats_cons, flats_nil]; rfl)) (by rw [hfl, List.length_map]; exact Nat.le_trans (paths_len G) (by decide)) fun d hd J => by
      obtain ⟨x, hx, rfl⟩ := List.mem_map.mp hd
      obtain ⟨ps, hps⟩ := names_row hx
      have e2 := row_book hps
      have hr : rowsI B (.str x) = ps.map pathD := by simp [rowsI, rowOf, hps]
      refine ⟨⟨P.length, [some (.fz (bookD B)), none, some (.fz (.str x))]⟩, rfl, rfl, ⟨.fz (rowD ps), ?_⟩, fun e he J2 => ⟨⟨P.length, [some (.fz (bookD B)), some (.fz e), some (.fz (.str x))]⟩, rfl, rfl, rfl⟩⟩
      rw [hr]
      simp only [iAny_ap, mSub_ap, mVar_ap, List.getElem?_cons_succ, List.getElem?_cons_zero, Option.join_some, Option.map_some, Option.bind_some, mC_ap, flat_fz, h1, e2]
      rfl
  rw [hfl] at e1
  refine W.of (W_fun ?_)
  rw [b_paths_of, show startE 3 [SV.fz (bookD B)] = [some (.fz (bookD B)), none, none] from rfl, sRet_ap, e1]
  simp
end NS

set_option maxHeartbeats 400000
set_option linter.all false
set_option maxRecDepth 10000
namespace NS
open PySem Pd L2
/-! ### sorted rows of paths are one -/
section
open PyProof.Rows PySem.W
theorem toks_strs : ∀ {p q : List Str}, keyToksAll (p.map .str) = keyToksAll (q.map .str) → p = q
  | [], [], _ => rfl
  | [], y :: q, h => by simp [keyToksAll, keyToks] at h
  | x :: p, [], h => by simp [keyToksAll, keyToks] at h
  | x :: p, y :: q, h => by
    simp only [List.map_cons, keyToksAll, keyToks, List.cons_append, List.nil_append, List.cons.injEq, Sum.inr.injEq, true_and] at h
    rw [str_ext h.1, toks_strs h.2]
theorem toks_path {p q : Path} (h : keyToks (pathD p) = keyToks (pathD q)) : p = q := by
  simp only [pathD, keyToks] at h
  exact toks_strs h
theorem le_data_trans (a b c : PyData) (h1 : dataLe false (fun d : PyData => d) a b = true) (h2 : dataLe false (fun d : PyData => d) b c = true) : dataLe false (fun d : PyData => d) a c = true := by
  rw [dataLe_eq] at h1 h2 ⊢
  simp only [cond_false, Bool.not_eq_true', dataLt] at h1 h2 ⊢
  cases h : PyProof.Rows.lexLt itemOrd (keyToks c) (keyToks a) with
  | false => rfl
  | true =>
    rcases lex_negTrans _ (keyToks b) _ h with h | h
    · rw [h] at h2; cases h2
    · rw [h] at h1; cases h1
theorem le_data_total (a b : PyData) : (dataLe false (fun d : PyData => d) a b || dataLe false (fun d : PyData => d) b a) = true := by
  rw [dataLe_eq]
  simp only [cond_false, dataLt, Bool.or_eq_true, Bool.not_eq_true']
  cases h : PyProof.Rows.lexLt itemOrd (keyToks b) (keyToks a) with
  | false => exact .inl rfl
  | true =>
    right
    cases h2 : PyProof.Rows.lexLt itemOrd (keyToks a) (keyToks b) with
    | false => rfl
    | true =>
      have := lex_trans _ _ _ h h2
      rw [lex_irrefl] at this; cases this
theorem le_data_anti (a b : PyData) (h1 : dataLe false (fun d : PyData => d) a b = true) (h2 : dataLe false (fun d : PyData => d) b a = true) : keyToks a = keyToks b := by
  rw [dataLe_eq] at h1 h2
  simp only [cond_false, Bool.not_eq_true', dataLt] at h1 h2
  exact (lex_total _ _ h1 h2).symm
theorem sortD_pw (ds : List PyData) : (sortD ds).Pairwise fun a b => dataLe false (fun d : PyData => d) a b = true := List.pairwise_mergeSort le_data_trans le_data_total ds
end
theorem sortD_perm' (ds : List PyData) : (sortD ds).Perm ds := List.mergeSort_perm _ _
def sortP (ps : List Path) : List Path := (sortD (ps.map pathD)).filterMap unPath
theorem sortP_eq (ps : List Path) : sortD (ps.map pathD) = (sortP ps).map pathD ∧ (sortP ps).Perm ps := by
  obtain ⟨ys, h1, h2⟩ := perm_ex pathD unPath unPath_path (sortD_perm' (ps.map pathD))
  have h3 : sortP ps = ys := by
    rw [sortP, h2]
    clear h1 h2
    induction ys with
    | nil => rfl
    | cons y r ih => simp [List.filterMap_cons, unPath_path, ih]
  rw [h3]
  exact ⟨h2, h1⟩
theorem sortP_one {ps qs : List Path} (h : ps.Perm qs) : sortP ps = sortP qs := by
  obtain ⟨a1, a2⟩ := sortP_eq ps
  obtain ⟨b1, b2⟩ := sortP_eq qs
  have p1 := sortD_pw (ps.map pathD)
  have p2 := sortD_pw (qs.map pathD)
  rw [a1, List.pairwise_map] at p1
  rw [b1, List.pairwise_map] at p2
  exact List.Perm.eq_of_pairwise (fun a b _ _ h1 h2 => toks_path (le_data_anti _ _ h1 h2)) p1 p2 (a2.trans (h.trans b2.symm))
theorem sortP_iff {ps qs : List Path} : sortP ps = sortP qs ↔ ps.Perm qs := by
  constructor
  · intro h
    exact (sortP_eq ps).2.symm.trans (h ▸ (sortP_eq qs).2)
  · exact sortP_one
theorem eqvAll_paths : ∀ ps qs : List Path, PyData.eqvAll (ps.map pathD) (qs.map pathD) = decide (ps = qs)
  | [], [] => by simp [PyData.eqvAll]
  | [], _ :: _ => by simp [PyData.eqvAll]
  | _ :: _, [] => by simp [PyData.eqvAll]
  | p :: ps, q :: qs => by
    simp only [List.map_cons, PyData.eqvAll, eqv_path, eqvAll_paths ps qs]
    by_cases h : p = q
    · subst h; simp
    · simp [h]
/-! ### paths as data -/
def pathsO : List PyData → Option (List Path)
  | [] => some []
  | d :: r => (unPath d).bind fun p => (pathsO r).map (p :: ·)
theorem unPath_some {d : PyData} {p : Path} (h : unPath d = some p) : d = pathD p := by
  cases d with
  | tuple ds => simp only [unPath] at h; rw [strsD_some h]; rfl
  | _ => simp [unPath] at h
theorem pathsO_map : ∀ ps : List Path, pathsO (ps.map pathD) = some ps
  | [] => rfl
  | p :: r => by simp [pathsO, unPath_path, pathsO_map r]
theorem pathsO_some : ∀ {ds : List PyData} {ps : List Path}, pathsO ds = some ps → ds = ps.map pathD
  | [], ps, h => by simp only [pathsO, Option.some.injEq] at h; subst h; rfl
  | d :: r, ps, h => by
    simp only [pathsO, Option.bind_eq_some_iff, Option.map_eq_some_iff] at h
    obtain ⟨p, h1, qs, h2, rfl⟩ := h
    rw [unPath_some h1, pathsO_some h2]; rfl
def isPathD (B : Book) (d : PyData) : Bool := match unPath d with
  | some p => decide (p ∈ pathsL B)
  | none => false
theorem isPath_path (B : Book) (p : Path) : isPathD B (pathD p) = decide (p ∈ pathsL B) := by simp [isPathD, unPath_path]
theorem isPath_ex {B : Book} {d : PyData} (h : isPathD B d = true) : ∃ p, d = pathD p ∧ p ∈ pathsL B := by
  unfold isPathD at h
  split at h
  · rename_i p hp
    exact ⟨p, unPath_some hp, by simpa using h⟩
  · cases h
theorem all_paths {B : Book} : ∀ {ds : List PyData}, ds.all (isPathD B) = true → ∃ ps : List Path, ds = ps.map pathD ∧ ∀ p ∈ ps, p ∈ pathsL B
  | [], _ => ⟨[], rfl, by simp⟩
  | d :: r, h => by
    simp only [List.all_cons, Bool.and_eq_true] at h
    obtain ⟨p, rfl, hp⟩ := isPath_ex h.1
    obtain ⟨ps, rfl, hps⟩ := all_paths h.2
    exact ⟨p :: ps, rfl, by
      intro q hq
      rcases List.mem_cons.mp hq with rfl | hq
      · exact hp
      · exact hps q hq⟩
theorem paths_two {B : Book} (G : Good B) {p : Path} (h : p ∈ pathsL B) : ∃ x y t, p = x :: y :: t := by
  obtain ⟨x, ps, h1, h2⟩ := paths_pnm G h
  obtain ⟨y, t, rfl, _⟩ := G.second h1 h2
  exact ⟨x, y, t, rfl⟩
theorem mem_paths_row {B : Book} (G : Good B) {x : Str} {t : Path} {ps : List Path} (h : lookR B.tab x = some ps) : (x :: t) ∈ pathsL B ↔ (x :: t) ∈ ps := by
  constructor
  · intro hp
    obtain ⟨x', ps', h1, h2⟩ := paths_pnm G hp
    obtain ⟨y, t', e, _⟩ := G.second h1 h2
    have e1 : x = x' := (List.cons.inj e).1
    subst e1
    rw [h] at h1; cases h1
    exact h2
  · intro hp
    exact mem_paths.mpr ⟨x, List.mem_map.mpr ⟨_, lookR_mem h, rfl⟩, by simp [rowOf, h, hp]⟩
theorem lc_isstr {ds : List PyData} (hl : ds.length ≤ 1000) {s0 s2 : Option SV} (P : Store) : (mCall gAll (aCons (mLC [2] (iAny (mVar 1)) (gNm 2) bYes (mIs (inst .str) (mVar 2))) aNil)) ⟨P.length, [s0, some (.fz (.tuple ds)), s2]⟩ P = some (.fz (.bool (strsD ds).isSome), P) := by
  have e := mLC_map (own := [2]) (f := iAny (mVar 1)) (g := gNm 2) (te := mIs (inst .str) (mVar 2)) (ρ := ⟨P.length, [s0, some (.fz (.tuple ds)), s2]⟩) (P := P) (items := ds) (src := .fz (.tuple ds)) (fun d => .bool (inst .str d)) (by simp) (Nat.le_trans hl (by decide)) fun d hd S => ⟨_, rfl, by simp [EV.wipe]⟩
  have g := gAll_map (inst .str) ds
  rw [all_str] at g
  generalize ds.map (fun d => PyData.bool (inst .str d)) = K at e g
  simp only [mCall_ap, aCons_ap, aNil_ap, e, Option.bind_some, flats_cons, flats_nil, flat_fz, Option.map_some, g]
theorem in_row {B : Book} (G : Good B) {x : Str} {ps : List Path} (h : lookR B.tab x = some ps) {p : Path} (hp : SeqAt.shaped (pathD p) = true) (P : Store) : inOf P (pathD p) (.fz (rowD ps)) = some (decide (p ∈ ps)) := by
  rw [rowD, inOf_tup, if_pos ⟨hp, rowT_shaped G h⟩, in_map]
theorem t_is_path_of {B : Book} (G : Good B) {m : Nat} {d : PyData} (hm : okD m d = true) (h60 : m ≤ 60) (P : Store) : m_is_path_of [.fz (bookD B), .fz d] P = some (.fz (.bool (isPathD B d)), P) := by
  refine W.of (W_fun ?_)
  rw [b_is_path_of, show startE 3 [SV.fz (bookD B), .fz d] = [some (.fz (bookD B)), some (.fz d), none] from rfl]
  have hsh := okD_shaped hm (by omega)
  cases d with
  | tuple ds =>
    obtain ⟨m', _, hl, _⟩ := okD_tuple hm
    have e1 := lc_isstr hl (s0 := some (.fz (bookD B))) (s2 := none) P
    have it : inst .tuple (.tuple ds) = true := rfl
    have hno : isPathD B (.tuple ds) = true → 2 ≤ ds.length := fun h => by
      obtain ⟨p, e, hp⟩ := isPath_ex h
      obtain ⟨x, y, t, rfl⟩ := paths_two G hp
      cases e; simp
    by_cases h2 : ds.length < 2
    · have : isPathD B (.tuple ds) = false := by
        cases h : isPathD B (.tuple ds) with
        | false => rfl
        | true => have := hno h; omega
      have h2i : (ds.length : Int) < 2 := by omega
      simp [it, h2i, this]
    · have h2i : decide ((ds.length : Int) < 2) = false := by simp; omega
      cases hs : strsD ds with
      | none =>
        have : isPathD B (.tuple ds) = false := by simp [isPathD, unPath, hs]
        rw [hs] at e1
        have q1 : (mOrB (mNotB (mTB (mIs (inst .tuple) (mVar 1)))) (mOrB (mTB (mBin dLt (mCall gLenA (aCons (mVar 1) aNil)) (mC (.int 2)))) (mNotB (mTB (mCall gAll (aCons (mLC [2] (iAny (mVar 1)) (gNm 2) bYes (mIs (inst .str) (mVar 2))) aNil)))))) ⟨P.length, [some (.fz (bookD B)), some (.fz (.tuple ds)), none]⟩ P = some (true, P) := by
          simp only [mOrB_ap, mNotB_ap, mTB_ap, mIs_ap, mVar_ap, List.getElem?_cons_succ, List.getElem?_cons_zero, Option.join_some, Option.map_some, Option.bind_some, flat_fz, it, Bool.not_true, Bool.false_eq_true, if_false, mBin_ap, mCall_ap gLenA, aCons_ap, aNil_ap, flats_cons, flats_nil, gLenA_tup, mC_ap, dLt_int, h2i, e1, Option.isSome_none, Bool.not_false]
        rw [sSeq_ap, sIf_ap, q1, this]
        simp
      | some p =>
        have hp := strsD_some hs
        rw [hs] at e1
        have q1 : (mOrB (mNotB (mTB (mIs (inst .tuple) (mVar 1)))) (mOrB (mTB (mBin dLt (mCall gLenA (aCons (mVar 1) aNil)) (mC (.int 2)))) (mNotB (mTB (mCall gAll (aCons (mLC [2] (iAny (mVar 1)) (gNm 2) bYes (mIs (inst .str) (mVar 2))) aNil)))))) ⟨P.length, [some (.fz (bookD B)), some (.fz (.tuple ds)), none]⟩ P = some (false, P) := by
          simp only [mOrB_ap, mNotB_ap, mTB_ap, mIs_ap, mVar_ap, List.getElem?_cons_succ, List.getElem?_cons_zero, Option.join_some, Option.map_some, Option.bind_some, flat_fz, it, Bool.not_true, Bool.false_eq_true, if_false, mBin_ap, mCall_ap gLenA, aCons_ap, aNil_ap, flats_cons, flats_nil, gLenA_tup, mC_ap, dLt_int, h2i, e1, Option.isSome_some]
        have hpd : PyData.tuple ds = pathD p := by rw [hp]; rfl
        rw [hpd] at q1 hsh
        rw [hpd]
        rw [seq_nx (if_ff q1), isPath_path]
        have hlp : 2 ≤ p.length := by
          have : ds.length = p.length := by rw [hp, List.length_map]
          omega
        obtain ⟨x, y, t, rfl⟩ : ∃ x y t, p = x :: y :: t := by
          match p, hlp with
          | x :: y :: t, _ => exact ⟨x, y, t, rfl⟩
        have h0 := sub_path0 (P := P) (x :: y :: t)
        simp only [List.getElem?_cons_zero, Option.map_some] at h0
        have h1 := sub_book2 (P := P) B
        have h3 := in_tab (P := P) B.tab x
        by_cases hk : x ∈ B.tab.map (·.1)
        · obtain ⟨ps, hps⟩ := lookR_key hk
          have h4 := row_book hps P
          have h5 := in_row G hps hsh P
          have h6 : decide ((x :: y :: t) ∈ pathsL B) = decide ((x :: y :: t) ∈ ps) := by simp only [mem_paths_row G hps]
          rw [h6]
          simp [h0, h1, h3, hk, h4, h5]
        · have h6 : ¬ (x :: y :: t) ∈ pathsL B := fun h => by
            obtain ⟨x', ps', g1, g2⟩ := paths_pnm G h
            obtain ⟨y', t', e, _⟩ := G.second g1 g2
            have e1 : x = x' := (List.cons.inj e).1
            subst e1
            exact hk (List.mem_map.mpr ⟨_, lookR_mem g1, rfl⟩)
          simp [h0, h1, h3, hk, h6]
  | _ => simp [inst, isPathD, unPath]
end NS

set_option maxHeartbeats 400000
set_option linter.all false
set_option maxRecDepth 10000
namespace NS
open PySem Pd L2
/-! ### a dict of the places -/
def plI : Nat → List Path → List (List Key × SV)
  | _, [] => []
  | k, p :: r => (keyP p, .fz (.int (k : Int))) :: plI (k + 1) r
theorem plI_app (p : Path) : ∀ (ps : List Path) (k : Nat), plI k (ps ++ [p]) = plI k ps ++ [(keyP p, .fz (.int ((k + ps.length : Nat) : Int)))]
  | [], k => rfl
  | q :: ps, k => by
    simp only [List.cons_append, plI, plI_app p ps (k + 1), List.length_cons]
    rw [show k + 1 + ps.length = k + (ps.length + 1) by omega]
theorem plI_len : ∀ (ps : List Path) (k : Nat), (plI k ps).length = ps.length
  | [], _ => rfl
  | _ :: ps, k => by simp [plI, plI_len ps]
theorem plI_put {ps : List Path} {k : Nat} {p : Path} (h : p ∉ ps) (s : SV) : putS (plI k ps) (keyP p) s = plI k ps ++ [(keyP p, s)] := by
  have : ((plI k ps).any fun q => decide (q.1 = keyP p)) = false := by
    induction ps generalizing k with
    | nil => rfl
    | cons r ps ih =>
      simp only [List.mem_cons, not_or] at h
      have hne : ¬ keyP r = keyP p := fun e => h.1 (keyP_inj.mp e).symm
      simp only [plI, List.any_cons, hne, decide_false, Bool.false_or]
      exact ih h.2
  simp only [putS, this, Bool.false_eq_true, if_false]
theorem plI_look : ∀ (ps : List Path) (k : Nat) (p : Path), p ∈ ps → lookS (plI k ps) (keyP p) = some (.fz (.int ((k + ps.idxOf p : Nat) : Int)))
  | [], _, _, h => by simp at h
  | q :: ps, k, p, h => by
    by_cases e : q = p
    · subst e
      simp [lookS, plI]
    · have hm : p ∈ ps := (List.mem_cons.mp h).resolve_left fun h => e h.symm
      have hne : ¬ keyP q = keyP p := fun h => e (keyP_inj.mp h)
      have hb : (q == p) = false := by simpa using e
      have ih := plI_look ps (k + 1) p hm
      simp only [lookS, plI, List.find?_cons, hne, decide_false] at ih ⊢
      rw [ih, List.idxOf_cons, hb]
      simp only [Bool.false_eq_true, if_false, cond_false]
      rw [show k + 1 + ps.idxOf p = k + (ps.idxOf p + 1) by omega]
theorem sub_plI {P : Store} {k : Nat} {ps : List Path} {p : Path} (h : P[k]? = some (.dT (plI 0 ps))) (hp : p ∈ ps) : subOf P (.ptr k) (pathD p) = some (.fz (.int ((ps.idxOf p : Nat) : Int))) := by
  have e : dictOf P (.ptr k) = some (.t (plI 0 ps)) := by simp [dictOf, h]
  have e2 : dlook (.t (plI 0 ps)) (pathD p) = some (some (.fz (.int ((ps.idxOf p : Nat) : Int)))) := by
    simp only [dlook, tkey_path, Option.map_some, plI_look ps 0 p hp, Nat.zero_add]
  simp only [subOf, e, Option.bind_some, e2]
  rfl
theorem dc_places {s0 s2 s4 s5 : Option SV} {ps : List Path} (hn : ps.Nodup) (hl : ps.length ≤ 1000) (P : Store) : ∀ (r i : Nat) (s3 : Option SV), i + r = ps.length →
    dcGo (gNm 3) bYes (mSub (mVar 1) (mVar 3)) (mVar 3) ⟨P.length, [s0, some (.fz (.list (ps.map pathD))), s2, s3, s4, s5]⟩ P.length (rangeD (i : Int) r) (P ++ [.dT (plI 0 (ps.take i))]) = some (P ++ [.dT (plI 0 ps)]) := by
  intro r
  induction r with
  | zero =>
    intro i s3 h
    have : ps.take i = ps := List.take_of_length_le (by omega)
    rw [this]
    rfl
  | succ r ih =>
    intro i s3 h
    have hi : i < ps.length := by omega
    have hr : rangeD (i : Int) (r + 1) = .int (i : Int) :: rangeD ((i + 1 : Nat) : Int) r := by
      simp only [rangeD, List.range_succ_eq_map, List.map_cons, List.map_map]
      congr 1
      refine List.map_congr_left fun k _ => ?_
      simp only [Function.comp]
      congr 1; omega
    have hno : ps[i] ∉ ps.take i := fun h => by
      have h2 : ps = ps.take i ++ ps.drop i := (List.take_append_drop i _).symm
      rw [h2, List.nodup_append] at hn
      refine hn.2.2 _ h _ ?_ rfl
      rw [List.drop_eq_getElem_cons hi]; exact List.mem_cons_self
    have hput := plI_put (k := 0) hno (.fz (.int (i : Int)))
    have happ := plI_app ps[i] (ps.take i) 0
    rw [List.length_take, Nat.min_eq_left (by omega), Nat.zero_add, ← hput, ← List.take_succ_eq_append_getElem hi] at happ
    have e1 : ∀ Z, subOf Z (.fz (.list (ps.map pathD))) (.int (i : Int)) = some (.fz (pathD ps[i])) := fun Z => by simp [hi]
    have hz : (plI 0 (ps.take i)).length < sizeLine := by rw [plI_len, List.length_take]; exact Nat.lt_of_le_of_lt (show _ ≤ 1000 by omega) (by decide)
    have hat : (P ++ [Cell.dT (plI 0 (ps.take i))])[P.length]? = some (.dT (plI 0 (ps.take i))) := by simp
    have hset : ∀ y, (P ++ [Cell.dT (plI 0 (ps.take i))]).set P.length y = P ++ [y] := fun y => by
      rw [List.set_append_right _ _ (Nat.le_refl _)]; simp
    rw [hr]
    simp only [dcGo, gNm_ap, put_ap, List.set_cons_succ, List.set_cons_zero, Option.bind_some, bYes_ap, if_true, mSub_ap, mVar_ap, List.getElem?_cons_succ, List.getElem?_cons_zero, Option.join_some, Option.map_some, flat_fz, e1, hat, hz, tkey_path, ← happ, hset]
    exact ih (i + 1) _ (by omega)
theorem t_places {s0 s2 s4 s5 : Option SV} {ps : List Path} (hn : ps.Nodup) (hl : ps.length ≤ 1000) (P : Store) :
    mDcT [3] (iRange (aCons (mCall gLenA (aCons (mVar 1) aNil)) aNil)) (gNm 3) bYes (mSub (mVar 1) (mVar 3)) (mVar 3) ⟨P.length, [s0, some (.fz (.list (ps.map pathD))), s2, none, s4, s5]⟩ P = some (.ptr P.length, P ++ [.dT (plI 0 ps)]) := by
  have e1 : iRange (aCons (mCall gLenA (aCons (mVar 1) aNil)) aNil) ⟨P.length, [s0, some (.fz (.list (ps.map pathD))), s2, none, s4, s5]⟩ P = some (rangeD 0 ps.length, .fz .none, P) := iRange_nat (by simp) (by omega)
  have e2 := dc_places (s0 := s0) (s2 := s2) (s4 := s4) (s5 := s5) hn hl P ps.length 0 none (by omega)
  have hw : ({ ({ b := P.length, sl := [s0, some (.fz (.list (ps.map pathD))), s2, none, s4, s5] } : EV).wipe [3] with b := P.length } : EV) = ⟨P.length, [s0, some (.fz (.list (ps.map pathD))), s2, none, s4, s5]⟩ := rfl
  have e3 : ∀ (qs : List Path) (k : Nat), (fzs ((plI k qs).map (·.2))).isSome = true := by
    intro qs
    induction qs with
    | nil => intro k; rfl
    | cons q r ih => intro k; simp [plI, ih]
  simp only [mDcT, e1, Option.bind_some, hw]
  rw [show ((0 : Nat) : Int) = 0 from rfl] at e2
  simp only [List.take_zero, plI] at e2
  rw [e2]
  simp [e3]
theorem pathsL_nodup {B : Book} (G : Good B) : (pathsL B).Nodup := by
  have key : ∀ l : List Str, l.Nodup → (l.flatMap (rowOf B)).Nodup := by
    intro l
    induction l with
    | nil => intro _; simp
    | cons x r ih =>
      intro h
      have h2 := List.nodup_cons.mp h
      rw [List.flatMap_cons, List.nodup_append]
      refine ⟨?_, ih h2.2, fun a ha b hb e => ?_⟩
      · unfold rowOf
        cases e : lookR B.tab x with
        | none => simp
        | some ps => exact G.uniq _ (lookR_mem e)
      · subst e
        obtain ⟨y, hy, hb⟩ := List.mem_flatMap.mp hb
        obtain ⟨ps, g1, g2⟩ := row_path G ha
        obtain ⟨qs, g3, g4⟩ := row_path G hb
        obtain ⟨_, _, e1, _⟩ := G.second g1 g2
        obtain ⟨_, _, e2, _⟩ := G.second g3 g4
        rw [e1] at e2
        have := (List.cons.inj e2).1
        subst this
        exact h2.1 hy
  exact key _ (names_nd' G)
where
  names_nd' {B : Book} (G : Good B) : (names B).Nodup := sortS_nodup G.nd
/-! ### the program's judge of orders -/
def foreB (B : Book) (ps : List Path) : Bool := ps.all fun p => (arrows B p).all fun a => decide (ps.idxOf a < ps.idxOf p)
def orderB (B : Book) : PyData → Bool
  | .list ds => match pathsO ds with
    | some ps => decide (sortP ps = sortP (pathsL B)) && foreB B ps
    | none => false
  | _ => false
def innA (B : Book) (d : PyData) : List PyData := match unPath d with
  | some p => (arrows B p).map pathD
  | none => []
def ltB (ps : List Path) (d e : PyData) : PyData := match unPath d, unPath e with
  | some p, some q => .bool (decide (ps.idxOf q < ps.idxOf p))
  | _, _ => .none
theorem arrows_paths {B : Book} (G : Good B) {p a : Path} (hp : p ∈ pathsL B) (ha : a ∈ arrows B p) : a ∈ pathsL B := by
  obtain ⟨x, ps, h1, h2⟩ := paths_pnm G hp
  obtain ⟨y, t, rfl, _⟩ := G.second h1 h2
  rcases List.mem_append.mp ha with h | h
  · exact better_paths G (p := x :: y :: t) h1 (by simpa [rowOf, h1] using h)
  · exact tails_paths G hp h
theorem lc_fore {B : Book} (G : Good B) {ps : List Path} (hperm : ps.Perm (pathsL B)) {s3 : Option SV} (P : Store) :
    (mCall gAll (aCons (mLC2 [5, 4] [4] (iAny (mVar 1)) (gNm 5) bYes (iAny (mCallF m_arrows (aCons (mVar 0) (aCons (mVar 5) aNil)))) (gNm 4) bYes (mBin dLt (mSub (mVar 2) (mVar 4)) (mSub (mVar 2) (mVar 5)))) aNil)) ⟨P.length, [some (.fz (bookD B)), some (.fz (.list (ps.map pathD))), some (.ptr P.length), s3, none, none]⟩ (P ++ [.dT (plI 0 ps)]) = some (.fz (.bool (foreB B ps)), P ++ [.dT (plI 0 ps)]) := by
  have hl : ps.length ≤ 32 := by rw [hperm.length_eq]; exact paths_len G
  have hmem : ∀ p ∈ ps, p ∈ pathsL B := fun p hp => hperm.mem_iff.mp hp
  have hfl : ((ps.map pathD).flatMap fun d => (innA B d).map (ltB ps d)) = (ps.flatMap fun p => (arrows B p).map fun a => (p, a)).map fun x => .bool (decide (ps.idxOf x.2 < ps.idxOf x.1)) := by
    rw [List.map_flatMap, List.flatMap_map]
    congr 1
    funext p
    simp only [innA, unPath_path, List.map_map]
    refine List.map_congr_left fun a _ => ?_
    simp only [Function.comp, ltB, unPath_path]
  have hlen : ((ps.map pathD).flatMap fun d => (innA B d).map (ltB ps d)).length ≤ 1000 := by
    have key : ∀ qs : List Path, (∀ p ∈ qs, p ∈ pathsL B) → ((qs.map pathD).flatMap fun d => (innA B d).map (ltB ps d)).length ≤ 20 * qs.length := by
      intro qs
      induction qs with
      | nil => intro _; simp
      | cons q r ih =>
        intro h
        have h1 := ih fun p hp => h p (List.mem_cons_of_mem _ hp)
        have h2 := arrows_len G (h q List.mem_cons_self)
        simp only [List.map_cons, List.flatMap_cons, List.length_append, List.length_map, innA, unPath_path, List.length_cons] at h1 ⊢
        omega
    have := key ps hmem
    omega
  have e1 := mLC2_pureP (own := [5, 4]) (own1 := [4]) (f := iAny (mVar 1)) (f1 := iAny (mCallF m_arrows (aCons (mVar 0) (aCons (mVar 5) aNil)))) (g := gNm 5) (g1 := gNm 4) (tt := bYes) (tt1 := bYes) (te := mBin dLt (mSub (mVar 2) (mVar 4)) (mSub (mVar 2) (mVar 5))) (ρ := ⟨P.length, [some (.fz (bookD B)), some (.fz (.list (ps.map pathD))), some (.ptr P.length), s3, none, none]⟩) (P := P ++ [.dT (plI 0 ps)]) (items := ps.map pathD) (src := .fz (.list (ps.map pathD)))
    (innA B) (ltB ps) (by simp) (Nat.le_trans hlen (by decide)) fun d hd J => by
      obtain ⟨p, hp, rfl⟩ := List.mem_map.mp hd
      obtain ⟨x, qs, h1, h2⟩ := paths_pnm G (hmem p hp)
      have e2 := t_arrows_of G h1 h2
      refine ⟨⟨(P ++ [Cell.dT (plI 0 ps)]).length, [some (.fz (bookD B)), some (.fz (.list (ps.map pathD))), some (.ptr P.length), s3, none, some (.fz (pathD p))]⟩, rfl, rfl, ⟨.fz (.list ((arrows B p).map pathD)), ?_⟩, fun e he J2 => ?_⟩
      · simp only [innA, unPath_path]
        refine iAny_lst ?_
        simp only [mCallF_ap, aCons_ap, aNil_ap, mVar_ap, List.getElem?_cons_succ, List.getElem?_cons_zero, Option.join_some, Option.map_some, Option.bind_some, e2]
      · simp only [innA, unPath_path] at he
        obtain ⟨a, ha, rfl⟩ := List.mem_map.mp he
        have ham : a ∈ ps := hperm.mem_iff.mpr (arrows_paths G (hmem p hp) ha)
        have hc : (P ++ [Cell.dT (plI 0 ps)] ++ J2)[P.length]? = some (.dT (plI 0 ps)) := at_app (by simp)
        have a1 := sub_plI hc ham
        have a2 := sub_plI hc hp
        refine ⟨⟨(P ++ [Cell.dT (plI 0 ps)]).length, [some (.fz (bookD B)), some (.fz (.list (ps.map pathD))), some (.ptr P.length), s3, some (.fz (pathD a)), some (.fz (pathD p))]⟩, rfl, rfl, ?_⟩
        simp only [mBin_ap, mSub_ap, mVar_ap, List.getElem?_cons_succ, List.getElem?_cons_zero, Option.join_some, Option.map_some, Option.bind_some, flat_fz, a1, a2, dLt_int, ltB, unPath_path]
        simp
  rw [hfl] at e1
  have g := gAll_map (fun x : Path × Path => decide (ps.idxOf x.2 < ps.idxOf x.1)) (ps.flatMap fun p => (arrows B p).map fun a => (p, a))
  have hall : (ps.flatMap fun p => (arrows B p).map fun a => (p, a)).all (fun x => decide (ps.idxOf x.2 < ps.idxOf x.1)) = foreB B ps := by
    simp only [foreB, List.all_flatMap, List.all_map]
    rfl
  rw [hall] at g
  generalize (ps.flatMap fun p => (arrows B p).map fun a => (p, a)).map (fun x => PyData.bool (decide (ps.idxOf x.2 < ps.idxOf x.1))) = K at e1 g
  simp only [mCall_ap, aCons_ap, aNil_ap, e1, Option.bind_some, flats_cons, flats_nil, flat_fz, Option.map_some, g]
end NS

set_option maxHeartbeats 400000
set_option linter.all false
set_option maxRecDepth 10000
namespace NS
open PySem Pd L2
theorem okD_paths {ps : List Path} (h : ∀ p ∈ ps, PNm p ∧ p.length ≤ 1000) (hl : ps.length ≤ 1000) : SeqAt.shaped (.list (ps.map pathD)) = true := okD_shaped (paths_okD h hl) (by omega)
theorem path_sortOk {ps : List Path} (h : ∀ p ∈ ps, PNm p ∧ p.length ≤ 1000 ∧ 1 ≤ p.length) (hl : ps.length ≤ 1000) : sortOk (ps.map pathD) = true := by
  have h4 := okD_paths (fun p hp => ⟨(h p hp).1, (h p hp).2.1⟩) hl
  have al : ∀ p q : List Str, PySem.W.alikeAll (p.map .str) (q.map .str) = true := by
    intro p
    induction p with
    | nil => intro q; simp [PySem.W.alikeAll]
    | cons x p ih =>
      intro q
      cases q with
      | nil => simp [PySem.W.alikeAll]
      | cons y q => simp [PySem.W.alikeAll, PySem.W.alike, ih]
  simp only [sortOk, Bool.and_eq_true, Bool.or_eq_true, List.all_eq_true, List.mem_map]
  refine ⟨?_, .inl ?_, h4⟩
  · rintro d ⟨p, _, rfl⟩ e ⟨q, _, rfl⟩
    simp [pathD, PySem.W.alike, al]
  · rintro d ⟨p, hp, rfl⟩
    have := (h p hp).2.2
    cases p with
    | nil => simp at this
    | cons x p => rfl
theorem gSorted_paths {ps : List Path} (h : ∀ p ∈ ps, PNm p ∧ p.length ≤ 1000 ∧ 1 ≤ p.length) (hl : ps.length ≤ 1000) : gSorted [.list (ps.map pathD)] = some (.list ((sortP ps).map pathD)) := by
  simp only [gSorted, gSortL, path_sortOk h hl, if_true, (sortP_eq ps).1, Option.some_or]
theorem dNe_lists {d e : PyData} (h : SeqAt.shaped d = true) (h2 : SeqAt.shaped e = true) (hs : atom d = none) : dNe d e = some (.bool (!PyData.eqv d e)) := by
  simp [dNe, dEqA, hs, dEqD, h, h2]
theorem paths_good {B : Book} (G : Good B) {ps : List Path} (h : ∀ p ∈ ps, p ∈ pathsL B) : ∀ p ∈ ps, PNm p ∧ p.length ≤ 1000 ∧ 1 ≤ p.length := fun p hp => by
  have h1 := pnm_paths G (h p hp)
  obtain ⟨x, y, t, rfl⟩ := paths_two G (h p hp)
  exact ⟨h1.1, by have := h1.2; omega, by simp⟩
theorem lc_allp {B : Book} (G : Good B) {m : Nat} {ds : List PyData} (hm : ∀ d ∈ ds, okD m d = true) (h60 : m ≤ 60) (hl : ds.length ≤ 1000) {s2 s3 s4 s5 : Option SV} (P : Store) :
    (mCall gAll (aCons (mLC [5] (iAny (mVar 1)) (gNm 5) bYes (mCallF m_is_path_of (aCons (mVar 0) (aCons (mVar 5) aNil)))) aNil)) ⟨P.length, [some (.fz (bookD B)), some (.fz (.list ds)), s2, s3, s4, s5]⟩ P = some (.fz (.bool (ds.all (isPathD B))), P) := by
  have e := mLC_map (own := [5]) (f := iAny (mVar 1)) (g := gNm 5) (te := mCallF m_is_path_of (aCons (mVar 0) (aCons (mVar 5) aNil))) (ρ := ⟨P.length, [some (.fz (bookD B)), some (.fz (.list ds)), s2, s3, s4, s5]⟩) (P := P) (items := ds) (src := .fz (.list ds)) (fun d => .bool (isPathD B d)) (by simp) (Nat.le_trans hl (by decide)) fun d hd S => by
    have e1 := t_is_path_of G (hm d hd) h60 S
    exact ⟨_, rfl, by simp [EV.wipe, e1]⟩
  have g := gAll_map (isPathD B) ds
  generalize ds.map (fun d => PyData.bool (isPathD B d)) = K at e g
  simp only [mCall_ap, aCons_ap, aNil_ap, e, Option.bind_some, flats_cons, flats_nil, flat_fz, Option.map_some, g]
theorem t_order_right {B : Book} (G : Good B) {m : Nat} {d : PyData} (hm : okD m d = true) (h60 : m ≤ 60) (P : Store) : m_order_right [.fz (bookD B), .fz d] P = some (.fz (.bool (orderB B d)), P) := by
  refine W.of (W_fun ?_)
  rw [b_order_right, show startE 6 [SV.fz (bookD B), .fz d] = [some (.fz (bookD B)), some (.fz d), none, none, none, none] from rfl]
  cases d with
  | list ds =>
    obtain ⟨m', rfl, hl, hall⟩ := okD_list hm
    have it : inst .list (.list ds) = true := rfl
    have e1 := lc_allp G hall (by omega) hl (s2 := none) (s3 := none) (s4 := none) (s5 := none) P
    have q1 : ∀ b, ds.all (isPathD B) = b → (mOrB (mNotB (mTB (mIs (inst .list) (mVar 1)))) (mNotB (mTB (mCall gAll (aCons (mLC [5] (iAny (mVar 1)) (gNm 5) bYes (mCallF m_is_path_of (aCons (mVar 0) (aCons (mVar 5) aNil)))) aNil))))) ⟨P.length, [some (.fz (bookD B)), some (.fz (.list ds)), none, none, none, none]⟩ P = some (!b, P) := fun b hb => by
      rw [hb] at e1
      simp only [mOrB_ap, mNotB_ap, mTB_ap, mIs_ap, mVar_ap, List.getElem?_cons_succ, List.getElem?_cons_zero, Option.join_some, Option.map_some, Option.bind_some, flat_fz, it, Bool.not_true, Bool.false_eq_true, if_false, e1]
    cases hb : ds.all (isPathD B) with
    | false =>
      have hf : orderB B (.list ds) = false := by
        cases h : orderB B (.list ds) with
        | false => rfl
        | true =>
          simp only [orderB] at h
          split at h
          · rename_i ps hps
            simp only [Bool.and_eq_true, decide_eq_true_eq] at h
            have hp := sortP_iff.mp h.1
            have : ds.all (isPathD B) = true := by
              rw [pathsO_some hps, List.all_eq_true]
              intro d hd
              obtain ⟨p, hp', rfl⟩ := List.mem_map.mp hd
              rw [isPath_path]
              simpa using hp.mem_iff.mp hp'
            rw [hb] at this; cases this
          · cases h
      rw [sSeq_ap, sIf_ap, q1 _ hb, hf]
      simp
    | true =>
      obtain ⟨ps, rfl, hps⟩ := all_paths hb
      have hg := paths_good G hps
      have hg2 := paths_good G (ps := pathsL B) fun p hp => hp
      have hl' : ps.length ≤ 1000 := by simpa using hl
      have hl2 : (pathsL B).length ≤ 1000 := by have := paths_len G; omega
      have g1 := gSorted_paths hg hl'
      have g2 := gSorted_paths hg2 hl2
      have e2 := t_paths_of G P
      have hsp : ∀ {qs : List Path}, (∀ p ∈ qs, PNm p ∧ p.length ≤ 1000 ∧ 1 ≤ p.length) → qs.length ≤ 1000 → SeqAt.shaped (.list ((sortP qs).map pathD)) = true := fun {qs} h h' => okD_paths (fun p hp => by
        have := h p ((sortP_eq qs).2.mem_iff.mp hp)
        exact ⟨this.1, this.2.1⟩) (by rw [(sortP_eq qs).2.length_eq]; exact h')
      have e3 : dNe (.list ((sortP ps).map pathD)) (.list ((sortP (pathsL B)).map pathD)) = some (.bool (!decide (sortP ps = sortP (pathsL B)))) := by
        rw [dNe_lists (hsp hg hl') (hsp hg2 hl2) rfl]
        simp only [PyData.eqv, eqvAll_paths]
      have ho : orderB B (.list (ps.map pathD)) = (decide (sortP ps = sortP (pathsL B)) && foreB B ps) := by simp only [orderB, pathsO_map]
      rw [ho]
      have q2 : (mTB (mBin dNe (mCall gSorted (aCons (mVar 1) aNil)) (mCall gSorted (aCons (mCallF m_paths_of (aCons (mVar 0) aNil)) aNil)))) ⟨P.length, [some (.fz (bookD B)), some (.fz (.list (ps.map pathD))), none, none, none, none]⟩ P = some (!decide (sortP ps = sortP (pathsL B)), P) := by
        simp only [mTB_ap, mBin_ap, mCall_ap, aCons_ap, aNil_ap, mVar_ap, List.getElem?_cons_succ, List.getElem?_cons_zero, Option.join_some, Option.map_some, Option.bind_some, flats_cons, flats_nil, flat_fz, g1, mCallF_ap, e2, g2, e3]
      rw [seq_nx (if_ff (q1 _ hb))]
      by_cases hs : sortP ps = sortP (pathsL B)
      · have hperm := sortP_iff.mp hs
        have hnd : ps.Nodup := hperm.nodup_iff.mpr (pathsL_nodup G)
        rw [decide_eq_true hs] at q2 ⊢
        rw [seq_nx (if_ff q2)]
        have e4 := t_places (s0 := some (.fz (bookD B))) (s2 := none) (s4 := none) (s5 := none) hnd hl' P
        rw [sSeq_ap, sSet_ap, e4]
        have e5 := lc_fore G hperm (s3 := none) P
        simp only [Option.map_some, Option.bind_some, put_ap, List.set_cons_succ, List.set_cons_zero, sRet_ap, e5, W_some, exitZ_fz]
        simp
      · rw [decide_eq_false hs] at q2 ⊢
        rw [sSeq_ap, sIf_ap, q2]
        simp
  | dict => exact (okD_dict hm).elim
  | _ => simp [inst, orderB]
end NS

set_option maxHeartbeats 400000
set_option linter.all false
set_option maxRecDepth 10000
namespace NS
open PySem Pd L2
/-! ### the law's judge of orders -/
theorem t_within {n : Nat} {d : PyData} {ds : List PyData} (hd : okD n d = true) (hds : ∀ e ∈ ds, okD n e = true) (hn : n < 40) (hl : ds.length ≤ 1000) (P : Store) : m__law_within [.fz d, .fz (.list ds)] P = some (.fz (.bool (ds.any (sameB d))), P) := by
  refine W.of (W_fun ?_)
  rw [b__law_within, show startE 3 [SV.fz d, .fz (.list ds)] = [some (.fz d), some (.fz (.list ds)), none] from rfl]
  have e := mLC_map (own := [2]) (f := iAny (mVar 1)) (g := gNm 2) (te := mCallF (m__law_same 40) (aCons (mVar 0) (aCons (mVar 2) aNil))) (ρ := ⟨P.length, [some (.fz d), some (.fz (.list ds)), none]⟩) (P := P) (items := ds) (src := .fz (.list ds)) (fun e => .bool (sameB d e)) (by simp) (Nat.le_trans hl (by decide)) fun e he S => by
    have e1 := t_sameB 40 n d e hd (hds e he) hn S
    refine ⟨⟨P.length, [some (.fz d), some (.fz (.list ds)), some (.fz e)]⟩, rfl, ?_⟩
    generalize m__law_same 40 = MS at *
    simp only [mCallF_ap, aCons_ap, aNil_ap, mVar_ap, List.getElem?_cons_succ, List.getElem?_cons_zero, Option.join_some, Option.map_some, Option.bind_some, e1]
  have g := gAny_map (sameB d) ds
  generalize ds.map (fun e => PyData.bool (sameB d e)) = K at e g
  generalize m__law_same 40 = MS at *
  simp only [sRet_ap, mCall_ap, aCons_ap, aNil_ap, e, Option.bind_some, flats_cons, flats_nil, flat_fz, Option.map_some, g, W_some, exitZ_fz]
  simp
theorem same_path {p : Path} {d : PyData} : sameB (pathD p) d = true ↔ d = pathD p := by
  rw [show pathD p = chD (some p) from rfl, sameB_ch]
  constructor
  · exact fun h => chEq_eq h
  · rintro rfl; simp [chEq, pathD, strsD_map]
theorem within_iff {p : Path} {ds : List PyData} : ds.any (sameB (pathD p)) = true ↔ pathD p ∈ ds := by
  rw [List.any_eq_true]
  constructor
  · rintro ⟨d, hd, h⟩
    rw [same_path] at h
    exact h ▸ hd
  · exact fun h => ⟨_, h, same_path.mpr rfl⟩
theorem pathD_inj {p q : Path} (h : pathD p = pathD q) : p = q := by
  have := congrArg unPath h
  rw [unPath_path, unPath_path] at this
  exact Option.some.inj this
/-- as many as there are, and all there -/
theorem perm_of_sub {α : Type} [DecidableEq α] : ∀ {l m : List α}, l.Nodup → (∀ x ∈ l, x ∈ m) → m.length ≤ l.length → m.Perm l
  | [], m, _, _, h => by
    have : m = [] := List.length_eq_zero_iff.mp (by simpa using h)
    rw [this]
  | x :: r, m, hn, hs, hl => by
    have hn2 := List.nodup_cons.mp hn
    have hx := hs x List.mem_cons_self
    have h1 := List.perm_cons_erase hx
    have h2 := List.length_erase_of_mem hx
    have := perm_of_sub (l := r) (m := m.erase x) hn2.2 (fun y hy => by
      have ne : y ≠ x := fun e => hn2.1 (e ▸ hy)
      exact (List.mem_erase_of_ne ne).mpr (hs y (List.mem_cons_of_mem _ hy))) (by simp only [List.length_cons] at hl; omega)
    exact h1.trans (this.cons x)
theorem perm_data {B : Book} (G : Good B) {ds : List PyData} (hl : ds.length = (pathsL B).length) (h : ∀ p ∈ pathsL B, pathD p ∈ ds) : ∃ ps : List Path, ds = ps.map pathD ∧ ps.Perm (pathsL B) := by
  have key : ∀ (l : List Path) (m : List PyData), l.Nodup → (∀ x ∈ l, pathD x ∈ m) → m.length ≤ l.length → m.Perm (l.map pathD) := by
    intro l
    induction l with
    | nil =>
      intro m _ _ h
      have : m = [] := List.length_eq_zero_iff.mp (by simpa using h)
      rw [this]; exact .refl _
    | cons x r ih =>
      intro m hn hs hl
      have hn2 := List.nodup_cons.mp hn
      obtain ⟨a, b, e⟩ := List.append_of_mem (hs x List.mem_cons_self)
      subst e
      refine List.perm_middle.trans ((ih (a ++ b) hn2.2 (fun y hy => ?_) (by simp at hl ⊢; omega)).cons _)
      have ne : y ≠ x := fun e => hn2.1 (e ▸ hy)
      have := hs y (List.mem_cons_of_mem _ hy)
      rcases List.mem_append.mp this with h | h
      · exact List.mem_append_left _ h
      · rcases List.mem_cons.mp h with h | h
        · exact absurd (pathD_inj h) ne
        · exact List.mem_append_right _ h
  have hp := key (pathsL B) ds (pathsL_nodup G) h (by omega)
  obtain ⟨ps, h1, h2⟩ := perm_ex pathD unPath unPath_path hp
  exact ⟨ps, h2, h1⟩
def inTake (B : Book) (ps : List Path) : PyData → PyData
  | .int i => .bool ((arrows B (ps.getD i.toNat [])).all fun a => decide (a ∈ ps.take i.toNat))
  | _ => .none
theorem lc_inTake {B : Book} (G : Good B) {ps : List Path} (hps : ∀ p ∈ ps, p ∈ pathsL B) (hl : ps.length ≤ 1000) {k : Nat} (hk : k < ps.length) {s2 s5 : Option SV} {b : Nat} (Z : Store) :
    (mCall gAll (aCons (mLC [4] (iAny (mCallF m__law_arrows (aCons (mVar 0) (aCons (mSub (mVar 1) (mVar 3)) aNil)))) (gNm 4) bYes (mIn false (mVar 4) (mSl (mVar 1) oNone (oSome (mVar 3))))) aNil)) ⟨b, [some (.fz (bookD B)), some (.fz (.list (ps.map pathD))), s2, some (.fz (.int (k : Int))), none, s5]⟩ Z = some (.fz (.bool ((arrows B ps[k]).all fun a => decide (a ∈ ps.take k))), Z) := by
  have hp := hps ps[k] (List.getElem_mem hk)
  obtain ⟨x, qs, h1, h2⟩ := paths_pnm G hp
  have e2 := t_arrows G h1 h2
  have e3 : ∀ Z, subOf Z (.fz (.list (ps.map pathD))) (.int (k : Int)) = some (.fz (pathD ps[k])) := fun Z => by simp [hk]
  have e4 := cut_take (ps.map pathD) k (by simp; omega)
  rw [← List.map_take] at e4
  have hal := arrows_len G hp
  have e1 := mLC_map (own := [4]) (f := iAny (mCallF m__law_arrows (aCons (mVar 0) (aCons (mSub (mVar 1) (mVar 3)) aNil)))) (g := gNm 4) (te := mIn false (mVar 4) (mSl (mVar 1) oNone (oSome (mVar 3)))) (ρ := ⟨b, [some (.fz (bookD B)), some (.fz (.list (ps.map pathD))), s2, some (.fz (.int (k : Int))), none, s5]⟩) (P := Z) (items := (arrows B ps[k]).map pathD) (src := .fz (.list ((arrows B ps[k]).map pathD)))
    (fun d => .bool (((ps.take k).map pathD).any fun e => PyData.eqv e d)) (iAny_lst (by simp only [mCallF_ap, aCons_ap, aNil_ap, mSub_ap, mVar_ap, List.getElem?_cons_succ, List.getElem?_cons_zero, Option.join_some, Option.map_some, Option.bind_some, flat_fz, e3, e2])) (by rw [List.length_map]; exact Nat.le_trans hal (by decide)) fun d hd S => by
      obtain ⟨a, ha, rfl⟩ := List.mem_map.mp hd
      have ham := arrows_paths G hp ha
      have hsh := (pnm_paths G ham).1.shaped
      have hsl := okD_paths (ps := ps.take k) (fun p hp => by have := pnm_paths G (hps p (List.mem_of_mem_take hp)); exact ⟨this.1, by omega⟩) (by rw [List.length_take]; omega)
      refine ⟨⟨Z.length, [some (.fz (bookD B)), some (.fz (.list (ps.map pathD))), s2, some (.fz (.int (k : Int))), some (.fz (pathD a)), s5]⟩, rfl, ?_⟩
      simp only [mIn_ap, mSl_ap, oNone_ap, oSome_ap, mVar_ap, List.getElem?_cons_succ, List.getElem?_cons_zero, Option.join_some, Option.map_some, Option.bind_some, flat_fz, dSl_lst, e4, inOf_lst, hsh, hsl, and_self, if_true, Bool.false_bne]
  have e5 := all_in (ps.take k) (arrows B ps[k])
  generalize ((arrows B ps[k]).map pathD).map (fun d => PyData.bool (((ps.take k).map pathD).any fun e => PyData.eqv e d)) = K at e1 e5
  simp only [mCall_ap, aCons_ap, aNil_ap, e1, Option.bind_some, flats_cons, flats_nil, flat_fz, Option.map_some, e5]
theorem idxOf_take {ps : List Path} {a : Path} {k : Nat} (h : a ∈ ps) : a ∈ ps.take k ↔ ps.idxOf a < k := by
  induction ps generalizing k with
  | nil => simp at h
  | cons q r ih =>
    cases k with
    | zero => simp
    | succ k =>
      by_cases e : q = a
      · subst e; simp
      · have hm : a ∈ r := (List.mem_cons.mp h).resolve_left fun h => e h.symm
        have hb : (q == a) = false := by simpa using e
        have hne : ¬ a = q := fun h => e h.symm
        rw [List.take_succ_cons, List.mem_cons, ih hm, List.idxOf_cons, hb]
        simp only [hne, false_or, cond_false]
        omega
theorem take_fore {B : Book} (G : Good B) {ps : List Path} (hperm : ps.Perm (pathsL B)) : ((List.range ps.length).all fun k => (arrows B (ps.getD k [])).all fun a => decide (a ∈ ps.take k)) = foreB B ps := by
  have hnd : ps.Nodup := hperm.nodup_iff.mpr (pathsL_nodup G)
  rw [Bool.eq_iff_iff]
  simp only [foreB, List.all_eq_true, decide_eq_true_eq, List.mem_range]
  have one : ∀ (k : Nat) (hk : k < ps.length) (a : Path), a ∈ arrows B ps[k] → (a ∈ ps.take k ↔ ps.idxOf a < ps.idxOf ps[k]) := fun k hk a ha => by
    have hm : a ∈ ps := hperm.mem_iff.mpr (arrows_paths G (hperm.mem_iff.mp (List.getElem_mem hk)) ha)
    rw [idxOf_take hm, hnd.idxOf_getElem k hk]
  constructor
  · intro h p hp a ha
    obtain ⟨k, hk, rfl⟩ := List.mem_iff_getElem.mp hp
    have := h k hk a (by simpa [List.getD_eq_getElem?_getD, hk] using ha)
    exact (one k hk a ha).mp this
  · intro h k hk a ha
    have ha' : a ∈ arrows B ps[k] := by simpa [List.getD_eq_getElem?_getD, hk] using ha
    exact (one k hk a ha').mpr (h _ (List.getElem_mem hk) a ha')
end NS

set_option maxHeartbeats 400000
set_option linter.all false
set_option maxRecDepth 10000
namespace NS
open PySem Pd L2
theorem lc_within {B : Book} (G : Good B) {n : Nat} {ds : List PyData} (hds : ∀ e ∈ ds, okD n e = true) (hn : n < 40) (hn1 : 1 ≤ n) (hl : ds.length ≤ 1000) {s0 s3 s4 : Option SV} (P : Store) :
    (mCall gAll (aCons (mLC [5] (iAny (mVar 2)) (gNm 5) bYes (mCallF m__law_within (aCons (mVar 5) (aCons (mVar 1) aNil)))) aNil)) ⟨P.length, [s0, some (.fz (.list ds)), some (.fz (.list ((pathsL B).map pathD))), s3, s4, none]⟩ P = some (.fz (.bool ((pathsL B).all fun p => ds.any (sameB (pathD p)))), P) := by
  have e := mLC_map (own := [5]) (f := iAny (mVar 2)) (g := gNm 5) (te := mCallF m__law_within (aCons (mVar 5) (aCons (mVar 1) aNil))) (ρ := ⟨P.length, [s0, some (.fz (.list ds)), some (.fz (.list ((pathsL B).map pathD))), s3, s4, none]⟩) (P := P) (items := (pathsL B).map pathD) (src := .fz (.list ((pathsL B).map pathD))) (fun e => .bool (ds.any (sameB e))) (by simp) (by rw [List.length_map]; exact Nat.le_trans (paths_len G) (by decide)) fun d hd S => by
    obtain ⟨p, hp, rfl⟩ := List.mem_map.mp hd
    have hpn := pnm_paths G hp
    have e1 := t_within (n := n) (okD_mono (okD_path hpn.1 (by omega) 0) (by omega)) hds hn hl S
    refine ⟨⟨P.length, [s0, some (.fz (.list ds)), some (.fz (.list ((pathsL B).map pathD))), s3, s4, some (.fz (pathD p))]⟩, rfl, ?_⟩
    simp only [mCallF_ap, aCons_ap, aNil_ap, mVar_ap, List.getElem?_cons_succ, List.getElem?_cons_zero, Option.join_some, Option.map_some, Option.bind_some, e1]
  rw [List.map_map] at e
  have g := gAll_map (fun p => ds.any (sameB (pathD p))) (pathsL B)
  have ec : ((fun e => PyData.bool (ds.any (sameB e))) ∘ pathD) = fun p => PyData.bool (ds.any (sameB (pathD p))) := rfl
  rw [ec] at e
  generalize (pathsL B).map (fun p => PyData.bool (ds.any (sameB (pathD p)))) = K at e g
  simp only [mCall_ap, aCons_ap, aNil_ap, e, Option.bind_some, flats_cons, flats_nil, flat_fz, Option.map_some, g]
theorem lc_all_inTake {B : Book} (G : Good B) {ps : List Path} (hps : ∀ p ∈ ps, p ∈ pathsL B) (hl : ps.length ≤ 1000) {s2 : Option SV} (P : Store) :
    (mCall gAll (aCons (mLC [3] (iRange (aCons (mCall gLenA (aCons (mVar 1) aNil)) aNil)) (gNm 3) bYes (mCall gAll (aCons (mLC [4] (iAny (mCallF m__law_arrows (aCons (mVar 0) (aCons (mSub (mVar 1) (mVar 3)) aNil)))) (gNm 4) bYes (mIn false (mVar 4) (mSl (mVar 1) oNone (oSome (mVar 3))))) aNil))) aNil)) ⟨P.length, [some (.fz (bookD B)), some (.fz (.list (ps.map pathD))), s2, none, none, none]⟩ P = some (.fz (.bool ((List.range ps.length).all fun k => (arrows B (ps.getD k [])).all fun a => decide (a ∈ ps.take k))), P) := by
  have e := mLC_map (own := [3]) (f := iRange (aCons (mCall gLenA (aCons (mVar 1) aNil)) aNil)) (g := gNm 3) (te := mCall gAll (aCons (mLC [4] (iAny (mCallF m__law_arrows (aCons (mVar 0) (aCons (mSub (mVar 1) (mVar 3)) aNil)))) (gNm 4) bYes (mIn false (mVar 4) (mSl (mVar 1) oNone (oSome (mVar 3))))) aNil)) (ρ := ⟨P.length, [some (.fz (bookD B)), some (.fz (.list (ps.map pathD))), s2, none, none, none]⟩) (P := P) (items := rangeD 0 ps.length) (src := .fz .none) (inTake B ps) (iRange_nat (n := ps.length) (by simp) (by omega)) (by rw [rangeD_len]; exact Nat.le_trans hl (by decide)) fun d hd S => by
    simp only [rangeD, List.mem_map, List.mem_range] at hd
    obtain ⟨k, hk, rfl⟩ := hd
    have hz : ((0 : Int) + (k : Nat)) = (k : Int) := by omega
    rw [hz]
    have e1 := lc_inTake G hps hl hk (s2 := s2) (s5 := none) (b := P.length) S
    refine ⟨⟨P.length, [some (.fz (bookD B)), some (.fz (.list (ps.map pathD))), s2, some (.fz (.int (k : Int))), none, none]⟩, rfl, ?_⟩
    rw [e1]
    simp [inTake, List.getD_eq_getElem?_getD, hk]
  have ec : (rangeD 0 ps.length).map (inTake B ps) = (List.range ps.length).map fun k => .bool ((arrows B (ps.getD k [])).all fun a => decide (a ∈ ps.take k)) := by
    rw [rangeD, List.map_map]
    refine List.map_congr_left fun k _ => ?_
    have hz : ((0 : Int) + (k : Nat)) = (k : Int) := by omega
    simp only [Function.comp, hz, inTake, Int.toNat_natCast]
  rw [ec] at e
  have g := gAll_map (fun k => (arrows B (ps.getD k [])).all fun a => decide (a ∈ ps.take k)) (List.range ps.length)
  generalize (List.range ps.length).map (fun k => PyData.bool ((arrows B (ps.getD k [])).all fun a => decide (a ∈ ps.take k))) = K at e g
  rw [mCall_ap, aCons_ap, e]
  simp only [aNil_ap, Option.bind_some, flats_cons, flats_nil, flat_fz, Option.map_some, g]
theorem t_is_order {B : Book} (G : Good B) {m : Nat} {d : PyData} (hm : okD m d = true) (h30 : m ≤ 30) (P : Store) : m__law_is_order [.fz (bookD B), .fz d] P = some (.fz (.bool (orderB B d)), P) := by
  refine W.of (W_fun ?_)
  rw [b__law_is_order, show startE 6 [SV.fz (bookD B), .fz d] = [some (.fz (bookD B)), some (.fz d), none, none, none, none] from rfl]
  have e0 := t_paths G P
  have q0 : (sSet 2 (mCallF m__law_paths (aCons (mVar 0) aNil))) ⟨P.length, [some (.fz (bookD B)), some (.fz d), none, none, none, none]⟩ P = some (.nx, ⟨P.length, [some (.fz (bookD B)), some (.fz d), some (.fz (.list ((pathsL B).map pathD))), none, none, none]⟩, P) := by
    simp only [sSet_ap, mCallF_ap, aCons_ap, aNil_ap, mVar_ap, List.getElem?_cons_succ, List.getElem?_cons_zero, Option.join_some, Option.map_some, Option.bind_some, e0, put_ap, List.set_cons_succ, List.set_cons_zero]
  rw [seq_nx q0]
  cases d with
  | list ds =>
    obtain ⟨m', rfl, hl, hall⟩ := okD_list hm
    have it : inst .list (.list ds) = true := rfl
    have e1 := lc_within G (n := m' + 1) (fun e he => okD_mono (hall e he) (by omega)) (by omega) (by omega) hl (s0 := some (.fz (bookD B))) (s3 := none) (s4 := none) P
    generalize hb : ((pathsL B).all fun p => ds.any (sameB (pathD p))) = b at e1
    by_cases hlen : ds.length = (pathsL B).length
    · have hli : decide ((ds.length : Int) = (((pathsL B).map pathD).length : Int)) = true := by simp [hlen]
      have q1 : (mOrB (mNotB (mTB (mIs (inst .list) (mVar 1)))) (mOrB (mTB (mBin dNe (mCall gLenA (aCons (mVar 1) aNil)) (mCall gLenA (aCons (mVar 2) aNil)))) (mNotB (mTB (mCall gAll (aCons (mLC [5] (iAny (mVar 2)) (gNm 5) bYes (mCallF m__law_within (aCons (mVar 5) (aCons (mVar 1) aNil)))) aNil)))))) ⟨P.length, [some (.fz (bookD B)), some (.fz (.list ds)), some (.fz (.list ((pathsL B).map pathD))), none, none, none]⟩ P = some (!b, P) := by
        simp only [mOrB_ap, mNotB_ap, mTB_ap, mIs_ap, mVar_ap, List.getElem?_cons_succ, List.getElem?_cons_zero, Option.join_some, Option.map_some, Option.bind_some, flat_fz, it, Bool.not_true, Bool.false_eq_true, if_false, mBin_ap, mCall_ap gLenA, aCons_ap, aNil_ap, flats_cons, flats_nil, gLenA_lst, dNe_int, hli, e1]
      cases b with
      | true =>
        rw [seq_nx (if_ff q1)]
        rw [List.all_eq_true] at hb
        obtain ⟨ps, rfl, hperm⟩ := perm_data G hlen fun p hp => within_iff.mp (hb p hp)
        have hps : ∀ p ∈ ps, p ∈ pathsL B := fun p hp => hperm.mem_iff.mp hp
        have e2 := lc_all_inTake G hps (by simpa using hl) (s2 := some (.fz (.list ((pathsL B).map pathD)))) P
        rw [take_fore G hperm] at e2
        have ho : orderB B (.list (ps.map pathD)) = foreB B ps := by
          simp only [orderB, pathsO_map, sortP_iff.mpr hperm, decide_true, Bool.true_and]
        rw [sRet_ap, e2, ho]
        simp
      | false =>
        have hf : orderB B (.list ds) = false := by
          cases h : orderB B (.list ds) with
          | false => rfl
          | true =>
            simp only [orderB] at h
            split at h
            · rename_i ps hps
              simp only [Bool.and_eq_true, decide_eq_true_eq] at h
              have hp := sortP_iff.mp h.1
              have : ((pathsL B).all fun p => ds.any (sameB (pathD p))) = true := by
                rw [List.all_eq_true]
                intro p hp'
                rw [within_iff, pathsO_some hps]
                exact List.mem_map.mpr ⟨p, hp.mem_iff.mpr hp', rfl⟩
              rw [hb] at this; cases this
            · cases h
        rw [sSeq_ap, sIf_ap, q1, hf]
        simp
    · have hli : decide ((ds.length : Int) = (((pathsL B).map pathD).length : Int)) = false := by simp; omega
      have hf : orderB B (.list ds) = false := by
        cases h : orderB B (.list ds) with
        | false => rfl
        | true =>
          simp only [orderB] at h
          split at h
          · rename_i ps hps
            simp only [Bool.and_eq_true, decide_eq_true_eq] at h
            have hp := (sortP_iff.mp h.1).length_eq
            rw [pathsO_some hps, List.length_map] at hlen
            exact absurd hp hlen
          · cases h
      have q1 : (mOrB (mNotB (mTB (mIs (inst .list) (mVar 1)))) (mOrB (mTB (mBin dNe (mCall gLenA (aCons (mVar 1) aNil)) (mCall gLenA (aCons (mVar 2) aNil)))) (mNotB (mTB (mCall gAll (aCons (mLC [5] (iAny (mVar 2)) (gNm 5) bYes (mCallF m__law_within (aCons (mVar 5) (aCons (mVar 1) aNil)))) aNil)))))) ⟨P.length, [some (.fz (bookD B)), some (.fz (.list ds)), some (.fz (.list ((pathsL B).map pathD))), none, none, none]⟩ P = some (true, P) := by
        simp only [mOrB_ap, mNotB_ap, mTB_ap, mIs_ap, mVar_ap, List.getElem?_cons_succ, List.getElem?_cons_zero, Option.join_some, Option.map_some, Option.bind_some, flat_fz, it, Bool.not_true, Bool.false_eq_true, if_false, mBin_ap, mCall_ap gLenA, aCons_ap, aNil_ap, flats_cons, flats_nil, gLenA_lst, dNe_int, hli, Bool.not_false, if_true]
      rw [sSeq_ap, sIf_ap, q1, hf]
      simp
  | dict => exact (okD_dict hm).elim
  | _ => simp [inst, orderB]
end NS

set_option maxHeartbeats 400000
set_option linter.all false
set_option maxRecDepth 10000
namespace NS
open PySem Pd L2
/-! ### pairs as data -/
def unPair : PyData → Option (Path × Path)
  | .tuple [a, b] => (unPath a).bind fun p => (unPath b).map fun q => (p, q)
  | _ => none
theorem unPair_pair (q : Path × Path) : unPair (pairD q) = some q := by simp [unPair, pairD, unPath_path]
theorem unPair_some {d : PyData} {q : Path × Path} (h : unPair d = some q) : d = pairD q := by
  unfold unPair at h
  split at h
  · rename_i a b
    simp only [Option.bind_eq_some_iff, Option.map_eq_some_iff] at h
    obtain ⟨p, h1, r, h2, rfl⟩ := h
    rw [unPath_some h1, unPath_some h2]; rfl
  · cases h
def pairsO : List PyData → Option Pairs
  | [] => some []
  | d :: r => (unPair d).bind fun p => (pairsO r).map (p :: ·)
theorem pairsO_map : ∀ w : Pairs, pairsO (w.map pairD) = some w
  | [] => rfl
  | q :: r => by simp [pairsO, unPair_pair, pairsO_map r]
theorem pairsO_some : ∀ {ds : List PyData} {w : Pairs}, pairsO ds = some w → ds = w.map pairD
  | [], w, h => by simp only [pairsO, Option.some.injEq] at h; subst h; rfl
  | d :: r, w, h => by
    simp only [pairsO, Option.bind_eq_some_iff, Option.map_eq_some_iff] at h
    obtain ⟨p, h1, qs, h2, rfl⟩ := h
    rw [unPair_some h1, pairsO_some h2]; rfl
def okPB (B : Book) (q : Path × Path) : Bool := decide (q.1 ∈ pathsL B) && (decide (q.2 ∈ pathsL B) && decide (q.2 ∈ betterOf B q.1))
def isSR (B : Book) (d : PyData) : Bool := match unPair d with
  | some q => okPB B q
  | none => false
theorem isSR_pair (B : Book) (q : Path × Path) : isSR B (pairD q) = okPB B q := by simp [isSR, unPair_pair]
theorem isSR_ex {B : Book} {d : PyData} (h : isSR B d = true) : ∃ q, d = pairD q ∧ okPB B q = true := by
  unfold isSR at h
  split at h
  · rename_i q hq
    exact ⟨q, unPair_some hq, h⟩
  · cases h
theorem all_pairs {B : Book} : ∀ {ds : List PyData}, ds.all (isSR B) = true → ∃ w : Pairs, ds = w.map pairD ∧ w.all (okPB B) = true
  | [], _ => ⟨[], rfl, rfl⟩
  | d :: r, h => by
    simp only [List.all_cons, Bool.and_eq_true] at h
    obtain ⟨q, rfl, hq⟩ := isSR_ex h.1
    obtain ⟨w, rfl, hw⟩ := all_pairs h.2
    exact ⟨q :: w, rfl, by simp [hq, hw]⟩
def nxt (w : Pairs) (k : Nat) : Path × Path := w.getD (if k + 1 < w.length then k + 1 else 0) ([], [])
def cycB (w : Pairs) : Bool := (List.range w.length).all fun k => decide ((nxt w k).1 ∈ tailsL (w.getD k ([], [])).2)
def wheelB (B : Book) : PyData → Bool
  | .tuple ds => !ds.isEmpty && match pairsO ds with
    | some w => w.all (okPB B) && cycB w
    | none => false
  | _ => false
theorem okPB_iff {B : Book} {q : Path × Path} : okPB B q = true ↔ q.1 ∈ pathsL B ∧ q.2 ∈ pathsL B ∧ q.2 ∈ betterOf B q.1 := by simp [okPB]
theorem better_idx {ps : List Path} {p : Path} (h : p ∈ ps) : betterL ps p = ps.take (ps.idxOf p) := by
  induction ps with
  | nil => simp at h
  | cons q r ih =>
    by_cases e : q = p
    · subst e; simp [betterL, List.takeWhile_cons]
    · have hm : p ∈ r := (List.mem_cons.mp h).resolve_left fun h => e h.symm
      have hb : (q == p) = false := by simpa using e
      have hd : decide (q ≠ p) = true := decide_eq_true e
      have := ih hm
      rw [List.idxOf_cons, hb]
      simp only [cond_false, List.take_succ_cons]
      rw [← this, betterL, List.takeWhile_cons, hd, if_pos rfl]
      rfl
theorem better_rank {ps : List Path} {p q : Path} (hp : p ∈ ps) (hq : q ∈ ps) : (betterL ps q).length < (betterL ps p).length ↔ q ∈ betterL ps p := by
  have h1 : ps.idxOf p < ps.length := List.idxOf_lt_length_iff.mpr hp
  have h2 : ps.idxOf q < ps.length := List.idxOf_lt_length_iff.mpr hq
  rw [better_idx hp, better_idx hq, idxOf_take hq, List.length_take, List.length_take]
  omega
theorem sub_pair (P : Store) (a b : PyData) (j : Nat) : subOf P (.fz (.tuple [a, b])) (.int j) = ([a, b][j]?).map .fz := by
  rw [subOf_tup, atI_nat']
theorem lc_allp2 {B : Book} (G : Good B) {m : Nat} {ds : List PyData} (hm : ∀ d ∈ ds, okD m d = true) (h60 : m ≤ 60) (hl : ds.length ≤ 1000) {s2 : Option SV} (P : Store) :
    (mCall gAll (aCons (mLC [2] (iAny (mVar 1)) (gNm 2) bYes (mCallF m_is_path_of (aCons (mVar 0) (aCons (mVar 2) aNil)))) aNil)) ⟨P.length, [some (.fz (bookD B)), some (.fz (.tuple ds)), s2]⟩ P = some (.fz (.bool (ds.all (isPathD B))), P) := by
  have e := mLC_map (own := [2]) (f := iAny (mVar 1)) (g := gNm 2) (te := mCallF m_is_path_of (aCons (mVar 0) (aCons (mVar 2) aNil))) (ρ := ⟨P.length, [some (.fz (bookD B)), some (.fz (.tuple ds)), s2]⟩) (P := P) (items := ds) (src := .fz (.tuple ds)) (fun d => .bool (isPathD B d)) (by simp) (Nat.le_trans hl (by decide)) fun d hd S => by
    have e1 := t_is_path_of G (hm d hd) h60 S
    exact ⟨_, rfl, by simp [EV.wipe, e1]⟩
  have g := gAll_map (isPathD B) ds
  generalize ds.map (fun d => PyData.bool (isPathD B d)) = K at e g
  simp only [mCall_ap, aCons_ap, aNil_ap, e, Option.bind_some, flats_cons, flats_nil, flat_fz, Option.map_some, g]
theorem isSR_len {B : Book} {ds : List PyData} (h : isSR B (.tuple ds) = true) : ds.length = 2 ∧ ds.all (isPathD B) = true := by
  obtain ⟨q, e, hq⟩ := isSR_ex h
  obtain ⟨h1, h2, _⟩ := okPB_iff.mp hq
  cases e
  simp [isPath_path, h1, h2]
theorem t_is_sr {B : Book} (G : Good B) {m : Nat} {d : PyData} (hm : okD m d = true) (h60 : m ≤ 60) (P : Store) : m_is_spoke_and_rim [.fz (bookD B), .fz d] P = some (.fz (.bool (isSR B d)), P) := by
  refine W.of (W_fun ?_)
  rw [b_is_spoke_and_rim, show startE 3 [SV.fz (bookD B), .fz d] = [some (.fz (bookD B)), some (.fz d), none] from rfl]
  cases d with
  | tuple ds =>
    obtain ⟨m', rfl, hl, hall⟩ := okD_tuple hm
    have it : inst .tuple (.tuple ds) = true := rfl
    have e1 := lc_allp2 G hall (by omega) hl (s2 := none) P
    by_cases h2 : ds.length = 2
    · have h2i : decide ((ds.length : Int) = 2) = true := by simp; omega
      generalize hb : ds.all (isPathD B) = b at e1
      have q1 : (mOrB (mNotB (mTB (mIs (inst .tuple) (mVar 1)))) (mOrB (mTB (mBin dNe (mCall gLenA (aCons (mVar 1) aNil)) (mC (.int 2)))) (mNotB (mTB (mCall gAll (aCons (mLC [2] (iAny (mVar 1)) (gNm 2) bYes (mCallF m_is_path_of (aCons (mVar 0) (aCons (mVar 2) aNil)))) aNil)))))) ⟨P.length, [some (.fz (bookD B)), some (.fz (.tuple ds)), none]⟩ P = some (!b, P) := by
        simp only [mOrB_ap, mNotB_ap, mTB_ap, mIs_ap, mVar_ap, List.getElem?_cons_succ, List.getElem?_cons_zero, Option.join_some, Option.map_some, Option.bind_some, flat_fz, it, Bool.not_true, Bool.false_eq_true, if_false, mBin_ap, mCall_ap gLenA, aCons_ap, aNil_ap, flats_cons, flats_nil, gLenA_tup, mC_ap, dNe_int, h2i, e1]
      cases b with
      | false =>
        have hf : isSR B (.tuple ds) = false := by
          cases h : isSR B (.tuple ds) with
          | false => rfl
          | true => rw [(isSR_len h).2] at hb; cases hb
        rw [sSeq_ap, sIf_ap, q1, hf]
        simp
      | true =>
        rw [seq_nx (if_ff q1)]
        obtain ⟨ps, rfl, hps⟩ := all_paths hb
        rw [List.length_map] at h2
        obtain ⟨p, q, rfl⟩ := len2 h2
        have hp := hps p (by simp)
        have hq := hps q (by simp)
        obtain ⟨x, rs, a1, a2⟩ := paths_pnm G hp
        obtain ⟨y, qs, b1, b2⟩ := paths_pnm G hq
        have r1 := t_rank G a1 a2 P
        have r2 := t_rank G b1 b2 P
        have hbe := betterOf_row G a1 a2
        obtain ⟨x2, tp, ep, _⟩ := G.second a1 a2
        obtain ⟨y2, tq, eq, _⟩ := G.second b1 b2
        have c1 := sub_path0 (P := P) p
        have c2 := sub_path0 (P := P) q
        rw [ep] at c1
        rw [eq] at c2
        simp only [List.getElem?_cons_zero, Option.map_some] at c1 c2
        rw [← ep] at c1
        rw [← eq] at c2
        have c3 : subOf P (.fz (.tuple [pathD p, pathD q])) (.int 0) = some (.fz (pathD p)) := sub_pair P _ _ 0
        have c4 : subOf P (.fz (.tuple [pathD p, pathD q])) (.int 1) = some (.fz (pathD q)) := sub_pair P _ _ 1
        have hs : isSR B (.tuple [pathD p, pathD q]) = decide (q ∈ betterL rs p) := by
          have : isSR B (.tuple [pathD p, pathD q]) = okPB B (p, q) := isSR_pair B (p, q)
          rw [this, okPB, decide_eq_true hp, decide_eq_true hq, hbe]; rfl
        have hs' : isSR B (.tuple ([p, q].map pathD)) = decide (q ∈ betterL rs p) := hs
        rw [hs']
        simp only [List.map_cons, List.map_nil]
        by_cases hxy : x = y
        · subst hxy
          rw [a1] at b1; cases b1
          have hr : decide (((betterL rs q).length : Int) < ((betterL rs p).length : Int)) = decide (q ∈ betterL rs p) := by
            rw [decide_eq_decide, ← better_rank a2 b2]
            omega
          simp only [sRet_ap, mAndV_ap, mBin_ap, mSub_ap, mVar_ap, List.getElem?_cons_succ, List.getElem?_cons_zero, Option.join_some, Option.map_some, Option.bind_some, mC_ap, flat_fz, c3, c4, c1, c2, dEq_str2, decide_true, mCallF_ap, aCons_ap, aNil_ap, r1, r2, dLt_int, hr, W_some, exitZ_fz]
          simp
        · have hn : ¬ q ∈ betterL rs p := fun h => by
            obtain ⟨_, _, e, _⟩ := G.second a1 (better_sub h)
            rw [eq] at e
            exact hxy (List.cons.inj e).1.symm
          simp only [sRet_ap, mAndV_ap, mBin_ap, mSub_ap, mVar_ap, List.getElem?_cons_succ, List.getElem?_cons_zero, Option.join_some, Option.map_some, Option.bind_some, mC_ap, flat_fz, c3, c4, c1, c2, dEq_str2, decide_eq_false hxy, decide_eq_false hn, W_some, exitZ_fz]
          simp
    · have hf : isSR B (.tuple ds) = false := by
        cases h : isSR B (.tuple ds) with
        | false => rfl
        | true => exact absurd (isSR_len h).1 h2
      have h2i : ¬ (ds.length : Int) = 2 := by omega
      simp [it, h2i, hf]
  | dict => exact (okD_dict hm).elim
  | _ => simp [inst, isSR, unPair]
end NS

set_option maxHeartbeats 400000
set_option linter.all false
set_option maxRecDepth 10000
namespace NS
open PySem Pd L2
/-! ### the two judges of wheels -/
theorem lc_allsr {B : Book} (G : Good B) {m : Nat} {ds : List PyData} (hm : ∀ d ∈ ds, okD m d = true) (h60 : m ≤ 60) (hl : ds.length ≤ 1000) {s2 s3 s4 : Option SV} (P : Store) :
    (mCall gAll (aCons (mLC [4] (iAny (mVar 1)) (gNm 4) bYes (mCallF m_is_spoke_and_rim (aCons (mVar 0) (aCons (mVar 4) aNil)))) aNil)) ⟨P.length, [some (.fz (bookD B)), some (.fz (.tuple ds)), s2, s3, s4]⟩ P = some (.fz (.bool (ds.all (isSR B))), P) := by
  have e := mLC_map (own := [4]) (f := iAny (mVar 1)) (g := gNm 4) (te := mCallF m_is_spoke_and_rim (aCons (mVar 0) (aCons (mVar 4) aNil))) (ρ := ⟨P.length, [some (.fz (bookD B)), some (.fz (.tuple ds)), s2, s3, s4]⟩) (P := P) (items := ds) (src := .fz (.tuple ds)) (fun d => .bool (isSR B d)) (by simp) (Nat.le_trans hl (by decide)) fun d hd S => by
    have e1 := t_is_sr G (hm d hd) h60 S
    exact ⟨_, rfl, by simp [EV.wipe, e1]⟩
  have g := gAll_map (isSR B) ds
  generalize ds.map (fun d => PyData.bool (isSR B d)) = K at e g
  simp only [mCall_ap, aCons_ap, aNil_ap, e, Option.bind_some, flats_cons, flats_nil, flat_fz, Option.map_some, g]
theorem sub_pairs (P : Store) (w : Pairs) (k : Nat) : subOf P (.fz (.tuple (w.map pairD))) (.int (k : Int)) = (w[k]?).map fun q => .fz (pairD q) := by
  rw [subOf_tup, atI_nat', List.getElem?_map]
  cases w[k]? <;> rfl
theorem sub_pairD0 (P : Store) (q : Path × Path) : subOf P (.fz (pairD q)) (.int 0) = some (.fz (pathD q.1)) := sub_pair P _ _ 0
theorem sub_pairD1 (P : Store) (q : Path × Path) : subOf P (.fz (pairD q)) (.int 1) = some (.fz (pathD q.2)) := sub_pair P _ _ 1
theorem in_tails {B : Book} (G : Good B) {p r : Path} (hp : p ∈ pathsL B) (hr : r ∈ pathsL B) (P : Store) : inOf P (pathD p) (.fz (.list ((tailsL r).map pathD))) = some (decide (p ∈ tailsL r)) := by
  have h9 := (pnm_paths G hr).2
  refine in_listP (fun q hq => ?_) (by simp [tailsL]; omega) (pnm_paths G hp).1 P
  have := pnm_paths G (tails_paths G hr hq)
  exact ⟨this.1, by omega⟩
def nxI : XM := (mIfE (mTB (mBin dLt (mBin dAdd (mVar 2) (mC (.int 1))) (mCall gLenA (aCons (mVar 1) aNil)))) (mBin dAdd (mVar 2) (mC (.int 1))) (mC (.int 0)))
theorem nx_at {w : Pairs} {k : Nat} (hk : k < w.length) : (w[if k + 1 < w.length then k + 1 else 0]?) = some (nxt w k) := by
  unfold nxt
  have : (if k + 1 < w.length then k + 1 else 0) < w.length := by split <;> omega
  rw [List.getD_eq_getElem?_getD, List.getElem?_eq_getElem this]; rfl
theorem nxt_mem {w : Pairs} {k : Nat} (hk : k < w.length) : nxt w k ∈ w := List.mem_of_getElem? (nx_at hk)
theorem t_wheel_right {B : Book} (G : Good B) {m : Nat} {d : PyData} (hm : okD m d = true) (h60 : m ≤ 60) (P : Store) : m_wheel_right [.fz (bookD B), .fz d] P = some (.fz (.bool (wheelB B d)), P) := by
  refine W.of (W_fun ?_)
  rw [b_wheel_right, show startE 5 [SV.fz (bookD B), .fz d] = [some (.fz (bookD B)), some (.fz d), none, none, none] from rfl]
  cases d with
  | tuple ds =>
    obtain ⟨m', rfl, hl, hall⟩ := okD_tuple hm
    have it : inst .tuple (.tuple ds) = true := rfl
    have e1 := lc_allsr G hall (by omega) hl (s2 := none) (s3 := none) (s4 := none) P
    cases hds : ds with
    | nil => simp [it, wheelB, show inst .tuple (.tuple []) = true from rfl]
    | cons d0 dr =>
      rw [← hds]
      have hne : decide ((ds.length : Int) = 0) = false := by rw [hds]; simp; omega
      have hie : ds.isEmpty = false := by rw [hds]; rfl
      generalize hb : ds.all (isSR B) = b at e1
      have q1 : (mOrB (mNotB (mTB (mIs (inst .tuple) (mVar 1)))) (mOrB (mTB (mBin dEq (mCall gLenA (aCons (mVar 1) aNil)) (mC (.int 0)))) (mNotB (mTB (mCall gAll (aCons (mLC [4] (iAny (mVar 1)) (gNm 4) bYes (mCallF m_is_spoke_and_rim (aCons (mVar 0) (aCons (mVar 4) aNil)))) aNil)))))) ⟨P.length, [some (.fz (bookD B)), some (.fz (.tuple ds)), none, none, none]⟩ P = some (!b, P) := by
        simp only [mOrB_ap, mNotB_ap, mTB_ap, mIs_ap, mVar_ap, List.getElem?_cons_succ, List.getElem?_cons_zero, Option.join_some, Option.map_some, Option.bind_some, flat_fz, it, Bool.not_true, Bool.false_eq_true, if_false, mBin_ap, mCall_ap gLenA, aCons_ap, aNil_ap, flats_cons, flats_nil, gLenA_tup, mC_ap, dEq_int, hne, e1]
      cases b with
      | false =>
        have hf : wheelB B (.tuple ds) = false := by
          cases h : wheelB B (.tuple ds) with
          | false => rfl
          | true =>
            simp only [wheelB, Bool.and_eq_true] at h
            obtain ⟨_, h⟩ := h
            split at h
            · rename_i w hw
              simp only [Bool.and_eq_true, List.all_eq_true] at h
              have : ds.all (isSR B) = true := by
                rw [pairsO_some hw, List.all_eq_true]
                intro d hd
                obtain ⟨q, hq, rfl⟩ := List.mem_map.mp hd
                rw [isSR_pair]; exact h.1 q hq
              rw [hb] at this; cases this
            · cases h
        rw [sSeq_ap, sIf_ap, q1, hf]
        simp
      | true =>
        rw [seq_nx (if_ff q1)]
        clear q1 e1
        obtain ⟨w, hw, hok⟩ := all_pairs hb
        have hwl : ds.length = w.length := by rw [hw, List.length_map]
        have hwb : wheelB B (.tuple ds) = cycB w := by
          simp only [wheelB, hie, hw, pairsO_map, hok, Bool.not_false, Bool.true_and]
          rw [show (w.map pairD).isEmpty = false by rw [← hw]; exact hie]
          rfl
        rw [List.all_eq_true] at hok
        rw [hwb]
        have hg : gLenA [.tuple ds] = some (.int (w.length : Int)) := by rw [gLenA_tup, hwl]
        have hsub : ∀ (Z : Store) (k : Nat), subOf Z (.fz (.tuple ds)) (.int (k : Int)) = (w[k]?).map fun q => .fz (pairD q) := fun Z k => by rw [hw]; exact sub_pairs Z w k
        clear hds hb hall hm hne hie hw hwb
        rw [sSeq_ap, for_at (iRange_nat (n := w.length) (P1 := P) (by simp [hg]) (by omega))]
        simp only [W_bind]
        refine W_forR (fun i ρ Z => (∀ j < i, decide ((nxt w j).1 ∈ tailsL (w.getD j ([], [])).2) = true) ∧ Z = P ∧ ∃ s2 s3, ρ = ⟨P.length, [some (.fz (bookD B)), some (.fz (.tuple ds)), s2, s3, none]⟩) ⟨by simp, rfl, none, none, rfl⟩ ?_ ?_
        · rintro i d ρ Z hd ⟨hpre, rfl, s2, s3, rfl⟩
          obtain ⟨hi, rfl⟩ := rangeD_get hd
          have e2 := hsub Z (if i + 1 < w.length then i + 1 else 0)
          rw [nx_at hi, Option.map_some] at e2
          have e3 := hsub Z i
          rw [List.getElem?_eq_getElem hi, Option.map_some] at e3
          have hq1 := okPB_iff.mp (hok _ (nxt_mem hi))
          have hq2 := okPB_iff.mp (hok _ (List.getElem_mem hi))
          have e4 := sub_pairD0 Z (nxt w i)
          have e5 := sub_pairD1 Z w[i]
          have e6 := t_tails w[i].2 (by have := (pnm_paths G hq2.2.1).2; omega) Z
          rw [← tails_of_eq] at e6
          have e7 := in_tails G hq1.1 hq2.2.1 Z
          have hgd : w.getD i ([], []) = w[i] := by rw [List.getD_eq_getElem?_getD, List.getElem?_eq_getElem hi]; rfl
          have hx : (mIfE (mTB (mBin dLt (mBin dAdd (mVar 2) (mC (.int 1))) (mCall gLenA (aCons (mVar 1) aNil)))) (mBin dAdd (mVar 2) (mC (.int 1))) (mC (.int 0))) ⟨Z.length, [some (.fz (bookD B)), some (.fz (.tuple ds)), some (.fz (.int (i : Int))), s3, none]⟩ Z = some (.fz (.int ((if i + 1 < w.length then i + 1 else 0 : Nat) : Int)), Z) := by
            by_cases h : i + 1 < w.length
            · have hi2 : decide ((i : Int) + 1 < (w.length : Int)) = true := by simp; omega
              simp [hg, h, hi2]
            · have hi2 : ¬ ((i : Int) + 1 < (w.length : Int)) := by omega
              simp [hg, h, hi2]
          rw [gNm_ap, W_some]
          simp only [put_ap, List.set_cons_succ, List.set_cons_zero]
          generalize (if i + 1 < w.length then i + 1 else 0) = j at e2 hx
          have q3 : (sSet 3 (mSub (mVar 1) (mIfE (mTB (mBin dLt (mBin dAdd (mVar 2) (mC (.int 1))) (mCall gLenA (aCons (mVar 1) aNil)))) (mBin dAdd (mVar 2) (mC (.int 1))) (mC (.int 0))))) ⟨Z.length, [some (.fz (bookD B)), some (.fz (.tuple ds)), some (.fz (.int (i : Int))), s3, none]⟩ Z = some (.nx, ⟨Z.length, [some (.fz (bookD B)), some (.fz (.tuple ds)), some (.fz (.int (i : Int))), some (.fz (pairD (nxt w i))), none]⟩, Z) := by
            rw [sSet_ap, mSub_ap]
            simp only [mVar_ap, List.getElem?_cons_succ, List.getElem?_cons_zero, Option.join_some, Option.map_some, Option.bind_some, hx, flat_fz, e2, put_ap, List.set_cons_succ, List.set_cons_zero]
          rw [seq_nx q3]
          have q4 : (mTB (mIn true (mSub (mVar 3) (mC (.int 0))) (mCallF m_tails_of (aCons (mSub (mSub (mVar 1) (mVar 2)) (mC (.int 1))) aNil)))) ⟨Z.length, [some (.fz (bookD B)), some (.fz (.tuple ds)), some (.fz (.int (i : Int))), some (.fz (pairD (nxt w i))), none]⟩ Z = some (!decide ((nxt w i).1 ∈ tailsL w[i].2), Z) := by
            simp only [mTB_ap, mIn_ap, mSub_ap, mVar_ap, List.getElem?_cons_succ, List.getElem?_cons_zero, Option.join_some, Option.map_some, Option.bind_some, mC_ap, flat_fz, e4, mCallF_ap, aCons_ap, aNil_ap, e3, e5, e6, e7, Bool.true_bne]
          rw [sIf_ap, q4]
          cases hc : decide ((nxt w i).1 ∈ tailsL w[i].2) with
          | true =>
            simp
            intro j hj
            by_cases e : j = i
            · subst e; rw [List.getElem?_eq_getElem hi]; simpa using hc
            · simpa using hpre j (by omega)
          | false =>
            have hf : cycB w = false := by
              rw [cycB, List.all_eq_false]
              exact ⟨i, List.mem_range.mpr hi, by rw [hgd, hc]; simp⟩
            simp [hf]
        · rintro ρ Z ⟨hpre, rfl, s2, s3, rfl⟩
          rw [rangeD_len] at hpre
          have ht : cycB w = true := by
            rw [cycB, List.all_eq_true]
            intro k hk
            exact hpre k (List.mem_range.mp hk)
          simp [ht]
  | dict => exact (okD_dict hm).elim
  | _ => simp [inst, wheelB]
end NS

set_option maxHeartbeats 400000
set_option linter.all false
set_option maxRecDepth 10000
namespace NS
open PySem Pd L2
theorem sameL_strs2 : ∀ (p : List Str) (ds : List PyData), sameL ds (p.map .str) = decide (strsD ds = some p)
  | [], [] => by simp [sameL, strsD]
  | [], d :: r => by
    cases d with
    | str x => cases h : strsD r <;> simp [sameL, strsD, h]
    | _ => simp [sameL, strsD]
  | x :: p, [] => by simp [sameL, strsD]
  | x :: p, d :: r => by
    have ih := sameL_strs2 p r
    cases d with
    | str y =>
      simp only [List.map_cons, sameL, sameB, ih, strsD]
      by_cases e : y = x
      · subst e; simp
      · simp [e]
    | _ => simp [sameL, sameB, strsD]
theorem same_path2 {p : Path} {d : PyData} : sameB d (pathD p) = true ↔ d = pathD p := by
  cases d with
  | tuple ds =>
    simp only [pathD, sameB, sameL_strs2, decide_eq_true_eq, PyData.tuple.injEq]
    constructor
    · exact fun h => strsD_some h
    · rintro rfl; exact strsD_map p
  | _ => simp [pathD, sameB]
theorem any_same {B : Book} {d : PyData} : ((pathsL B).map pathD).any (sameB d) = isPathD B d := by
  rw [Bool.eq_iff_iff, List.any_eq_true]
  constructor
  · rintro ⟨e, he, h⟩
    obtain ⟨p, hp, rfl⟩ := List.mem_map.mp he
    rw [same_path2] at h
    rw [h, isPath_path]; simpa using hp
  · intro h
    obtain ⟨p, rfl, hp⟩ := isPath_ex h
    exact ⟨pathD p, List.mem_map.mpr ⟨p, hp, rfl⟩, same_path2.mpr rfl⟩
theorem lc_allw {B : Book} (G : Good B) {n : Nat} {ds : List PyData} (hds : ∀ e ∈ ds, okD n e = true) (hn : n < 40) (hn1 : 1 ≤ n) (hl : ds.length ≤ 1000) {s0 s1 s4 : Option SV} {b : Nat} (P : Store) :
    (mCall gAll (aCons (mLC [5] (iAny (mVar 3)) (gNm 5) bYes (mCallF m__law_within (aCons (mVar 5) (aCons (mVar 2) aNil)))) aNil)) ⟨b, [s0, s1, some (.fz (.list ((pathsL B).map pathD))), some (.fz (.tuple ds)), s4, none]⟩ P = some (.fz (.bool (ds.all (isPathD B))), P) := by
  have e := mLC_map (own := [5]) (f := iAny (mVar 3)) (g := gNm 5) (te := mCallF m__law_within (aCons (mVar 5) (aCons (mVar 2) aNil))) (ρ := ⟨b, [s0, s1, some (.fz (.list ((pathsL B).map pathD))), some (.fz (.tuple ds)), s4, none]⟩) (P := P) (items := ds) (src := .fz (.tuple ds)) (fun e => .bool (isPathD B e)) (by simp) (Nat.le_trans hl (by decide)) fun d hd S => by
    have e1 := t_within (n := n) (hds d hd) (ds := (pathsL B).map pathD) (fun e he => by
      obtain ⟨p, hp, rfl⟩ := List.mem_map.mp he
      have hpn := pnm_paths G hp
      exact okD_mono (okD_path hpn.1 (by omega) 0) (by omega)) hn (by rw [List.length_map]; have := paths_len G; omega) S
    rw [any_same] at e1
    refine ⟨⟨P.length, [s0, s1, some (.fz (.list ((pathsL B).map pathD))), some (.fz (.tuple ds)), s4, some (.fz d)]⟩, rfl, ?_⟩
    simp only [mCallF_ap, aCons_ap, aNil_ap, mVar_ap, List.getElem?_cons_succ, List.getElem?_cons_zero, Option.join_some, Option.map_some, Option.bind_some, e1]
  have g := gAll_map (isPathD B) ds
  generalize ds.map (fun d => PyData.bool (isPathD B d)) = K at e g
  simp only [mCall_ap, aCons_ap, aNil_ap, e, Option.bind_some, flats_cons, flats_nil, flat_fz, Option.map_some, g]
def bPair : SM := (sSeq (sIf (mOrB (mNotB (mTB (mIs (inst .tuple) (mVar 3)))) (mOrB (mTB (mBin dNe (mCall gLenA (aCons (mVar 3) aNil)) (mC (.int 2)))) (mNotB (mTB (mCall gAll (aCons (mLC [5] (iAny (mVar 3)) (gNm 5) bYes (mCallF m__law_within (aCons (mVar 5) (aCons (mVar 2) aNil)))) aNil)))))) (sRet (mC (.bool false))) sNx)
  (sIf (mTB (mIn true (mSub (mVar 3) (mC (.int 1))) (mCallF m__law_better (aCons (mVar 0) (aCons (mSub (mVar 3) (mC (.int 0))) aNil))))) (sRet (mC (.bool false))) sNx))
theorem bPair_run {B : Book} (G : Good B) {m : Nat} {d : PyData} (hm : okD m d = true) (h30 : m ≤ 30) {s1 s4 : Option SV} {b : Nat} (Z : Store) :
    bPair ⟨b, [some (.fz (bookD B)), s1, some (.fz (.list ((pathsL B).map pathD))), some (.fz d), s4, none]⟩ Z = some (if isSR B d = true then .nx else .rt (.fz (.bool false)), ⟨b, [some (.fz (bookD B)), s1, some (.fz (.list ((pathsL B).map pathD))), some (.fz d), s4, none]⟩, Z) := by
  rw [bPair]
  cases d with
  | tuple ds =>
    obtain ⟨m', rfl, hl, hall⟩ := okD_tuple hm
    have it : inst .tuple (.tuple ds) = true := rfl
    have e1 := lc_allw G (n := m' + 1) (fun e he => okD_mono (hall e he) (by omega)) (by omega) (by omega) hl (s0 := some (.fz (bookD B))) (s1 := s1) (s4 := s4) (b := b) Z
    by_cases h2 : ds.length = 2
    · have h2i : decide ((ds.length : Int) = 2) = true := by simp; omega
      generalize hb : ds.all (isPathD B) = b2 at e1
      have q1 : (mOrB (mNotB (mTB (mIs (inst .tuple) (mVar 3)))) (mOrB (mTB (mBin dNe (mCall gLenA (aCons (mVar 3) aNil)) (mC (.int 2)))) (mNotB (mTB (mCall gAll (aCons (mLC [5] (iAny (mVar 3)) (gNm 5) bYes (mCallF m__law_within (aCons (mVar 5) (aCons (mVar 2) aNil)))) aNil)))))) ⟨b, [some (.fz (bookD B)), s1, some (.fz (.list ((pathsL B).map pathD))), some (.fz (.tuple ds)), s4, none]⟩ Z = some (!b2, Z) := by
        simp only [mOrB_ap, mNotB_ap, mTB_ap, mIs_ap, mVar_ap, List.getElem?_cons_succ, List.getElem?_cons_zero, Option.join_some, Option.map_some, Option.bind_some, flat_fz, it, Bool.not_true, Bool.false_eq_true, if_false, mBin_ap, mCall_ap gLenA, aCons_ap, aNil_ap, flats_cons, flats_nil, gLenA_tup, mC_ap, dNe_int, h2i, e1]
      cases b2 with
      | false =>
        have hf : isSR B (.tuple ds) = false := by
          cases h : isSR B (.tuple ds) with
          | false => rfl
          | true => rw [(isSR_len h).2] at hb; cases hb
        rw [sSeq_ap, sIf_ap, q1, hf]
        simp
      | true =>
        rw [seq_nx (if_ff q1)]
        obtain ⟨ps, rfl, hps⟩ := all_paths hb
        rw [List.length_map] at h2
        obtain ⟨p, q, rfl⟩ := len2 h2
        have hp := hps p (by simp)
        have hq := hps q (by simp)
        obtain ⟨x, rs, a1, a2⟩ := paths_pnm G hp
        have hbe := betterOf_row G a1 a2
        have e2 := t_better G a1 a2 Z
        have c3 : subOf Z (.fz (.tuple [pathD p, pathD q])) (.int 0) = some (.fz (pathD p)) := sub_pair Z _ _ 0
        have c4 : subOf Z (.fz (.tuple [pathD p, pathD q])) (.int 1) = some (.fz (pathD q)) := sub_pair Z _ _ 1
        have hs : isSR B (.tuple ([p, q].map pathD)) = decide (q ∈ betterL rs p) := by
          have : isSR B (.tuple [pathD p, pathD q]) = okPB B (p, q) := isSR_pair B (p, q)
          show isSR B (.tuple [pathD p, pathD q]) = _
          rw [this, okPB, decide_eq_true hp, decide_eq_true hq, hbe]; rfl
        have hbl := better_len rs p
        have hrl := (row_ok G a1).2
        have c5 := in_listP (L := betterL rs p) (fun r hr => by have := pnm_paths G (better_paths G a1 hr); exact ⟨this.1, by omega⟩) (by omega) (pnm_paths G hq).1 Z
        have q2 : (mTB (mIn true (mSub (mVar 3) (mC (.int 1))) (mCallF m__law_better (aCons (mVar 0) (aCons (mSub (mVar 3) (mC (.int 0))) aNil))))) ⟨b, [some (.fz (bookD B)), s1, some (.fz (.list ((pathsL B).map pathD))), some (.fz (.tuple [pathD p, pathD q])), s4, none]⟩ Z = some (!decide (q ∈ betterL rs p), Z) := by
          simp only [mTB_ap, mIn_ap, mSub_ap, mVar_ap, List.getElem?_cons_succ, List.getElem?_cons_zero, Option.join_some, Option.map_some, Option.bind_some, mC_ap, flat_fz, c3, c4, mCallF_ap, aCons_ap, aNil_ap, e2, c5, Bool.true_bne]
        rw [hs]
        simp only [List.map_cons, List.map_nil]
        rw [sIf_ap, q2]
        cases decide (q ∈ betterL rs p) <;> simp
    · have hf : isSR B (.tuple ds) = false := by
        cases h : isSR B (.tuple ds) with
        | false => rfl
        | true => exact absurd (isSR_len h).1 h2
      have h2i : ¬ (ds.length : Int) = 2 := by omega
      simp [it, h2i, hf]
  | dict => exact (okD_dict hm).elim
  | _ => simp [inst, isSR, unPair]
def cycD (w : Pairs) : PyData → PyData
  | .int i => .bool (decide ((nxt w i.toNat).1 ∈ tailsL (w.getD i.toNat ([], [])).2))
  | _ => .none
theorem lc_cyc {B : Book} (G : Good B) {w : Pairs} (hok : ∀ q ∈ w, okPB B q = true) (hl : w.length ≤ 1000) {s2 s3 s5 : Option SV} (P : Store) :
    (mCall gAll (aCons (mLC [4] (iRange (aCons (mCall gLenA (aCons (mVar 1) aNil)) aNil)) (gNm 4) bYes (mIn false (mSub (mSub (mVar 1) (mIfE (mTB (mBin dLt (mBin dAdd (mVar 4) (mC (.int 1))) (mCall gLenA (aCons (mVar 1) aNil)))) (mBin dAdd (mVar 4) (mC (.int 1))) (mC (.int 0)))) (mC (.int 0))) (mCallF m__law_tails (aCons (mSub (mSub (mVar 1) (mVar 4)) (mC (.int 1))) aNil)))) aNil)) ⟨P.length, [some (.fz (bookD B)), some (.fz (.tuple (w.map pairD))), s2, s3, none, s5]⟩ P = some (.fz (.bool (cycB w)), P) := by
  have hg : gLenA [.tuple (w.map pairD)] = some (.int (w.length : Int)) := by rw [gLenA_tup, List.length_map]
  have e := mLC_map (own := [4]) (f := iRange (aCons (mCall gLenA (aCons (mVar 1) aNil)) aNil)) (g := gNm 4) (te := mIn false (mSub (mSub (mVar 1) (mIfE (mTB (mBin dLt (mBin dAdd (mVar 4) (mC (.int 1))) (mCall gLenA (aCons (mVar 1) aNil)))) (mBin dAdd (mVar 4) (mC (.int 1))) (mC (.int 0)))) (mC (.int 0))) (mCallF m__law_tails (aCons (mSub (mSub (mVar 1) (mVar 4)) (mC (.int 1))) aNil))) (ρ := ⟨P.length, [some (.fz (bookD B)), some (.fz (.tuple (w.map pairD))), s2, s3, none, s5]⟩) (P := P) (items := rangeD 0 w.length) (src := .fz .none) (cycD w) (iRange_nat (n := w.length) (by simp [hg]) (by omega)) (by rw [rangeD_len]; exact Nat.le_trans hl (by decide)) fun d hd S => by
    simp only [rangeD, List.mem_map, List.mem_range] at hd
    obtain ⟨i, hi, rfl⟩ := hd
    have hz : ((0 : Int) + (i : Nat)) = (i : Int) := by omega
    rw [hz]
    have e2 := sub_pairs S w (if i + 1 < w.length then i + 1 else 0)
    rw [nx_at hi, Option.map_some] at e2
    have e3 := sub_pairs S w i
    rw [List.getElem?_eq_getElem hi, Option.map_some] at e3
    have hq1 := okPB_iff.mp (hok _ (nxt_mem hi))
    have hq2 := okPB_iff.mp (hok _ (List.getElem_mem hi))
    have e4 := sub_pairD0 S (nxt w i)
    have e5 := sub_pairD1 S w[i]
    have e6 := t_tails w[i].2 (by have := (pnm_paths G hq2.2.1).2; omega) S
    have e7 := in_tails G hq1.1 hq2.2.1 S
    have hgd : w.getD i ([], []) = w[i] := by rw [List.getD_eq_getElem?_getD, List.getElem?_eq_getElem hi]; rfl
    refine ⟨⟨P.length, [some (.fz (bookD B)), some (.fz (.tuple (w.map pairD))), s2, s3, some (.fz (.int (i : Int))), s5]⟩, rfl, ?_⟩
    have hx : (mIfE (mTB (mBin dLt (mBin dAdd (mVar 4) (mC (.int 1))) (mCall gLenA (aCons (mVar 1) aNil)))) (mBin dAdd (mVar 4) (mC (.int 1))) (mC (.int 0))) ⟨P.length, [some (.fz (bookD B)), some (.fz (.tuple (w.map pairD))), s2, s3, some (.fz (.int (i : Int))), s5]⟩ S = some (.fz (.int ((if i + 1 < w.length then i + 1 else 0 : Nat) : Int)), S) := by
      by_cases h : i + 1 < w.length
      · have hi2 : decide ((i : Int) + 1 < (w.length : Int)) = true := by simp; omega
        simp [h, hi2]
      · have hi2 : ¬ ((i : Int) + 1 < (w.length : Int)) := by omega
        simp [h, hi2]
    generalize (if i + 1 < w.length then i + 1 else 0) = j at e2 hx
    have hc : cycD w (.int (i : Int)) = .bool (decide ((nxt w i).1 ∈ tailsL w[i].2)) := by
      simp only [cycD, Int.toNat_natCast, hgd]
    rw [hc]
    generalize PyData.tuple (w.map pairD) = D at *
    rw [mIn_ap, mSub_ap, mSub_ap]
    simp only [mVar_ap, List.getElem?_cons_succ, List.getElem?_cons_zero, Option.join_some, Option.map_some, Option.bind_some, hx, flat_fz, e2, mC_ap, e4, mCallF_ap, aCons_ap, aNil_ap, mSub_ap, e3, e5, e6, e7, Bool.false_bne]
  have ec : (rangeD 0 w.length).map (cycD w) = (List.range w.length).map fun k => .bool (decide ((nxt w k).1 ∈ tailsL (w.getD k ([], [])).2)) := by
    rw [rangeD, List.map_map]
    refine List.map_congr_left fun k _ => ?_
    have hz : ((0 : Int) + (k : Nat)) = (k : Int) := by omega
    simp only [Function.comp, hz, cycD, Int.toNat_natCast]
  rw [ec] at e
  have g := gAll_map (fun k => decide ((nxt w k).1 ∈ tailsL (w.getD k ([], [])).2)) (List.range w.length)
  have gc : (List.range w.length).all (fun k => decide ((nxt w k).1 ∈ tailsL (w.getD k ([], [])).2)) = cycB w := rfl
  rw [gc] at g
  generalize (List.range w.length).map (fun k => PyData.bool (decide ((nxt w k).1 ∈ tailsL (w.getD k ([], [])).2))) = K at e g
  rw [mCall_ap, aCons_ap, e]
  simp only [aNil_ap, Option.bind_some, flats_cons, flats_nil, flat_fz, Option.map_some, g]
theorem t_is_wheel {B : Book} (G : Good B) {m : Nat} {d : PyData} (hm : okD m d = true) (h30 : m ≤ 30) (P : Store) : m__law_is_wheel [.fz (bookD B), .fz d] P = some (.fz (.bool (wheelB B d)), P) := by
  refine W.of (W_fun ?_)
  rw [b__law_is_wheel, show startE 6 [SV.fz (bookD B), .fz d] = [some (.fz (bookD B)), some (.fz d), none, none, none, none] from rfl]
  cases d with
  | tuple ds =>
    obtain ⟨m', rfl, hl, hall⟩ := okD_tuple hm
    have it : inst .tuple (.tuple ds) = true := rfl
    cases hds : ds with
    | nil => simp [it, wheelB, show inst .tuple (.tuple []) = true from rfl]
    | cons d0 dr =>
      rw [← hds]
      have hne : decide ((ds.length : Int) = 0) = false := by rw [hds]; simp; omega
      have hie : ds.isEmpty = false := by rw [hds]; rfl
      clear hds
      have q1 : (mOrB (mNotB (mTB (mIs (inst .tuple) (mVar 1)))) (mTB (mBin dEq (mCall gLenA (aCons (mVar 1) aNil)) (mC (.int 0))))) ⟨P.length, [some (.fz (bookD B)), some (.fz (.tuple ds)), none, none, none, none]⟩ P = some (false, P) := by
        simp only [mOrB_ap, mNotB_ap, mTB_ap, mIs_ap, mVar_ap, List.getElem?_cons_succ, List.getElem?_cons_zero, Option.join_some, Option.map_some, Option.bind_some, flat_fz, it, Bool.not_true, Bool.false_eq_true, if_false, mBin_ap, mCall_ap gLenA, aCons_ap, aNil_ap, flats_cons, flats_nil, gLenA_tup, mC_ap, dEq_int, hne]
      have e0 := t_paths G P
      have q0 : (sSet 2 (mCallF m__law_paths (aCons (mVar 0) aNil))) ⟨P.length, [some (.fz (bookD B)), some (.fz (.tuple ds)), none, none, none, none]⟩ P = some (.nx, ⟨P.length, [some (.fz (bookD B)), some (.fz (.tuple ds)), some (.fz (.list ((pathsL B).map pathD))), none, none, none]⟩, P) := by
        simp only [sSet_ap, mCallF_ap, aCons_ap, aNil_ap, mVar_ap, List.getElem?_cons_succ, List.getElem?_cons_zero, Option.join_some, Option.map_some, Option.bind_some, e0, put_ap, List.set_cons_succ, List.set_cons_zero]
      have q2 : iAny (mVar 1) ⟨P.length, [some (.fz (bookD B)), some (.fz (.tuple ds)), some (.fz (.list ((pathsL B).map pathD))), none, none, none]⟩ P = some (ds, .fz (.tuple ds), P) := by simp
      rw [seq_nx (if_ff q1), seq_nx q0, sSeq_ap, for_at q2]
      simp only [W_bind]
      refine W_forR (fun i ρ Z => (∀ j < i, ∀ d, ds[j]? = some d → isSR B d = true) ∧ Z = P ∧ ∃ s3, ρ = ⟨P.length, [some (.fz (bookD B)), some (.fz (.tuple ds)), some (.fz (.list ((pathsL B).map pathD))), s3, none, none]⟩) ⟨by simp, rfl, none, rfl⟩ ?_ ?_
      · rintro i d ρ Z hd ⟨hpre, rfl, s3, rfl⟩
        have e1 := bPair_run G (hall d (List.mem_of_getElem? hd)) (by omega) (s1 := some (.fz (.tuple ds))) (s4 := none) (b := Z.length) Z
        rw [gNm_ap, W_some]
        simp only [put_ap, List.set_cons_succ, List.set_cons_zero]
        refine ⟨_, e1, ?_⟩
        cases hs : isSR B d with
        | true =>
          refine .inl ⟨rfl, fun j hj d' hd' => ?_, rfl, _, rfl⟩
          by_cases e : j = i
          · subst e; rw [hd] at hd'; cases hd'; exact hs
          · exact hpre j (by omega) d' hd'
        | false =>
          have hf : wheelB B (.tuple ds) = false := by
            cases h : wheelB B (.tuple ds) with
            | false => rfl
            | true =>
              simp only [wheelB, Bool.and_eq_true] at h
              obtain ⟨_, h⟩ := h
              split at h
              · rename_i w hw
                simp only [Bool.and_eq_true, List.all_eq_true] at h
                have hdm := List.mem_of_getElem? hd
                rw [pairsO_some hw] at hdm
                obtain ⟨q, hq, rfl⟩ := List.mem_map.mp hdm
                rw [isSR_pair, h.1 q hq] at hs; cases hs
              · cases h
          refine .inr (.inr (.inr ⟨_, rfl, ?_⟩))
          simp [hf]
      · rintro ρ Z ⟨hpre, rfl, s3, rfl⟩
        have hallsr : ds.all (isSR B) = true := by
          rw [List.all_eq_true]
          intro d hd
          obtain ⟨j, hj, rfl⟩ := List.mem_iff_getElem.mp hd
          exact hpre j hj _ (List.getElem?_eq_getElem hj)
        obtain ⟨w, hw, hok⟩ := all_pairs hallsr
        have hwb : wheelB B (.tuple ds) = cycB w := by
          simp only [wheelB, hie, hw, pairsO_map, hok, Bool.not_false, Bool.true_and]
          rw [show (w.map pairD).isEmpty = false by rw [← hw]; exact hie]
          rfl
        rw [List.all_eq_true] at hok
        have hwl : ds.length = w.length := by rw [hw, List.length_map]
        have e3 := lc_cyc G hok (by omega) (s2 := some (.fz (.list ((pathsL B).map pathD)))) (s3 := s3) (s5 := none) Z
        rw [← hw] at e3
        rw [hwb]
        simp only
        rw [sRet_ap, e3]
        simp
  | dict => exact (okD_dict hm).elim
  | _ => simp [inst, wheelB]
end NS

set_option maxHeartbeats 400000
set_option linter.all false
set_option maxRecDepth 10000
namespace NS
open PySem Pd L2
/-! ### rows that are asked -/
theorem okL_pathN {p : Path} (h : PNm p) (hl : p.length ≤ 9) (n : Nat) : okL 100 (n + 1) (pathD p) = true := okL_mono (by decide) (Nat.le_refl _) (okL_path h (by omega) n)
theorem okL_lst {L n : Nat} {ds : List PyData} (hl : ds.length ≤ L) (h : ∀ d ∈ ds, okL L n d = true) : okL L (n + 1) (.list ds) = true := by
  simp only [okL, Bool.and_eq_true, decide_eq_true_eq, List.all_eq_true]
  exact ⟨hl, h⟩
theorem okL_tup {L n : Nat} {ds : List PyData} (hl : ds.length ≤ L) (h : ∀ d ∈ ds, okL L n d = true) : okL L (n + 1) (.tuple ds) = true := by
  simp only [okL, Bool.and_eq_true, decide_eq_true_eq, List.all_eq_true]
  exact ⟨hl, h⟩
theorem okL_rows {B : Book} (G : Good B) {ps : List Path} (hps : ∀ p ∈ ps, p ∈ pathsL B) : ∀ d ∈ ps.map pathD, okL 100 1 d = true := by
  intro d hd
  obtain ⟨p, hp, rfl⟩ := List.mem_map.mp hd
  have := pnm_paths G (hps p hp)
  exact okL_pathN this.1 this.2 0
def rwX : XM := (mIfE (mOrB (mTB (mBin (dIs false) (mVar 3) (mC .none))) (mTB (mBin dEq (mCallF m__law_next (aCons (mVar 0) (aCons (mC (.int 4)) aNil))) (mC (.int 0))))) (mCallF m__law_mixed (aCons (mVar 0) (aCons (mVar 2) aNil))) (mVar 3))
theorem mixed_paths {B : Book} (G : Good B) {c : St} (hc : c.ok) (R : Store) : W (m__law_mixed [.ptr 0, .fz (.list ((pathsL B).map pathD))] (c.cell :: R)) fun r => ∃ (ps : List Path) (c' : St), c'.ok ∧ (∀ p ∈ ps, p ∈ pathsL B) ∧ ps.length ≤ 32 ∧ r = (.fz (.list (ps.map pathD)), c'.cell :: R) := by
  have hn := paths_len G
  obtain ⟨l, c', ok', hperm, e⟩ := t_mixed c hc ((pathsL B).map pathD) (by rw [List.length_map]; omega) R
  obtain ⟨ps, h1, rfl⟩ := perm_ex pathD unPath unPath_path hperm
  exact ⟨_, e, ps, c', ok', fun p hp => h1.mem_iff.mp hp, by rw [h1.length_eq]; exact hn, rfl⟩
theorem sp_rwX {B : Book} (G : Good B) {c : St} (hc : c.ok) {R : Store} {D : PyData} (hD : D = .none ∨ ∃ O : List Path, (∀ p ∈ O, p ∈ pathsL B) ∧ O.length ≤ 32 ∧ D = .list (O.map pathD)) {b : Nat} {l : List (Option SV)} :
    W (rwX ⟨b, some (.ptr 0) :: some (.fz (bookD B)) :: some (.fz (.list ((pathsL B).map pathD))) :: some (.fz D) :: l⟩ (c.cell :: R)) fun r => ∃ (ps : List Path) (c' : St), c'.ok ∧ (∀ p ∈ ps, p ∈ pathsL B) ∧ ps.length ≤ 32 ∧ r = (.fz (.list (ps.map pathD)), c'.cell :: R) := by
  rw [rwX]
  rcases hD with rfl | ⟨O, hO, hOl, rfl⟩
  · have q : (mOrB (mTB (mBin (dIs false) (mVar 3) (mC .none))) (mTB (mBin dEq (mCallF m__law_next (aCons (mVar 0) (aCons (mC (.int 4)) aNil))) (mC (.int 0))))) ⟨b, some (.ptr 0) :: some (.fz (bookD B)) :: some (.fz (.list ((pathsL B).map pathD))) :: some (.fz .none) :: l⟩ (c.cell :: R) = some (true, c.cell :: R) := by
      simp [Pd.isNon]
    rw [ife_t q]
    refine W_callF (l := [.ptr 0, .fz (.list ((pathsL B).map pathD))]) (P1 := c.cell :: R) rfl ?_
    exact mixed_paths G hc R
  · obtain ⟨v, c1, ok1, v0, v1, e⟩ := st_next c hc 4 (by decide)
    have e' := e R
    have hd : dIs false (.list (O.map pathD)) .none = some (.bool false) := rfl
    have q : (mOrB (mTB (mBin (dIs false) (mVar 3) (mC .none))) (mTB (mBin dEq (mCallF m__law_next (aCons (mVar 0) (aCons (mC (.int 4)) aNil))) (mC (.int 0))))) ⟨b, some (.ptr 0) :: some (.fz (bookD B)) :: some (.fz (.list ((pathsL B).map pathD))) :: some (.fz (.list (O.map pathD))) :: l⟩ (c.cell :: R) = some (decide (v = 0), c1.cell :: R) := by
      generalize PyData.list (O.map pathD) = D2 at *
      simp only [mOrB_ap, mTB_ap, mBin_ap, mVar_ap, List.getElem?_cons_succ, List.getElem?_cons_zero, Option.join_some, Option.map_some, Option.bind_some, mC_ap, flat_fz, hd, Bool.false_eq_true, if_false, mCallF_ap, aCons_ap, aNil_ap, e', dEq_int]
    by_cases hv : v = 0
    · rw [decide_eq_true hv] at q
      rw [ife_t q]
      refine W_callF (l := [.ptr 0, .fz (.list ((pathsL B).map pathD))]) (P1 := c1.cell :: R) rfl ?_
      exact mixed_paths G ok1 R
    · rw [decide_eq_false hv] at q
      rw [ife_f q]
      exact ⟨_, rfl, O, c1, ok1, hO, hOl, rfl⟩
/-- what is kept while the rows are bent -/
def RwQ (R : Store) (r : Fl × EV × Store) : Prop := ∃ (d : PyData) (c' : St), c'.ok ∧ okL 100 3 d = true ∧ r.1 = .rt (.fz d) ∧ r.2.2 = c'.cell :: R
theorem RwQ.of {R : Store} {d : PyData} {c : St} {ρ : EV} (hc : c.ok) (h : okL 100 3 d = true) : RwQ R (.rt (.fz d), ρ, c.cell :: R) := ⟨d, c, hc, h, rfl, rfl⟩
def cutX : XM := (mSl (mVar 3) oNone (oSome (mVar 5)))
def restX : XM := (mSl (mVar 3) (oSome (mBin dAdd (mVar 5) (mC (.int 1)))) oNone)
def rw5 : SM := (sSeq (sSet 7 (mBin dAdd cutX restX))
  (sRet (mBin dAdd (mBin dAdd (mSl (mVar 7) oNone (oSome (mVar 6))) (mLst (aCons (mSub (mVar 3) (mVar 5)) aNil))) (mSl (mVar 7) (oSome (mVar 6)) oNone))))
def rw6 : SM := (sSeq (sSet 8 (mLC [10] (iRange (aCons (mCall gLenA (aCons (mVar 3) aNil)) aNil)) (gNm 10) bYes (mIfE (mTB (mBin dEq (mVar 10) (mVar 5))) (mSub (mVar 3) (mVar 6)) (mIfE (mTB (mBin dEq (mVar 10) (mVar 6))) (mSub (mVar 3) (mVar 5)) (mSub (mVar 3) (mVar 10))))))
  (sRet (mVar 8)))
def rw7 : SM := (sRet (mBin dAdd (mBin dAdd cutX (mLst (aCons (mCallF m__law_pick (aCons (mVar 0) (aCons (mVar 2) aNil))) aNil))) restX))
def rw8 : SM := (sSeq (sSet 9 (mSub (mLst (aCons (mCall gListA (aCons (mSub (mVar 3) (mVar 5)) aNil)) (aCons (mUn dRev (mSub (mVar 3) (mVar 5))) (aCons (mC .none) (aCons (mC (.str "path")) (aCons (mTup (aCons (mSub (mSub (mVar 1) (mC (.int 1))) (mC (.int 0))) aNil)) (aCons (mC (.int 0)) (aCons (mBin dAdd (mTup (aCons (mC (.str "x")) aNil)) (mSub (mVar 3) (mVar 5))) (aCons (mSl (mSub (mVar 3) (mVar 5)) (oSome (mC (.int 1))) oNone) aNil))))))))) (mCallF m__law_next (aCons (mVar 0) (aCons (mC (.int 8)) aNil)))))
  (sRet (mSub (mLst (aCons (mBin dAdd cutX restX) (aCons (mBin dAdd (mBin dAdd cutX (mLst (aCons (mVar 9) aNil))) restX) (aCons (mCall gTuple (aCons (mVar 3) aNil)) aNil)))) (mCallF m__law_next (aCons (mVar 0) (aCons (mC (.int 3)) aNil))))))
def rwN : SM := (sSeq (sIf (mTB (mBin dLt (mVar 4) (mC (.int 3)))) rw5 sNx)
  (sSeq (sIf (mTB (mBin dEq (mVar 4) (mC (.int 3)))) rw6 sNx)
  (sSeq (sIf (mTB (mBin dEq (mVar 4) (mC (.int 4)))) rw7 sNx)
  rw8)))
theorem b_rows : b__law_rows = (sSeq (sSet 2 (mCallF m__law_paths (aCons (mVar 1) aNil)))
  (sSeq (sSet 3 (mCallF m__law_order (aCons (mVar 1) aNil)))
  (sSeq (sSet 3 rwX)
  (sSeq (sSet 4 (mCallF m__law_next (aCons (mVar 0) (aCons (mC (.int 7)) aNil))))
  (sSeq (sIf (mOrB (mTB (mBin dLt (mCall gLenA (aCons (mVar 3) aNil)) (mC (.int 2)))) (mTB (mBin dEq (mVar 4) (mC (.int 0))))) (sRet (mVar 3)) sNx)
  (sSeq (sAsg (mTup (aCons (mCallF m__law_next (aCons (mVar 0) (aCons (mCall gLenA (aCons (mVar 3) aNil)) aNil))) (aCons (mCallF m__law_next (aCons (mVar 0) (aCons (mCall gLenA (aCons (mVar 3) aNil)) aNil))) aNil))) (gTu 2 (gsCons (gNm 5) (gsCons (gNm 6) gsNil))))
  rwN)))))) := rfl
/-- the slots while the rows are bent -/
def rv (b : Nat) (B : Book) (ds : List PyData) (k : Int) (a t : Nat) (s7 s8 s9 : Option SV) : EV := ⟨b, [some (.ptr 0), some (.fz (bookD B)), some (.fz (.list ((pathsL B).map pathD))), some (.fz (.list ds)), some (.fz (.int k)), some (.fz (.int (a : Int))), some (.fz (.int (t : Int))), s7, s8, s9, none]⟩
section
variable {B : Book} {b : Nat} {ds : List PyData} {k : Int} {a t : Nat} {s7 s8 s9 : Option SV} {Z : Store}
theorem cutX_ap (ha : a < ds.length) : cutX (rv b B ds k a t s7 s8 s9) Z = some (.fz (.list (ds.take a)), Z) := by
  have e := cut_take ds a (by omega)
  simp [cutX, rv, e]
theorem restX_ap (ha : a < ds.length) : restX (rv b B ds k a t s7 s8 s9) Z = some (.fz (.list (ds.drop (a + 1))), Z) := by
  have e := cut_drop1 ds a ha
  simp [restX, rv, e]
theorem sub_ds (ha : a < ds.length) : subOf Z (.fz (.list ds)) (.int (a : Int)) = some (.fz ds[a]) := by simp [ha]
theorem rw5_run (ha : a < ds.length) (ht : t < ds.length) (hl : ds.length ≤ 32) : ∃ (es : List PyData) (ρ : EV), es.length ≤ 100 ∧ (∀ e ∈ es, e ∈ ds) ∧ rw5 (rv b B ds k a t s7 s8 s9) Z = some (.rt (.fz (.list es)), ρ, Z) := by
  have hT : (ds.take a ++ ds.drop (a + 1)).length = ds.length - 1 := by simp; omega
  have e1 := dAdd_lst (ds.take a) (ds.drop (a + 1)) (by rw [← List.length_append, hT]; exact Nat.le_trans (show _ ≤ 100 by omega) (by decide))
  generalize hM : ds.take a ++ ds.drop (a + 1) = M at e1 hT
  have hMm : ∀ e ∈ M, e ∈ ds := fun e he => by
    rw [← hM] at he
    rcases List.mem_append.mp he with h | h
    · exact List.mem_of_mem_take h
    · exact List.mem_of_mem_drop h
  have q1 : (sSet 7 (mBin dAdd cutX restX)) (rv b B ds k a t s7 s8 s9) Z = some (.nx, rv b B ds k a t (some (.fz (.list M))) s8 s9, Z) := by
    rw [sSet_ap, mBin_ap, cutX_ap ha]
    simp only [Option.bind_some, restX_ap ha, flat_fz, e1, Option.map_some]
    rfl
  have e2 := cut_take M t (by omega)
  have e3 := cut_drop M t (by omega)
  have e4 := dAdd_lst (M.take t) [ds[a]] (by simp only [List.length_take, List.length_singleton]; exact Nat.le_trans (show _ ≤ 100 by omega) (by decide))
  have e5 := dAdd_lst (M.take t ++ [ds[a]]) (M.drop t) (by simp only [List.length_append, List.length_take, List.length_drop, List.length_singleton]; exact Nat.le_trans (show _ ≤ 100 by omega) (by decide))
  have e6 := fun Z => sub_ds (Z := Z) ha
  have hs1 : (1 : Nat) ≤ sizeLine := by decide
  refine ⟨M.take t ++ [ds[a]] ++ M.drop t, rv b B ds k a t (some (.fz (.list M))) s8 s9, by simp; omega, ?_, ?_⟩
  · intro e he
    rcases List.mem_append.mp he with h | h
    · rcases List.mem_append.mp h with h | h
      · exact hMm e (List.mem_of_mem_take h)
      · simp only [List.mem_singleton] at h; subst h; exact List.getElem_mem ha
    · exact hMm e (List.mem_of_mem_drop h)
  · rw [rw5, seq_nx q1]
    generalize ds[a] = D at *
    generalize hT2 : M.take t = T2 at *
    generalize hD2 : M.drop t = D2 at *
    simp [-List.append_assoc, -subOf_lst, rv, e2, e3, e6, fzs, hs1, e4, e5]
def swap (ds : List PyData) (a t : Nat) : PyData → PyData
  | .int i => if i = (a : Int) then ds.getD t .none else if i = (t : Int) then ds.getD a .none else ds.getD i.toNat .none
  | _ => .none
theorem rw6_run (ha : a < ds.length) (ht : t < ds.length) (hl : ds.length ≤ 32) : ∃ (es : List PyData) (ρ : EV), es.length ≤ 100 ∧ (∀ e ∈ es, e ∈ ds) ∧ rw6 (rv b B ds k a t s7 s8 s9) Z = some (.rt (.fz (.list es)), ρ, Z) := by
  have hg : ∀ i, i < ds.length → ds.getD i .none ∈ ds := fun i hi => by
    rw [List.getD_eq_getElem?_getD, List.getElem?_eq_getElem hi]; exact List.getElem_mem hi
  have e1 := mLC_map (own := [10]) (f := iRange (aCons (mCall gLenA (aCons (mVar 3) aNil)) aNil)) (g := gNm 10) (te := mIfE (mTB (mBin dEq (mVar 10) (mVar 5))) (mSub (mVar 3) (mVar 6)) (mIfE (mTB (mBin dEq (mVar 10) (mVar 6))) (mSub (mVar 3) (mVar 5)) (mSub (mVar 3) (mVar 10)))) (ρ := rv b B ds k a t s7 s8 s9) (P := Z) (items := rangeD 0 ds.length) (src := .fz .none) (swap ds a t) (iRange_nat (n := ds.length) (by simp [rv]) (by omega)) (by rw [rangeD_len]; exact Nat.le_trans hl (by decide)) fun d hd S => by
    simp only [rangeD, List.mem_map, List.mem_range] at hd
    obtain ⟨i, hi, rfl⟩ := hd
    have hz : ((0 : Int) + (i : Nat)) = (i : Int) := by omega
    rw [hz]
    have h1 := sub_ds (Z := S) ha
    have h2 := sub_ds (Z := S) ht
    have h3 := sub_ds (Z := S) hi
    have g1 : ds.getD a .none = ds[a] := by rw [List.getD_eq_getElem?_getD, List.getElem?_eq_getElem ha]; rfl
    have g2 : ds.getD t .none = ds[t] := by rw [List.getD_eq_getElem?_getD, List.getElem?_eq_getElem ht]; rfl
    have g3 : ds.getD i .none = ds[i] := by rw [List.getD_eq_getElem?_getD, List.getElem?_eq_getElem hi]; rfl
    refine ⟨_, rfl, ?_⟩
    generalize ds[a] = x1 at *
    generalize ds[t] = x2 at *
    generalize ds[i] = x3 at *
    simp only [swap, Int.toNat_natCast, g1, g2, g3]
    by_cases c1 : (i : Int) = a
    · simp [-subOf_lst, rv, EV.wipe, c1, h2]
    · by_cases c2 : (i : Int) = t
      · have c3 : ¬ (t : Int) = a := fun h => c1 (c2.trans h)
        simp [-subOf_lst, rv, EV.wipe, c2, c3, h1]
      · simp [-subOf_lst, rv, EV.wipe, c1, c2, h3]
  refine ⟨(rangeD 0 ds.length).map (swap ds a t), rv b B ds k a t s7 (some (.fz (.list ((rangeD 0 ds.length).map (swap ds a t))))) s9, by rw [List.length_map, rangeD_len]; omega, ?_, ?_⟩
  rotate_left
  · rw [rw6, seq_nx (m := sSet 8 _) (by rw [sSet_ap, e1]; rfl)]
    rfl
  · intro e he
    obtain ⟨d, hd, rfl⟩ := List.mem_map.mp he
    simp only [rangeD, List.mem_map, List.mem_range] at hd
    obtain ⟨i, hi, rfl⟩ := hd
    have hz : ((0 : Int) + (i : Nat)) = (i : Int) := by omega
    rw [hz]
    simp only [swap, Int.toNat_natCast]
    split
    · exact hg t ht
    · split
      · exact hg a ha
      · exact hg i hi
end
end NS

set_option maxHeartbeats 400000
set_option linter.all false
set_option maxRecDepth 10000
namespace NS
open PySem Pd L2
theorem rw7_run {B : Book} (G : Good B) {c : St} (hc : c.ok) {R : Store} {b : Nat} {ds : List PyData} {k : Int} {a t : Nat} {s7 s8 s9 : Option SV} (hds : ∀ d ∈ ds, okL 100 1 d = true) (ha : a < ds.length) (hl : ds.length ≤ 32) (hne : (pathsL B) ≠ []) :
    W (rw7 (rv b B ds k a t s7 s8 s9) (c.cell :: R)) (RwQ R) := by
  obtain ⟨d, c', ok', hd, e⟩ := t_pickL c hc ((pathsL B).map pathD) (by simpa using hne)
  have e' := e R
  have hok := okL_rows G (ps := pathsL B) (fun p hp => hp) d hd
  have e1 := dAdd_lst (ds.take a) [d] (by simp only [List.length_take, List.length_singleton]; exact Nat.le_trans (show _ ≤ 100 by omega) (by decide))
  have e2 := dAdd_lst (ds.take a ++ [d]) (ds.drop (a + 1)) (by simp only [List.length_append, List.length_take, List.length_drop, List.length_singleton]; exact Nat.le_trans (show _ ≤ 100 by omega) (by decide))
  have hs1 : (1 : Nat) ≤ sizeLine := by decide
  have p1 : (mLst (aCons (mCallF m__law_pick (aCons (mVar 0) (aCons (mVar 2) aNil))) aNil)) (rv b B ds k a t s7 s8 s9) (c.cell :: R) = some (.fz (.list [d]), c'.cell :: R) := by
    rw [rv]
    generalize PyData.list ((pathsL B).map pathD) = L1 at *
    simp [e', fzs, hs1]
  rw [rw7, sRet_ap, mBin_ap, mBin_ap, cutX_ap ha]
  simp only [Option.bind_some, p1, flat_fz, e1, Option.map_some, restX_ap ha, e2, W_some]
  refine RwQ.of ok' (okL_lst (n := 2) (by simp; omega) fun d' hd' => ?_)
  rcases List.mem_append.mp hd' with h | h
  · rcases List.mem_append.mp h with h | h
    · exact okL_mono (Nat.le_refl _) (by decide) (hds d' (List.mem_of_mem_take h))
    · simp only [List.mem_singleton] at h; subst h; exact okL_mono (Nat.le_refl _) (by decide) hok
  · exact okL_mono (Nat.le_refl _) (by decide) (hds d' (List.mem_of_mem_drop h))
theorem rw8_run {B : Book} (G : Good B) {c : St} (hc : c.ok) {R : Store} {b : Nat} {ds : List PyData} {k : Int} {a t : Nat} {s7 s8 s9 : Option SV} (hds : ∀ d ∈ ds, okL 100 1 d = true) (ha : a < ds.length) (hl : ds.length ≤ 32) {p : Path} (hp : ds[a] = pathD p) (hpm : p ∈ pathsL B) :
    W (rw8 (rv b B ds k a t s7 s8 s9) (c.cell :: R)) (RwQ R) := by
  have hpn := pnm_paths G hpm
  obtain ⟨x0, xr, hx0⟩ : ∃ x0 xr, B.ends = x0 :: xr := by
    cases h : B.ends with
    | nil => exact absurd h G.endsNe
    | cons a r => exact ⟨a, r, rfl⟩
  have nX0 : Nm x0 := G.endsNm x0 (by rw [hx0]; simp)
  have b1 := sub_book1 (P := c.cell :: R) B
  have b3 : subOf (c.cell :: R) (.fz (.tuple (B.ends.map .str))) (.int 0) = some (.fz (.str x0)) := by rw [hx0, subOf_tup, show (0 : Int) = ((0 : Nat) : Int) from rfl, atI_nat']; rfl
  have e6 := fun Z => sub_ds (Z := Z) ha
  rw [hp] at e6
  have hs1 : (1 : Nat) ≤ sizeLine := by decide
  have hs8 : (8 : Nat) ≤ sizeLine := by decide
  have hs3 : (3 : Nat) ≤ sizeLine := by decide
  have g1 : gListA [pathD p] = some (.list (p.map .str)) := rfl
  have g2 : dRev (pathD p) = some (.tuple (p.map PyData.str).reverse) := rfl
  have g3 : dAdd (.tuple [.str "x"]) (pathD p) = some (.tuple (.str "x" :: p.map .str)) := dAdd_tup [.str "x"] (p.map .str) (by simp only [List.length_map, List.length_singleton]; exact Nat.le_trans (show _ ≤ 100 by omega) (by decide))
  obtain ⟨x, y, tl, hpe⟩ := paths_two G hpm
  have g4 : dSl (pathD p) (some 1) none = some (pathD (p.drop 1)) := dSl_path1 p (by rw [hpe]; simp)
  have stz : ∀ n, ∀ d ∈ p.map PyData.str, okL 100 n d = true := fun n d hd => by
    obtain ⟨z, hz, rfl⟩ := List.mem_map.mp hd
    exact okL_str (hpn.1 z hz)
  obtain ⟨v, c1, ok1, v0, v1, en⟩ := st_next c hc 8 (by decide)
  have en' := en R
  obtain ⟨odd, hodd, hat⟩ := atI_mem (xs := [PyData.list (p.map .str), .tuple (p.map PyData.str).reverse, .none, .str "path", .tuple [.str x0], .int 0, .tuple (.str "x" :: p.map .str), pathD (p.drop 1)]) v0 (by simpa using v1)
  have hook : okL 100 2 odd = true := by
    simp only [List.mem_cons, List.not_mem_nil, or_false] at hodd
    rcases hodd with rfl | rfl | rfl | rfl | rfl | rfl | rfl | rfl
    · exact okL_lst (by rw [List.length_map]; omega) (stz 1)
    · exact okL_tup (by rw [List.length_reverse, List.length_map]; omega) fun d hd => stz 1 d (List.mem_reverse.mp hd)
    · rfl
    · decide +kernel
    · refine okL_tup (by simp) fun d hd => ?_
      simp only [List.mem_singleton] at hd; subst hd; exact okL_str nX0
    · rfl
    · refine okL_tup (by simp only [List.length_cons, List.length_map]; omega) fun d hd => ?_
      rcases List.mem_cons.mp hd with rfl | hd
      · decide +kernel
      · exact stz 1 d hd
    · exact okL_pathN (hpn.1.drop 1) (by rw [List.length_drop]; omega) 1
  have q9 : (sSet 9 (mSub (mLst (aCons (mCall gListA (aCons (mSub (mVar 3) (mVar 5)) aNil)) (aCons (mUn dRev (mSub (mVar 3) (mVar 5))) (aCons (mC .none) (aCons (mC (.str "path")) (aCons (mTup (aCons (mSub (mSub (mVar 1) (mC (.int 1))) (mC (.int 0))) aNil)) (aCons (mC (.int 0)) (aCons (mBin dAdd (mTup (aCons (mC (.str "x")) aNil)) (mSub (mVar 3) (mVar 5))) (aCons (mSl (mSub (mVar 3) (mVar 5)) (oSome (mC (.int 1))) oNone) aNil))))))))) (mCallF m__law_next (aCons (mVar 0) (aCons (mC (.int 8)) aNil))))) (rv b B ds k a t s7 s8 s9) (c.cell :: R) = some (.nx, rv b B ds k a t s7 s8 (some (.fz odd)), c1.cell :: R) := by
    have eL : (mLst (aCons (mCall gListA (aCons (mSub (mVar 3) (mVar 5)) aNil)) (aCons (mUn dRev (mSub (mVar 3) (mVar 5))) (aCons (mC .none) (aCons (mC (.str "path")) (aCons (mTup (aCons (mSub (mSub (mVar 1) (mC (.int 1))) (mC (.int 0))) aNil)) (aCons (mC (.int 0)) (aCons (mBin dAdd (mTup (aCons (mC (.str "x")) aNil)) (mSub (mVar 3) (mVar 5))) (aCons (mSl (mSub (mVar 3) (mVar 5)) (oSome (mC (.int 1))) oNone) aNil))))))))) (rv b B ds k a t s7 s8 s9) (c.cell :: R) = some (.fz (.list [PyData.list (p.map .str), .tuple (p.map PyData.str).reverse, .none, .str "path", .tuple [.str x0], .int 0, .tuple (.str "x" :: p.map .str), pathD (p.drop 1)]), c.cell :: R) := by
      rw [rv]
      generalize PyData.list ds = D at *
      generalize PyData.tuple (B.ends.map .str) = E at *
      simp only [mLst_ap, aCons_ap, aNil_ap, mCall_ap, mSub_ap, mVar_ap, List.getElem?_cons_succ, List.getElem?_cons_zero, Option.join_some, Option.map_some, Option.bind_some, flat_fz, e6, flats_cons, flats_nil, g1, mUn_ap, g2, mC_ap, mTup_ap, b1, b3, fzs_cons, fzs_nil, List.length_cons, List.length_nil, Nat.zero_add, Nat.reduceAdd, hs1, if_true, mBin_ap, g3, mSl_ap, oSome_ap, oNone_ap, g4, hs8]
    rw [sSet_ap, mSub_ap, eL]
    have e8 : (mCallF m__law_next (aCons (mVar 0) (aCons (mC (.int 8)) aNil))) (rv b B ds k a t s7 s8 s9) (c.cell :: R) = some (.fz (.int v), c1.cell :: R) := by
      simp [rv, en']
    simp only [Option.bind_some, e8, flat_fz, subOf_lst, hat, Option.map_some]
    rfl
  have h1 : (ds.take a).length + (ds.drop (a + 1)).length ≤ 32 := by simp only [List.length_take, List.length_drop]; omega
  have e1 := dAdd_lst (ds.take a) (ds.drop (a + 1)) (Nat.le_trans (show _ ≤ 100 by omega) (by decide))
  have e2 := dAdd_lst (ds.take a) [odd] (by simp only [List.length_singleton]; exact Nat.le_trans (show _ ≤ 100 by omega) (by decide))
  have e3 := dAdd_lst (ds.take a ++ [odd]) (ds.drop (a + 1)) (by simp only [List.length_append, List.length_singleton]; exact Nat.le_trans (show _ ≤ 100 by omega) (by decide))
  obtain ⟨u, c2, ok2, u0, u1, em⟩ := st_next c1 ok1 3 (by decide)
  have em' := em R
  obtain ⟨out, hout, hat2⟩ := atI_mem (xs := [PyData.list (ds.take a ++ ds.drop (a + 1)), .list (ds.take a ++ [odd] ++ ds.drop (a + 1)), .tuple ds]) u0 (by simpa using u1)
  have up : ∀ d ∈ ds, okL 100 2 d = true := fun d hd => okL_mono (Nat.le_refl _) (by decide) (hds d hd)
  have hok : okL 100 3 out = true := by
    simp only [List.mem_cons, List.not_mem_nil, or_false] at hout
    rcases hout with rfl | rfl | rfl
    · refine okL_lst (by rw [List.length_append]; omega) fun d hd => ?_
      rcases List.mem_append.mp hd with h | h
      · exact up d (List.mem_of_mem_take h)
      · exact up d (List.mem_of_mem_drop h)
    · refine okL_lst (by rw [List.length_append, List.length_append, List.length_singleton]; omega) fun d hd => ?_
      rcases List.mem_append.mp hd with h | h
      · rcases List.mem_append.mp h with h | h
        · exact up d (List.mem_of_mem_take h)
        · simp only [List.mem_singleton] at h; subst h; exact hook
      · exact up d (List.mem_of_mem_drop h)
    · exact okL_tup (by omega) up
  have eM : (mLst (aCons (mBin dAdd cutX restX) (aCons (mBin dAdd (mBin dAdd cutX (mLst (aCons (mVar 9) aNil))) restX) (aCons (mCall gTuple (aCons (mVar 3) aNil)) aNil)))) (rv b B ds k a t s7 s8 (some (.fz odd))) (c1.cell :: R) = some (.fz (.list [PyData.list (ds.take a ++ ds.drop (a + 1)), .list (ds.take a ++ [odd] ++ ds.drop (a + 1)), .tuple ds]), c1.cell :: R) := by
    have v9 : ∀ Z, mVar 9 (rv b B ds k a t s7 s8 (some (.fz odd))) Z = some (.fz odd, Z) := fun Z => rfl
    have v3 : ∀ Z, mVar 3 (rv b B ds k a t s7 s8 (some (.fz odd))) Z = some (.fz (.list ds), Z) := fun Z => rfl
    simp only [mLst_ap, aCons_ap, aNil_ap, mBin_ap, cutX_ap ha, restX_ap ha, Option.bind_some, flat_fz, e1, Option.map_some, v9, fzs_cons, fzs_nil, List.length_cons, List.length_nil, Nat.zero_add, Nat.reduceAdd, hs1, if_true, e2, e3, mCall_ap, v3, flats_cons, flats_nil, gTuple_lst, hs3]
  have e8 : (mCallF m__law_next (aCons (mVar 0) (aCons (mC (.int 3)) aNil))) (rv b B ds k a t s7 s8 (some (.fz odd))) (c1.cell :: R) = some (.fz (.int u), c2.cell :: R) := by
    simp [rv, em']
  rw [rw8, seq_nx q9, sRet_ap, mSub_ap, eM]
  simp only [Option.bind_some, e8, flat_fz, subOf_lst, hat2, Option.map_some, W_some]
  exact RwQ.of ok2 hok
theorem W_if {C : BM} {A N : SM} {ρ : EV} {P : Store} {Q : Fl × EV × Store → Prop} (b : Bool) (hC : C ρ P = some (b, P)) (hA : b = true → W (A ρ P) fun r => (∃ s, r.1 = .rt s) ∧ Q r) (hN : b = false → W (N ρ P) Q) : W (sSeq (sIf C A sNx) N ρ P) Q := by
  rw [sSeq_ap, sIf_ap, hC]
  cases b with
  | true =>
    obtain ⟨⟨fl, ρ2, P2⟩, e, ⟨s, hs⟩, hq⟩ := hA rfl
    simp only at hs
    subst hs
    simp only [Option.bind_some, if_true, e]
    exact ⟨_, rfl, hq⟩
  | false => exact hN rfl
theorem sp_rwN {B : Book} (G : Good B) {c : St} (hc : c.ok) {R : Store} {b : Nat} {ps : List Path} {k : Int} {a t : Nat} (hps : ∀ p ∈ ps, p ∈ pathsL B) (ha : a < ps.length) (ht : t < ps.length) (hl : ps.length ≤ 32) :
    W (rwN (rv b B (ps.map pathD) k a t none none none) (c.cell :: R)) (RwQ R) := by
  have hds := okL_rows G hps
  have ha' : a < (ps.map pathD).length := by simpa using ha
  have ht' : t < (ps.map pathD).length := by simpa using ht
  have hl' : (ps.map pathD).length ≤ 32 := by simpa using hl
  have hpa : (ps.map pathD)[a] = pathD ps[a] := by simp
  have hne : pathsL B ≠ [] := fun e => by have := hps ps[a] (List.getElem_mem ha); rw [e] at this; simp at this
  have lst : ∀ es : List PyData, es.length ≤ 100 → (∀ e ∈ es, e ∈ ps.map pathD) → okL 100 3 (.list es) = true := fun es h1 h2 => okL_lst h1 fun e he => okL_mono (Nat.le_refl _) (by decide) (hds e (h2 e he))
  rw [rwN]
  refine if_seq (decide (k < 3)) (by simp [rv]) (fun _ => ?_) (if_seq (decide (k = 3)) (by simp [rv]) (fun _ => ?_) (W_if (decide (k = 4)) (by simp [rv]) (fun _ => ?_) fun _ => ?_))
  · obtain ⟨es, ρ, h1, h2, e⟩ := rw5_run (b := b) (B := B) (k := k) (s7 := none) (s8 := none) (s9 := none) (Z := c.cell :: R) ha' ht' hl'
    rw [e, W_some]
    exact ⟨⟨_, rfl⟩, RwQ.of hc (lst es h1 h2)⟩
  · obtain ⟨es, ρ, h1, h2, e⟩ := rw6_run (b := b) (B := B) (k := k) (s7 := none) (s8 := none) (s9 := none) (Z := c.cell :: R) ha' ht' hl'
    rw [e, W_some]
    exact ⟨⟨_, rfl⟩, RwQ.of hc (lst es h1 h2)⟩
  · refine (rw7_run G hc hds ha' hl' hne).mono ?_
    rintro r ⟨d, c', h1, h2, h3, h4⟩
    exact ⟨⟨_, h3⟩, d, c', h1, h2, h3, h4⟩
  · exact rw8_run G hc hds ha' hl' hpa (hps _ (List.getElem_mem ha))
theorem sp_rows {B : Book} (G : Good B) {c : St} (hc : c.ok) (R : Store) : W (m__law_rows [.ptr 0, .fz (bookD B)] (c.cell :: R)) fun r => ∃ (d : PyData) (c' : St), c'.ok ∧ okL 100 3 d = true ∧ r = (.fz d, c'.cell :: R) := by
  refine W_fun ?_
  rw [b_rows, show startE 11 [SV.ptr 0, .fz (bookD B)] = [some (.ptr 0), some (.fz (bookD B)), none, none, none, none, none, none, none, none, none] from rfl]
  have hb : (c.cell :: R).length = R.length + 1 := by simp
  rw [hb]
  have e0 := t_paths G (c.cell :: R)
  rw [seq_nx (m := sSet 2 _) (ρ1 := ⟨R.length + 1, [some (.ptr 0), some (.fz (bookD B)), some (.fz (.list ((pathsL B).map pathD))), none, none, none, none, none, none, none, none]⟩) (P1 := c.cell :: R) (by simp only [sSet_ap, mCallF_ap, aCons_ap, aNil_ap, mVar_ap, List.getElem?_cons_succ, List.getElem?_cons_zero, Option.join_some, Option.map_some, Option.bind_some, e0, put_ap, List.set_cons_succ, List.set_cons_zero])]
  obtain ⟨r, er, hr⟩ := sp_order G (c.cell :: R)
  obtain ⟨D, hD, rfl⟩ : ∃ D, (D = .none ∨ ∃ O : List Path, (∀ p ∈ O, p ∈ pathsL B) ∧ O.length ≤ 32 ∧ D = .list (O.map pathD)) ∧ r = (.fz D, c.cell :: R) := by
    rcases hr with rfl | ⟨O, ho, _, rfl⟩
    · exact ⟨_, .inl rfl, rfl⟩
    · exact ⟨_, .inr ⟨O, ho.sub.2, by have := ho.len; have := paths_len G; omega, rfl⟩, rfl⟩
  rw [seq_nx (m := sSet 3 (mCallF m__law_order (aCons (mVar 1) aNil))) (ρ1 := ⟨R.length + 1, [some (.ptr 0), some (.fz (bookD B)), some (.fz (.list ((pathsL B).map pathD))), some (.fz D), none, none, none, none, none, none, none]⟩) (P1 := c.cell :: R) (by simp only [sSet_ap, mCallF_ap, aCons_ap, aNil_ap, mVar_ap, List.getElem?_cons_succ, List.getElem?_cons_zero, Option.join_some, Option.map_some, Option.bind_some, er, put_ap, List.set_cons_succ, List.set_cons_zero])]
  refine W_seq (W_set ((sp_rwX G hc hD).mono ?_))
  rintro _ ⟨ps, c1, ok1, hps, hpl, rfl⟩
  refine ⟨rfl, ?_⟩
  simp only [put_ap, List.set_cons_succ, List.set_cons_zero]
  obtain ⟨k, c2, ok2, k0, k1, e2⟩ := st_next c1 ok1 7 (by decide)
  have e2' := e2 R
  rw [seq_nx (m := sSet 4 _) (ρ1 := ⟨R.length + 1, [some (.ptr 0), some (.fz (bookD B)), some (.fz (.list ((pathsL B).map pathD))), some (.fz (.list (ps.map pathD))), some (.fz (.int k)), none, none, none, none, none, none]⟩) (P1 := c2.cell :: R) (by simp only [sSet_ap, mCallF_ap, aCons_ap, aNil_ap, mVar_ap, List.getElem?_cons_succ, List.getElem?_cons_zero, Option.join_some, Option.map_some, Option.bind_some, mC_ap, e2', put_ap, List.set_cons_succ, List.set_cons_zero])]
  have hds := okL_rows G hps
  have fin : W (sSeq (sIf (mOrB (mTB (mBin dLt (mCall gLenA (aCons (mVar 3) aNil)) (mC (.int 2)))) (mTB (mBin dEq (mVar 4) (mC (.int 0))))) (sRet (mVar 3)) sNx)
      (sSeq (sAsg (mTup (aCons (mCallF m__law_next (aCons (mVar 0) (aCons (mCall gLenA (aCons (mVar 3) aNil)) aNil))) (aCons (mCallF m__law_next (aCons (mVar 0) (aCons (mCall gLenA (aCons (mVar 3) aNil)) aNil))) aNil))) (gTu 2 (gsCons (gNm 5) (gsCons (gNm 6) gsNil)))) rwN)
      ⟨R.length + 1, [some (.ptr 0), some (.fz (bookD B)), some (.fz (.list ((pathsL B).map pathD))), some (.fz (.list (ps.map pathD))), some (.fz (.int k)), none, none, none, none, none, none]⟩ (c2.cell :: R)) (RwQ R) := by
    have hg : gLenA [.list (ps.map pathD)] = some (.int (ps.length : Int)) := by rw [gLenA_lst, List.length_map]
    have hok3 : okL 100 3 (.list (ps.map pathD)) = true := okL_lst (by rw [List.length_map]; omega) fun e he => okL_mono (Nat.le_refl _) (by decide) (hds e he)
    refine W_if (decide ((ps.length : Int) < 2) || decide (k = 0)) ?_ (fun _ => ?_) fun hcond => ?_
    · generalize PyData.list (ps.map pathD) = D2 at *
      by_cases h : (ps.length : Int) < 2 <;> simp [hg, h]
    · rw [show (sRet (mVar 3)) ⟨R.length + 1, [some (.ptr 0), some (.fz (bookD B)), some (.fz (.list ((pathsL B).map pathD))), some (.fz (.list (ps.map pathD))), some (.fz (.int k)), none, none, none, none, none, none]⟩ (c2.cell :: R) = some (.rt (.fz (.list (ps.map pathD))), ⟨R.length + 1, [some (.ptr 0), some (.fz (bookD B)), some (.fz (.list ((pathsL B).map pathD))), some (.fz (.list (ps.map pathD))), some (.fz (.int k)), none, none, none, none, none, none]⟩, c2.cell :: R) from rfl, W_some]
      exact ⟨⟨_, rfl⟩, RwQ.of ok2 hok3⟩
    · simp only [Bool.or_eq_false_iff, decide_eq_false_iff_not] at hcond
      have h2 : 2 ≤ ps.length := by omega
      obtain ⟨a, c3, ok3, a0, a1, e3⟩ := st_next c2 ok2 ps.length (by omega)
      obtain ⟨t, c4, ok4, t0, t1, e4⟩ := st_next c3 ok3 ps.length (by omega)
      obtain ⟨a, rfl⟩ := Int.eq_ofNat_of_zero_le a0
      obtain ⟨t, rfl⟩ := Int.eq_ofNat_of_zero_le t0
      have e3' := e3 R
      have e4' := e4 R
      have hs2 : (2 : Nat) ≤ sizeLine := by decide
      rw [seq_nx (m := sAsg _ _) (ρ1 := rv (R.length + 1) B (ps.map pathD) k a t none none none) (P1 := c4.cell :: R) ?_]
      · exact sp_rwN G ok4 hps (by omega) (by omega) hpl
      · rw [rv]
        generalize PyData.list (ps.map pathD) = D2 at *
        simp [hg, e3', e4', fzs, hs2]
  refine fin.mono ?_
  rintro ⟨fl, ρ, Z⟩ ⟨d, c', h1, h2, h3, h4⟩
  simp only at h3 h4
  subst h3 h4
  simp only [exitZ_fz, W_some]
  exact ⟨d, c', h1, h2, by simp⟩
end NS

set_option maxHeartbeats 400000
set_option linter.all false
set_option maxRecDepth 10000
namespace NS
open PySem Pd L2
/-! ### the law's own orders and wheels are right -/
theorem ord_fore {B : Book} {O : List Path} (h : Ord B O) : ∀ p ∈ O, ∀ a ∈ arrows B p, O.idxOf a < O.idxOf p := by
  induction h with
  | nil => simp
  | @snoc O p0 hO hp hn ha ih =>
    intro p hpm a ham
    rcases List.mem_append.mp hpm with hp1 | hp1
    · have h1 := hO.closed p hp1 a ham
      rw [List.idxOf_append, List.idxOf_append, if_pos h1, if_pos hp1]
      exact ih p hp1 a ham
    · simp only [List.mem_singleton] at hp1
      subst hp1
      have h1 := ha a ham
      have h2 := List.idxOf_lt_length_iff.mpr h1
      rw [List.idxOf_append, List.idxOf_append, if_pos h1, if_neg hn]
      omega
theorem ord_orderB {B : Book} (G : Good B) {O : List Path} (h : Ord B O) (hl : (pathsL B).length ≤ O.length) : orderB B (.list (O.map pathD)) = true := by
  have hp := perm_of_sub h.sub.1 h.sub.2 hl
  have hf : foreB B O = true := by
    simp only [foreB, List.all_eq_true, decide_eq_true_eq]
    exact fun p hp a ha => ord_fore h p hp a ha
  simp only [orderB, pathsO_map, sortP_iff.mpr hp.symm, hf, decide_true, Bool.and_self]
theorem ways_cyc {B : Book} {st : Path} {w : Pairs} (h : Ways B st w st) (hne : w ≠ []) : ∀ (k : Nat) (hk : k < w.length), (if h1 : k + 1 < w.length then w[k + 1] else w[0]'(by omega)).1 ∈ tailsL w[k].2 := by
  intro k hk
  have h1 := h.next k w[k] (List.getElem?_eq_getElem hk)
  rcases h.first with ⟨e, _⟩ | ⟨r, w', e⟩
  · exact absurd e hne
  · by_cases h2 : k + 1 < w.length
    · rw [List.getElem?_eq_getElem h2] at h1
      rw [dif_pos h2]; exact h1
    · rw [List.getElem?_eq_none (by omega)] at h1
      rw [dif_neg h2]
      have : w[0]'(by omega) = (st, r) := by simp [e]
      rw [this]; exact h1
theorem twice_wheel {B : Book} {st : Path} {w : Pairs} (h : Ways B st w st) (hne : w ≠ []) : wheelB B (.tuple ((w ++ w).map pairD)) = true := by
  have hall : (w ++ w).all (okPB B) = true := by
    rw [List.all_append, List.all_eq_true.mpr fun q hq => okPB_iff.mpr (h.good q hq)]; rfl
  have hcyc : cycB (w ++ w) = true := by
    rw [cycB, List.all_eq_true]
    intro k hk
    have hk2 := List.mem_range.mp hk
    rw [List.length_append] at hk2
    have hpos : 0 < w.length := List.length_pos_iff.mpr hne
    rw [decide_eq_true_eq]
    have hl : (w ++ w).length = w.length + w.length := List.length_append
    by_cases h1 : k < w.length
    · have hc := ways_cyc h hne k h1
      have e1 : (w ++ w).getD k ([], []) = w[k] := by rw [List.getD_eq_getElem?_getD, List.getElem?_append_left h1, List.getElem?_eq_getElem h1]; rfl
      have e2 : nxt (w ++ w) k = if h1 : k + 1 < w.length then w[k + 1] else w[0] := by
        unfold nxt
        rw [if_pos (by omega), List.getD_eq_getElem?_getD]
        by_cases h2 : k + 1 < w.length
        · rw [List.getElem?_append_left h2, List.getElem?_eq_getElem h2, dif_pos h2]; rfl
        · rw [List.getElem?_append_right (by omega), dif_neg h2, show k + 1 - w.length = 0 by omega, List.getElem?_eq_getElem hpos]; rfl
      rw [e1, e2]; exact hc
    · have hc := ways_cyc h hne (k - w.length) (by omega)
      have e1 : (w ++ w).getD k ([], []) = w[k - w.length] := by rw [List.getD_eq_getElem?_getD, List.getElem?_append_right (by omega), List.getElem?_eq_getElem (by omega)]; rfl
      have e2 : nxt (w ++ w) k = if h1 : k - w.length + 1 < w.length then w[k - w.length + 1] else w[0] := by
        unfold nxt
        rw [List.getD_eq_getElem?_getD]
        by_cases h2 : k - w.length + 1 < w.length
        · rw [if_pos (by omega), List.getElem?_append_right (by omega), dif_pos h2, show k + 1 - w.length = k - w.length + 1 by omega, List.getElem?_eq_getElem h2]; rfl
        · rw [if_neg (by omega), dif_neg h2, List.getElem?_append_left hpos, List.getElem?_eq_getElem hpos]; rfl
      rw [e1, e2]; exact hc
  have hne2 : ((w ++ w).map pairD).isEmpty = false := by
    cases w with
    | nil => exact absurd rfl hne
    | cons q r => rfl
  simp only [wheelB, hne2, pairsO_map, hall, hcyc, Bool.not_false, Bool.and_self]
/-! sizes -/
theorem siz_path (p : Path) : siz (pathD p) = 1 + p.length := by
  have : ∀ q : List Str, sizL (q.map .str) = q.length := by
    intro q
    induction q with
    | nil => rfl
    | cons x r ih => simp only [List.map_cons, sizL, siz, ih, List.length_cons]; omega
  simp only [pathD, siz, this]
theorem siz_pair {B : Book} (G : Good B) {q : Path × Path} (h1 : q.1 ∈ pathsL B) (h2 : q.2 ∈ pathsL B) : siz (pairD q) ≤ 21 := by
  have a := (pnm_paths G h1).2
  have b := (pnm_paths G h2).2
  simp only [pairD, siz, sizL, siz_path]; omega
theorem okL_pair {B : Book} (G : Good B) {q : Path × Path} (h1 : q.1 ∈ pathsL B) (h2 : q.2 ∈ pathsL B) (n : Nat) : okL 20 (n + 2) (pairD q) = true := by
  have a := pnm_paths G h1
  have b := pnm_paths G h2
  refine okL_tup (by simp) fun d hd => ?_
  simp only [List.mem_cons, List.not_mem_nil, or_false] at hd
  rcases hd with rfl | rfl
  · exact okL_path a.1 (by omega) n
  · exact okL_path b.1 (by omega) n
theorem pairs_data {B : Book} (G : Good B) {w : Pairs} (h : ∀ q ∈ w, q.1 ∈ pathsL B ∧ q.2 ∈ pathsL B) (hl : w.length ≤ 10) : okL 20 4 (pairsD w) = true ∧ siz (pairsD w) ≤ 300 := by
  constructor
  · refine okL_tup (by rw [List.length_map]; omega) fun d hd => ?_
    obtain ⟨q, hq, rfl⟩ := List.mem_map.mp hd
    exact okL_pair G (h q hq).1 (h q hq).2 1
  · have key : ∀ v : Pairs, (∀ q ∈ v, q.1 ∈ pathsL B ∧ q.2 ∈ pathsL B) → sizL (v.map pairD) ≤ 21 * v.length := by
      intro v
      induction v with
      | nil => intro _; simp [sizL]
      | cons q r ih =>
        intro h
        have h1 := ih fun p hp => h p (List.mem_cons_of_mem _ hp)
        have h2 := h q List.mem_cons_self
        have h3 := siz_pair G h2.1 h2.2
        simp only [List.map_cons, sizL, List.length_cons]; omega
    have := key w h
    simp only [pairsD, siz]; omega
/-! ### the pool -/
def dbl (ps : List Path) : Pairs := ps.map fun p => (p, p)
def dblX : XM := (mLC [13] (iAny (mSl (mVar 4) oNone (oSome (mC (.int 2))))) (gNm 13) bYes (mTup (aCons (mVar 13) (aCons (mVar 13) aNil))))
theorem cut_lit (ds : List PyData) (n : Nat) : cutL ds none (some (n : Int)) = ds.take n := by
  have : HT.sIx ds.length ds.length (some (n : Int)) = min n ds.length := HT.sIx_nat _ _ _
  rw [cutL, HT.sIx_none, this]
  simp only [List.drop_zero, Nat.sub_zero]
  by_cases h : n ≤ ds.length
  · rw [Nat.min_eq_left h]
  · rw [Nat.min_eq_right (by omega), List.take_of_length_le (Nat.le_refl _), List.take_of_length_le (by omega)]
theorem t_dblX {a0 a1 a2 a3 a5 a6 a7 a8 a9 a10 a11 a12 : Option SV} {ps : List Path} (hl : ps.length ≤ 100) (P : Store) :
    dblX ⟨0, [a0, a1, a2, a3, some (.fz (.list (ps.map pathD))), a5, a6, a7, a8, a9, a10, a11, a12, none]⟩ P = some (.fz (.list ((dbl (ps.take 2)).map pairD)), P) := by
  have hs2 : (2 : Nat) ≤ sizeLine := by decide
  have e := mLC_map (own := [13]) (f := iAny (mSl (mVar 4) oNone (oSome (mC (.int 2))))) (g := gNm 13) (te := mTup (aCons (mVar 13) (aCons (mVar 13) aNil))) (ρ := ⟨0, [a0, a1, a2, a3, some (.fz (.list (ps.map pathD))), a5, a6, a7, a8, a9, a10, a11, a12, none]⟩) (P := P) (items := (ps.take 2).map pathD) (src := .fz (.list ((ps.take 2).map pathD))) (fun d => .tuple [d, d]) (iAny_lst (by
    have := cut_lit (ps.map pathD) 2
    rw [← List.map_take] at this
    have h2 : ((2 : Nat) : Int) = 2 := rfl
    rw [h2] at this
    simp only [mSl_ap, oNone_ap, oSome_ap, mVar_ap, List.getElem?_cons_succ, List.getElem?_cons_zero, Option.join_some, Option.map_some, Option.bind_some, mC_ap, flat_fz, dSl_lst, this])) (by rw [List.length_map, List.length_take]; exact Nat.le_trans (show _ ≤ 100 by omega) (by decide)) fun d hd S => ⟨_, rfl, by simp [EV.wipe, fzs, hs2]⟩
  rw [dblX, e]
  congr 4
  rw [dbl, List.map_map, List.map_map]
  rfl
def poolX : XM := (mBin dAdd (mBin dAdd (mLst (aCons (mSub (mSub (mVar 3) (mC (.int 1))) (mC (.int 0))) (aCons (mC (.str "x")) (aCons (mC .none) (aCons (mC (.int 0)) (aCons (mC (.bool true)) (aCons (mTup aNil) (aCons (mLst aNil) aNil)))))))) (mSl (mVar 4) oNone (oSome (mC (.int 3))))) dblX)
theorem t_poolX {B : Book} (G : Good B) {a0 a1 a2 a5 a6 a7 a8 a9 a10 a11 a12 : Option SV} (P : Store) :
    ∃ pool : List PyData, pool ≠ [] ∧ (∀ d ∈ pool, okL 20 4 d = true ∧ siz d ≤ 300) ∧ poolX ⟨0, [a0, a1, a2, some (.fz (bookD B)), some (.fz (.list ((pathsL B).map pathD))), a5, a6, a7, a8, a9, a10, a11, a12, none]⟩ P = some (.fz (.list pool), P) := by
  have hn := paths_len G
  have hs7 : (7 : Nat) ≤ sizeLine := by decide
  obtain ⟨x0, xr, hx0⟩ : ∃ x0 xr, B.ends = x0 :: xr := by
    cases h : B.ends with
    | nil => exact absurd h G.endsNe
    | cons a r => exact ⟨a, r, rfl⟩
  have nX0 : Nm x0 := G.endsNm x0 (by rw [hx0]; simp)
  have b1 := sub_book1 (P := P) B
  have b3 : subOf P (.fz (.tuple (B.ends.map .str))) (.int 0) = some (.fz (.str x0)) := by rw [hx0, subOf_tup, show (0 : Int) = ((0 : Nat) : Int) from rfl, atI_nat']; rfl
  have c3 := cut_lit ((pathsL B).map pathD) 3
  rw [← List.map_take, show ((3 : Nat) : Int) = 3 from rfl] at c3
  have e1 := t_dblX (a0 := a0) (a1 := a1) (a2 := a2) (a3 := some (.fz (bookD B))) (a5 := a5) (a6 := a6) (a7 := a7) (a8 := a8) (a9 := a9) (a10 := a10) (a11 := a11) (a12 := a12) (ps := pathsL B) (by omega) P
  have l1 : ((dbl ((pathsL B).take 2)).map pairD).length ≤ 2 := by rw [List.length_map, dbl, List.length_map, List.length_take]; omega
  have l2 : (((pathsL B).take 3).map pathD).length ≤ 3 := by rw [List.length_map, List.length_take]; omega
  have e2 := dAdd_lst [.str x0, .str "x", .none, .int 0, .bool true, .tuple [], .list []] (((pathsL B).take 3).map pathD) (Nat.le_trans (show _ ≤ 100 by simp only [List.length_cons, List.length_nil]; omega) (by decide))
  have e3 := dAdd_lst ([.str x0, .str "x", .none, .int 0, .bool true, .tuple [], .list []] ++ ((pathsL B).take 3).map pathD) ((dbl ((pathsL B).take 2)).map pairD) (Nat.le_trans (show _ ≤ 100 by simp only [List.length_append, List.length_cons, List.length_nil]; omega) (by decide))
  refine ⟨[.str x0, .str "x", .none, .int 0, .bool true, .tuple [], .list []] ++ ((pathsL B).take 3).map pathD ++ (dbl ((pathsL B).take 2)).map pairD, by simp, ?_, ?_⟩
  · intro d hd
    rcases List.mem_append.mp hd with hd | hd
    · rcases List.mem_append.mp hd with hd | hd
      · simp only [List.mem_cons, List.not_mem_nil, or_false] at hd
        rcases hd with rfl | rfl | rfl | rfl | rfl | rfl | rfl
        · exact ⟨okL_str nX0, by simp [siz]⟩
        · exact ⟨by decide +kernel, by simp [siz]⟩
        · exact ⟨rfl, by simp [siz]⟩
        · exact ⟨rfl, by simp [siz]⟩
        · exact ⟨rfl, by simp [siz]⟩
        · exact ⟨rfl, by simp [siz, sizL]⟩
        · exact ⟨rfl, by simp [siz, sizL]⟩
      · obtain ⟨p, hp, rfl⟩ := List.mem_map.mp hd
        have := pnm_paths G (List.mem_of_mem_take hp)
        exact ⟨okL_path this.1 (by omega) 3, by rw [siz_path]; omega⟩
    · obtain ⟨q, hq, rfl⟩ := List.mem_map.mp hd
      obtain ⟨p, hp, rfl⟩ := List.mem_map.mp hq
      have hpm := List.mem_of_mem_take hp
      exact ⟨okL_pair G (q := (p, p)) hpm hpm 2, by have := siz_pair G (q := (p, p)) hpm hpm; omega⟩
  · rw [poolX, mBin_ap, mBin_ap]
    have eL : (mLst (aCons (mSub (mSub (mVar 3) (mC (.int 1))) (mC (.int 0))) (aCons (mC (.str "x")) (aCons (mC .none) (aCons (mC (.int 0)) (aCons (mC (.bool true)) (aCons (mTup aNil) (aCons (mLst aNil) aNil)))))))) ⟨0, [a0, a1, a2, some (.fz (bookD B)), some (.fz (.list ((pathsL B).map pathD))), a5, a6, a7, a8, a9, a10, a11, a12, none]⟩ P = some (.fz (.list [.str x0, .str "x", .none, .int 0, .bool true, .tuple [], .list []]), P) := by
      generalize PyData.list ((pathsL B).map pathD) = L1 at *
      generalize PyData.tuple (B.ends.map .str) = L2 at *
      simp [b1, b3, fzs, hs7]
    rw [eL]
    simp only [Option.bind_some, mSl_ap, oNone_ap, oSome_ap, mVar_ap, List.getElem?_cons_succ, List.getElem?_cons_zero, Option.join_some, Option.map_some, mC_ap, flat_fz, dSl_lst, c3, e2, e1, e3]
end NS

set_option maxHeartbeats 400000
set_option linter.all false
set_option maxRecDepth 10000
namespace NS
open PySem Pd L2
/-! ### the parts of the law -/
def lA : SM := (sSeq (sSet 7 (mCallF m__law_rows (aCons (mVar 1) (aCons (mVar 3) aNil))))
  (sIf (mNotB (mTB (mCallF (m__law_same 40) (aCons (mCallF m_order_right (aCons (mVar 5) (aCons (mCallF (m__law_copied 40) (aCons (mVar 7) aNil)) aNil))) (aCons (mCallF m__law_is_order (aCons (mVar 3) (aCons (mVar 7) aNil))) aNil))))) (sRet (mC (.bool false))) sNx))
def lB : SM := (sIf (mAndB (mTB (mBin (dIs true) (mVar 8) (mC .none))) (mTB (mBin (dIs true) (mCallF m_order_right (aCons (mVar 5) (aCons (mCall gListA (aCons (mVar 8) aNil)) aNil))) (mC (.bool true))))) (sRet (mC (.bool false))) sNx)
def lW : XM := (mIfE (mTB (mBin dGt (mCall gLenA (aCons (mVar 9) aNil)) (mC (.int 0)))) (mCallF m__law_pick (aCons (mVar 1) (aCons (mVar 9) aNil))) (mCall gTuple (aCons dblX aNil)))
def lE1 : SM := (sIf (mAndB (mTB (mBin dGt (mCall gLenA (aCons (mVar 9) aNil)) (mC (.int 0)))) (mTB (mBin (dIs true) (mCallF m_wheel_right (aCons (mVar 5) (aCons (mBin dAdd (mVar 11) (mVar 11)) aNil))) (mC (.bool true))))) (sRet (mC (.bool false))) sNx)
def lE2 : SM := (sSet 12 (mCallF m__law_spoilt (aCons (mVar 1) (aCons (mVar 11) (aCons (mVar 10) aNil)))))
def lE3 : SM := (sIf (mTB (mBin dEq (mCallF m__law_next (aCons (mVar 1) (aCons (mC (.int 3)) aNil))) (mC (.int 0)))) (sSet 12 (mCallF m__law_spoilt (aCons (mVar 1) (aCons (mVar 12) (aCons (mVar 10) aNil))))) sNx)
def lE4 : SM := (sIf (mNotB (mTB (mCallF (m__law_same 40) (aCons (mCallF m_wheel_right (aCons (mVar 5) (aCons (mCallF (m__law_copied 40) (aCons (mVar 12) aNil)) aNil))) (aCons (mCallF m__law_is_wheel (aCons (mVar 3) (aCons (mVar 12) aNil))) aNil))))) (sRet (mC (.bool false))) sNx)
def lE : SM := (sSeq (sSet 11 lW) (sSeq lE1 (sSeq lE2 (sSeq lE3 lE4))))
def lZ : SM := (sIf (mNotB (mTB (mCallF (m__law_same 40) (aCons (mVar 5) (aCons (mVar 3) aNil))))) (sRet (mC (.bool false))) sNx)
def lT : SM := (sSeq (sSet 3 (mCallF m__law_small_book (aCons (mVar 1) aNil)))
  (sSeq (sSet 4 (mCallF m__law_paths (aCons (mVar 3) aNil)))
  (sSeq (sSet 5 (mCallF (m__law_copied 40) (aCons (mVar 3) aNil)))
  (sSeq (sFor (iRange (aCons (mC (.int 5)) aNil)) (gNm 6) lA)
  (sSeq (sSet 8 (mCallF m__law_order (aCons (mVar 3) aNil)))
  (sSeq lB
  (sSeq (sSet 9 (mCallF m__law_walks (aCons (mVar 3) aNil)))
  (sSeq (sSet 10 poolX)
  (sSeq (sFor (iRange (aCons (mC (.int 6)) aNil)) (gNm 6) lE)
  lZ)))))))))
theorem b_law_eq : b_law = (sSeq (sSet 1 (mCallF m__law_draws (aCons (mBin dAdd (mSl (mVar 0) oNone (oSome (mC (.int 24)))) (mLst (aCons (mC (.int 31)) aNil))) aNil)))
  (sSeq (sFor (iRange (aCons (mC (.int 3)) aNil)) (gNm 2) lT)
  (sRet (mC (.bool true))))) := rfl
section
variable {B : Book} (G : Good B) {a0 a2 a4 a6 a7 a8 a9 a10 a11 a12 a13 : Option SV}
include G
theorem sp_lA {c : St} (hc : c.ok) :
    W (lA ⟨0, [a0, some (.ptr 0), a2, some (.fz (bookD B)), a4, some (.fz (bookD B)), a6, a7, a8, a9, a10, a11, a12, a13]⟩ [c.cell]) fun r => r.1 = .nx ∧ ∃ (c' : St) (a7 : Option SV), c'.ok ∧ r.2 = (⟨0, [a0, some (.ptr 0), a2, some (.fz (bookD B)), a4, some (.fz (bookD B)), a6, a7, a8, a9, a10, a11, a12, a13]⟩, [c'.cell]) := by
  rw [lA]
  refine W_seq (W_set (W_callF (l := [.ptr 0, .fz (bookD B)]) (P1 := [c.cell]) rfl ((sp_rows G hc []).mono ?_)))
  rintro _ ⟨d, c1, ok1, hd, rfl⟩
  refine ⟨rfl, ?_⟩
  have hdD := okL_okD (by decide) hd
  have f1 := t_copied 40 3 d (okL_Ok (by decide) hd) (by decide) [c1.cell]
  have f2 := t_order_right G hdD (by decide) [c1.cell]
  have f3 := t_is_order G hdD (by decide) [c1.cell]
  have f4 := t_same 40 0 (.bool (orderB B d)) (.bool 0 _) (by decide) [c1.cell]
  simp only [put_ap, List.set_cons_succ, List.set_cons_zero]
  rw [if_ff (P1 := [c1.cell]) (by
    generalize m__law_same 40 = MS at *
    generalize m__law_copied 40 = MC at *
    simp only [mNotB_ap, mTB_ap, mCallF_ap, aCons_ap, aNil_ap, mVar_ap, List.getElem?_cons_succ, List.getElem?_cons_zero, Option.join_some, Option.map_some, Option.bind_some, f1, f2, f3, f4, Bool.not_true])]
  exact ⟨_, rfl, rfl, c1, _, ok1, rfl⟩
theorem t_lB {D : PyData} (hD : D = .none ∨ ∃ O : List Path, Ord B O ∧ (pathsL B).length ≤ O.length ∧ D = .list (O.map pathD)) {a1 a3 : Option SV} (P : Store) :
    lB ⟨0, [a0, a1, a2, a3, a4, some (.fz (bookD B)), a6, a7, some (.fz D), a9, a10, a11, a12, a13]⟩ P = some (.nx, ⟨0, [a0, a1, a2, a3, a4, some (.fz (bookD B)), a6, a7, some (.fz D), a9, a10, a11, a12, a13]⟩, P) := by
  rw [lB]
  refine if_ff ?_
  rcases hD with rfl | ⟨O, ho, hl, rfl⟩
  · simp [Pd.isNon]
  · have hok : okD 3 (.list (O.map pathD)) = true := okD_mono (paths_okD (fun p hp => by have := pnm_paths G (ho.sub.2 p hp); exact ⟨this.1, by omega⟩) (by have := ho.len; have := paths_len G; omega)) (by decide)
    have e1 := t_order_right G hok (by decide) P
    rw [ord_orderB G ho hl] at e1
    have hd : dIs true (.list (O.map pathD)) .none = some (.bool true) := rfl
    have hg : gListA [.list (O.map pathD)] = some (.list (O.map pathD)) := rfl
    have hdi : dIs true (.bool true) (.bool true) = some (.bool false) := rfl
    generalize PyData.list (O.map pathD) = D2 at *
    simp only [mAndB_ap, mTB_ap, mBin_ap, mVar_ap, List.getElem?_cons_succ, List.getElem?_cons_zero, Option.join_some, Option.map_some, Option.bind_some, mC_ap, flat_fz, hd, if_true, mCallF_ap, aCons_ap, aNil_ap, mCall_ap, flats_cons, flats_nil, hg, e1, hdi]
theorem t_lZ {a1 : Option SV} (P : Store) :
    lZ ⟨0, [a0, a1, a2, some (.fz (bookD B)), a4, some (.fz (bookD B)), a6, a7, a8, a9, a10, a11, a12, a13]⟩ P = some (.nx, ⟨0, [a0, a1, a2, some (.fz (bookD B)), a4, some (.fz (bookD B)), a6, a7, a8, a9, a10, a11, a12, a13]⟩, P) := by
  have e3 := t_same 40 4 _ (ok_book G) (by decide) P
  rw [lZ]
  refine if_ff ?_
  generalize m__law_same 40 = MS at *
  simp only [mNotB_ap, mTB_ap, mCallF_ap, aCons_ap, aNil_ap, mVar_ap, List.getElem?_cons_succ, List.getElem?_cons_zero, Option.join_some, Option.map_some, Option.bind_some, e3, Bool.not_true]
/-- the wheel that is asked -/
theorem sp_lW {c : St} (hc : c.ok) {F : List Pairs} (hF : FGood B F) {a3 a5 : Option SV} :
    W (lW ⟨0, [a0, some (.ptr 0), a2, a3, some (.fz (.list ((pathsL B).map pathD))), a5, a6, a7, a8, some (.fz (.list (F.map pairsD))), a10, a11, a12, none]⟩ [c.cell]) fun r => ∃ (w : Pairs) (c' : St), c'.ok ∧ (∀ q ∈ w, q.1 ∈ pathsL B ∧ q.2 ∈ pathsL B) ∧ w.length ≤ 10 ∧ (F ≠ [] → w ≠ [] ∧ ∃ st, Ways B st w st) ∧ r = (.fz (pairsD w), [c'.cell]) := by
  have hn := paths_len G
  rw [lW]
  have q0 : (mTB (mBin dGt (mCall gLenA (aCons (mVar 9) aNil)) (mC (.int 0)))) ⟨0, [a0, some (.ptr 0), a2, a3, some (.fz (.list ((pathsL B).map pathD))), a5, a6, a7, a8, some (.fz (.list (F.map pairsD))), a10, a11, a12, none]⟩ [c.cell] = some (decide ((0 : Int) < (F.length : Int)), [c.cell]) := by
    generalize PyData.list ((pathsL B).map pathD) = L1 at *
    have hg : gLenA [.list (F.map pairsD)] = some (.int (F.length : Int)) := by rw [gLenA_lst, List.length_map]
    generalize PyData.list (F.map pairsD) = L2 at *
    simp [hg]
  cases F with
  | nil =>
    rw [decide_eq_false (by simp)] at q0
    rw [ife_f q0]
    have e1 := t_dblX (a0 := a0) (a1 := some (.ptr 0)) (a2 := a2) (a3 := a3) (a5 := a5) (a6 := a6) (a7 := a7) (a8 := a8) (a9 := some (.fz (.list (([] : List Pairs).map pairsD)))) (a10 := a10) (a11 := a11) (a12 := a12) (ps := pathsL B) (by omega) [c.cell]
    rw [mCall_ap, aCons_ap, e1]
    simp only [aNil_ap, Option.bind_some, flats_cons, flats_nil, flat_fz, Option.map_some, gTuple_lst, W_some]
    refine ⟨dbl ((pathsL B).take 2), c, hc, fun q hq => ?_, by rw [dbl, List.length_map, List.length_take]; omega, fun h => absurd rfl h, rfl⟩
    obtain ⟨p, hp, rfl⟩ := List.mem_map.mp hq
    exact ⟨List.mem_of_mem_take hp, List.mem_of_mem_take hp⟩
  | cons w0 F0 =>
    rw [decide_eq_true (by simp)] at q0
    rw [ife_t q0]
    refine W_callF (l := [.ptr 0, .fz (.list ((w0 :: F0).map pairsD))]) (P1 := [c.cell]) rfl ?_
    refine (sp_pickL c hc ((w0 :: F0).map pairsD) (by simp) []).mono ?_
    rintro _ ⟨d, c2, ok2, hd, rfl⟩
    obtain ⟨w, hw, rfl⟩ := List.mem_map.mp hd
    obtain ⟨g1, ⟨st, g2⟩, g3⟩ := hF w hw
    exact ⟨w, c2, ok2, fun q hq => ⟨(g2.good q hq).1, (g2.good q hq).2.1⟩, g3, fun _ => ⟨g1, st, g2⟩, rfl⟩
theorem t_lE1 {F : List Pairs} {w : Pairs} (hw : ∀ q ∈ w, q.1 ∈ pathsL B ∧ q.2 ∈ pathsL B) (hl : w.length ≤ 10) (hF : F ≠ [] → w ≠ [] ∧ ∃ st, Ways B st w st) {a1 a3 : Option SV} (P : Store) :
    lE1 ⟨0, [a0, a1, a2, a3, a4, some (.fz (bookD B)), a6, a7, a8, some (.fz (.list (F.map pairsD))), a10, some (.fz (pairsD w)), a12, a13]⟩ P = some (.nx, ⟨0, [a0, a1, a2, a3, a4, some (.fz (bookD B)), a6, a7, a8, some (.fz (.list (F.map pairsD))), a10, some (.fz (pairsD w)), a12, a13]⟩, P) := by
  rw [lE1]
  refine if_ff ?_
  have hg : gLenA [.list (F.map pairsD)] = some (.int (F.length : Int)) := by rw [gLenA_lst, List.length_map]
  cases F with
  | nil => simp
  | cons w0 F0 =>
    obtain ⟨hne, st, hway⟩ := hF (by simp)
    have e1 := dAdd_tup (w.map pairD) (w.map pairD) (by simp only [List.length_map]; exact Nat.le_trans (show _ ≤ 100 by omega) (by decide))
    rw [← List.map_append] at e1
    have hok : okD 4 (.tuple ((w ++ w).map pairD)) = true := okL_okD (L := 20) (by decide) (okL_tup (by rw [List.length_map, List.length_append]; omega) fun d hd => by
      obtain ⟨q, hq, rfl⟩ := List.mem_map.mp hd
      have : q ∈ w := by rcases List.mem_append.mp hq with h | h <;> exact h
      exact okL_pair G (hw q this).1 (hw q this).2 1)
    have e2 := t_wheel_right G hok (by decide) P
    rw [twice_wheel hway hne] at e2
    have hp : decide ((0 : Int) < ((w0 :: F0).length : Int)) = true := by simp
    have hdi : dIs true (.bool true) (.bool true) = some (.bool false) := rfl
    have hpd : pairsD w = .tuple (w.map pairD) := rfl
    rw [hpd]
    generalize PyData.list ((w0 :: F0).map pairsD) = L2 at *
    generalize PyData.tuple (w.map pairD) = D2 at *
    generalize PyData.tuple ((w ++ w).map pairD) = D3 at *
    simp only [mAndB_ap, mTB_ap, mBin_ap, mCall_ap, mVar_ap, List.getElem?_cons_succ, List.getElem?_cons_zero, Option.join_some, Option.map_some, Option.bind_some, aCons_ap, aNil_ap, flats_cons, flats_nil, mC_ap, flat_fz, hg, dGt_int, hp, if_true, mCallF_ap, e1, e2, hdi]
end
end NS

set_option maxHeartbeats 400000
set_option linter.all false
set_option maxRecDepth 10000
namespace NS
open PySem Pd L2
section
variable {B : Book} (G : Good B) {a0 a2 a4 a6 a7 a8 a9 a10 a11 a12 a13 : Option SV}
include G
theorem t_lE4 {m L : Nat} {d : PyData} (hd : okL L m d = true) (hL : L ≤ 1000) (h30 : m ≤ 30) {a1 : Option SV} (P : Store) :
    lE4 ⟨0, [a0, a1, a2, some (.fz (bookD B)), a4, some (.fz (bookD B)), a6, a7, a8, a9, a10, a11, some (.fz d), a13]⟩ P = some (.nx, ⟨0, [a0, a1, a2, some (.fz (bookD B)), a4, some (.fz (bookD B)), a6, a7, a8, a9, a10, a11, some (.fz d), a13]⟩, P) := by
  have hdD := okL_okD hL hd
  have f1 := t_copied 40 m d (okL_Ok hL hd) (by omega) P
  have f2 := t_wheel_right G hdD (by omega) P
  have f3 := t_is_wheel G hdD (by omega) P
  have f4 := t_same 40 0 (.bool (wheelB B d)) (.bool 0 _) (by decide) P
  rw [lE4]
  refine if_ff ?_
  generalize m__law_same 40 = MS at *
  generalize m__law_copied 40 = MC at *
  simp only [mNotB_ap, mTB_ap, mCallF_ap, aCons_ap, aNil_ap, mVar_ap, List.getElem?_cons_succ, List.getElem?_cons_zero, Option.join_some, Option.map_some, Option.bind_some, f1, f2, f3, f4, Bool.not_true]
theorem sp_lE {c : St} (hc : c.ok) {F : List Pairs} (hF : FGood B F) {pool : List PyData} (hp : pool ≠ []) (hpo : ∀ d ∈ pool, okL 20 4 d = true ∧ siz d ≤ 300) :
    W (lE ⟨0, [a0, some (.ptr 0), a2, some (.fz (bookD B)), some (.fz (.list ((pathsL B).map pathD))), some (.fz (bookD B)), a6, a7, a8, some (.fz (.list (F.map pairsD))), some (.fz (.list pool)), a11, a12, none]⟩ [c.cell]) fun r => r.1 = .nx ∧ ∃ (c' : St) (a11 a12 : Option SV), c'.ok ∧ r.2 = (⟨0, [a0, some (.ptr 0), a2, some (.fz (bookD B)), some (.fz (.list ((pathsL B).map pathD))), some (.fz (bookD B)), a6, a7, a8, some (.fz (.list (F.map pairsD))), some (.fz (.list pool)), a11, a12, none]⟩, [c'.cell]) := by
  rw [lE]
  refine W_seq (W_set ((sp_lW G hc hF).mono ?_))
  rintro _ ⟨w, c1, ok1, hw, hwl, hwF, rfl⟩
  refine ⟨rfl, ?_⟩
  simp only [put_ap, List.set_cons_succ, List.set_cons_zero]
  refine W_seq ⟨_, t_lE1 G hw hwl hwF [c1.cell], rfl, ?_⟩
  obtain ⟨d1, d2⟩ := pairs_data G hw hwl
  rw [lE2]
  refine W_seq (W_set (W_callF (l := [.ptr 0, .fz (pairsD w), .fz (.list pool)]) (P1 := [c1.cell]) rfl ?_))
  refine (sp_spoilt (L := 20) (n := 4) (M := 300) (by decide) (by decide) (by decide) ok1 d1 d2 hp hpo []).mono ?_
  rintro _ ⟨d, c2, ok2, hd, hdz, rfl⟩
  refine ⟨rfl, ?_⟩
  simp only [put_ap, List.set_cons_succ, List.set_cons_zero]
  obtain ⟨v, c3, ok3, v0, v1, e⟩ := st_next c2 ok2 3 (by decide)
  have e' := e []
  have q : (mTB (mBin dEq (mCallF m__law_next (aCons (mVar 1) (aCons (mC (.int 3)) aNil))) (mC (.int 0)))) ⟨0, [a0, some (.ptr 0), a2, some (.fz (bookD B)), some (.fz (.list ((pathsL B).map pathD))), some (.fz (bookD B)), a6, a7, a8, some (.fz (.list (F.map pairsD))), some (.fz (.list pool)), some (.fz (pairsD w)), some (.fz d), none]⟩ [c2.cell] = some (decide (v = 0), [c3.cell]) := by
    simp only [mTB_ap, mBin_ap, mCallF_ap, aCons_ap, aNil_ap, mVar_ap, List.getElem?_cons_succ, List.getElem?_cons_zero, Option.join_some, Option.map_some, Option.bind_some, mC_ap, e', flat_fz, dEq_int]
  have last : ∀ {m L : Nat} {d : PyData} {c : St}, okL L m d = true → L ≤ 1000 → m ≤ 30 → c.ok → W (lE4 ⟨0, [a0, some (.ptr 0), a2, some (.fz (bookD B)), some (.fz (.list ((pathsL B).map pathD))), some (.fz (bookD B)), a6, a7, a8, some (.fz (.list (F.map pairsD))), some (.fz (.list pool)), some (.fz (pairsD w)), some (.fz d), none]⟩ [c.cell]) fun r => r.1 = .nx ∧ ∃ (c' : St) (a11 a12 : Option SV), c'.ok ∧ r.2 = (⟨0, [a0, some (.ptr 0), a2, some (.fz (bookD B)), some (.fz (.list ((pathsL B).map pathD))), some (.fz (bookD B)), a6, a7, a8, some (.fz (.list (F.map pairsD))), some (.fz (.list pool)), a11, a12, none]⟩, [c'.cell]) := fun h1 h2 h3 h4 =>
    ⟨_, t_lE4 G h1 h2 h3 _, rfl, _, _, _, h4, rfl⟩
  refine W_seq ?_
  by_cases hv : v = 0
  · rw [decide_eq_true hv] at q
    rw [lE3, sIf_ap, q]
    simp only [Option.bind_some, if_true]
    refine W_set (W_callF (l := [.ptr 0, .fz d, .fz (.list pool)]) (P1 := [c3.cell]) rfl ?_)
    refine (sp_spoilt (L := 21) (n := 8) (M := 900) (by decide) (by decide) (by decide) ok3 hd hdz hp (fun d hd => ⟨okL_mono (by decide) (by decide) (hpo d hd).1, by have := (hpo d hd).2; omega⟩) []).mono ?_
    rintro _ ⟨d', c4, ok4, hd', _, rfl⟩
    refine ⟨rfl, ?_⟩
    simp only [put_ap, List.set_cons_succ, List.set_cons_zero]
    exact last hd' (by decide) (by decide) ok4
  · rw [decide_eq_false hv] at q
    rw [lE3, if_ff q]
    exact ⟨_, rfl, rfl, last hd (by decide) (by decide) ok3⟩
end
theorem sp_lT {c : St} (hc : c.ok) {a0 a2 a3 a4 a5 a6 a7 a8 a9 a10 a11 a12 : Option SV} :
    W (lT ⟨0, [a0, some (.ptr 0), a2, a3, a4, a5, a6, a7, a8, a9, a10, a11, a12, none]⟩ [c.cell]) fun r => r.1 = .nx ∧ ∃ (c' : St) (s3 s4 s5 s6 s7 s8 s9 s10 s11 s12 : Option SV), c'.ok ∧ r.2 = (⟨0, [a0, some (.ptr 0), a2, s3, s4, s5, s6, s7, s8, s9, s10, s11, s12, none]⟩, [c'.cell]) := by
  rw [lT]
  refine W_seq (W_set (W_callF (l := [.ptr 0]) (P1 := [c.cell]) rfl ((sp_small_book c hc []).mono ?_)))
  rintro _ ⟨B, c1, G, ok1, hk, rfl⟩
  refine ⟨rfl, ?_⟩
  refine W_seq (W_set (W_callF (l := [.fz (bookD B)]) (P1 := [c1.cell]) rfl ⟨_, t_paths G [c1.cell], rfl, ?_⟩))
  have f1 := t_copied 40 4 _ (ok_book G) (by decide) [c1.cell]
  refine W_seq (W_set (W_callF (l := [.fz (bookD B)]) (P1 := [c1.cell]) rfl ⟨_, f1, rfl, ?_⟩))
  simp only [put_ap, List.set_cons_succ, List.set_cons_zero]
  have q5 : iRange (aCons (mC (.int 5)) aNil) ⟨0, [a0, some (.ptr 0), a2, some (.fz (bookD B)), some (.fz (.list ((pathsL B).map pathD))), some (.fz (bookD B)), a6, a7, a8, a9, a10, a11, a12, none]⟩ [c1.cell] = some (rangeD 0 5, .fz .none, [c1.cell]) := iRange_nat (n := 5) rfl (by omega)
  have loop1 : W (sFor (iRange (aCons (mC (.int 5)) aNil)) (gNm 6) lA ⟨0, [a0, some (.ptr 0), a2, some (.fz (bookD B)), some (.fz (.list ((pathsL B).map pathD))), some (.fz (bookD B)), a6, a7, a8, a9, a10, a11, a12, none]⟩ [c1.cell]) fun r => r.1 = .nx ∧ ∃ (c' : St) (s6 s7 : Option SV), c'.ok ∧ r.2 = (⟨0, [a0, some (.ptr 0), a2, some (.fz (bookD B)), some (.fz (.list ((pathsL B).map pathD))), some (.fz (bookD B)), s6, s7, a8, a9, a10, a11, a12, none]⟩, [c'.cell]) := by
    rw [for_at q5]
    refine W_forR (fun i ρ Z => ∃ (c' : St) (s6 s7 : Option SV), c'.ok ∧ ρ = ⟨0, [a0, some (.ptr 0), a2, some (.fz (bookD B)), some (.fz (.list ((pathsL B).map pathD))), some (.fz (bookD B)), s6, s7, a8, a9, a10, a11, a12, none]⟩ ∧ Z = [c'.cell]) ⟨c1, a6, a7, ok1, rfl, rfl⟩ ?_ ?_
    · rintro i d ρ Z hd ⟨c2, s6, s7, ok2, rfl, rfl⟩
      refine ⟨_, rfl, ?_⟩
      refine (sp_lA G ok2).mono ?_
      rintro ⟨fl, ρ3, Z3⟩ ⟨h1, c3, s7, ok3, h2⟩
      cases h2
      exact .inl ⟨h1, c3, _, s7, ok3, rfl, rfl⟩
    · rintro ρ Z ⟨c2, s6, s7, ok2, rfl, rfl⟩
      exact ⟨rfl, c2, s6, s7, ok2, rfl⟩
  refine W_seq (loop1.mono ?_)
  rintro ⟨fl, ρ3, Z3⟩ ⟨h1, c3, s6, s7, ok3, h2⟩
  simp only at h1
  subst h1
  cases h2
  refine ⟨rfl, ?_⟩
  obtain ⟨r, er, hr⟩ := sp_order G [c3.cell]
  obtain ⟨D, hD, rfl⟩ : ∃ D, (D = .none ∨ ∃ O : List Path, Ord B O ∧ (pathsL B).length ≤ O.length ∧ D = .list (O.map pathD)) ∧ r = (.fz D, [c3.cell]) := by
    rcases hr with rfl | ⟨O, ho, hl, rfl⟩
    · exact ⟨_, .inl rfl, rfl⟩
    · exact ⟨_, .inr ⟨O, ho, hl, rfl⟩, rfl⟩
  refine W_seq (W_set (W_callF (l := [.fz (bookD B)]) (P1 := [c3.cell]) rfl ⟨_, er, rfl, ?_⟩))
  simp only [put_ap, List.set_cons_succ, List.set_cons_zero]
  refine W_seq ⟨_, t_lB G hD [c3.cell], rfl, ?_⟩
  obtain ⟨_, ew, F, hF, rfl⟩ := sp_walks G [c3.cell]
  refine W_seq (W_set (W_callF (l := [.fz (bookD B)]) (P1 := [c3.cell]) rfl ⟨_, ew, rfl, ?_⟩))
  simp only [put_ap, List.set_cons_succ, List.set_cons_zero]
  obtain ⟨pool, hp, hpo, ep⟩ := t_poolX G (a0 := a0) (a1 := some (.ptr 0)) (a2 := a2) (a5 := some (.fz (bookD B))) (a6 := s6) (a7 := s7) (a8 := some (.fz D)) (a9 := some (.fz (.list (F.map pairsD)))) (a10 := a10) (a11 := a11) (a12 := a12) [c3.cell]
  refine W_seq (W_set ⟨_, ep, rfl, ?_⟩)
  simp only [put_ap, List.set_cons_succ, List.set_cons_zero]
  have q6 : iRange (aCons (mC (.int 6)) aNil) ⟨0, [a0, some (.ptr 0), a2, some (.fz (bookD B)), some (.fz (.list ((pathsL B).map pathD))), some (.fz (bookD B)), s6, s7, some (.fz D), some (.fz (.list (F.map pairsD))), some (.fz (.list pool)), a11, a12, none]⟩ [c3.cell] = some (rangeD 0 6, .fz .none, [c3.cell]) := iRange_nat (n := 6) rfl (by omega)
  have loop2 : W (sFor (iRange (aCons (mC (.int 6)) aNil)) (gNm 6) lE ⟨0, [a0, some (.ptr 0), a2, some (.fz (bookD B)), some (.fz (.list ((pathsL B).map pathD))), some (.fz (bookD B)), s6, s7, some (.fz D), some (.fz (.list (F.map pairsD))), some (.fz (.list pool)), a11, a12, none]⟩ [c3.cell]) fun r => r.1 = .nx ∧ ∃ (c' : St) (s6 s11 s12 : Option SV), c'.ok ∧ r.2 = (⟨0, [a0, some (.ptr 0), a2, some (.fz (bookD B)), some (.fz (.list ((pathsL B).map pathD))), some (.fz (bookD B)), s6, s7, some (.fz D), some (.fz (.list (F.map pairsD))), some (.fz (.list pool)), s11, s12, none]⟩, [c'.cell]) := by
    rw [for_at q6]
    refine W_forR (fun i ρ Z => ∃ (c' : St) (s6 s11 s12 : Option SV), c'.ok ∧ ρ = ⟨0, [a0, some (.ptr 0), a2, some (.fz (bookD B)), some (.fz (.list ((pathsL B).map pathD))), some (.fz (bookD B)), s6, s7, some (.fz D), some (.fz (.list (F.map pairsD))), some (.fz (.list pool)), s11, s12, none]⟩ ∧ Z = [c'.cell]) ⟨c3, s6, a11, a12, ok3, rfl, rfl⟩ ?_ ?_
    · rintro i d ρ Z hd ⟨c2, s6, s11, s12, ok2, rfl, rfl⟩
      refine ⟨_, rfl, ?_⟩
      refine (sp_lE G ok2 hF hp hpo).mono ?_
      rintro ⟨fl, ρ3, Z3⟩ ⟨h1, c3, s11, s12, ok3, h2⟩
      cases h2
      exact .inl ⟨h1, c3, _, s11, s12, ok3, rfl, rfl⟩
    · rintro ρ Z ⟨c2, s6, s11, s12, ok2, rfl, rfl⟩
      exact ⟨rfl, c2, s6, s11, s12, ok2, rfl⟩
  refine W_seq (loop2.mono ?_)
  rintro ⟨fl, ρ3, Z3⟩ ⟨h1, c4, s6, s11, s12, ok4, h2⟩
  simp only at h1
  subst h1
  cases h2
  exact ⟨rfl, _, t_lZ G [c4.cell], rfl, c4, _, _, _, _, _, _, _, _, _, _, ok4, rfl⟩
theorem law_true (ns : List Int) (hl : ns.length ≤ 63) : m_law [.fz (.list (ns.map .int))] [] = some (.fz (.bool true), []) := by
  refine W.of ?_
  refine W_fun ?_
  have hcut : cutL (ns.map PyData.int) none (some 24) = (ns.take 24).map .int := by
    have := cut_lit (ns.map PyData.int) 24
    rw [← List.map_take] at this
    exact this
  have hadd := dAdd_lst ((ns.take 24).map .int) [.int 31] (Nat.le_trans (show _ ≤ 100 by simp; omega) (by decide))
  have hcs : (ns.take 24).map PyData.int ++ [.int 31] = (ns.take 24 ++ [31]).map PyData.int := by simp
  rw [hcs] at hadd
  rw [b_law_eq, show startE 14 [SV.fz (.list (ns.map .int))] = [some (.fz (.list (ns.map .int))), none, none, none, none, none, none, none, none, none, none, none, none, none] from rfl]
  have ea : (mBin dAdd (mSl (mVar 0) oNone (oSome (mC (.int 24)))) (mLst (aCons (mC (.int 31)) aNil))) ⟨0, [some (.fz (.list (ns.map .int))), none, none, none, none, none, none, none, none, none, none, none, none, none]⟩ [] = some (.fz (.list ((ns.take 24 ++ [31]).map .int)), []) := by
    simp [hcut, hadd, -List.map_append, -List.map_take]
  refine W_seq (W_set (W_callF (l := [.fz (.list ((ns.take 24 ++ [31]).map .int))]) (P1 := []) (by rw [aCons_ap]; simp only [List.length_nil, ea, Option.bind_some, aNil_ap, Option.map_some]) ?_))
  refine (sp_draws _ (by simp) (by simp; omega)).mono ?_
  rintro _ ⟨c, ok, rfl⟩
  refine ⟨rfl, ?_⟩
  have q2 : iRange (aCons (mC (.int 3)) aNil) ⟨0, [some (.fz (.list (ns.map .int))), some (.ptr 0), none, none, none, none, none, none, none, none, none, none, none, none]⟩ [c.cell] = some (rangeD 0 3, .fz .none, [c.cell]) := iRange_nat (n := 3) rfl (by omega)
  have loop : W (sFor (iRange (aCons (mC (.int 3)) aNil)) (gNm 2) lT ⟨0, [some (.fz (.list (ns.map .int))), some (.ptr 0), none, none, none, none, none, none, none, none, none, none, none, none]⟩ [c.cell]) fun r => r.1 = .nx ∧ ∃ (c' : St) (ρ : EV), r.2 = (ρ, [c'.cell]) := by
    rw [for_at q2]
    refine W_forR (fun i ρ Z => ∃ (c' : St) (s2 s3 s4 s5 s6 s7 s8 s9 s10 s11 s12 : Option SV), c'.ok ∧ ρ = ⟨0, [some (.fz (.list (ns.map .int))), some (.ptr 0), s2, s3, s4, s5, s6, s7, s8, s9, s10, s11, s12, none]⟩ ∧ Z = [c'.cell]) ⟨c, _, _, _, _, _, _, _, _, _, _, _, ok, rfl, rfl⟩ ?_ ?_
    · rintro i d ρ Z hd ⟨c2, s2, s3, s4, s5, s6, s7, s8, s9, s10, s11, s12, ok2, rfl, rfl⟩
      refine ⟨_, rfl, ?_⟩
      refine (sp_lT ok2).mono ?_
      rintro ⟨fl, ρ5, Z5⟩ ⟨h1, c5, s3, s4, s5, s6, s7, s8, s9, s10, s11, s12, ok5, h2⟩
      cases h2
      exact .inl ⟨h1, c5, _, s3, s4, s5, s6, s7, s8, s9, s10, s11, s12, ok5, rfl, rfl⟩
    · rintro ρ Z ⟨c2, s2, s3, s4, s5, s6, s7, s8, s9, s10, s11, s12, ok2, rfl, rfl⟩
      exact ⟨rfl, c2, _, rfl⟩
  refine W_seq (loop.mono ?_)
  rintro ⟨fl, ρ2, Z2⟩ ⟨h1, c2, ρ3, h2⟩
  simp only at h1
  subst h1
  cases h2
  refine ⟨rfl, ?_⟩
  simp
end NS

set_option Elab.async false
set_option linter.all false
set_option maxRecDepth 100000
set_option maxHeartbeats 4000000
namespace NS
open PySem PySem.Spec PyProof.Rows L2 Pd
theorem all_mk {l : PySem.W.OpenLaw} {w : World} {K : PySem.W.Frag} {h : Heap} {mg : Str → Option Value} {fa : Addr} {f0 : Addr} {od0 an0 : Option Addr} {sl0 : Array (Option Value)} {oc0 kV0 dc0 pm0 cd0 ct0 : Value} {f1 : Addr} {od1 an1 : Option Addr} {sl1 : Array (Option Value)} {oc1 kV1 dc1 pm1 cd1 ct1 : Value} {f2 : Addr} {od2 an2 : Option Addr} {sl2 : Array (Option Value)} {oc2 kV2 dc2 pm2 cd2 ct2 : Value} {f3 : Addr} {od3 an3 : Option Addr} {sl3 : Array (Option Value)} {oc3 kV3 dc3 pm3 cd3 ct3 : Value} {f4 : Addr} {od4 an4 : Option Addr} {sl4 : Array (Option Value)} {oc4 kV4 dc4 pm4 cd4 ct4 : Value} {f5 : Addr} {od5 an5 : Option Addr} {sl5 : Array (Option Value)} {oc5 kV5 dc5 pm5 cd5 ct5 : Value} {f6 : Addr} {od6 an6 : Option Addr} {sl6 : Array (Option Value)} {oc6 kV6 dc6 pm6 cd6 ct6 : Value} {f7 : Addr} {od7 an7 : Option Addr} {sl7 : Array (Option Value)} {oc7 kV7 dc7 pm7 cd7 ct7 : Value} {f8 : Addr} {od8 an8 : Option Addr} {sl8 : Array (Option Value)} {oc8 kV8 dc8 pm8 cd8 ct8 : Value} {f9 : Addr} {od9 an9 : Option Addr} {sl9 : Array (Option Value)} {oc9 kV9 dc9 pm9 cd9 ct9 : Value} {f10 : Addr} {od10 an10 : Option Addr} {sl10 : Array (Option Value)} {oc10 kV10 dc10 pm10 cd10 ct10 : Value} {f11 : Addr} {od11 an11 : Option Addr} {sl11 : Array (Option Value)} {oc11 kV11 dc11 pm11 cd11 ct11 : Value} {f12 : Addr} {od12 an12 : Option Addr} {sl12 : Array (Option Value)} {oc12 kV12 dc12 pm12 cd12 ct12 : Value} {f13 : Addr} {od13 an13 : Option Addr} {sl13 : Array (Option Value)} {oc13 kV13 dc13 pm13 cd13 ct13 : Value} {f14 : Addr} {od14 an14 : Option Addr} {sl14 : Array (Option Value)} {oc14 kV14 dc14 pm14 cd14 ct14 : Value} {f15 : Addr} {od15 an15 : Option Addr} {sl15 : Array (Option Value)} {oc15 kV15 dc15 pm15 cd15 ct15 : Value} {f16 : Addr} {od16 an16 : Option Addr} {sl16 : Array (Option Value)} {oc16 kV16 dc16 pm16 cd16 ct16 : Value} {f17 : Addr} {od17 an17 : Option Addr} {sl17 : Array (Option Value)} {oc17 kV17 dc17 pm17 cd17 ct17 : Value} {f18 : Addr} {od18 an18 : Option Addr} {sl18 : Array (Option Value)} {oc18 kV18 dc18 pm18 cd18 ct18 : Value} {f19 : Addr} {od19 an19 : Option Addr} {sl19 : Array (Option Value)} {oc19 kV19 dc19 pm19 cd19 ct19 : Value} {f20 : Addr} {od20 an20 : Option Addr} {sl20 : Array (Option Value)} {oc20 kV20 dc20 pm20 cd20 ct20 : Value} {f21 : Addr} {od21 an21 : Option Addr} {sl21 : Array (Option Value)} {oc21 kV21 dc21 pm21 cd21 ct21 : Value} {f22 : Addr} {od22 an22 : Option Addr} {sl22 : Array (Option Value)} {oc22 kV22 dc22 pm22 cd22 ct22 : Value} {f23 : Addr} {od23 an23 : Option Addr} {sl23 : Array (Option Value)} {oc23 kV23 dc23 pm23 cd23 ct23 : Value} {f24 : Addr} {od24 an24 : Option Addr} {sl24 : Array (Option Value)} {oc24 kV24 dc24 pm24 cd24 ct24 : Value} {f25 : Addr} {od25 an25 : Option Addr} {sl25 : Array (Option Value)} {oc25 kV25 dc25 pm25 cd25 ct25 : Value} {f26 : Addr} {od26 an26 : Option Addr} {sl26 : Array (Option Value)} {oc26 kV26 dc26 pm26 cd26 ct26 : Value} {f27 : Addr} {od27 an27 : Option Addr} {sl27 : Array (Option Value)} {oc27 kV27 dc27 pm27 cd27 ct27 : Value} {f28 : Addr} {od28 an28 : Option Addr} {sl28 : Array (Option Value)} {oc28 kV28 dc28 pm28 cd28 ct28 : Value} {f29 : Addr} {od29 an29 : Option Addr} {sl29 : Array (Option Value)} {oc29 kV29 dc29 pm29 cd29 ct29 : Value} {f30 : Addr} {od30 an30 : Option Addr} {sl30 : Array (Option Value)} {oc30 kV30 dc30 pm30 cd30 ct30 : Value} {f31 : Addr} {od31 an31 : Option Addr} {sl31 : Array (Option Value)} {oc31 kV31 dc31 pm31 cd31 ct31 : Value} {f32 : Addr} {od32 an32 : Option Addr} {sl32 : Array (Option Value)} {oc32 kV32 dc32 pm32 cd32 ct32 : Value} {f33 : Addr} {od33 an33 : Option Addr} {sl33 : Array (Option Value)} {oc33 kV33 dc33 pm33 cd33 ct33 : Value} (X : K.In h) (G : h.Ns mainGlobals mg) (hfa : mg "law" = some (.ref fa))
  (a0 : PySem.W.nsIn K mainGlobals "_law_copied" = some (some (.ref f0))) (l0 : K.lookup f0 = some ⟨oc0, od0, .func (PySem.W.fnOf "_law_copied" "_law_copied" (defArgs s__law_copied) (defBody s__law_copied) (defScope s__law_copied) .none kV0 dc0 pm0 an0 cd0 ct0), sl0⟩) (c0 : PySem.W.codeIn K cd0 "_law_copied" = true) (k0 : PySem.W.keepIn K (.ref f0) = true)
  (a1 : PySem.W.nsIn K mainGlobals "_law_draws" = some (some (.ref f1))) (l1 : K.lookup f1 = some ⟨oc1, od1, .func (PySem.W.fnOf "_law_draws" "_law_draws" (defArgs s__law_draws) (defBody s__law_draws) (defScope s__law_draws) .none kV1 dc1 pm1 an1 cd1 ct1), sl1⟩) (c1 : PySem.W.codeIn K cd1 "_law_draws" = true) (k1 : PySem.W.keepIn K (.ref f1) = true)
  (a2 : PySem.W.nsIn K mainGlobals "_law_better" = some (some (.ref f2))) (l2 : K.lookup f2 = some ⟨oc2, od2, .func (PySem.W.fnOf "_law_better" "_law_better" (defArgs s__law_better) (defBody s__law_better) (defScope s__law_better) .none kV2 dc2 pm2 an2 cd2 ct2), sl2⟩) (c2 : PySem.W.codeIn K cd2 "_law_better" = true) (k2 : PySem.W.keepIn K (.ref f2) = true)
  (a3 : PySem.W.nsIn K mainGlobals "_law_tails" = some (some (.ref f3))) (l3 : K.lookup f3 = some ⟨oc3, od3, .func (PySem.W.fnOf "_law_tails" "_law_tails" (defArgs s__law_tails) (defBody s__law_tails) (defScope s__law_tails) .none kV3 dc3 pm3 an3 cd3 ct3), sl3⟩) (c3 : PySem.W.codeIn K cd3 "_law_tails" = true) (k3 : PySem.W.keepIn K (.ref f3) = true)
  (a4 : PySem.W.nsIn K mainGlobals "_law_arrows" = some (some (.ref f4))) (l4 : K.lookup f4 = some ⟨oc4, od4, .func (PySem.W.fnOf "_law_arrows" "_law_arrows" (defArgs s__law_arrows) (defBody s__law_arrows) (defScope s__law_arrows) .none kV4 dc4 pm4 an4 cd4 ct4), sl4⟩) (c4 : PySem.W.codeIn K cd4 "_law_arrows" = true) (k4 : PySem.W.keepIn K (.ref f4) = true)
  (a5 : PySem.W.nsIn K mainGlobals "_law_paths" = some (some (.ref f5))) (l5 : K.lookup f5 = some ⟨oc5, od5, .func (PySem.W.fnOf "_law_paths" "_law_paths" (defArgs s__law_paths) (defBody s__law_paths) (defScope s__law_paths) .none kV5 dc5 pm5 an5 cd5 ct5), sl5⟩) (c5 : PySem.W.codeIn K cd5 "_law_paths" = true) (k5 : PySem.W.keepIn K (.ref f5) = true)
  (a6 : PySem.W.nsIn K mainGlobals "_law_same" = some (some (.ref f6))) (l6 : K.lookup f6 = some ⟨oc6, od6, .func (PySem.W.fnOf "_law_same" "_law_same" (defArgs s__law_same) (defBody s__law_same) (defScope s__law_same) .none kV6 dc6 pm6 an6 cd6 ct6), sl6⟩) (c6 : PySem.W.codeIn K cd6 "_law_same" = true) (k6 : PySem.W.keepIn K (.ref f6) = true)
  (a7 : PySem.W.nsIn K mainGlobals "_law_within" = some (some (.ref f7))) (l7 : K.lookup f7 = some ⟨oc7, od7, .func (PySem.W.fnOf "_law_within" "_law_within" (defArgs s__law_within) (defBody s__law_within) (defScope s__law_within) .none kV7 dc7 pm7 an7 cd7 ct7), sl7⟩) (c7 : PySem.W.codeIn K cd7 "_law_within" = true) (k7 : PySem.W.keepIn K (.ref f7) = true)
  (a8 : PySem.W.nsIn K mainGlobals "_law_is_order" = some (some (.ref f8))) (l8 : K.lookup f8 = some ⟨oc8, od8, .func (PySem.W.fnOf "_law_is_order" "_law_is_order" (defArgs s__law_is_order) (defBody s__law_is_order) (defScope s__law_is_order) .none kV8 dc8 pm8 an8 cd8 ct8), sl8⟩) (c8 : PySem.W.codeIn K cd8 "_law_is_order" = true) (k8 : PySem.W.keepIn K (.ref f8) = true)
  (a9 : PySem.W.nsIn K mainGlobals "_law_is_wheel" = some (some (.ref f9))) (l9 : K.lookup f9 = some ⟨oc9, od9, .func (PySem.W.fnOf "_law_is_wheel" "_law_is_wheel" (defArgs s__law_is_wheel) (defBody s__law_is_wheel) (defScope s__law_is_wheel) .none kV9 dc9 pm9 an9 cd9 ct9), sl9⟩) (c9 : PySem.W.codeIn K cd9 "_law_is_wheel" = true) (k9 : PySem.W.keepIn K (.ref f9) = true)
  (a10 : PySem.W.nsIn K mainGlobals "_law_next" = some (some (.ref f10))) (l10 : K.lookup f10 = some ⟨oc10, od10, .func (PySem.W.fnOf "_law_next" "_law_next" (defArgs s__law_next) (defBody s__law_next) (defScope s__law_next) .none kV10 dc10 pm10 an10 cd10 ct10), sl10⟩) (c10 : PySem.W.codeIn K cd10 "_law_next" = true) (k10 : PySem.W.keepIn K (.ref f10) = true)
  (a11 : PySem.W.nsIn K mainGlobals "_law_order" = some (some (.ref f11))) (l11 : K.lookup f11 = some ⟨oc11, od11, .func (PySem.W.fnOf "_law_order" "_law_order" (defArgs s__law_order) (defBody s__law_order) (defScope s__law_order) .none kV11 dc11 pm11 an11 cd11 ct11), sl11⟩) (c11 : PySem.W.codeIn K cd11 "_law_order" = true) (k11 : PySem.W.keepIn K (.ref f11) = true)
  (a12 : PySem.W.nsIn K mainGlobals "_law_pick" = some (some (.ref f12))) (l12 : K.lookup f12 = some ⟨oc12, od12, .func (PySem.W.fnOf "_law_pick" "_law_pick" (defArgs s__law_pick) (defBody s__law_pick) (defScope s__law_pick) .none kV12 dc12 pm12 an12 cd12 ct12), sl12⟩) (c12 : PySem.W.codeIn K cd12 "_law_pick" = true) (k12 : PySem.W.keepIn K (.ref f12) = true)
  (a13 : PySem.W.nsIn K mainGlobals "_law_mixed" = some (some (.ref f13))) (l13 : K.lookup f13 = some ⟨oc13, od13, .func (PySem.W.fnOf "_law_mixed" "_law_mixed" (defArgs s__law_mixed) (defBody s__law_mixed) (defScope s__law_mixed) .none kV13 dc13 pm13 an13 cd13 ct13), sl13⟩) (c13 : PySem.W.codeIn K cd13 "_law_mixed" = true) (k13 : PySem.W.keepIn K (.ref f13) = true)
  (a14 : PySem.W.nsIn K mainGlobals "_law_rows" = some (some (.ref f14))) (l14 : K.lookup f14 = some ⟨oc14, od14, .func (PySem.W.fnOf "_law_rows" "_law_rows" (defArgs s__law_rows) (defBody s__law_rows) (defScope s__law_rows) .none kV14 dc14 pm14 an14 cd14 ct14), sl14⟩) (c14 : PySem.W.codeIn K cd14 "_law_rows" = true) (k14 : PySem.W.keepIn K (.ref f14) = true)
  (a15 : PySem.W.nsIn K mainGlobals "_law_links" = some (some (.ref f15))) (l15 : K.lookup f15 = some ⟨oc15, od15, .func (PySem.W.fnOf "_law_links" "_law_links" (defArgs s__law_links) (defBody s__law_links) (defScope s__law_links) .none kV15 dc15 pm15 an15 cd15 ct15), sl15⟩) (c15 : PySem.W.codeIn K cd15 "_law_links" = true) (k15 : PySem.W.keepIn K (.ref f15) = true)
  (a16 : PySem.W.nsIn K mainGlobals "_law_names" = some (some (.ref f16))) (l16 : K.lookup f16 = some ⟨oc16, od16, .func (PySem.W.fnOf "_law_names" "_law_names" (defArgs s__law_names) (defBody s__law_names) (defScope s__law_names) .none kV16 dc16 pm16 an16 cd16 ct16), sl16⟩) (c16 : PySem.W.codeIn K cd16 "_law_names" = true) (k16 : PySem.W.keepIn K (.ref f16) = true)
  (a17 : PySem.W.nsIn K mainGlobals "_law_book" = some (some (.ref f17))) (l17 : K.lookup f17 = some ⟨oc17, od17, .func (PySem.W.fnOf "_law_book" "_law_book" (defArgs s__law_book) (defBody s__law_book) (defScope s__law_book) .none kV17 dc17 pm17 an17 cd17 ct17), sl17⟩) (c17 : PySem.W.codeIn K cd17 "_law_book" = true) (k17 : PySem.W.keepIn K (.ref f17) = true)
  (a18 : PySem.W.nsIn K mainGlobals "_law_small_book" = some (some (.ref f18))) (l18 : K.lookup f18 = some ⟨oc18, od18, .func (PySem.W.fnOf "_law_small_book" "_law_small_book" (defArgs s__law_small_book) (defBody s__law_small_book) (defScope s__law_small_book) .none kV18 dc18 pm18 an18 cd18 ct18), sl18⟩) (c18 : PySem.W.codeIn K cd18 "_law_small_book" = true) (k18 : PySem.W.keepIn K (.ref f18) = true)
  (a19 : PySem.W.nsIn K mainGlobals "_law_at" = some (some (.ref f19))) (l19 : K.lookup f19 = some ⟨oc19, od19, .func (PySem.W.fnOf "_law_at" "_law_at" (defArgs s__law_at) (defBody s__law_at) (defScope s__law_at) .none kV19 dc19 pm19 an19 cd19 ct19), sl19⟩) (c19 : PySem.W.codeIn K cd19 "_law_at" = true) (k19 : PySem.W.keepIn K (.ref f19) = true)
  (a20 : PySem.W.nsIn K mainGlobals "_law_put_at" = some (some (.ref f20))) (l20 : K.lookup f20 = some ⟨oc20, od20, .func (PySem.W.fnOf "_law_put_at" "_law_put_at" (defArgs s__law_put_at) (defBody s__law_put_at) (defScope s__law_put_at) .none kV20 dc20 pm20 an20 cd20 ct20), sl20⟩) (c20 : PySem.W.codeIn K cd20 "_law_put_at" = true) (k20 : PySem.W.keepIn K (.ref f20) = true)
  (a21 : PySem.W.nsIn K mainGlobals "_law_spots" = some (some (.ref f21))) (l21 : K.lookup f21 = some ⟨oc21, od21, .func (PySem.W.fnOf "_law_spots" "_law_spots" (defArgs s__law_spots) (defBody s__law_spots) (defScope s__law_spots) .none kV21 dc21 pm21 an21 cd21 ct21), sl21⟩) (c21 : PySem.W.codeIn K cd21 "_law_spots" = true) (k21 : PySem.W.keepIn K (.ref f21) = true)
  (a22 : PySem.W.nsIn K mainGlobals "_law_spoilt" = some (some (.ref f22))) (l22 : K.lookup f22 = some ⟨oc22, od22, .func (PySem.W.fnOf "_law_spoilt" "_law_spoilt" (defArgs s__law_spoilt) (defBody s__law_spoilt) (defScope s__law_spoilt) .none kV22 dc22 pm22 an22 cd22 ct22), sl22⟩) (c22 : PySem.W.codeIn K cd22 "_law_spoilt" = true) (k22 : PySem.W.keepIn K (.ref f22) = true)
  (a23 : PySem.W.nsIn K mainGlobals "_law_walks" = some (some (.ref f23))) (l23 : K.lookup f23 = some ⟨oc23, od23, .func (PySem.W.fnOf "_law_walks" "_law_walks" (defArgs s__law_walks) (defBody s__law_walks) (defScope s__law_walks) .none kV23 dc23 pm23 an23 cd23 ct23), sl23⟩) (c23 : PySem.W.codeIn K cd23 "_law_walks" = true) (k23 : PySem.W.keepIn K (.ref f23) = true)
  (a24 : PySem.W.nsIn K mainGlobals "rank_of" = some (some (.ref f24))) (l24 : K.lookup f24 = some ⟨oc24, od24, .func (PySem.W.fnOf "rank_of" "rank_of" (defArgs s_rank_of) (defBody s_rank_of) (defScope s_rank_of) .none kV24 dc24 pm24 an24 cd24 ct24), sl24⟩) (c24 : PySem.W.codeIn K cd24 "rank_of" = true) (k24 : PySem.W.keepIn K (.ref f24) = true)
  (a25 : PySem.W.nsIn K mainGlobals "better_ones" = some (some (.ref f25))) (l25 : K.lookup f25 = some ⟨oc25, od25, .func (PySem.W.fnOf "better_ones" "better_ones" (defArgs s_better_ones) (defBody s_better_ones) (defScope s_better_ones) .none kV25 dc25 pm25 an25 cd25 ct25), sl25⟩) (c25 : PySem.W.codeIn K cd25 "better_ones" = true) (k25 : PySem.W.keepIn K (.ref f25) = true)
  (a26 : PySem.W.nsIn K mainGlobals "tails_of" = some (some (.ref f26))) (l26 : K.lookup f26 = some ⟨oc26, od26, .func (PySem.W.fnOf "tails_of" "tails_of" (defArgs s_tails_of) (defBody s_tails_of) (defScope s_tails_of) .none kV26 dc26 pm26 an26 cd26 ct26), sl26⟩) (c26 : PySem.W.codeIn K cd26 "tails_of" = true) (k26 : PySem.W.keepIn K (.ref f26) = true)
  (a27 : PySem.W.nsIn K mainGlobals "arrows" = some (some (.ref f27))) (l27 : K.lookup f27 = some ⟨oc27, od27, .func (PySem.W.fnOf "arrows" "arrows" (defArgs s_arrows) (defBody s_arrows) (defScope s_arrows) .none kV27 dc27 pm27 an27 cd27 ct27), sl27⟩) (c27 : PySem.W.codeIn K cd27 "arrows" = true) (k27 : PySem.W.keepIn K (.ref f27) = true)
  (a28 : PySem.W.nsIn K mainGlobals "is_path_of" = some (some (.ref f28))) (l28 : K.lookup f28 = some ⟨oc28, od28, .func (PySem.W.fnOf "is_path_of" "is_path_of" (defArgs s_is_path_of) (defBody s_is_path_of) (defScope s_is_path_of) .none kV28 dc28 pm28 an28 cd28 ct28), sl28⟩) (c28 : PySem.W.codeIn K cd28 "is_path_of" = true) (k28 : PySem.W.keepIn K (.ref f28) = true)
  (a29 : PySem.W.nsIn K mainGlobals "paths_of" = some (some (.ref f29))) (l29 : K.lookup f29 = some ⟨oc29, od29, .func (PySem.W.fnOf "paths_of" "paths_of" (defArgs s_paths_of) (defBody s_paths_of) (defScope s_paths_of) .none kV29 dc29 pm29 an29 cd29 ct29), sl29⟩) (c29 : PySem.W.codeIn K cd29 "paths_of" = true) (k29 : PySem.W.keepIn K (.ref f29) = true)
  (a30 : PySem.W.nsIn K mainGlobals "order_right" = some (some (.ref f30))) (l30 : K.lookup f30 = some ⟨oc30, od30, .func (PySem.W.fnOf "order_right" "order_right" (defArgs s_order_right) (defBody s_order_right) (defScope s_order_right) .none kV30 dc30 pm30 an30 cd30 ct30), sl30⟩) (c30 : PySem.W.codeIn K cd30 "order_right" = true) (k30 : PySem.W.keepIn K (.ref f30) = true)
  (a31 : PySem.W.nsIn K mainGlobals "is_spoke_and_rim" = some (some (.ref f31))) (l31 : K.lookup f31 = some ⟨oc31, od31, .func (PySem.W.fnOf "is_spoke_and_rim" "is_spoke_and_rim" (defArgs s_is_spoke_and_rim) (defBody s_is_spoke_and_rim) (defScope s_is_spoke_and_rim) .none kV31 dc31 pm31 an31 cd31 ct31), sl31⟩) (c31 : PySem.W.codeIn K cd31 "is_spoke_and_rim" = true) (k31 : PySem.W.keepIn K (.ref f31) = true)
  (a32 : PySem.W.nsIn K mainGlobals "wheel_right" = some (some (.ref f32))) (l32 : K.lookup f32 = some ⟨oc32, od32, .func (PySem.W.fnOf "wheel_right" "wheel_right" (defArgs s_wheel_right) (defBody s_wheel_right) (defScope s_wheel_right) .none kV32 dc32 pm32 an32 cd32 ct32), sl32⟩) (c32 : PySem.W.codeIn K cd32 "wheel_right" = true) (k32 : PySem.W.keepIn K (.ref f32) = true)
  (a33 : PySem.W.nsIn K mainGlobals "law" = some (some (.ref f33))) (l33 : K.lookup f33 = some ⟨oc33, od33, .func (PySem.W.fnOf "law" "law" (defArgs s_law) (defBody s_law) (defScope s_law) .none kV33 dc33 pm33 an33 cd33 ct33), sl33⟩) (c33 : PySem.W.codeIn K cd33 "law" = true) (k33 : PySem.W.keepIn K (.ref f33) = true)
  (z0 : PySem.W.nsIn K mainGlobals "all" = some none)
  (z1 : PySem.W.nsIn K mainGlobals "any" = some none)
  (z2 : PySem.W.nsIn K mainGlobals "bool" = some none)
  (z3 : PySem.W.nsIn K mainGlobals "dict" = some none)
  (z4 : PySem.W.nsIn K mainGlobals "int" = some none)
  (z5 : PySem.W.nsIn K mainGlobals "isinstance" = some none)
  (z6 : PySem.W.nsIn K mainGlobals "len" = some none)
  (z7 : PySem.W.nsIn K mainGlobals "list" = some none)
  (z8 : PySem.W.nsIn K mainGlobals "range" = some none)
  (z9 : PySem.W.nsIn K mainGlobals "sorted" = some none)
  (z10 : PySem.W.nsIn K mainGlobals "str" = some none)
  (z11 : PySem.W.nsIn K mainGlobals "tuple" = some none) :
    ∃ fd : FuncData, (∀ (s : Shared) (v : Value), BindsTo s fd ⟨[v], []⟩ [("script", v)]) ∧ ∀ base : Heap, K.In base → base.Ns mainGlobals mg → FnOk l.prog w K mg base CX0 43 fa fd ["script"] (spM K m_law 1) := by
  have e := hfa.symm.trans (PySem.W.mg_of X G a33)
  cases e
  let T : Txt K mg := {
    a__law_copied := f0, d__law_copied := _, F__law_copied := fun_mk (st := s__law_copied) l0 c0 k0, m__law_copied := PySem.W.mg_of X G a0, b__law_copied := (fun_mk (st := s__law_copied) l0 c0 k0).binds (ps := ["value"]) (fun _ _ _ _ _ _ us hl => (match us, hl with | [_], _ => rfl)),
    a__law_draws := f1, d__law_draws := _, F__law_draws := fun_mk (st := s__law_draws) l1 c1 k1, m__law_draws := PySem.W.mg_of X G a1, b__law_draws := (fun_mk (st := s__law_draws) l1 c1 k1).binds (ps := ["cells"]) (fun _ _ _ _ _ _ us hl => (match us, hl with | [_], _ => rfl)),
    a__law_better := f2, d__law_better := _, F__law_better := fun_mk (st := s__law_better) l2 c2 k2, m__law_better := PySem.W.mg_of X G a2, b__law_better := (fun_mk (st := s__law_better) l2 c2 k2).binds (ps := ["book", "path"]) (fun _ _ _ _ _ _ us hl => (match us, hl with | [_, _], _ => rfl)),
    a__law_tails := f3, d__law_tails := _, F__law_tails := fun_mk (st := s__law_tails) l3 c3 k3, m__law_tails := PySem.W.mg_of X G a3, b__law_tails := (fun_mk (st := s__law_tails) l3 c3 k3).binds (ps := ["path"]) (fun _ _ _ _ _ _ us hl => (match us, hl with | [_], _ => rfl)),
    a__law_arrows := f4, d__law_arrows := _, F__law_arrows := fun_mk (st := s__law_arrows) l4 c4 k4, m__law_arrows := PySem.W.mg_of X G a4, b__law_arrows := (fun_mk (st := s__law_arrows) l4 c4 k4).binds (ps := ["book", "path"]) (fun _ _ _ _ _ _ us hl => (match us, hl with | [_, _], _ => rfl)),
    a__law_paths := f5, d__law_paths := _, F__law_paths := fun_mk (st := s__law_paths) l5 c5 k5, m__law_paths := PySem.W.mg_of X G a5, b__law_paths := (fun_mk (st := s__law_paths) l5 c5 k5).binds (ps := ["book"]) (fun _ _ _ _ _ _ us hl => (match us, hl with | [_], _ => rfl)),
    a__law_same := f6, d__law_same := _, F__law_same := fun_mk (st := s__law_same) l6 c6 k6, m__law_same := PySem.W.mg_of X G a6, b__law_same := (fun_mk (st := s__law_same) l6 c6 k6).binds (ps := ["one", "other"]) (fun _ _ _ _ _ _ us hl => (match us, hl with | [_, _], _ => rfl)),
    a__law_within := f7, d__law_within := _, F__law_within := fun_mk (st := s__law_within) l7 c7 k7, m__law_within := PySem.W.mg_of X G a7, b__law_within := (fun_mk (st := s__law_within) l7 c7 k7).binds (ps := ["thing", "things"]) (fun _ _ _ _ _ _ us hl => (match us, hl with | [_, _], _ => rfl)),
    a__law_is_order := f8, d__law_is_order := _, F__law_is_order := fun_mk (st := s__law_is_order) l8 c8 k8, m__law_is_order := PySem.W.mg_of X G a8, b__law_is_order := (fun_mk (st := s__law_is_order) l8 c8 k8).binds (ps := ["book", "order"]) (fun _ _ _ _ _ _ us hl => (match us, hl with | [_, _], _ => rfl)),
    a__law_is_wheel := f9, d__law_is_wheel := _, F__law_is_wheel := fun_mk (st := s__law_is_wheel) l9 c9 k9, m__law_is_wheel := PySem.W.mg_of X G a9, b__law_is_wheel := (fun_mk (st := s__law_is_wheel) l9 c9 k9).binds (ps := ["book", "wheel"]) (fun _ _ _ _ _ _ us hl => (match us, hl with | [_, _], _ => rfl)),
    a__law_next := f10, d__law_next := _, F__law_next := fun_mk (st := s__law_next) l10 c10 k10, m__law_next := PySem.W.mg_of X G a10, b__law_next := (fun_mk (st := s__law_next) l10 c10 k10).binds (ps := ["state", "bound"]) (fun _ _ _ _ _ _ us hl => (match us, hl with | [_, _], _ => rfl)),
    a__law_order := f11, d__law_order := _, F__law_order := fun_mk (st := s__law_order) l11 c11 k11, m__law_order := PySem.W.mg_of X G a11, b__law_order := (fun_mk (st := s__law_order) l11 c11 k11).binds (ps := ["book"]) (fun _ _ _ _ _ _ us hl => (match us, hl with | [_], _ => rfl)),
    a__law_pick := f12, d__law_pick := _, F__law_pick := fun_mk (st := s__law_pick) l12 c12 k12, m__law_pick := PySem.W.mg_of X G a12, b__law_pick := (fun_mk (st := s__law_pick) l12 c12 k12).binds (ps := ["state", "things"]) (fun _ _ _ _ _ _ us hl => (match us, hl with | [_, _], _ => rfl)),
    a__law_mixed := f13, d__law_mixed := _, F__law_mixed := fun_mk (st := s__law_mixed) l13 c13 k13, m__law_mixed := PySem.W.mg_of X G a13, b__law_mixed := (fun_mk (st := s__law_mixed) l13 c13 k13).binds (ps := ["state", "things"]) (fun _ _ _ _ _ _ us hl => (match us, hl with | [_, _], _ => rfl)),
    a__law_rows := f14, d__law_rows := _, F__law_rows := fun_mk (st := s__law_rows) l14 c14 k14, m__law_rows := PySem.W.mg_of X G a14, b__law_rows := (fun_mk (st := s__law_rows) l14 c14 k14).binds (ps := ["state", "book"]) (fun _ _ _ _ _ _ us hl => (match us, hl with | [_, _], _ => rfl)),
    a__law_links := f15, d__law_links := _, F__law_links := fun_mk (st := s__law_links) l15 c15 k15, m__law_links := PySem.W.mg_of X G a15, b__law_links := (fun_mk (st := s__law_links) l15 c15 k15).binds (ps := ["state", "names"]) (fun _ _ _ _ _ _ us hl => (match us, hl with | [_, _], _ => rfl)),
    a__law_names := f16, d__law_names := _, F__law_names := fun_mk (st := s__law_names) l16 c16 k16, m__law_names := PySem.W.mg_of X G a16, b__law_names := (fun_mk (st := s__law_names) l16 c16 k16).binds (ps := ["state", "many"]) (fun _ _ _ _ _ _ us hl => (match us, hl with | [_, _], _ => rfl)),
    a__law_book := f17, d__law_book := _, F__law_book := fun_mk (st := s__law_book) l17 c17 k17, m__law_book := PySem.W.mg_of X G a17, b__law_book := (fun_mk (st := s__law_book) l17 c17 k17).binds (ps := ["state", "many", "owners", "most"]) (fun _ _ _ _ _ _ us hl => (match us, hl with | [_, _, _, _], _ => rfl)),
    a__law_small_book := f18, d__law_small_book := _, F__law_small_book := fun_mk (st := s__law_small_book) l18 c18 k18, m__law_small_book := PySem.W.mg_of X G a18, b__law_small_book := (fun_mk (st := s__law_small_book) l18 c18 k18).binds (ps := ["state"]) (fun _ _ _ _ _ _ us hl => (match us, hl with | [_], _ => rfl)),
    a__law_at := f19, d__law_at := _, F__law_at := fun_mk (st := s__law_at) l19 c19 k19, m__law_at := PySem.W.mg_of X G a19, b__law_at := (fun_mk (st := s__law_at) l19 c19 k19).binds (ps := ["thing", "spot"]) (fun _ _ _ _ _ _ us hl => (match us, hl with | [_, _], _ => rfl)),
    a__law_put_at := f20, d__law_put_at := _, F__law_put_at := fun_mk (st := s__law_put_at) l20 c20 k20, m__law_put_at := PySem.W.mg_of X G a20, b__law_put_at := (fun_mk (st := s__law_put_at) l20 c20 k20).binds (ps := ["thing", "spot", "new"]) (fun _ _ _ _ _ _ us hl => (match us, hl with | [_, _, _], _ => rfl)),
    a__law_spots := f21, d__law_spots := _, F__law_spots := fun_mk (st := s__law_spots) l21 c21 k21, m__law_spots := PySem.W.mg_of X G a21, b__law_spots := (fun_mk (st := s__law_spots) l21 c21 k21).binds (ps := ["tree"]) (fun _ _ _ _ _ _ us hl => (match us, hl with | [_], _ => rfl)),
    a__law_spoilt := f22, d__law_spoilt := _, F__law_spoilt := fun_mk (st := s__law_spoilt) l22 c22 k22, m__law_spoilt := PySem.W.mg_of X G a22, b__law_spoilt := (fun_mk (st := s__law_spoilt) l22 c22 k22).binds (ps := ["state", "thing", "pool"]) (fun _ _ _ _ _ _ us hl => (match us, hl with | [_, _, _], _ => rfl)),
    a__law_walks := f23, d__law_walks := _, F__law_walks := fun_mk (st := s__law_walks) l23 c23 k23, m__law_walks := PySem.W.mg_of X G a23, b__law_walks := (fun_mk (st := s__law_walks) l23 c23 k23).binds (ps := ["book"]) (fun _ _ _ _ _ _ us hl => (match us, hl with | [_], _ => rfl)),
    a_rank_of := f24, d_rank_of := _, F_rank_of := fun_mk (st := s_rank_of) l24 c24 k24, m_rank_of := PySem.W.mg_of X G a24, b_rank_of := (fun_mk (st := s_rank_of) l24 c24 k24).binds (ps := ["book", "path"]) (fun _ _ _ _ _ _ us hl => (match us, hl with | [_, _], _ => rfl)),
    a_better_ones := f25, d_better_ones := _, F_better_ones := fun_mk (st := s_better_ones) l25 c25 k25, m_better_ones := PySem.W.mg_of X G a25, b_better_ones := (fun_mk (st := s_better_ones) l25 c25 k25).binds (ps := ["book", "path"]) (fun _ _ _ _ _ _ us hl => (match us, hl with | [_, _], _ => rfl)),
    a_tails_of := f26, d_tails_of := _, F_tails_of := fun_mk (st := s_tails_of) l26 c26 k26, m_tails_of := PySem.W.mg_of X G a26, b_tails_of := (fun_mk (st := s_tails_of) l26 c26 k26).binds (ps := ["path"]) (fun _ _ _ _ _ _ us hl => (match us, hl with | [_], _ => rfl)),
    a_arrows := f27, d_arrows := _, F_arrows := fun_mk (st := s_arrows) l27 c27 k27, m_arrows := PySem.W.mg_of X G a27, b_arrows := (fun_mk (st := s_arrows) l27 c27 k27).binds (ps := ["book", "path"]) (fun _ _ _ _ _ _ us hl => (match us, hl with | [_, _], _ => rfl)),
    a_is_path_of := f28, d_is_path_of := _, F_is_path_of := fun_mk (st := s_is_path_of) l28 c28 k28, m_is_path_of := PySem.W.mg_of X G a28, b_is_path_of := (fun_mk (st := s_is_path_of) l28 c28 k28).binds (ps := ["book", "thing"]) (fun _ _ _ _ _ _ us hl => (match us, hl with | [_, _], _ => rfl)),
    a_paths_of := f29, d_paths_of := _, F_paths_of := fun_mk (st := s_paths_of) l29 c29 k29, m_paths_of := PySem.W.mg_of X G a29, b_paths_of := (fun_mk (st := s_paths_of) l29 c29 k29).binds (ps := ["book"]) (fun _ _ _ _ _ _ us hl => (match us, hl with | [_], _ => rfl)),
    a_order_right := f30, d_order_right := _, F_order_right := fun_mk (st := s_order_right) l30 c30 k30, m_order_right := PySem.W.mg_of X G a30, b_order_right := (fun_mk (st := s_order_right) l30 c30 k30).binds (ps := ["book", "order"]) (fun _ _ _ _ _ _ us hl => (match us, hl with | [_, _], _ => rfl)),
    a_is_spoke_and_rim := f31, d_is_spoke_and_rim := _, F_is_spoke_and_rim := fun_mk (st := s_is_spoke_and_rim) l31 c31 k31, m_is_spoke_and_rim := PySem.W.mg_of X G a31, b_is_spoke_and_rim := (fun_mk (st := s_is_spoke_and_rim) l31 c31 k31).binds (ps := ["book", "pair"]) (fun _ _ _ _ _ _ us hl => (match us, hl with | [_, _], _ => rfl)),
    a_wheel_right := f32, d_wheel_right := _, F_wheel_right := fun_mk (st := s_wheel_right) l32 c32 k32, m_wheel_right := PySem.W.mg_of X G a32, b_wheel_right := (fun_mk (st := s_wheel_right) l32 c32 k32).binds (ps := ["book", "wheel"]) (fun _ _ _ _ _ _ us hl => (match us, hl with | [_, _], _ => rfl)),
    a_law := fa, d_law := _, F_law := fun_mk (st := s_law) l33 c33 k33, m_law := PySem.W.mg_of X G a33, b_law := (fun_mk (st := s_law) l33 c33 k33).binds (ps := ["script"]) (fun _ _ _ _ _ _ us hl => (match us, hl with | [_], _ => rfl)),
    z_all := PySem.W.mg_none_of X G z0,
    z_any := PySem.W.mg_none_of X G z1,
    z_bool := PySem.W.mg_none_of X G z2,
    z_dict := PySem.W.mg_none_of X G z3,
    z_int := PySem.W.mg_none_of X G z4,
    z_isinstance := PySem.W.mg_none_of X G z5,
    z_len := PySem.W.mg_none_of X G z6,
    z_list := PySem.W.mg_none_of X G z7,
    z_range := PySem.W.mg_none_of X G z8,
    z_sorted := PySem.W.mg_none_of X G z9,
    z_str := PySem.W.mg_none_of X G z10,
    z_tuple := PySem.W.mg_none_of X G z11 }
  refine ⟨PySem.W.fnOf "law" "law" (defArgs s_law) (defBody s_law) (defScope s_law) .none kV33 dc33 pm33 an33 cd33 ct33, fun s v => .of_eq rfl, fun base _ _ => ?_⟩
  have G__law_copied := ok__law_copied (P := l.prog) (w := w) (base := base) T  40
  have G__law_draws := ok__law_draws (P := l.prog) (w := w) (base := base) T  
  have G__law_better := ok__law_better (P := l.prog) (w := w) (base := base) T  
  have G__law_tails := ok__law_tails (P := l.prog) (w := w) (base := base) T  
  have G__law_arrows := ok__law_arrows (P := l.prog) (w := w) (base := base) T G__law_better G__law_tails 
  have G__law_paths := ok__law_paths (P := l.prog) (w := w) (base := base) T  
  have G__law_same := ok__law_same (P := l.prog) (w := w) (base := base) T  40
  have G__law_within := ok__law_within (P := l.prog) (w := w) (base := base) T G__law_same 
  have G__law_is_order := ok__law_is_order (P := l.prog) (w := w) (base := base) T G__law_arrows G__law_paths G__law_within 
  have G__law_is_wheel := ok__law_is_wheel (P := l.prog) (w := w) (base := base) T G__law_better G__law_paths G__law_tails G__law_within 
  have G__law_next := ok__law_next (P := l.prog) (w := w) (base := base) T  
  have G__law_order := ok__law_order (P := l.prog) (w := w) (base := base) T G__law_arrows G__law_paths 
  have G__law_pick := ok__law_pick (P := l.prog) (w := w) (base := base) T G__law_next 
  have G__law_mixed := ok__law_mixed (P := l.prog) (w := w) (base := base) T G__law_next 
  have G__law_rows := ok__law_rows (P := l.prog) (w := w) (base := base) T G__law_mixed G__law_next G__law_order G__law_paths G__law_pick 
  have G__law_links := ok__law_links (P := l.prog) (w := w) (base := base) T G__law_next 
  have G__law_names := ok__law_names (P := l.prog) (w := w) (base := base) T G__law_mixed G__law_next G__law_pick 
  have G__law_book := ok__law_book (P := l.prog) (w := w) (base := base) T G__law_links G__law_mixed G__law_names G__law_next 
  have G__law_small_book := ok__law_small_book (P := l.prog) (w := w) (base := base) T G__law_book G__law_next 
  have G__law_at := ok__law_at (P := l.prog) (w := w) (base := base) T  
  have G__law_put_at := ok__law_put_at (P := l.prog) (w := w) (base := base) T  40
  have G__law_spots := ok__law_spots (P := l.prog) (w := w) (base := base) T  40
  have G__law_spoilt := ok__law_spoilt (P := l.prog) (w := w) (base := base) T G__law_at G__law_next G__law_pick G__law_put_at G__law_spots 
  have G__law_walks := ok__law_walks (P := l.prog) (w := w) (base := base) T G__law_better G__law_paths G__law_tails 
  have G_rank_of := ok_rank_of (P := l.prog) (w := w) (base := base) T  
  have G_better_ones := ok_better_ones (P := l.prog) (w := w) (base := base) T G_rank_of 
  have G_tails_of := ok_tails_of (P := l.prog) (w := w) (base := base) T  
  have G_arrows := ok_arrows (P := l.prog) (w := w) (base := base) T G_better_ones G_tails_of 
  have G_is_path_of := ok_is_path_of (P := l.prog) (w := w) (base := base) T  
  have G_paths_of := ok_paths_of (P := l.prog) (w := w) (base := base) T  
  have G_order_right := ok_order_right (P := l.prog) (w := w) (base := base) T G_arrows G_is_path_of G_paths_of 
  have G_is_spoke_and_rim := ok_is_spoke_and_rim (P := l.prog) (w := w) (base := base) T G_is_path_of G_rank_of 
  have G_wheel_right := ok_wheel_right (P := l.prog) (w := w) (base := base) T G_is_spoke_and_rim G_tails_of 
  have G_law := ok_law (P := l.prog) (w := w) (base := base) T G__law_copied G__law_draws G__law_is_order G__law_is_wheel G__law_next G__law_order G__law_paths G__law_pick G__law_rows G__law_same G__law_small_book G__law_spoilt G__law_walks G_order_right G_wheel_right 
  exact G_law
end NS

set_option Elab.async false
set_option linter.all false
set_option maxRecDepth 100000
set_option maxHeartbeats 4000000
open PySem PySem.W PyProof.Rows
set_option maxHeartbeats 0 in
theorem PySem.Challenge.cw_routesrest_k31_orders_and_wheels_bent_holds : PySem.Challenge.rw_routesrest_k31_orders_and_wheels_bent.Holds := by
  w_on; o_law; k_head; (case hw => w_witness2)
  k_fill
  refine L2.walk_of (l := PySem.Challenge.rw_routesrest_k31_orders_and_wheels_bent) (n := 63) (k := 43) (x := "script") (CX := fun _ => L2.CX0) (sp := fun w => Pd.spM _ NS.m_law 1) rfl (by decide) rfl ⟨rfl, by decide, by decide⟩ (fun w h Y => PySem.W.kIn_of Y) ?F (fun _ _ a ns hl hO hS => Pd.law_of (NS.law_true ns hl) hO hS) (fun _ _ _ _ _ h => h)
  case F =>
    intro w mg fa h KX G hmg
    refine' NS.all_mk KX G hmg ?a0 ?l0 ?c0 ?k0 ?a1 ?l1 ?c1 ?k1 ?a2 ?l2 ?c2 ?k2 ?a3 ?l3 ?c3 ?k3 ?a4 ?l4 ?c4 ?k4 ?a5 ?l5 ?c5 ?k5 ?a6 ?l6 ?c6 ?k6 ?a7 ?l7 ?c7 ?k7 ?a8 ?l8 ?c8 ?k8 ?a9 ?l9 ?c9 ?k9 ?a10 ?l10 ?c10 ?k10 ?a11 ?l11 ?c11 ?k11 ?a12 ?l12 ?c12 ?k12 ?a13 ?l13 ?c13 ?k13 ?a14 ?l14 ?c14 ?k14 ?a15 ?l15 ?c15 ?k15 ?a16 ?l16 ?c16 ?k16 ?a17 ?l17 ?c17 ?k17 ?a18 ?l18 ?c18 ?k18 ?a19 ?l19 ?c19 ?k19 ?a20 ?l20 ?c20 ?k20 ?a21 ?l21 ?c21 ?k21 ?a22 ?l22 ?c22 ?k22 ?a23 ?l23 ?c23 ?k23 ?a24 ?l24 ?c24 ?k24 ?a25 ?l25 ?c25 ?k25 ?a26 ?l26 ?c26 ?k26 ?a27 ?l27 ?c27 ?k27 ?a28 ?l28 ?c28 ?k28 ?a29 ?l29 ?c29 ?k29 ?a30 ?l30 ?c30 ?k30 ?a31 ?l31 ?c31 ?k31 ?a32 ?l32 ?c32 ?k32 ?a33 ?l33 ?c33 ?k33 ?z0 ?z1 ?z2 ?z3 ?z4 ?z5 ?z6 ?z7 ?z8 ?z9 ?z10 ?z11
    (case a0 => k_is); (case l0 => k_is); (case c0 => k_is); (case k0 => k_is); (case a1 => k_is); (case l1 => k_is); (case c1 => k_is); (case k1 => k_is); (case a2 => k_is); (case l2 => k_is); (case c2 => k_is); (case k2 => k_is); (case a3 => k_is); (case l3 => k_is); (case c3 => k_is); (case k3 => k_is); (case a4 => k_is); (case l4 => k_is); (case c4 => k_is); (case k4 => k_is); (case a5 => k_is); (case l5 => k_is); (case c5 => k_is); (case k5 => k_is); (case a6 => k_is); (case l6 => k_is); (case c6 => k_is); (case k6 => k_is); (case a7 => k_is); (case l7 => k_is); (case c7 => k_is); (case k7 => k_is); (case a8 => k_is); (case l8 => k_is); (case c8 => k_is); (case k8 => k_is); (case a9 => k_is); (case l9 => k_is); (case c9 => k_is); (case k9 => k_is); (case a10 => k_is); (case l10 => k_is); (case c10 => k_is); (case k10 => k_is); (case a11 => k_is); (case l11 => k_is); (case c11 => k_is); (case k11 => k_is); (case a12 => k_is); (case l12 => k_is); (case c12 => k_is); (case k12 => k_is); (case a13 => k_is); (case l13 => k_is); (case c13 => k_is); (case k13 => k_is); (case a14 => k_is); (case l14 => k_is); (case c14 => k_is); (case k14 => k_is); (case a15 => k_is); (case l15 => k_is); (case c15 => k_is); (case k15 => k_is); (case a16 => k_is); (case l16 => k_is); (case c16 => k_is); (case k16 => k_is); (case a17 => k_is); (case l17 => k_is); (case c17 => k_is); (case k17 => k_is); (case a18 => k_is); (case l18 => k_is); (case c18 => k_is); (case k18 => k_is); (case a19 => k_is); (case l19 => k_is); (case c19 => k_is); (case k19 => k_is); (case a20 => k_is); (case l20 => k_is); (case c20 => k_is); (case k20 => k_is); (case a21 => k_is); (case l21 => k_is); (case c21 => k_is); (case k21 => k_is); (case a22 => k_is); (case l22 => k_is); (case c22 => k_is); (case k22 => k_is); (case a23 => k_is); (case l23 => k_is); (case c23 => k_is); (case k23 => k_is); (case a24 => k_is); (case l24 => k_is); (case c24 => k_is); (case k24 => k_is); (case a25 => k_is); (case l25 => k_is); (case c25 => k_is); (case k25 => k_is); (case a26 => k_is); (case l26 => k_is); (case c26 => k_is); (case k26 => k_is); (case a27 => k_is); (case l27 => k_is); (case c27 => k_is); (case k27 => k_is); (case a28 => k_is); (case l28 => k_is); (case c28 => k_is); (case k28 => k_is); (case a29 => k_is); (case l29 => k_is); (case c29 => k_is); (case k29 => k_is); (case a30 => k_is); (case l30 => k_is); (case c30 => k_is); (case k30 => k_is); (case a31 => k_is); (case l31 => k_is); (case c31 => k_is); (case k31 => k_is); (case a32 => k_is); (case l32 => k_is); (case c32 => k_is); (case k32 => k_is); (case a33 => k_is); (case l33 => k_is); (case c33 => k_is); (case k33 => k_is); (case z0 => k_is); (case z1 => k_is); (case z2 => k_is); (case z3 => k_is); (case z4 => k_is); (case z5 => k_is); (case z6 => k_is); (case z7 => k_is); (case z8 => k_is); (case z9 => k_is); (case z10 => k_is); (case z11 => k_is)

