import PyProof.Rows.All
import Wide.All
import OpenK.AllK
import Wide.FinOn
import HandS.ForMost
import HandS.Conv
import HandS.Deep
import HandS.TupAny
import PyProof.SeqIndex
import HandS.Wide
import HandS.TupLe
import HandS.IsInst
import HandS.Iter
import KE.KxField
import HandS.FStr
import KE.SortData
import KE.DataMinMax
import HandS.More
import HandS.Style
import KE.KRevSl
import HandS.DictComp
import HandS.Zip
import KE.KDictZip
import KE.KExcSuper
import KE.KSuper
import HandS.Exc
import HandS.ExcSuper
import HandS.WordsExc
import KE.RegKSuper
import KE.DataCmp
import PySem.Challenge.RW_routesrest_k22_edits_done_and_undone
set_option Elab.async false
set_option linter.all false
set_option maxRecDepth 100000
set_option maxHeartbeats 1000000
/-! The layer Pd, part Z: new tuples, known to the object or not; the index of a tuple. -/
namespace Pd
open PySem PySem.Spec PyProof.Rows L2
/-- a new tuple: a plain one, or one whose object stays known -/
def TupQ (H : Hp) (xs : List V) (Q : VK) : Prop := (∀ p, H p = none → Q (.ref p) (upd H p (.tup xs))) ∨ (∀ p o, H p = none → o.cls = .type "tuple" → o.dict = none → Q (.ref p) (upd H p (.frz o (.tup xs))))
section
variable {X : Cx} {pos : Pos}
theorem TupQ.run {pins : List (Addr × Obj)} {σ : L2.St} {H : Hp} {s : Shared} {xs : List V} {its : List Value} {Q : VK} (I : Inv X pins σ H s) (hz : xs.length ≤ sizeLine) (r : Vals xs its) (h : TupQ H xs Q) :
    EP X pins σ Q (.ref s.heap.objs.size) { s with heap := s.heap.push { cls := .type "tuple", data := .seq its.toArray } } := by
  rcases h with h | h
  · exact ⟨.ref _, _, I.laid (t' := s.toks) (o := .tup xs) (fun b u e => Heap.get?_push_of_some _ e) (Nat.le_refl _) ⟨hz, its, r, IsTup.new _ _⟩, rfl, h _ (I.hok.fresh (Nat.le_refl _))⟩
  · exact ⟨.ref _, _, I.laid (t' := s.toks) (o := .frz { cls := .type "tuple", data := .seq its.toArray } (.tup xs)) (fun b u e => Heap.get?_push_of_some _ e) (Nat.le_refl _) ⟨Heap.get?_push_size _ rfl, hz, its, r, IsTup.new _ _⟩, rfl, h _ _ (I.hok.fresh (Nat.le_refl _)) rfl rfl⟩
/-- (a, b, ..) -/
def tTupQ (t : TA) : TE := fun σ H Q => t σ H fun xs H1 => xs.length ≤ sizeLine ∧ TupQ H1 xs Q
theorem pe_tupQ {es : List Expr} {t : TA} {x1} (h : PA X es t) : PE X (.Tuple es x1 pos) (tTupQ t) := by
  refine ⟨fun pins s σ H Q I hq => ?_⟩
  refine wpAny_Tuple_spliced (thn (h.run pos pins s σ H _ I hq) fun us s1 ⟨xs, H1, I1, r, z, q⟩ => ⟨by rw [← r.length]; exact z, ?_⟩)
  exact q.run I1 z r
/-- t + u -/
def rCatQ (K : PySem.W.Frag) : R2 := fun x y H Q => ∃ a b xs ys, x = .ref a ∧ y = .ref b ∧ SqT K H a xs ∧ SqT K H b ys ∧ xs.length + ys.length ≤ sizeLine ∧
  (xs = [] → Q (.ref b) H) ∧ (xs ≠ [] → ys = [] → Q (.ref a) H) ∧ (xs ≠ [] → ys ≠ [] → TupQ H (xs ++ ys) Q)
theorem op_catQ : OpR X (binaryOp .Add) (rCatQ X.K) := by
  intro pins s σ H x y v u Q I rx ry h
  obtain ⟨a, b, xs, ys, rfl, rfl, ha, hb, hz, q0, q1, q2⟩ := h
  by_cases hx : xs = []
  · subst hx
    cases rx
    cases ry
    obtain ⟨its, r1, p1, _⟩ := I.tuple ha
    obtain ⟨its2, r2, p2, _⟩ := I.tuple hb
    cases r1
    exact cat_tup0 p1 p2 ⟨.ref b, H, I, rfl, q0 rfl⟩
  · cases rx
    cases ry
    obtain ⟨its, r1, p1, _⟩ := I.tuple ha
    obtain ⟨its2, r2, p2, _⟩ := I.tuple hb
    refine HT.cat_tup p1 p2 (fun z => hx (r1.nil_iff.mp z)) (fun z => ⟨.ref a, H, I, rfl, q1 hx (r2.nil_iff.mp z)⟩) (fun z => ?_) (by rw [← r1.length, ← r2.length]; exact hz)
    exact (q2 hx (fun w => z (r2.nil_iff.mpr w))).run I (by rw [List.length_append]; exact hz) (r1.append r2)
/-- t[lo:hi] -/
def rSlQ (K : PySem.W.Frag) : V → Option Int → Option Int → Hp → VK → Prop := fun x lo hi H Q => ∃ a xs, x = .ref a ∧ SqT K H a xs ∧
  (HT.sIx xs.length 0 lo = 0 ∧ HT.sIx xs.length xs.length hi = xs.length → Q (.ref a) H) ∧ (¬ (HT.sIx xs.length 0 lo = 0 ∧ HT.sIx xs.length xs.length hi = xs.length) → TupQ H (cutV xs lo hi) Q)
theorem sl_tupQ : SlR X (rSlQ X.K) := by
  intro pins s σ H x v vl vu lo hi sl Q I rx hs pl pu h
  obtain ⟨a, xs, rfl, hx, q1, q2⟩ := h
  cases rx
  obtain ⟨its, r, ht, hz⟩ := I.tuple hx
  have hlen : its.toArray.size = xs.length := by rw [List.size_toArray]; exact r.length.symm
  refine ⟨"tuple", _, PyProof.Rows.slot_tuple_getitem.lookup, ht.typeIs, ?_⟩
  by_cases hw : HT.sIx xs.length 0 lo = 0 ∧ HT.sIx xs.length xs.length hi = xs.length
  · exact getItem_tuple_whole ht hs pl pu (by rw [hlen]; exact hw) ⟨.ref a, H, I, rfl, q1 hw⟩
  · refine HT.getItem_tuple_cut ht hs pl pu (by rw [hlen]; exact hw) ?_ (by rw [hlen]; exact hz)
    rw [hlen]
    exact (q2 hw).run I (Nat.le_trans (cutV_length xs lo hi) hz) ((r.drop (HT.sIx xs.length 0 lo)).take (HT.sIx xs.length xs.length hi - HT.sIx xs.length 0 lo))
/-- tuple(x) -/
theorem call_tupleQ : CallR X (.type "tuple") (fun xs H Q => ∃ p ys, xs = [.ref p] ∧ ((SqL X.K H p ys ∧ TupQ H ys Q) ∨ (SqT X.K H p ys ∧ Q (.ref p) H))) := by
  intro pins s σ H xs us Q I r h
  obtain ⟨p, ys, rfl, h⟩ := h
  obtain ⟨u, rfl, rx⟩ := vals1 r
  cases rx
  rcases h with ⟨hq, q⟩ | ⟨hq, q⟩
  · obtain ⟨its, r', pl, hz⟩ := I.list hq
    have hlen := r'.length
    refine call_tuple_list pl.isList (fun h' kp => ?_) (by simp only [List.size_toArray] <;> omega)
    have I1 : Inv X pins σ H { s with heap := h' } := I.kept (t' := s.toks) kp
    exact q.run I1 hz r'
  · obtain ⟨its, r', pl, hz⟩ := I.tuple hq
    exact call_tuple_same pl ⟨.ref p, H, I, rfl, q⟩
/-! ### l.index(x), t.index(x): the first place of an equal one -/
def rIndexT (K : PySem.W.Frag) : V → List V → Hp → VK → Prop := fun x xs H Q => ∃ (a : Addr) (y : V) (d : PyData) (ds : List PyData) (j : Nat) (z : PyData), x = V.ref a ∧ xs = [y] ∧ Dp K H (V.ref a) (.tuple ds) ∧ Dp K H y d ∧
  SeqAt.shaped (.tuple ds) = true ∧ SeqAt.shaped d = true ∧ ds[j]? = some z ∧ PyData.eqv z d = true ∧ (∀ (m : Nat) (z' : PyData), m < j → ds[m]? = some z' → PyData.eqv z' d = false) ∧ Q (.int (j : Nat)) H
theorem mt_indexT (hu : X.A.units + 65 < cLine) : MtR X "tuple.index" (rIndexT X.K) := by
  intro pins s σ H x xs v us Q I rx rxs h
  obtain ⟨a, y, d, ds, j, z, rfl, rfl, hl, hy, sl, sd, hz, hzj, hno, q⟩ := h
  cases rx
  cases rxs with
  | cons ry rt =>
    rename_i uy ut
    cases rt
    obtain ⟨bs, r1⟩ := Dp.reads I d y uy hy ry
    have hxs : PyData.canLayAll0 ds = true := SeqAt.canLay_of_shaped sl
    have hroom : X.A.units + 1 + min (PyData.depthAll ds) d.depth < cLine := room_in_shaped sd hu
    cases hl with
    | tup hs ha =>
      obtain ⟨its, rv, ⟨⟨cls, dd, data, sls⟩, ho, hc, n, hdt⟩, hlen⟩ := I.tuple hs
      simp only at hc hdt
      subst hc hdt
      obtain ⟨as, h4⟩ := Dp.readsAll I ds _ its ha rv
      have hn : its.length = ds.length := SeqAt.ReadsAll.length ds its as h4
      have hmap : its.map (SeqAt.readOf s.heap) = ds := SeqAt.readsAll_map ds its as hxs h4
      have hvl := rv.length
      have hsl := sizeLine_eq
      obtain ⟨hjd, _⟩ := List.getElem?_eq_some_iff.mp hz
      have hjl : j < its.length := by omega
      have hj : j < its.toArray.size := by simpa using hjl
      have at_ : ∀ (m : Nat) (hm : m < its.toArray.size) (z' : PyData), ds[m]? = some z' → SeqAt.readOf s.heap its.toArray[m] = z' := by
        intro m hm z' hz'
        have hml : m < its.length := by simpa using hm
        rw [← hmap, List.getElem?_map, List.getElem?_eq_getElem hml] at hz'
        have e1 : SeqAt.readOf s.heap its[m] = z' := Option.some.inj (show some (SeqAt.readOf s.heap its[m]) = some z' from hz')
        simpa using e1
      have heq := SeqAt.items_eqAt (A := X.A) (vs := its.toArray) (show ReadsAll s.heap its.toArray.toList ds as from h4) r1 hxs (SeqAt.canLay_of_shaped sd) hroom
      refine call_meets PySem.F.slot_tuple_index ⟨_, ho, rfl⟩ PySem.F.entry_tuple_index (PySem.F.args_tuple_index_2 _ _)
        (SeqAt.tuple_index2_found a its.toArray n dd sls uy (fun m => match its.toArray[m]? with | some u => PyData.eqv (SeqAt.readOf s.heap u) d | none => false) j hj (Nat.zero_le _) hj ?_ ?_) ⟨ho, fun m hm => ?_, ?_⟩
      · simp only [Array.getElem?_eq_getElem hj]
        rw [at_ j hj z hz]
        exact hzj
      · intro m hm _ hmj
        have hmd : m < ds.length := by omega
        have hz' : ds[m]? = some ds[m] := List.getElem?_eq_getElem hmd
        simp only [Array.getElem?_eq_getElem hm]
        rw [at_ m hm _ hz']
        exact hno m _ hmj hz'
      · simp only [Array.getElem?_eq_getElem hm]
        exact heq _ (Array.getElem_mem hm)
      · exact ⟨.int (j : Nat), H, I.tok _, ⟨_, rfl⟩, q⟩
def tIdx (K : PySem.W.Frag) (to : TE) (t : TA) : TE := fun σ H Q => to σ H fun x H1 => ∃ a xs, x = .ref a ∧
  ((SqL K H1 a xs ∧ t σ H1 fun ys H2 => rIndexD K x ys H2 Q) ∨ (∃ o, H1 a = some (.frz o (.tup xs)) ∧ o.cls = .type "tuple" ∧ o.dict = none ∧ t σ H1 fun ys H2 => rIndexT K x ys H2 Q))
theorem pe_idx {o e : Expr} {to : TE} {t : TA} {apos cpos : Pos} (hu : X.A.units + 65 < cLine) (ho : PE X o to) (ha : PA X [e] t)
    (hbase : attributeBase o "index" X.env (eval o X.env) = eval o X.env := by rfl)
    (hfew : ((backTo cpos (starEach [e] X.env)).all (fun x => !x.1) && (backToKw cpos (keywordEach [] X.env)).all (fun x => x.1.isSome) && decide ([e].length + ([] : List Keyword).length + (if ([] : List Keyword).isEmpty then 0 else 1) < 30)) = true := by rfl)
    (hline : (apos.endLine == cpos.line) = true := by rfl) (hs : starEach [e] X.env = (false, eval e X.env) :: starEach [] X.env := by rfl) (hplain : (backTo cpos (starEach [] X.env)).any (·.1) = false := by rfl) :
    PE X (.Call (.Attribute o "index" apos) [e] [] cpos) (tIdx X.K to t) := by
  refine ⟨fun pins s σ H Q I h => ?_⟩
  refine wpAny_Call_method_late hbase hfew hline rfl (thn (ho.run pins s σ H _ I h) fun v s1 ⟨x, H1, I1, r1, a, xs, ex, hx⟩ => ?_)
  subst ex
  cases r1
  rcases hx with ⟨hx, q1⟩ | ⟨ob, hx, hc, hd, q1⟩
  · obtain ⟨h1, h2⟩ := tyV_is (T := "list") I1 (x := .ref a) rfl (.inl ⟨rfl, xs, hx⟩)
    refine ⟨"list", "list.index", PySem.F.plainAttrs_list, PySem.F.slot_list_index, PySem.F.type_list_index, h1, h2, ?_⟩
    have hA := ha.run cpos pins s1 σ H1 _ I1 q1
    rw [hs] at hA ⊢
    refine Calls.callWith_builtin (by show (false || (backTo cpos (starEach [] X.env)).any (·.1)) = false; rw [hplain] <;> rfl) (Calls.evalArgs_plain ?_)
    exact thn hA fun us s2 ⟨vs, H2, I2, r2, q2⟩ => mt_indexD hu pins s2 σ H2 (.ref a) vs _ us Q I2 rfl r2 q2
  · have hob := (I1.hok a _ hx).1
    refine ⟨"tuple", "tuple.index", PySem.F.plainAttrs_tuple, PySem.F.slot_tuple_index, PySem.F.type_tuple_index, ⟨ob, hob, hc⟩, fun b eb => by cases eb; exact ⟨ob, hob, hd⟩, ?_⟩
    have hA := ha.run cpos pins s1 σ H1 _ I1 q1
    rw [hs] at hA ⊢
    refine Calls.callWith_builtin (by show (false || (backTo cpos (starEach [] X.env)).any (·.1)) = false; rw [hplain] <;> rfl) (Calls.evalArgs_plain ?_)
    exact thn hA fun us s2 ⟨vs, H2, I2, r2, q2⟩ => mt_indexT hu pins s2 σ H2 (.ref a) vs _ us Q I2 rfl r2 q2
end
end Pd

set_option Elab.async false
set_option linter.all false
set_option maxRecDepth 100000
set_option maxHeartbeats 1000000

/-! The layer Pd, part A: data, the store, the relation. -/
namespace Pd
open PySem PySem.Spec PyProof.Rows L2

def keyD : Key → PyData
  | .inl i => .int i
  | .inr x => .str x

/-- a tuple of ints and texts may be a key of a dict: it stays plain; of any other one the object is known -/
def keyAtom : PyData → Bool
  | .int _ => true
  | .str _ => true
  | _ => false
def keyAll (ds : List PyData) : Bool := ds.all keyAtom
def TupAt (F : Hp) (a : Addr) (xs : List V) (ds : List PyData) : Prop := (keyAll ds = true ∧ F a = some (.tup xs)) ∨ (keyAll ds = false ∧ ∃ o, F a = some (.frz o (.tup xs)) ∧ o.cls = .type "tuple" ∧ o.dict = none)
theorem TupAt.rd {F : Hp} {a : Addr} {xs : List V} {ds : List PyData} (h : TupAt F a xs ds) : Rd F a (.tup xs) := by
  rcases h with ⟨_, h⟩ | ⟨_, o, h, _⟩
  · exact .inl h
  · exact .inr ⟨o, h⟩
theorem TupAt.sqT {K : PySem.W.Frag} {F : Hp} {a : Addr} {xs : List V} {ds : List PyData} (h : TupAt F a xs ds) : SqT K F a xs := .inl h.rd
theorem TupAt.key {F : Hp} {a : Addr} {xs : List V} {ds : List PyData} (h : TupAt F a xs ds) (k : keyAll ds = true) : F a = some (.tup xs) := by
  rcases h with ⟨_, h⟩ | ⟨n, _⟩
  · exact h
  · rw [k] at n; cases n
theorem TupAt.known {F : Hp} {a : Addr} {xs : List V} {ds : List PyData} (h : TupAt F a xs ds) (k : keyAll ds = false) : ∃ o, F a = some (.frz o (.tup xs)) ∧ o.cls = .type "tuple" ∧ o.dict = none := by
  rcases h with ⟨n, _⟩ | ⟨_, h⟩
  · rw [k] at n; cases n
  · exact h
theorem keyAll_keys (k : List Key) : keyAll (k.map keyD) = true := by
  simp only [keyAll, List.all_map, List.all_eq_true]
  intro x _
  cases x <;> rfl
mutual
/-- the frozen heap F holds the data d at v -/
inductive Fz (K : PySem.W.Frag) (F : Hp) : V → PyData → Prop
  | non : Fz K F .non .none
  | bl (b : Bool) : Fz K F (.bl b) (.bool b)
  | int (i : Int) : Fz K F (.int i) (.int i)
  | str (x : Str) : Fz K F (.str x) (.str x)
  | lst {a : Addr} {xs : List V} {ds : List PyData} : SqL K F a xs → FzA K F xs ds → Fz K F (.ref a) (.list ds)
  | tup {a : Addr} {xs : List V} {ds : List PyData} : TupAt F a xs ds → FzA K F xs ds → Fz K F (.ref a) (.tuple ds)
  | dK {a : Addr} {ks : List Key} {xs : List V} {ds : List PyData} : Rd F a (.dK (ks.zip xs)) → ks.length = xs.length → FzA K F xs ds → Fz K F (.ref a) (.dict ((ks.map keyD).zip ds))
  | dT {a : Addr} {ks : List (List Key)} {xs : List V} {ds : List PyData} : F a = some (.dT (ks.zip xs)) → ks.length = xs.length → ks ≠ [] → FzA K F xs ds → Fz K F (.ref a) (.dict ((ks.map fun k => .tuple (k.map keyD)).zip ds))
inductive FzA (K : PySem.W.Frag) (F : Hp) : List V → List PyData → Prop
  | nil : FzA K F [] []
  | cons {v : V} {vs : List V} {d : PyData} {ds : List PyData} : Fz K F v d → FzA K F vs ds → FzA K F (v :: vs) (d :: ds)
end

theorem FzA.length {K : PySem.W.Frag} {F : Hp} : ∀ {vs : List V} {ds : List PyData}, FzA K F vs ds → vs.length = ds.length
  | _, _, .nil => rfl
  | _, _, .cons _ t => congrArg (· + 1) (FzA.length t)
theorem FzA.append {K : PySem.W.Frag} {F : Hp} : ∀ {vs ws : List V} {ds es : List PyData}, FzA K F vs ds → FzA K F ws es → FzA K F (vs ++ ws) (ds ++ es)
  | _, _, _, _, .nil, h => h
  | _, _, _, _, .cons a t, h => .cons a (FzA.append t h)
theorem FzA.get {K : PySem.W.Frag} {F : Hp} : ∀ {vs : List V} {ds : List PyData} {i : Nat} {v : V}, FzA K F vs ds → vs[i]? = some v → ∃ d, ds[i]? = some d ∧ Fz K F v d
  | _, _, i, _, .nil, e => by simp at e
  | _, _, 0, _, .cons a _, e => by simp at e; subst e; exact ⟨_, rfl, a⟩
  | _, _, i + 1, _, .cons _ t, e => by
    obtain ⟨d, h1, h2⟩ := FzA.get (i := i) t (by simpa using e)
    exact ⟨d, by simpa using h1, h2⟩
theorem FzA.getD {K : PySem.W.Frag} {F : Hp} : ∀ {vs : List V} {ds : List PyData} {i : Nat} {d : PyData}, FzA K F vs ds → ds[i]? = some d → ∃ v, vs[i]? = some v ∧ Fz K F v d
  | _, _, i, _, .nil, e => by simp at e
  | _, _, 0, _, .cons a _, e => by simp at e; subst e; exact ⟨_, rfl, a⟩
  | _, _, i + 1, _, .cons _ t, e => by
    obtain ⟨d, h1, h2⟩ := FzA.getD (i := i) t (by simpa using e)
    exact ⟨d, by simpa using h1, h2⟩
theorem FzA.take {K : PySem.W.Frag} {F : Hp} : ∀ {vs : List V} {ds : List PyData} (n : Nat), FzA K F vs ds → FzA K F (vs.take n) (ds.take n)
  | _, _, 0, _ => .nil
  | _, _, _ + 1, .nil => .nil
  | _, _, n + 1, .cons a t => .cons a (FzA.take n t)
theorem FzA.drop {K : PySem.W.Frag} {F : Hp} : ∀ {vs : List V} {ds : List PyData} (n : Nat), FzA K F vs ds → FzA K F (vs.drop n) (ds.drop n)
  | _, _, 0, h => h
  | _, _, _ + 1, .nil => .nil
  | _, _, n + 1, .cons _ t => FzA.drop n t

/-- F is a part of the heap (a dict may be locked) -/
def IsDct : HO → Bool
  | .dK _ => true
  | _ => false
def Sub (F H : Hp) : Prop := ∀ a u, F a = some u → H a = some u ∨ (IsDct u = true ∧ ∃ o, H a = some (.frz o u))
/-- .. it grows; a dict may get locked, for good -/
def Le (F G : Hp) : Prop := ∀ a u, F a = some u → G a = some u ∨ (IsDct u = true ∧ ∃ o, G a = some (.frz o u))
theorem Le.refl (F : Hp) : Le F F := fun _ _ h => .inl h
theorem Le.trans {F G J : Hp} (a : Le F G) (b : Le G J) : Le F J := fun x u h => by
  rcases a x u h with e | ⟨n, o, e⟩
  · exact b x u e
  · rcases b x _ e with e | ⟨n', _⟩
    · exact .inr ⟨n, o, e⟩
    · cases n'
theorem Le.frz {F G : Hp} (s : Le F G) {a : Addr} {o : Obj} {u : HO} (h : F a = some (.frz o u)) : G a = some (.frz o u) := by
  rcases s a _ h with e | ⟨n, _⟩
  · exact e
  · cases n
theorem Le.tup {F G : Hp} (s : Le F G) {a : Addr} {xs : List V} {ds : List PyData} (h : TupAt F a xs ds) : TupAt G a xs ds := by
  rcases h with ⟨k, h⟩ | ⟨k, o, h, c, d⟩
  · rcases s a _ h with e | ⟨n, _⟩
    · exact .inl ⟨k, e⟩
    · cases n
  · exact .inr ⟨k, o, s.frz h, c, d⟩
theorem Sub.rd {F H : Hp} (s : Sub F H) {a : Addr} {u : HO} (hu : ∀ o x, u ≠ .frz o x) (h : Rd F a u) : Rd H a u := by
  rcases h with h | ⟨o, h⟩
  · rcases s a u h with e | ⟨_, o, e⟩
    · exact .inl e
    · exact .inr ⟨o, e⟩
  · rcases s a _ h with e | ⟨n, _⟩
    · exact .inr ⟨o, e⟩
    · cases n
theorem Sub.sqL {K : PySem.W.Frag} {F H : Hp} (s : Sub F H) {a : Addr} {xs : List V} (h : SqL K F a xs) : SqL K H a xs := by
  rcases h with h | h
  · exact .inl (s.rd (fun _ _ z => by cases z) h)
  · exact .inr h
theorem Sub.tup {F H : Hp} (s : Sub F H) {a : Addr} {xs : List V} {ds : List PyData} (h : TupAt F a xs ds) : TupAt H a xs ds := by
  rcases h with ⟨k, h⟩ | ⟨k, o, h, c, d⟩
  · rcases s a _ h with e | ⟨n, _⟩
    · exact .inl ⟨k, e⟩
    · cases n
  · rcases s a _ h with e | ⟨n, _⟩
    · exact .inr ⟨k, o, e, c, d⟩
    · cases n
theorem Le.dt {F G : Hp} (s : Le F G) {a : Addr} {xs : List (List Key × V)} (h : F a = some (.dT xs)) : G a = some (.dT xs) := by
  rcases s a _ h with e | ⟨n, _⟩
  · exact e
  · cases n
theorem Le.rd {F H : Hp} (s : Le F H) {a : Addr} {u : HO} (h : Rd F a u) : Rd H a u := by
  rcases h with h | ⟨o, h⟩
  · rcases s _ _ h with e | ⟨_, o, e⟩
    · exact .inl e
    · exact .inr ⟨o, e⟩
  · exact .inr ⟨o, s.frz h⟩
theorem Le.sqL {K : PySem.W.Frag} {F H : Hp} (s : Le F H) {a : Addr} {xs : List V} (h : SqL K F a xs) : SqL K H a xs := by
  rcases h with h | h
  · exact .inl (s.rd h)
  · exact .inr h
mutual
theorem Fz.mono {K : PySem.W.Frag} {F G : Hp} (l : Le F G) : ∀ {v : V} {d : PyData}, Fz K F v d → Fz K G v d
  | _, _, .non => .non
  | _, _, .bl b => .bl b
  | _, _, .int i => .int i
  | _, _, .str x => .str x
  | _, _, .lst h t => .lst (l.sqL h) (FzA.mono l t)
  | _, _, .tup h t => .tup (l.tup h) (FzA.mono l t)
  | _, _, .dK h e t => .dK (l.rd h) e (FzA.mono l t)
  | _, _, .dT h e n t => .dT (l.dt h) e n (FzA.mono l t)
theorem FzA.mono {K : PySem.W.Frag} {F G : Hp} (l : Le F G) : ∀ {v : List V} {d : List PyData}, FzA K F v d → FzA K G v d
  | _, _, .nil => .nil
  | _, _, .cons a t => .cons (Fz.mono l a) (FzA.mono l t)
end
mutual
theorem Fz.dp {K : PySem.W.Frag} {F H : Hp} (s : Sub F H) : ∀ {v : V} {d : PyData}, Fz K F v d → d.canLay0 = true → Dp K H v d
  | _, _, .non, _ => .non
  | _, _, .bl b, _ => .bl b
  | _, _, .int i, _ => .int i
  | _, _, .str x, _ => .str x
  | _, _, .lst h t, e => .lst (s.sqL h) (FzA.dp s t (by simpa [PyData.canLay0] using e))
  | _, _, .tup h t, e => .tup (s.tup h).sqT (FzA.dp s t (by simpa [PyData.canLay0] using e))
  | _, _, .dK h _ t, e => by simp [PyData.canLay0] at e
  | _, _, .dT h _ _ t, e => by simp [PyData.canLay0] at e
theorem FzA.dp {K : PySem.W.Frag} {F H : Hp} (s : Sub F H) : ∀ {v : List V} {d : List PyData}, FzA K F v d → PyData.canLayAll0 d = true → DpAll K H v d
  | _, _, .nil, _ => .nil
  | _, _, .cons a t, e => by
    simp only [PyData.canLayAll0, Bool.and_eq_true] at e
    exact .cons (Fz.dp s a e.1) (FzA.dp s t e.2)
end

/-! ### the store of what may change -/
/-- a value of the mirror: data that never changes, or the k-th cell -/
inductive SV where
  | fz (d : PyData)
  | ptr (k : Nat)
  /-- (a loop's own) a dict that stays locked -/
  | lk (a : Addr) (o : Obj) (u : HO)
inductive Cell where
  | fz (d : PyData)
  | lst (l : List SV)
  | dK (l : List (Key × SV))
  | dT (l : List (List Key × SV))
abbrev Store := List Cell

def SVR (K : PySem.W.Frag) (F : Hp) (ad : List Addr) : V → SV → Prop
  | v, .fz d => Fz K F v d
  | v, .ptr k => ∃ a, ad[k]? = some a ∧ v = .ref a
  | _, .lk a o u => F a = some (.frz o u)
inductive SVA (K : PySem.W.Frag) (F : Hp) (ad : List Addr) : List V → List SV → Prop
  | nil : SVA K F ad [] []
  | cons {v : V} {vs : List V} {d : SV} {ds : List SV} : SVR K F ad v d → SVA K F ad vs ds → SVA K F ad (v :: vs) (d :: ds)
def CellR (K : PySem.W.Frag) (F H : Hp) (ad : List Addr) (a : Addr) : Cell → Prop
  | .fz d => Fz K F (.ref a) d
  | .lst l => F a = none ∧ ∃ xs, H a = some (.lst xs) ∧ SVA K F ad xs l
  | .dK l => F a = none ∧ ∃ xs, H a = some (.dK ((l.map (·.1)).zip xs)) ∧ SVA K F ad xs (l.map (·.2))
  | .dT l => F a = none ∧ ∃ xs, H a = some (.dT ((l.map (·.1)).zip xs)) ∧ SVA K F ad xs (l.map (·.2))

theorem SVA.length {K : PySem.W.Frag} {F : Hp} {ad : List Addr} : ∀ {vs : List V} {ds : List SV}, SVA K F ad vs ds → vs.length = ds.length
  | _, _, .nil => rfl
  | _, _, .cons _ t => congrArg (· + 1) (SVA.length t)
theorem SVA.append {K : PySem.W.Frag} {F : Hp} {ad : List Addr} : ∀ {vs ws : List V} {ds es : List SV}, SVA K F ad vs ds → SVA K F ad ws es → SVA K F ad (vs ++ ws) (ds ++ es)
  | _, _, _, _, .nil, h => h
  | _, _, _, _, .cons a t, h => .cons a (SVA.append t h)
theorem SVA.get {K : PySem.W.Frag} {F : Hp} {ad : List Addr} : ∀ {vs : List V} {ds : List SV} {i : Nat} {d : SV}, SVA K F ad vs ds → ds[i]? = some d → ∃ v, vs[i]? = some v ∧ SVR K F ad v d
  | _, _, i, _, .nil, e => by simp at e
  | _, _, 0, _, .cons a _, e => by simp at e; subst e; exact ⟨_, rfl, a⟩
  | _, _, i + 1, _, .cons _ t, e => by
    obtain ⟨d, h1, h2⟩ := SVA.get (i := i) t (by simpa using e)
    exact ⟨d, by simpa using h1, h2⟩
theorem SVA.set {K : PySem.W.Frag} {F : Hp} {ad : List Addr} {v : V} {d : SV} (h : SVR K F ad v d) : ∀ {vs : List V} {ds : List SV} (i : Nat), SVA K F ad vs ds → SVA K F ad (vs.set i v) (ds.set i d)
  | _, _, _, .nil => .nil
  | _, _, 0, .cons _ t => .cons h t
  | _, _, i + 1, .cons a t => .cons a (SVA.set h i t)
theorem SVA.dropLast {K : PySem.W.Frag} {F : Hp} {ad : List Addr} {vs : List V} {ds : List SV} (h : SVA K F ad vs ds) : SVA K F ad vs.dropLast ds.dropLast := by
  induction h with
  | nil => exact .nil
  | cons a t ih =>
    cases t with
    | nil => exact .nil
    | cons b t => exact .cons a ih

/-- pointers grow, the frozen part grows -/
def Pre (ad ad' : List Addr) : Prop := ∀ (k : Nat) (a : Addr), ad[k]? = some a → ad'[k]? = some a
theorem Pre.refl (ad : List Addr) : Pre ad ad := fun _ _ h => h
theorem Pre.push (ad : List Addr) (a : Addr) : Pre ad (ad ++ [a]) := fun k b h => by
  have hk : k < ad.length := (List.getElem?_eq_some_iff.mp h).1
  rw [List.getElem?_append_left hk]; exact h
theorem SVR.mono {K : PySem.W.Frag} {F G : Hp} {ad ad' : List Addr} (l : Le F G) (p : Pre ad ad') {v : V} : ∀ {s : SV}, SVR K F ad v s → SVR K G ad' v s
  | .fz _, h => Fz.mono l h
  | .ptr _, ⟨a, h1, h2⟩ => ⟨a, p _ _ h1, h2⟩
  | .lk a o u, h => by
    have h1 : F a = some (.frz o u) := h
    have h2 : G a = some (.frz o u) := l.frz h1
    exact h2
theorem SVA.mono {K : PySem.W.Frag} {F G : Hp} {ad ad' : List Addr} (l : Le F G) (p : Pre ad ad') : ∀ {vs : List V} {ds : List SV}, SVA K F ad vs ds → SVA K G ad' vs ds
  | _, _, .nil => .nil
  | _, _, .cons a t => .cons (a.mono l p) (SVA.mono l p t)

/-- the cells that a cell points to -/
def SV.ps : SV → List Nat
  | .fz _ => []
  | .ptr k => [k]
  | .lk _ _ _ => []
def Cell.ps : Cell → List Nat
  | .fz _ => []
  | .lst l => l.flatMap SV.ps
  | .dK l => l.flatMap fun p => p.2.ps
  | .dT l => l.flatMap fun p => p.2.ps

/-- the slots of a def: b, the length of the store at its entry; sl, what each name holds -/
structure EV where
  b : Nat
  sl : List (Option SV)
def SlR (K : PySem.W.Frag) (F : Hp) (ad : List Addr) (sl : List (Option SV)) (σ : L2.St) : Prop :=
  σ.length = sl.length ∧ ∀ (i : Nat) (s : SV), sl[i]? = some (some s) → ∃ v, σ[i]? = some (some v) ∧ SVR K F ad v s
/-- the entries' lengths of the defs that run: bs, the newest first -/
structure Bas (bs : List Nat) (P : Store) : Prop where
  le : ∀ c ∈ bs, c ≤ P.length
  low : ∀ c ∈ bs, ∀ (k : Nat) (x : Cell), k < c → P[k]? = some x → ∀ j ∈ x.ps, j < c

structure RelX (K : PySem.W.Frag) (bs : List Nat) (ρ : EV) (σ : L2.St) (os : List SV) (vs : List V) (P : Store) (H F : Hp) (ad : List Addr) : Prop where
  sub : Sub F H
  len : ad.length = P.length
  nd : ad.Nodup
  there : ∀ a ∈ ad, ∃ o, H a = some o
  cells : ∀ (k : Nat) (c : Cell) (a : Addr), P[k]? = some c → ad[k]? = some a → CellR K F H ad a c
  slots : SlR K F ad ρ.sl σ
  tops : SVA K F ad vs os
  bas : Bas bs P
  bb : ∀ c ∈ bs, c ≤ ρ.b
def Rel (K : PySem.W.Frag) (bs : List Nat) (ρ : EV) (σ : L2.St) (os : List SV) (vs : List V) (P : Store) (H : Hp) : Prop := ∃ F ad, RelX K bs ρ σ os vs P H F ad

section
variable {K : PySem.W.Frag} {bs : List Nat} {ρ : EV} {σ : L2.St} {os : List SV} {vs : List V} {P : Store} {H F : Hp} {ad : List Addr}
theorem RelX.tops_of (R : RelX K bs ρ σ os vs P H F ad) {os' : List SV} {vs' : List V} (t : SVA K F ad vs' os') : RelX K bs ρ σ os' vs' P H F ad := { R with tops := t }
theorem RelX.push (R : RelX K bs ρ σ os vs P H F ad) {d : SV} {v : V} (h : SVR K F ad v d) : RelX K bs ρ σ (d :: os) (v :: vs) P H F ad := R.tops_of (.cons h R.tops)
theorem RelX.atom (R : RelX K bs ρ σ os vs P H F ad) {d : PyData} {v : V} (h : Fz K F v d) : Rel K bs ρ σ (.fz d :: os) (v :: vs) P H := ⟨F, ad, R.push h⟩
theorem RelX.pop {d : SV} {v : V} (R : RelX K bs ρ σ (d :: os) (v :: vs) P H F ad) : SVR K F ad v d ∧ RelX K bs ρ σ os vs P H F ad := by
  have t := R.tops
  cases t with
  | cons h t => exact ⟨h, { R with tops := t }⟩

/-- a new frozen object is laid -/
theorem upd_le {F : Hp} {p : Addr} {o : HO} (n : F p = none) : Le F (upd F p o) := fun a u e => by
  rw [upd_ne (ne_of_none e n)]; exact .inl e
theorem RelX.free (R : RelX K bs ρ σ os vs P H F ad) {p : Addr} (n : H p = none) : F p = none := by
  cases e : F p with
  | none => rfl
  | some u =>
    rcases R.sub p u e with q | ⟨_, o, q⟩ <;> (rw [n] at q; cases q)
theorem CellR.grow {G H' : Hp} {ad' : List Addr} {a : Addr} {c : Cell} (l : Le F G) (p : Pre ad ad') (hH : H' a = H a) (hF : F a = none → G a = none) (h : CellR K F H ad a c) : CellR K G H' ad' a c := by
  cases c with
  | fz d => exact Fz.mono l h
  | lst _ => obtain ⟨n, xs, e, t⟩ := h; exact ⟨hF n, xs, hH.trans e, t.mono l p⟩
  | dK _ => obtain ⟨n, xs, e, t⟩ := h; exact ⟨hF n, xs, hH.trans e, t.mono l p⟩
  | dT _ => obtain ⟨n, xs, e, t⟩ := h; exact ⟨hF n, xs, hH.trans e, t.mono l p⟩
theorem SlR.mono {G : Hp} {ad' : List Addr} {sl : List (Option SV)} (l : Le F G) (p : Pre ad ad') (h : SlR K F ad sl σ) : SlR K G ad' sl σ :=
  ⟨h.1, fun i s e => let ⟨v, e1, r⟩ := h.2 i s e; ⟨v, e1, r.mono l p⟩⟩
/-- a new object o at p, frozen -/
theorem RelX.lay (R : RelX K bs ρ σ os vs P H F ad) {p : Addr} {o : HO} (n : H p = none) : RelX K bs ρ σ os vs P (upd H p o) (upd F p o) ad := by
  have l : Le F (upd F p o) := upd_le (R.free n)
  refine ⟨fun a u e => ?_, R.len, R.nd, fun a ha => ?_, fun k c a e1 e2 => ?_, R.slots.mono l (.refl _), R.tops.mono l (.refl _), R.bas, R.bb⟩
  · by_cases h : a = p
    · subst h; rw [upd_same] at e ⊢; exact .inl e
    · rw [upd_ne h] at e
      rw [upd_ne h]
      exact R.sub a u e
  · obtain ⟨u, e⟩ := R.there a ha
    exact ⟨u, by rw [upd_ne (ne_of_none e n)]; exact e⟩
  · obtain ⟨u, e⟩ := R.there a (List.mem_of_getElem? e2)
    have ne := ne_of_none e n
    exact (R.cells k c a e1 e2).grow l (.refl _) (upd_ne ne) fun z => by rw [upd_ne ne]; exact z
/-- a new object at p, a new cell -/
theorem RelX.cell (R : RelX K bs ρ σ os vs P H F ad) {p : Addr} {o : HO} {c : Cell} (n : H p = none) (h : ∀ ad', Pre ad ad' → CellR K F (upd H p o) ad' p c) :
    RelX K bs ρ σ (.ptr P.length :: os) (.ref p :: vs) (P ++ [c]) (upd H p o) F (ad ++ [p]) := by
  have fr := R.free n
  have pr : Pre ad (ad ++ [p]) := .push _ _
  refine ⟨fun a u e => ?_, by simp [R.len], ?_, fun a ha => ?_, fun k x a e1 e2 => ?_, R.slots.mono (.refl _) pr, .cons ⟨p, by rw [← R.len]; simp, rfl⟩ (R.tops.mono (.refl _) pr), ⟨fun c hc => ?_, fun c hc k x hk e j hj => ?_⟩, R.bb⟩
  · rw [upd_ne (ne_of_none e fr)]; exact R.sub a u e
  · rw [List.nodup_append]
    refine ⟨R.nd, by simp, fun a ha b hb e => ?_⟩
    obtain ⟨u, q⟩ := R.there a ha
    have : b = p := by simpa using hb
    subst this; subst e
    rw [n] at q; cases q
  · rcases List.mem_append.mp ha with ha | ha
    · obtain ⟨u, e⟩ := R.there a ha
      exact ⟨u, by rw [upd_ne (ne_of_none e n)]; exact e⟩
    · have : a = p := by simpa using ha
      subst this
      exact ⟨_, upd_same⟩
  · by_cases hk : k < P.length
    · rw [List.getElem?_append_left hk] at e1
      rw [List.getElem?_append_left (by rw [R.len]; exact hk)] at e2
      obtain ⟨u, e⟩ := R.there a (List.mem_of_getElem? e2)
      exact (R.cells k x a e1 e2).grow (.refl _) pr (upd_ne (ne_of_none e n)) id
    · have hk' : k = P.length := by
        have := (List.getElem?_eq_some_iff.mp e1).1
        simp at this
        omega
      subst hk'
      have e1' : c = x := by simpa using e1
      have e2' : p = a := by rw [← R.len] at e2; simpa using e2
      subst e1'; subst e2'
      exact h _ pr
  · have := R.bas.le c hc
    simp; omega
  · have hl := R.bas.le c hc
    rw [List.getElem?_append_left (by omega)] at e
    exact R.bas.low c hc k x hk e j hj
/-- a cell is written -/
theorem RelX.put (R : RelX K bs ρ σ os vs P H F ad) {k : Nat} {a : Addr} {o : HO} {c c0 : Cell} (hk : P[k]? = some c0) (ha : ad[k]? = some a) (hF : F a = none) (hc : CellR K F (upd H a o) ad a c)
    (hp : ∀ j ∈ c.ps, j ∈ c0.ps ∨ ρ.b ≤ k) : RelX K bs ρ σ os vs (P.set k c) (upd H a o) F ad := by
  refine ⟨fun x u e => ?_, by simp [R.len], R.nd, fun x hx => ?_, fun j x b e1 e2 => ?_, R.slots, R.tops, ⟨fun c hc => by simpa using R.bas.le c hc, fun d hd j x hj e i hi => ?_⟩, R.bb⟩
  · rw [upd_ne (ne_of_none e hF)]; exact R.sub x u e
  · by_cases h : x = a
    · subst h; exact ⟨_, upd_same⟩
    · rw [upd_ne h]; exact R.there x hx
  · by_cases hj : j = k
    · subst hj
      have hl := (List.getElem?_eq_some_iff.mp hk).1
      rw [List.getElem?_set_self hl] at e1
      cases e1
      rw [ha] at e2; cases e2
      exact hc
    · rw [List.getElem?_set_ne (Ne.symm hj)] at e1
      have ne : b ≠ a := fun z => by
        subst z
        obtain ⟨h1, q1⟩ := List.getElem?_eq_some_iff.mp e2
        obtain ⟨h2, q2⟩ := List.getElem?_eq_some_iff.mp ha
        exact hj ((List.getElem_inj R.nd).mp (q1.trans q2.symm))
      exact (R.cells j x b e1 e2).grow (.refl _) (.refl _) (upd_ne ne) id
  · by_cases hjk : j = k
    · subst hjk
      have hl := (List.getElem?_eq_some_iff.mp hk).1
      rw [List.getElem?_set_self hl] at e
      cases e
      rcases hp i hi with z | z
      · exact R.bas.low d hd j c0 hj hk i z
      · have := R.bb d hd
        omega
    · rw [List.getElem?_set_ne (Ne.symm hjk)] at e
      exact R.bas.low d hd j x hj e i hi
end
end Pd

set_option Elab.async false
set_option linter.all false
set_option maxRecDepth 100000
set_option maxHeartbeats 1000000
/-! The layer Pd, part B: what a value shows, new objects, expressions. -/
namespace Pd
open PySem PySem.Spec PyProof.Rows L2

/-! ### what a value shows -/
inductive Vw (K : PySem.W.Frag) (F H : Hp) : V → PyData → Prop
  | fz {v : V} {d : PyData} : Fz K F v d → Vw K F H v d
  | lst {a : Addr} {xs : List V} {ds : List PyData} : H a = some (.lst xs) → FzA K F xs ds → Vw K F H (.ref a) (.list ds)
  | dK {a : Addr} {ks : List Key} {xs : List V} {ds : List PyData} : Rd H a (.dK (ks.zip xs)) → ks.length = xs.length → FzA K F xs ds → Vw K F H (.ref a) (.dict ((ks.map keyD).zip ds))
  | dT {a : Addr} {ks : List (List Key)} {xs : List V} {ds : List PyData} : H a = some (.dT (ks.zip xs)) → ks.length = xs.length → ks ≠ [] → FzA K F xs ds → Vw K F H (.ref a) (.dict ((ks.map fun k => .tuple (k.map keyD)).zip ds))
section
variable {K : PySem.W.Frag} {F H : Hp} {v : V}
theorem Vw.lists {ds : List PyData} (h : Vw K F H v (.list ds)) (s : Sub F H) : ∃ a xs, v = .ref a ∧ SqL K H a xs ∧ FzA K F xs ds := by
  cases h with
  | fz h => cases h with
    | lst h t => exact ⟨_, _, rfl, s.sqL h, t⟩
  | lst h t => exact ⟨_, _, rfl, .of h, t⟩
theorem Vw.tups {ds : List PyData} (h : Vw K F H v (.tuple ds)) (s : Sub F H) : ∃ a xs, v = .ref a ∧ TupAt H a xs ds ∧ FzA K F xs ds ∧ Fz K F v (.tuple ds) := by
  cases h with
  | fz h => cases h with
    | tup h t => exact ⟨_, _, rfl, s.tup h, t, .tup h t⟩
theorem Vw.ints {i : Int} (h : Vw K F H v (.int i)) : v = .int i := by cases h with | fz h => cases h; rfl
theorem Vw.strs {i : Str} (h : Vw K F H v (.str i)) : v = .str i := by cases h with | fz h => cases h; rfl
theorem Vw.bls {i : Bool} (h : Vw K F H v (.bool i)) : v = .bl i := by cases h with | fz h => cases h; rfl
theorem Vw.nons (h : Vw K F H v .none) : v = .non := by cases h with | fz h => cases h; rfl
theorem Vw.dp {d : PyData} (h : Vw K F H v d) (s : Sub F H) (e : d.canLay0 = true) : Dp K H v d := by
  cases h with
  | fz h => exact h.dp s e
  | lst h t => exact .lst (.inl (.inl h)) (t.dp s (by simpa [PyData.canLay0] using e))
  | dK => simp [PyData.canLay0] at e
  | dT => simp [PyData.canLay0] at e
end

def SV.fz? : SV → Option PyData
  | .fz d => some d
  | .ptr _ => none
  | .lk _ _ _ => none
def fzs : List SV → Option (List PyData)
  | [] => some []
  | .fz d :: r => (fzs r).map (d :: ·)
  | .ptr _ :: _ => none
  | .lk _ _ _ :: _ => none
/-- what a cell holds, where all its parts are frozen -/
def Cell.dat : Cell → Option PyData
  | .fz d => some d
  | .lst l => (fzs l).map .list
  | .dK l => (fzs (l.map (·.2))).map fun ds => .dict ((l.map fun p => keyD p.1).zip ds)
  | .dT l => if l.isEmpty = true then none else (fzs (l.map (·.2))).map fun ds => .dict ((l.map fun p => .tuple (p.1.map keyD)).zip ds)
/-- what a value shows now -/
def flat (P : Store) : SV → Option PyData
  | .fz d => some d
  | .ptr k => P[k]?.bind Cell.dat
  | .lk _ _ _ => none
/-- .. and does not change any more -/
def frz (P : Store) : SV → Option (PyData × Store)
  | .fz d => some (d, P)
  | .ptr k => (P[k]?.bind Cell.dat).map fun d => (d, P.set k (.fz d))
  | .lk _ _ _ => none

theorem fzs_some {K : PySem.W.Frag} {F : Hp} {ad : List Addr} : ∀ {vs : List V} {l : List SV} {ds : List PyData}, SVA K F ad vs l → fzs l = some ds → FzA K F vs ds
  | _, _, _, .nil, e => by
    simp only [fzs, Option.some.injEq] at e
    subst e; exact .nil
  | _, _, _, .cons (d := .fz d) a t, e => by
    simp only [fzs, Option.map_eq_some_iff] at e
    obtain ⟨r, e1, e2⟩ := e
    subst e2
    exact .cons a (fzs_some t e1)
  | _, _, _, .cons (d := .ptr _) a t, e => by simp [fzs] at e
  | _, _, _, .cons (d := .lk _ _ _) a t, e => by simp [fzs] at e
theorem fzs_len : ∀ {l : List SV} {ds : List PyData}, fzs l = some ds → ds.length = l.length
  | [], _, e => by simp only [fzs, Option.some.injEq] at e; subst e; rfl
  | .fz d :: r, _, e => by
    simp only [fzs, Option.map_eq_some_iff] at e
    obtain ⟨x, e1, e2⟩ := e
    subst e2
    simp [fzs_len e1]
  | .ptr _ :: _, _, e => by simp [fzs] at e
  | .lk _ _ _ :: _, _, e => by simp [fzs] at e

section
variable {K : PySem.W.Frag} {bs : List Nat} {ρ : EV} {σ : L2.St} {os : List SV} {vs : List V} {P : Store} {H F : Hp} {ad : List Addr}
theorem RelX.at (R : RelX K bs ρ σ os vs P H F ad) {v : V} {k : Nat} {c : Cell} (h : SVR K F ad v (.ptr k)) (e : P[k]? = some c) : ∃ a, ad[k]? = some a ∧ v = .ref a ∧ CellR K F H ad a c :=
  let ⟨a, h1, h2⟩ := h; ⟨a, h1, h2, R.cells k c a e h1⟩
theorem RelX.view (R : RelX K bs ρ σ os vs P H F ad) {v : V} {s : SV} {d : PyData} (h : SVR K F ad v s) (e : flat P s = some d) : Vw K F H v d := by
  cases s with
  | fz d' =>
    simp only [flat, Option.some.injEq] at e
    subst e
    exact .fz h
  | lk _ _ _ => simp [flat] at e
  | ptr k =>
    simp only [flat, Option.bind_eq_some_iff] at e
    obtain ⟨c, e1, e2⟩ := e
    obtain ⟨a, ha, rfl, hc⟩ := R.at h e1
    cases c with
    | fz d' => simp only [Cell.dat, Option.some.injEq] at e2; subst e2; exact .fz hc
    | lst l =>
      simp only [Cell.dat, Option.map_eq_some_iff] at e2
      obtain ⟨ds, e3, rfl⟩ := e2
      obtain ⟨_, xs, hx, t⟩ := hc
      exact .lst hx (fzs_some t e3)
    | dK l =>
      simp only [Cell.dat, Option.map_eq_some_iff] at e2
      obtain ⟨ds, e3, rfl⟩ := e2
      obtain ⟨_, xs, hx, t⟩ := hc
      have := Vw.dK (K := K) (F := F) (.of hx) (by have := t.length; simp at this ⊢; omega) (fzs_some t e3)
      simpa [List.map_map, Function.comp_def] using this
    | dT l =>
      have hne : l ≠ [] := fun z => by subst z; simp [Cell.dat] at e2
      have hne2 : ¬ l.isEmpty = true := by simpa using hne
      simp only [Cell.dat, if_neg hne2, Option.map_eq_some_iff] at e2
      obtain ⟨ds, e3, rfl⟩ := e2
      obtain ⟨_, xs, hx, t⟩ := hc
      have := Vw.dT (K := K) (F := F) hx (by have := t.length; simp at this ⊢; omega) (by simpa using hne) (fzs_some t e3)
      simpa [List.map_map, Function.comp_def] using this
/-- a cell is frozen -/
theorem RelX.freezeC (R : RelX K bs ρ σ os vs P H F ad) {k : Nat} {a : Addr} {c : Cell} {o : HO} {d : PyData} (e : P[k]? = some c) (ha : ad[k]? = some a) (hF : F a = none) (ho : H a = some o) (hd : ∀ G, Le F G → G a = some o → Fz K G (.ref a) d) :
    RelX K bs ρ σ os vs (P.set k (.fz d)) H (upd F a o) ad ∧ Le F (upd F a o) ∧ Fz K (upd F a o) (.ref a) d := by
  have l : Le F (upd F a o) := upd_le hF
  have fd := hd (upd F a o) l upd_same
  refine ⟨⟨fun x u q => ?_, by simp [R.len], R.nd, R.there, fun j x b e1 e2 => ?_, R.slots.mono l (.refl _), R.tops.mono l (.refl _), ⟨fun c hc => by simpa using R.bas.le c hc, fun q hq j x hj e i hi => ?_⟩, R.bb⟩, l, fd⟩
  · by_cases h : x = a
    · subst h; rw [upd_same] at q; cases q; exact .inl ho
    · rw [upd_ne h] at q; exact R.sub x u q
  · by_cases hj : j = k
    · subst hj
      have hl := (List.getElem?_eq_some_iff.mp e).1
      rw [List.getElem?_set_self hl] at e1
      cases e1
      rw [ha] at e2; cases e2
      exact fd
    · rw [List.getElem?_set_ne (Ne.symm hj)] at e1
      have ne : b ≠ a := fun z => by
        subst z
        obtain ⟨h1, q1⟩ := List.getElem?_eq_some_iff.mp e2
        obtain ⟨h2, q2⟩ := List.getElem?_eq_some_iff.mp ha
        exact hj ((List.getElem_inj R.nd).mp (q1.trans q2.symm))
      exact (R.cells j x b e1 e2).grow l (.refl _) rfl fun z => by rw [upd_ne ne]; exact z
  · by_cases hjk : j = k
    · subst hjk
      have hl := (List.getElem?_eq_some_iff.mp (by assumption : P[j]? = some c)).1
      rw [List.getElem?_set_self hl] at e
      cases e
      simp [Cell.ps] at hi
    · rw [List.getElem?_set_ne (Ne.symm hjk)] at e
      exact R.bas.low q hq j x hj e i hi
theorem RelX.freeze (R : RelX K bs ρ σ os vs P H F ad) {v : V} {s : SV} {d : PyData} {P' : Store} (h : SVR K F ad v s) (e : frz P s = some (d, P')) : ∃ G, RelX K bs ρ σ os vs P' H G ad ∧ Le F G ∧ Fz K G v d := by
  cases s with
  | fz d' =>
    simp only [frz, Option.some.injEq, Prod.mk.injEq] at e
    obtain ⟨rfl, rfl⟩ := e
    exact ⟨F, R, .refl _, h⟩
  | lk _ _ _ => simp [frz] at e
  | ptr k =>
    simp only [frz, Option.map_eq_some_iff, Prod.mk.injEq, Option.bind_eq_some_iff] at e
    obtain ⟨d', ⟨c, e1, e2⟩, rfl, rfl⟩ := e
    obtain ⟨a, ha, rfl, hc⟩ := R.at h e1
    cases c with
    | fz d2 =>
      simp only [Cell.dat, Option.some.injEq] at e2
      subst e2
      refine ⟨F, ?_, .refl _, hc⟩
      have : P.set k (.fz d2) = P := by
        apply List.ext_getElem?
        intro i
        by_cases hi : i = k
        · subst hi
          rw [List.getElem?_set_self (List.getElem?_eq_some_iff.mp e1).1, e1]
        · rw [List.getElem?_set_ne (Ne.symm hi)]
      rw [this]; exact R
    | lst l =>
      simp only [Cell.dat, Option.map_eq_some_iff] at e2
      obtain ⟨ds, e3, rfl⟩ := e2
      obtain ⟨hF, xs, hx, t⟩ := hc
      exact ⟨_, R.freezeC e1 ha hF hx fun G l g => .lst (.of g) ((fzs_some t e3).mono l)⟩
    | dK l =>
      simp only [Cell.dat, Option.map_eq_some_iff] at e2
      obtain ⟨ds, e3, rfl⟩ := e2
      obtain ⟨hF, xs, hx, t⟩ := hc
      refine ⟨_, R.freezeC e1 ha hF hx fun G le g => ?_⟩
      have := Fz.dK (K := K) (F := G) (.of g) (by have := t.length; simp at this ⊢; omega) ((fzs_some t e3).mono le)
      simpa [List.map_map, Function.comp_def] using this
    | dT l =>
      have hne : l ≠ [] := fun z => by subst z; simp [Cell.dat] at e2
      have hne2 : ¬ l.isEmpty = true := by simpa using hne
      simp only [Cell.dat, if_neg hne2, Option.map_eq_some_iff] at e2
      obtain ⟨ds, e3, rfl⟩ := e2
      obtain ⟨hF, xs, hx, t⟩ := hc
      refine ⟨_, R.freezeC e1 ha hF hx fun G le g => ?_⟩
      have := Fz.dT (K := K) (F := G) g (by have := t.length; simp at this ⊢; omega) (by simpa using hne) ((fzs_some t e3).mono le)
      simpa [List.map_map, Function.comp_def] using this
end

/-- new frozen objects -/
inductive Ext : Hp → Hp → Hp → Hp → Prop
  | refl {F H : Hp} : Ext F H F H
  | lay {F H F1 H1 : Hp} {p : Addr} {o : HO} : Ext F H F1 H1 → H1 p = none → Ext F H (upd F1 p o) (upd H1 p o)
theorem RelX.ext {K : PySem.W.Frag} {bs : List Nat} {ρ : EV} {σ : L2.St} {os : List SV} {vs : List V} {P : Store} {H F F1 H1 : Hp} {ad : List Addr} (R : RelX K bs ρ σ os vs P H F ad) (x : Ext F H F1 H1) : RelX K bs ρ σ os vs P H1 F1 ad := by
  induction x with
  | refl => exact R
  | lay x n ih => exact ih.lay n
theorem Ext.one {F H : Hp} {p : Addr} {o : HO} (n : H p = none) : Ext F H (upd F p o) (upd H p o) := .lay .refl n

/-! ### expressions -/
abbrev XM := EV → Store → Option (SV × Store)
abbrev BM := EV → Store → Option (Bool × Store)
abbrev AM := EV → Store → Option (List SV × Store)
/-- what the end of a part wants -/
def PEd (X : Cx) (e : Expr) (f : XM) : Prop := ∃ t, PE X e t ∧ ∀ (bs : List Nat) (ρ : EV) (σ : L2.St) (os : List SV) (vs : List V) (P : Store) (H : Hp) (Q : VK) (r : SV) (P' : Store), Rel X.K bs ρ σ os vs P H → f ρ P = some (r, P') →
  (∀ v H', Rel X.K bs ρ σ (r :: os) (v :: vs) P' H' → Q v H') → t σ H Q
def PTd (X : Cx) (e : Expr) (f : BM) : Prop := ∃ t, PT X e t ∧ ∀ (bs : List Nat) (ρ : EV) (σ : L2.St) (os : List SV) (vs : List V) (P : Store) (H : Hp) (Q : Bool → Hp → Prop) (r : Bool) (P' : Store), Rel X.K bs ρ σ os vs P H → f ρ P = some (r, P') →
  (∀ H', Rel X.K bs ρ σ os vs P' H' → Q r H') → t σ H Q
/-- arguments: pushed from the left -/
def PAd (X : Cx) (es : List Expr) (f : AM) : Prop := ∃ t, PA X es t ∧ ∀ (bs : List Nat) (ρ : EV) (σ : L2.St) (os : List SV) (vs : List V) (P : Store) (H : Hp) (Q : List V → Hp → Prop) (r : List SV) (P' : Store), Rel X.K bs ρ σ os vs P H → f ρ P = some (r, P') →
  (∀ ws H', ws.length = r.length → Rel X.K bs ρ σ (r.reverse ++ os) (ws.reverse ++ vs) P' H' → Q ws H') → t σ H Q

def mC (d : PyData) : XM := fun _ P => some (.fz d, P)
def mVar (i : Nat) : XM := fun ρ P => match ρ.sl[i]? with
  | some (some s) => some (s, P)
  | _ => none
section
variable {X : Cx} {pos : Pos}
theorem ped_atom {e : Expr} {v : V} {d : PyData} (h : PE X e (tC v)) (hd : ∀ F, Fz X.K F v d) : PEd X e (mC d) := ⟨_, h, fun bs ρ σ os vs P H Q r P' R e q => by
  simp only [mC, Option.some.injEq, Prod.mk.injEq] at e
  obtain ⟨rfl, rfl⟩ := e
  obtain ⟨F, ad, R⟩ := R
  exact q _ _ (R.atom (hd F))⟩
theorem ped_int {i : Int} {j} : PEd X (.Constant (.int i) j pos) (mC (.int i)) := ped_atom pe_int fun _ => .int i
theorem ped_bl {b : Bool} {j} : PEd X (.Constant (.bool b) j pos) (mC (.bool b)) := ped_atom pe_bl fun _ => .bl b
theorem ped_non {j} : PEd X (.Constant .none j pos) (mC .none) := ped_atom pe_non fun _ => .non
theorem ped_str {x : Str} {j} : PEd X (.Constant (.str x) j pos) (mC (.str x)) := ped_atom pe_str fun _ => .str x
theorem ped_glob {x : Str} {v : V} {u : Value} {d : PyData} (hg : Gl X x) (hm : X.mg x = some u) (r : RelV v u) (hd : ∀ F, Fz X.K F v d) (hdb : (x == ("__debug__" : Str)) = false := by decide) : PEd X (.Name x pos) (mC d) := ped_atom (pe_glob hg hm r hdb) hd
theorem ped_var (i : Nat) {x : Str} (hN : X.N[i]? = some x := by rfl) (hv : Vis X.env.scope x := by first | exact Or.inl rfl | exact Or.inr (Or.inl rfl) | exact Or.inr (Or.inr rfl)) (hd : (x == ("__debug__" : Str)) = false := by decide)
    (hcd : (x == ("__classdict__" : Str)) = false := by decide) : PEd X (.Name x pos) (mVar i) := ⟨_, pe_var hN hv hd hcd, fun bs ρ σ os vs P H Q r P' R e q => by
  obtain ⟨F, ad, R⟩ := R
  unfold mVar at e
  cases h : ρ.sl[i]? with
  | none => rw [h] at e; cases e
  | some s =>
    cases s with
    | none => rw [h] at e; cases e
    | some s =>
      rw [h] at e
      simp only [Option.some.injEq, Prod.mk.injEq] at e
      obtain ⟨rfl, rfl⟩ := e
      obtain ⟨v, hv, r⟩ := R.slots.2 i s h
      exact ⟨v, hv, q v H ⟨F, ad, R.push r⟩⟩⟩

/-! two-place operations -/
def OpD (X : Cx) (f : Value → Value → Sem Value) (g : PyData → PyData → Option PyData) : Prop := ∃ r, OpR X f r ∧ ∀ (F H : Hp) (x y : V) (d e z : PyData) (Q : VK), Sub F H → Vw X.K F H x d → Vw X.K F H y e → g d e = some z →
  (∀ v H' F', Ext F H F' H' → Fz X.K F' v z → Q v H') → r x y H Q
def mBin (g : PyData → PyData → Option PyData) (f1 f2 : XM) : XM := fun ρ P => (f1 ρ P).bind fun (a, P1) => (f2 ρ P1).bind fun (b, P2) => (flat P2 a).bind fun d => (flat P2 b).bind fun e => (g d e).map fun z => (.fz z, P2)
theorem bin_d {a b : Expr} {f : Value → Value → Sem Value} {g : PyData → PyData → Option PyData} {f1 f2 : XM} {t1 t2 : TE} {r : R2}
    (hr : ∀ (F H : Hp) (x y : V) (d e z : PyData) (Q : VK), Sub F H → Vw X.K F H x d → Vw X.K F H y e → g d e = some z → (∀ v H' F', Ext F H F' H' → Fz X.K F' v z → Q v H') → r x y H Q)
    (h1 : ∀ (bs : List Nat) (ρ : EV) (σ : L2.St) (os : List SV) (vs : List V) (P : Store) (H : Hp) (Q : VK) (r : SV) (P' : Store), Rel X.K bs ρ σ os vs P H → f1 ρ P = some (r, P') → (∀ v H', Rel X.K bs ρ σ (r :: os) (v :: vs) P' H' → Q v H') → t1 σ H Q)
    (h2 : ∀ (bs : List Nat) (ρ : EV) (σ : L2.St) (os : List SV) (vs : List V) (P : Store) (H : Hp) (Q : VK) (r : SV) (P' : Store), Rel X.K bs ρ σ os vs P H → f2 ρ P = some (r, P') → (∀ v H', Rel X.K bs ρ σ (r :: os) (v :: vs) P' H' → Q v H') → t2 σ H Q)
    (bs : List Nat) (ρ : EV) (σ : L2.St) (os : List SV) (vs : List V) (P : Store) (H : Hp) (Q : VK) (w : SV) (P' : Store) (R : Rel X.K bs ρ σ os vs P H) (e : mBin g f1 f2 ρ P = some (w, P'))
    (q : ∀ v H', Rel X.K bs ρ σ (w :: os) (v :: vs) P' H' → Q v H') : tOp r t1 t2 σ H Q := by
  simp only [mBin, Option.bind_eq_some_iff, Option.map_eq_some_iff, Prod.mk.injEq] at e
  obtain ⟨⟨s1, P1⟩, e1, ⟨s2, P2⟩, e2, d1, e3, d2, e4, z, e5, rfl, rfl⟩ := e
  refine h1 bs ρ σ os vs P H _ s1 P1 R e1 fun x H1 R1 => ?_
  refine h2 bs ρ σ _ _ P1 H1 _ s2 P2 R1 e2 fun y H2 R2 => ?_
  obtain ⟨F, ad, R2⟩ := R2
  obtain ⟨r2, R2⟩ := R2.pop
  obtain ⟨r1, R2⟩ := R2.pop
  refine hr F H2 x y d1 d2 z Q R2.sub (R2.view r1 e3) (R2.view r2 e4) e5 fun v H' F' x f => ?_
  exact q v H' ((R2.ext x).atom f)
theorem ped_bin {a b : Expr} {op : Operator} {g : PyData → PyData → Option PyData} {f1 f2 : XM} (ho : OpD X (binaryOp op) g) (ha : PEd X a f1) (hb : PEd X b f2) : PEd X (.BinOp a op b pos) (mBin g f1 f2) := by
  obtain ⟨r, h, hr⟩ := ho
  obtain ⟨t1, p1, h1⟩ := ha
  obtain ⟨t2, p2, h2⟩ := hb
  exact ⟨_, pe_op h p1 p2, bin_d (a := a) (b := b) (f := binaryOp op) hr h1 h2⟩
theorem ped_cmp {a b : Expr} {op : CmpOp} {g : PyData → PyData → Option PyData} {f1 f2 : XM} (ho : OpD X (compareOp op) g) (ha : PEd X a f1) (hb : PEd X b f2) (hm : behindInMarks op b = false) : PEd X (.Compare a [op] [b] pos) (mBin g f1 f2) := by
  obtain ⟨r, h, hr⟩ := ho
  obtain ⟨t1, p1, h1⟩ := ha
  obtain ⟨t2, p2, h2⟩ := hb
  exact ⟨_, pe_cmpR h p1 p2 hm, bin_d (a := a) (b := b) (f := compareOp op) hr h1 h2⟩
theorem OpD.or {f : Value → Value → Sem Value} {g g' : PyData → PyData → Option PyData} (h : OpD X f g) (h' : OpD X f g') : OpD X f (fun d e => (g d e).or (g' d e)) := by
  obtain ⟨r, h, hr⟩ := h
  obtain ⟨r', h', hr'⟩ := h'
  refine ⟨_, h.or h', fun F H x y d e z Q s vx vy eq q => ?_⟩
  have eq : (g d e).or (g' d e) = some z := eq
  cases hz : g d e with
  | some w =>
    rw [hz] at eq
    simp only [Option.some_or, Option.some.injEq] at eq
    subst eq
    exact .inl (hr F H x y d e w Q s vx vy hz q)
  | none =>
    rw [hz] at eq
    exact .inr (hr' F H x y d e z Q s vx vy (by simpa using eq) q)
end
end Pd

set_option Elab.async false
set_option linter.all false
set_option maxRecDepth 100000
set_option maxHeartbeats 1000000
/-! The layer Pd, part C: operations on data. -/
namespace Pd
open PySem PySem.Spec PyProof.Rows L2
section
variable {X : Cx}

/-- two ints -/
def dI (g : Int → Int → Option PyData) : PyData → PyData → Option PyData
  | .int i, .int j => g i j
  | _, _ => none
theorem dI_some {g : Int → Int → Option PyData} {d e z : PyData} (h : dI g d e = some z) : ∃ i j, d = .int i ∧ e = .int j ∧ g i j = some z := by
  unfold dI at h
  split at h
  · exact ⟨_, _, rfl, rfl, h⟩
  · cases h
def dIC (C : Int → Int → Bool) (g : Int → Int → PyData) : PyData → PyData → Option PyData := dI fun i j => if C i j = true then some (g i j) else none
theorem dIC_some {C : Int → Int → Bool} {g : Int → Int → PyData} {d e z : PyData} (h : dIC C g d e = some z) : ∃ i j, d = .int i ∧ e = .int j ∧ C i j = true ∧ z = g i j := by
  obtain ⟨i, j, e1, e2, h⟩ := dI_some h
  by_cases hc : C i j = true
  · rw [if_pos hc] at h
    exact ⟨i, j, e1, e2, hc, (Option.some.inj h).symm⟩
  · rw [if_neg hc] at h; cases h
theorem opd_int {f : Value → Value → Sem Value} {C : Int → Int → Prop} {c : Int → Int → Bool} {g : Int → Int → V} {g' : Int → Int → PyData} (h : OpR X f (rI C g)) (hc : ∀ i j, c i j = true → C i j) (hg : ∀ F i j, Fz X.K F (g i j) (g' i j)) : OpD X f (dIC c g') := by
  refine ⟨_, h, fun F H x y d e z Q s vx vy eq q => ?_⟩
  obtain ⟨i, j, rfl, rfl, hcc, rfl⟩ := dIC_some eq
  exact ⟨i, j, vx.ints, vy.ints, hc i j hcc, q _ _ _ .refl (hg F i j)⟩
theorem opd_int0 {f : Value → Value → Sem Value} {g : Int → Int → V} {g' : Int → Int → PyData} (h : OpR X f (rI0 g)) (hg : ∀ F i j, Fz X.K F (g i j) (g' i j)) : OpD X f (dI fun i j => some (g' i j)) := by
  refine ⟨_, h, fun F H x y d e z Q s vx vy eq q => ?_⟩
  obtain ⟨i, j, rfl, rfl, hz⟩ := dI_some eq
  cases hz
  exact ⟨i, j, vx.ints, vy.ints, q _ _ _ .refl (hg F i j)⟩

/-- two texts -/
def dS (g : Str → Str → Option PyData) : PyData → PyData → Option PyData
  | .str i, .str j => g i j
  | _, _ => none
theorem dS_some {g : Str → Str → Option PyData} {d e z : PyData} (h : dS g d e = some z) : ∃ i j, d = .str i ∧ e = .str j ∧ g i j = some z := by
  unfold dS at h
  split at h
  · exact ⟨_, _, rfl, rfl, h⟩
  · cases h

/-! ### + -/
def dAddS : PyData → PyData → Option PyData := dS fun x y => if x.length + y.length ≤ sizeLine then some (.str (x ++ y)) else none
def dAddL : PyData → PyData → Option PyData
  | .list xs, .list ys => if xs.length + ys.length ≤ sizeLine then some (.list (xs ++ ys)) else none
  | _, _ => none
def dAddT : PyData → PyData → Option PyData
  | .tuple xs, .tuple ys => if xs.length + ys.length ≤ sizeLine then some (.tuple (xs ++ ys)) else none
  | _, _ => none
def rCatR (K : PySem.W.Frag) : R2 := fun x y H Q => ∃ l b xs zs, x = .ref l ∧ y = .ref b ∧ SqL K H l xs ∧ SqL K H b zs ∧ xs.length + zs.length ≤ sizeLine ∧ ∀ p, H p = none → Q (.ref p) (upd H p (.lst (xs ++ zs)))
theorem op_catR : OpR X (binaryOp .Add) (rCatR X.K) := by
  intro pins s σ H x y v u Q I rx ry h
  obtain ⟨l, b, xs, zs, rfl, rfl, hH, hB, hz, q⟩ := h
  cases rx
  cases ry
  obtain ⟨vs, r, hl, z1⟩ := I.list hH
  obtain ⟨ws, r2, hb, z2⟩ := I.list hB
  have hlen := r.length
  have hlen2 := r2.length
  obtain ⟨⟨cls, dd, data, sl⟩, ho, hc, n, hd⟩ := hl.isList
  obtain ⟨⟨cls2, dd2, data2, sl2⟩, ho2, hc2, n2, hd2⟩ := hb.isList
  simp only at hc hd hc2 hd2
  subst hc hd hc2 hd2
  have ea : vs.toArray ++ ws.toArray = (vs ++ ws).toArray := by simp
  refine concat_meets ⟨_, ho, rfl⟩ ⟨_, ho2, rfl⟩ noFill_list_add seq_list_add PySem.F.slot_list_add PySem.F.entry_list_add (PySem.F.args_list_add_2 _ _) (list_addW l b vs.toArray ws.toArray n n2 dd dd2 sl sl2 (by simp; omega)) ⟨ho, ho2, ?_⟩
  rw [ea]
  exact ⟨.ref _, _, I.lnew (t' := s.toks) (r.append r2) (by rw [List.length_append]; omega), rfl, q _ I.fresh⟩
theorem opd_addS : OpD X (binaryOp .Add) dAddS := by
  refine ⟨_, op_add_str, fun F H x y d e z Q s vx vy eq q => ?_⟩
  obtain ⟨i, j, rfl, rfl, hz⟩ := dS_some eq
  by_cases hl : i.length + j.length ≤ sizeLine
  · rw [if_pos hl] at hz
    cases hz
    exact ⟨i, j, vx.strs, vy.strs, hl, q _ _ _ .refl (.str _)⟩
  · rw [if_neg hl] at hz; cases hz
theorem opd_addL : OpD X (binaryOp .Add) dAddL := by
  refine ⟨_, op_catR, fun F H x y d e z Q s vx vy eq q => ?_⟩
  unfold dAddL at eq
  split at eq
  · rename_i xs ys
    split at eq
    · rename_i hl
      cases eq
      obtain ⟨a, us, rfl, ha, ta⟩ := vx.lists s
      obtain ⟨b, ws, rfl, hb, tb⟩ := vy.lists s
      refine ⟨a, b, us, ws, rfl, rfl, ha, hb, by rw [ta.length, tb.length]; exact hl, fun p n => ?_⟩
      refine q _ _ _ (.one n) (.lst (.of upd_same) ?_)
      have fr : F p = none := by
        cases e : F p with
        | none => rfl
        | some u => rcases s p u e with z | ⟨_, o, z⟩ <;> (rw [n] at z; cases z)
      exact (ta.append tb).mono (upd_le fr)
    · cases eq
  · cases eq
theorem Sub.none {F H : Hp} (s : Sub F H) {p : Addr} (n : H p = none) : F p = none := by
  cases e : F p with
  | none => rfl
  | some u => rcases s p u e with z | ⟨_, o, z⟩ <;> (rw [n] at z; cases z)
theorem tupQ_ext {K : PySem.W.Frag} {F H : Hp} {xs : List V} {ds : List PyData} {Q : VK} (s : Sub F H) (t : FzA K F xs ds) (q : ∀ v H' F', Ext F H F' H' → Fz K F' v (.tuple ds) → Q v H') : TupQ H xs Q := by
  cases hk : keyAll ds with
  | true => exact .inl fun p n => q _ _ _ (.one n) (.tup (.inl ⟨hk, upd_same⟩) (t.mono (upd_le (s.none n))))
  | false => exact .inr fun p o n hc hd => q _ _ _ (.one n) (.tup (.inr ⟨hk, o, upd_same, hc, hd⟩) (t.mono (upd_le (s.none n))))
theorem tupQ_rel {K : PySem.W.Frag} {bs : List Nat} {ρ : EV} {σ : L2.St} {os : List SV} {vs : List V} {P : Store} {H F : Hp} {ad : List Addr} {xs : List V} {ds : List PyData} {Q : VK} (R : RelX K bs ρ σ os vs P H F ad) (t : FzA K F xs ds)
    (q : ∀ v H', Rel K bs ρ σ (.fz (.tuple ds) :: os) (v :: vs) P H' → Q v H') : TupQ H xs Q := by
  cases hk : keyAll ds with
  | true => exact .inl fun p n => q _ _ ⟨_, ad, (R.lay n).push (show Fz K _ _ _ from .tup (.inl ⟨hk, upd_same⟩) (t.mono (upd_le (R.free n))))⟩
  | false => exact .inr fun p o n hc hd => q _ _ ⟨_, ad, (R.lay n).push (show Fz K _ _ _ from .tup (.inr ⟨hk, o, upd_same, hc, hd⟩) (t.mono (upd_le (R.free n))))⟩
theorem opd_addT : OpD X (binaryOp .Add) dAddT := by
  refine ⟨_, op_catQ, fun F H x y d e z Q s vx vy eq q => ?_⟩
  unfold dAddT at eq
  split at eq
  · rename_i xs ys
    split at eq
    · rename_i hl
      cases eq
      obtain ⟨a, us, rfl, ha, ta, fa⟩ := vx.tups s
      obtain ⟨b, ws, rfl, hb, tb, fb⟩ := vy.tups s
      refine ⟨a, b, us, ws, rfl, rfl, ha.sqT, hb.sqT, by rw [ta.length, tb.length]; exact hl, fun e0 => ?_, fun _ e0 => ?_, fun _ _ => ?_⟩
      · have : xs = [] := List.eq_nil_of_length_eq_zero (by rw [← ta.length, e0]; rfl)
        subst this
        exact q _ _ _ .refl fb
      · have : ys = [] := List.eq_nil_of_length_eq_zero (by rw [← tb.length, e0]; rfl)
        subst this
        rw [List.append_nil] at q
        exact q _ _ _ .refl fa
      · exact tupQ_ext s (ta.append tb) q
    · cases eq
  · cases eq
def dAdd : PyData → PyData → Option PyData := fun d e => (dI (fun i j => some (.int (i + j))) d e).or ((dAddS d e).or ((dAddL d e).or (dAddT d e)))
theorem opd_add : OpD X (binaryOp .Add) dAdd := (opd_int0 op_add fun _ _ _ => .int _).or (opd_addS.or (opd_addL.or opd_addT))
def dSub : PyData → PyData → Option PyData := dI fun i j => some (.int (i - j))
theorem opd_sub : OpD X (binaryOp .Sub) dSub := opd_int0 op_sub fun _ _ _ => .int _
/-- * of ints of which one is below 2 ^ 64 -/
def cMul (i j : Int) : Bool := (decide (-(2 ^ 64) < i) && decide (i < 2 ^ 64)) || (decide (-(2 ^ 64) < j) && decide (j < 2 ^ 64))
def dMulI : PyData → PyData → Option PyData := dIC cMul fun i j => .int (i * j)
theorem opd_mulI : OpD X (binaryOp .Mult) dMulI := opd_int op_mul (fun i j h => by simpa [cMul, CMul] using h) fun _ _ _ => .int _
def cDiv (i j : Int) : Bool := decide (j ≠ 0) && decide (j.natAbs < 1073741824)
def dDiv : PyData → PyData → Option PyData := dIC cDiv fun i j => .int (i.fdiv j)
theorem opd_div : OpD X (binaryOp .FloorDiv) dDiv := opd_int op_fdivN (fun i j h => by simpa [cDiv, CDivN] using h) fun _ _ _ => .int _
def dMod : PyData → PyData → Option PyData := dIC (fun _ j => decide (j ≠ 0)) fun i j => .int (i.fmod j)
theorem opd_mod : OpD X (binaryOp .Mod) dMod := opd_int op_modN (fun i j h => by simpa using h) fun _ _ _ => .int _
def cPow (i j : Int) : Bool := decide (0 ≤ j) && (decide (j ≤ 1000000) && decide (i.natAbs < 2 ^ 64))
def dShl : PyData → PyData → Option PyData := dIC cPow fun i j => .int (i * 2 ^ j.toNat)
theorem opd_shl : OpD X (binaryOp .LShift) dShl := opd_int op_shl (fun i j h => by simpa [cPow, CPow] using h) fun _ _ _ => .int _

/-! ### order -/
def dLt : PyData → PyData → Option PyData := fun d e => (dI (fun i j => some (.bool (decide (i < j)))) d e).or (dS (fun x y => some (.bool (decide (x.cps.toList < y.cps.toList)))) d e)
def dLe : PyData → PyData → Option PyData := fun d e => (dI (fun i j => some (.bool (decide (i ≤ j)))) d e).or (dS (fun x y => some (.bool (!decide (y.cps.toList < x.cps.toList)))) d e)
def dGt : PyData → PyData → Option PyData := fun d e => (dI (fun i j => some (.bool (decide (j < i)))) d e)
def dGe : PyData → PyData → Option PyData := fun d e => (dI (fun i j => some (.bool (decide (j ≤ i)))) d e)
theorem opd_strs {f : Value → Value → Sem Value} {g : Str → Str → V} {g' : Str → Str → PyData} (h : OpR X f (fun x y H Q => ∃ i j, x = .str i ∧ y = .str j ∧ Q (g i j) H)) (hg : ∀ F i j, Fz X.K F (g i j) (g' i j)) : OpD X f (dS fun i j => some (g' i j)) := by
  refine ⟨_, h, fun F H x y d e z Q s vx vy eq q => ?_⟩
  obtain ⟨i, j, rfl, rfl, hz⟩ := dS_some eq
  cases hz
  exact ⟨i, j, vx.strs, vy.strs, q _ _ _ .refl (hg F i j)⟩
theorem opd_lt : OpD X (compareOp .Lt) dLt := (opd_int0 op_lt fun _ _ _ => .bl _).or (opd_strs op_lt_str fun _ _ _ => .bl _)
theorem opd_le : OpD X (compareOp .LtE) dLe := (opd_int0 op_le fun _ _ _ => .bl _).or (opd_strs op_le_str fun _ _ _ => .bl _)
theorem opd_gt : OpD X (compareOp .Gt) dGt := opd_int0 op_gt fun _ _ _ => .bl _
theorem opd_ge : OpD X (compareOp .GtE) dGe := opd_int0 op_ge fun _ _ _ => .bl _

/-! ### ==, is -/
def atom : PyData → Option V
  | .none => some .non
  | .bool b => some (.bl b)
  | .int i => some (.int i)
  | .str x => some (.str x)
  | _ => none
theorem Vw.atom {K : PySem.W.Frag} {F H : Hp} {v w : V} {d : PyData} (h : Vw K F H v d) (e : atom d = some w) : v = w := by
  cases d with
  | none => rw [h.nons]; exact Option.some.inj e
  | bool b => rw [h.bls]; exact Option.some.inj e
  | int i => rw [h.ints]; exact Option.some.inj e
  | str x => rw [h.strs]; exact Option.some.inj e
  | list _ => cases e
  | tuple _ => cases e
  | dict _ => cases e
def dEqA (n : Bool) : PyData → PyData → Option PyData := fun d e => match atom d, atom e with
  | some x, some y => if scal x y = true then some (.bool (n != decide (x = y))) else none
  | _, _ => none
def dEqD (n : Bool) : PyData → PyData → Option PyData := fun d e => if SeqAt.shaped d = true ∧ SeqAt.shaped e = true then some (.bool (n != PyData.eqv d e)) else none
def dEq : PyData → PyData → Option PyData := fun d e => (dEqA false d e).or (dEqD false d e)
def dNe : PyData → PyData → Option PyData := fun d e => (dEqA true d e).or (dEqD true d e)
theorem opd_eqA : OpD X (compareOp .Eq) (dEqA false) := by
  refine ⟨_, op_eq, fun F H x y d e z Q s vx vy eq q => ?_⟩
  unfold dEqA at eq
  split at eq
  · rename_i u w h1 h2
    split at eq
    · rename_i hs
      cases eq
      have e1 := vx.atom h1
      have e2 := vy.atom h2
      subst e1; subst e2
      exact ⟨hs, q _ _ _ .refl (by simpa using Fz.bl _)⟩
    · cases eq
  · cases eq
theorem opd_neA : OpD X (compareOp .NotEq) (dEqA true) := by
  refine ⟨_, op_ne, fun F H x y d e z Q s vx vy eq q => ?_⟩
  unfold dEqA at eq
  split at eq
  · rename_i u w h1 h2
    split at eq
    · rename_i hs
      cases eq
      have e1 := vx.atom h1
      have e2 := vy.atom h2
      subst e1; subst e2
      exact ⟨hs, q _ _ _ .refl (by simpa using Fz.bl _)⟩
    · cases eq
  · cases eq
theorem shaped_lay {d : PyData} (h : SeqAt.shaped d = true) : d.canLay0 = true := SeqAt.canLay_of_shaped h
theorem opd_eqD (hu : X.A.units + 65 < cLine) : OpD X (compareOp .Eq) (dEqD false) := by
  refine ⟨_, op_eqD (by omega), fun F H x y d e z Q s vx vy eq q => ?_⟩
  unfold dEqD at eq
  split at eq
  · rename_i h
    cases eq
    exact ⟨d, e, vx.dp s (shaped_lay h.1), vy.dp s (shaped_lay h.2), h.1, h.2, q _ _ _ .refl (by simpa using Fz.bl _)⟩
  · cases eq
theorem opd_neD (hu : X.A.units + 65 < cLine) : OpD X (compareOp .NotEq) (dEqD true) := by
  refine ⟨_, op_neD (by omega), fun F H x y d e z Q s vx vy eq q => ?_⟩
  unfold dEqD at eq
  split at eq
  · rename_i h
    cases eq
    exact ⟨d, e, vx.dp s (shaped_lay h.1), vy.dp s (shaped_lay h.2), h.1, h.2, q _ _ _ .refl (by simpa using Fz.bl _)⟩
  · cases eq
theorem opd_eq (hu : X.A.units + 65 < cLine) : OpD X (compareOp .Eq) dEq := opd_eqA.or (opd_eqD hu)
theorem opd_ne (hu : X.A.units + 65 < cLine) : OpD X (compareOp .NotEq) dNe := opd_neA.or (opd_neD hu)
def isNon : PyData → Bool
  | .none => true
  | _ => false
def dIs (n : Bool) : PyData → PyData → Option PyData
  | d, .none => some (.bool (n != isNon d))
  | .bool a, .bool b => some (.bool (n != decide (a = b)))
  | _, _ => none
theorem Fz.isNon {K : PySem.W.Frag} {F : Hp} {v : V} {d : PyData} (h : Fz K F v d) : decide (v = .non) = isNon d := by cases h <;> simp [Pd.isNon]
theorem Vw.isNon {K : PySem.W.Frag} {F H : Hp} {v : V} {d : PyData} (h : Vw K F H v d) : decide (v = .non) = Pd.isNon d := by
  cases h with
  | fz h => exact h.isNon
  | lst => simp [Pd.isNon]
  | dK => simp [Pd.isNon]
  | dT => simp [Pd.isNon]
theorem opd_is : OpD X (compareOp .Is) (dIs false) := by
  refine ⟨_, op_isN.or op_is_bl, fun F H x y d e z Q s vx vy eq q => ?_⟩
  unfold dIs at eq
  split at eq
  · cases eq
    refine .inl ⟨vy.nons, ?_⟩
    rw [vx.isNon]
    exact q _ _ _ .refl (by simpa using Fz.bl _)
  · cases eq
    exact .inr ⟨_, _, vx.bls, vy.bls, q _ _ _ .refl (by simpa using Fz.bl _)⟩
  · cases eq
theorem opd_isnot : OpD X (compareOp .IsNot) (dIs true) := by
  refine ⟨_, op_notN.or op_isnot_bl, fun F H x y d e z Q s vx vy eq q => ?_⟩
  unfold dIs at eq
  split at eq
  · cases eq
    refine .inl ⟨vy.nons, ?_⟩
    rw [vx.isNon]
    exact q _ _ _ .refl (by simpa using Fz.bl _)
  · cases eq
    exact .inr ⟨_, _, vx.bls, vy.bls, q _ _ _ .refl (by simpa using Fz.bl _)⟩
  · cases eq

/-! ### in -/
/-- an item of a list or tuple of data; a part of a text; a key of a dict -/
def dInS (n : Bool) : PyData → PyData → Option PyData
  | d, .list ds => if SeqAt.shaped d = true ∧ SeqAt.shaped (.list ds) = true then some (.bool (n != ds.any fun y => PyData.eqv y d)) else none
  | d, .tuple ds => if SeqAt.shaped d = true ∧ SeqAt.shaped (.tuple ds) = true then some (.bool (n != ds.any fun y => PyData.eqv y d)) else none
  | .str x, .str y => some (.bool (n != !(Builtin.Str.occurrences y x 0 y.length 1).isEmpty))
  | _, _ => none
def rInTD (K : PySem.W.Frag) (neg : Bool) : R2 := fun x y H Q => ∃ (d : PyData) (ds : List PyData), Dp K H x d ∧ Dp K H y (.tuple ds) ∧ SeqAt.shaped d = true ∧ SeqAt.shaped (.tuple ds) = true ∧ Q (.bl (neg != ds.any fun z => PyData.eqv z d)) H
theorem roomT {A : Around} {ds : List PyData} {d : PyData} (sd : SeqAt.shaped d = true) (hu : A.units + 65 < cLine) : A.units + 1 + min (PyData.depthAll ds) d.depth < cLine := by
  have h : d.depth ≤ 64 := by
    have := (Bool.and_eq_true_iff.mp sd).2
    simpa using this
  omega
theorem op_inTD (hu : X.A.units + 65 < cLine) : OpR X (compareOp .In) (rInTD X.K false) := by
  intro pins s σ H x y v u Q I rx ry h
  obtain ⟨d, ds, hd, he, sd, se, q⟩ := h
  obtain ⟨as, r1⟩ := Dp.reads I d x v hd rx
  obtain ⟨bs, r2⟩ := Dp.reads I (.tuple ds) y u he ry
  exact SeqAt.in_tuple_reads r2 r1 (by simpa [PyData.canLay0] using SeqAt.canLay_of_shaped se) (SeqAt.canLay_of_shaped sd) (roomT sd hu) ⟨.bl _, H, I, rfl, by simpa using q⟩
theorem op_notInTD (hu : X.A.units + 65 < cLine) : OpR X (compareOp .NotIn) (rInTD X.K true) := by
  intro pins s σ H x y v u Q I rx ry h
  obtain ⟨d, ds, hd, he, sd, se, q⟩ := h
  obtain ⟨as, r1⟩ := Dp.reads I d x v hd rx
  obtain ⟨bs, r2⟩ := Dp.reads I (.tuple ds) y u he ry
  exact SeqAt.notIn_tuple_reads r2 r1 (by simpa [PyData.canLay0] using SeqAt.canLay_of_shaped se) (SeqAt.canLay_of_shaped sd) (roomT sd hu) ⟨.bl _, H, I, rfl, by simpa using q⟩
theorem opd_in (hu : X.A.units + 65 < cLine) : OpD X (compareOp .In) (dInS false) := by
  refine ⟨_, (op_inD hu).or ((op_inTD hu).or op_in_str), fun F H x y d e z Q s vx vy eq q => ?_⟩
  unfold dInS at eq
  split at eq
  · split at eq
    · rename_i h
      cases eq
      exact .inl ⟨_, _, vx.dp s (shaped_lay h.1), vy.dp s (shaped_lay h.2), h.1, h.2, q _ _ _ .refl (by simpa using Fz.bl _)⟩
    · cases eq
  · split at eq
    · rename_i h
      cases eq
      exact .inr (.inl ⟨_, _, vx.dp s (shaped_lay h.1), vy.dp s (shaped_lay h.2), h.1, h.2, q _ _ _ .refl (by simpa using Fz.bl _)⟩)
    · cases eq
  · cases eq
    exact .inr (.inr ⟨_, _, vx.strs, vy.strs, q _ _ _ .refl (by simpa using Fz.bl _)⟩)
  · cases eq
theorem opd_notin (hu : X.A.units + 65 < cLine) : OpD X (compareOp .NotIn) (dInS true) := by
  refine ⟨_, (op_notInD hu).or ((op_notInTD hu).or L2.op_notin_str), fun F H x y d e z Q s vx vy eq q => ?_⟩
  unfold dInS at eq
  split at eq
  · split at eq
    · rename_i h
      cases eq
      exact .inl ⟨_, _, vx.dp s (shaped_lay h.1), vy.dp s (shaped_lay h.2), h.1, h.2, q _ _ _ .refl (by simpa using Fz.bl _)⟩
    · cases eq
  · split at eq
    · rename_i h
      cases eq
      exact .inr (.inl ⟨_, _, vx.dp s (shaped_lay h.1), vy.dp s (shaped_lay h.2), h.1, h.2, q _ _ _ .refl (by simpa using Fz.bl _)⟩)
    · cases eq
  · cases eq
    exact .inr (.inr ⟨_, _, vx.strs, vy.strs, q _ _ _ .refl (by simpa using Fz.bl _)⟩)
  · cases eq

/-! ### an item -/
def dIx : PyData → PyData → Option PyData
  | .list ds, .int i => atI ds i
  | .tuple ds, .int i => atI ds i
  | .str z, .int i => if z.length ≤ sizeLine then (atI z.cps.toList i).map fun c => .str ⟨#[c]⟩ else none
  | _, _ => none
theorem FzA.atI {K : PySem.W.Frag} {F : Hp} {vs : List V} {ds : List PyData} {i : Int} {d : PyData} (h : FzA K F vs ds) (e : L2.atI ds i = some d) : ∃ v, L2.atI vs i = some v ∧ Fz K F v d := by
  unfold L2.atI at e ⊢
  rw [h.length]
  cases hn : ixN ds.length i with
  | none => rw [hn] at e; cases e
  | some j =>
    rw [hn] at e
    exact h.getD e
def IxD (X : Cx) (g : PyData → PyData → Option PyData) : Prop := ∃ r, IxR X r ∧ ∀ (F H : Hp) (x y : V) (d e z : PyData) (Q : VK), Sub F H → Vw X.K F H x d → Vw X.K F H y e → g d e = some z →
  (∀ v H' F', Ext F H F' H' → Fz X.K F' v z → Q v H') → r x y H Q
theorem ixd_seq : IxD X dIx := by
  refine ⟨_, ix_seq, fun F H x y d e z Q s vx vy eq q => ?_⟩
  unfold dIx at eq
  split at eq
  · obtain ⟨a, us, rfl, ha, ta⟩ := vx.lists s
    obtain ⟨v, hv, fv⟩ := ta.atI eq
    exact .inl ⟨a, us, _, v, rfl, vy.ints, ha, hv, q _ _ _ .refl fv⟩
  · obtain ⟨a, us, rfl, ha, ta, _⟩ := vx.tups s
    obtain ⟨v, hv, fv⟩ := ta.atI eq
    exact .inr (.inl ⟨a, us, _, v, rfl, vy.ints, ha.sqT, hv, q _ _ _ .refl fv⟩)
  · split at eq
    · rename_i hl
      simp only [Option.map_eq_some_iff] at eq
      obtain ⟨c, hc, rfl⟩ := eq
      exact .inr (.inr ⟨_, _, c, vx.strs, vy.ints, hl, hc, q _ _ _ .refl (.str _)⟩)
    · cases eq
  · cases eq
theorem ped_ix {a b : Expr} {g : PyData → PyData → Option PyData} {f1 f2 : XM} {pos : Pos} (ho : IxD X g) (ha : PEd X a f1) (hb : PEd X b f2) (hs : PlainIx b) : PEd X (.Subscript a b pos) (mBin g f1 f2) := by
  obtain ⟨r, h, hr⟩ := ho
  obtain ⟨t1, p1, h1⟩ := ha
  obtain ⟨t2, p2, h2⟩ := hb
  exact ⟨_, pe_ix h p1 p2 hs, bin_d (a := a) (b := b) (f := fun x y => getItem x y) hr h1 h2⟩

/-! ### one-place operations -/
def mUn (g : PyData → Option PyData) (f : XM) : XM := fun ρ P => (f ρ P).bind fun (a, P1) => (flat P1 a).bind fun d => (g d).map fun z => (.fz z, P1)
def dNeg : PyData → Option PyData
  | .int i => some (.int (-i))
  | _ => none
theorem ped_neg {a : Expr} {f : XM} {pos : Pos} (ha : PEd X a f) : PEd X (.UnaryOp .USub a pos) (mUn dNeg f) := by
  obtain ⟨t1, p1, h1⟩ := ha
  refine ⟨_, pe_un un_neg p1, fun bs ρ σ os vs P H Q r P' R e q => ?_⟩
  simp only [mUn, Option.bind_eq_some_iff, Option.map_eq_some_iff, Prod.mk.injEq] at e
  obtain ⟨⟨s1, P1⟩, e1, d1, e3, z, e5, rfl, rfl⟩ := e
  refine h1 bs ρ σ os vs P H _ s1 P1 R e1 fun x H1 R1 => ?_
  obtain ⟨F, ad, R1⟩ := R1
  obtain ⟨r1, R1⟩ := R1.pop
  have vw := R1.view r1 e3
  unfold dNeg at e5
  split at e5
  · cases e5
    exact ⟨_, vw.ints, q _ _ (R1.atom (.int _))⟩
  · cases e5

/-! ### conditions -/
def mTB (f : XM) : BM := fun ρ P => (f ρ P).bind fun (a, P1) => match a with
  | .fz (.bool b) => some (b, P1)
  | _ => none
/-- an expression whose value is True or False -/
theorem ptd_val {e : Expr} {f : XM} (h : PEd X e f) (he : ∀ whole, isTrue e X.env whole = (do let v ← whole; standAt e.pos; holding [v] (truthy v)) := by intro _; rfl) : PTd X e (mTB f) := by
  obtain ⟨t, p, h1⟩ := h
  refine ⟨_, pt_val p he, fun bs ρ σ os vs P H Q r P' R e q => ?_⟩
  simp only [mTB, Option.bind_eq_some_iff] at e
  obtain ⟨⟨s1, P1⟩, e1, e2⟩ := e
  refine h1 bs ρ σ os vs P H _ s1 P1 R e1 fun x H1 R1 => ?_
  simp only at e2
  split at e2
  · cases e2
    obtain ⟨F, ad, R0⟩ := R1
    obtain ⟨r1, R2⟩ := R0.pop
    cases r1
    exact ⟨_, rfl, q _ ⟨F, ad, R2⟩⟩
  · cases e2
theorem ptd_cmp {a b : Expr} {op : CmpOp} {g : PyData → PyData → Option PyData} {f1 f2 : XM} {pos : Pos} (ho : OpD X (compareOp op) g) (ha : PEd X a f1) (hb : PEd X b f2) (hm : behindInMarks op b = false) : PTd X (.Compare a [op] [b] pos) (mTB (mBin g f1 f2)) := by
  obtain ⟨r, h, hr⟩ := ho
  obtain ⟨t1, p1, h1⟩ := ha
  obtain ⟨t2, p2, h2⟩ := hb
  refine ⟨_, pt_cmpR h p1 p2 hm, fun bs ρ σ os vs P H Q w P' R e q => ?_⟩
  simp only [mTB, Option.bind_eq_some_iff] at e
  obtain ⟨⟨s1, P1⟩, e1, e2⟩ := e
  refine bin_d (a := a) (b := b) (f := compareOp op) hr h1 h2 bs ρ σ os vs P H _ s1 P1 R e1 fun x H1 R1 => ?_
  simp only at e2
  split at e2
  · cases e2
    obtain ⟨F, ad, R0⟩ := R1
    obtain ⟨r1, R2⟩ := R0.pop
    cases r1
    exact ⟨_, rfl, q _ ⟨F, ad, R2⟩⟩
  · cases e2
def mNotB (f : BM) : BM := fun ρ P => (f ρ P).map fun (a, P1) => (!a, P1)
def mAndB (f g : BM) : BM := fun ρ P => (f ρ P).bind fun (a, P1) => if a = true then g ρ P1 else some (false, P1)
def mOrB (f g : BM) : BM := fun ρ P => (f ρ P).bind fun (a, P1) => if a = true then some (true, P1) else g ρ P1
theorem ptd_not {a : Expr} {f : BM} {pos : Pos} (h : PTd X a f) : PTd X (.UnaryOp .Not a pos) (mNotB f) := by
  obtain ⟨t, p, h1⟩ := h
  refine ⟨_, pt_not p, fun bs ρ σ os vs P H Q r P' R e q => ?_⟩
  simp only [mNotB, Option.map_eq_some_iff, Prod.mk.injEq] at e
  obtain ⟨⟨s1, P1⟩, e1, rfl, rfl⟩ := e
  exact h1 bs ρ σ os vs P H _ s1 P1 R e1 fun H1 R1 => q _ R1
/-- a chain of and, of or, as a test -/
def PWd (X : Cx) (e : Expr) (f : BM) : Prop := ∃ t, PW X e t ∧ ∀ (bs : List Nat) (ρ : EV) (σ : L2.St) (os : List SV) (vs : List V) (P : Store) (H : Hp) (Q : Bool → Hp → Prop) (r : Bool) (P' : Store), Rel X.K bs ρ σ os vs P H → f ρ P = some (r, P') →
  (∀ H', Rel X.K bs ρ σ os vs P' H' → Q r H') → t σ H Q
theorem PWd.pt {e : Expr} {f : BM} (h : PWd X e f) : PTd X e f := let ⟨t, p, q⟩ := h; ⟨t, p.pt, q⟩
theorem pwd_and1 {a : Expr} {f : BM} {pos : Pos} (h : PTd X a f) : PWd X (.BoolOp .And [a] pos) f := let ⟨t, p, q⟩ := h; ⟨t, pw_and1 p, q⟩
theorem pwd_or1 {a : Expr} {f : BM} {pos : Pos} (h : PTd X a f) : PWd X (.BoolOp .Or [a] pos) f := let ⟨t, p, q⟩ := h; ⟨t, pw_or1 p, q⟩
theorem and_d {f g : BM} {t u : TT}
    (h1 : ∀ (bs : List Nat) (ρ : EV) (σ : L2.St) (os : List SV) (vs : List V) (P : Store) (H : Hp) (Q : Bool → Hp → Prop) (r : Bool) (P' : Store), Rel X.K bs ρ σ os vs P H → f ρ P = some (r, P') → (∀ H', Rel X.K bs ρ σ os vs P' H' → Q r H') → t σ H Q)
    (h2 : ∀ (bs : List Nat) (ρ : EV) (σ : L2.St) (os : List SV) (vs : List V) (P : Store) (H : Hp) (Q : Bool → Hp → Prop) (r : Bool) (P' : Store), Rel X.K bs ρ σ os vs P H → g ρ P = some (r, P') → (∀ H', Rel X.K bs ρ σ os vs P' H' → Q r H') → u σ H Q)
    (bs : List Nat) (ρ : EV) (σ : L2.St) (os : List SV) (vs : List V) (P : Store) (H : Hp) (Q : Bool → Hp → Prop) (r : Bool) (P' : Store) (R : Rel X.K bs ρ σ os vs P H) (e : mAndB f g ρ P = some (r, P')) (q : ∀ H', Rel X.K bs ρ σ os vs P' H' → Q r H') : tAnd t u σ H Q := by
  simp only [mAndB, Option.bind_eq_some_iff] at e
  obtain ⟨⟨s1, P1⟩, e1, e2⟩ := e
  refine h1 bs ρ σ os vs P H _ s1 P1 R e1 fun H1 R1 => ?_
  simp only at e2
  cases s1 with
  | true =>
    rw [if_pos rfl] at e2 ⊢
    exact h2 bs ρ σ os vs P1 H1 _ r P' R1 e2 q
  | false =>
    rw [if_neg Bool.false_ne_true] at e2 ⊢
    cases e2
    exact q _ R1
theorem or_d {f g : BM} {t u : TT}
    (h1 : ∀ (bs : List Nat) (ρ : EV) (σ : L2.St) (os : List SV) (vs : List V) (P : Store) (H : Hp) (Q : Bool → Hp → Prop) (r : Bool) (P' : Store), Rel X.K bs ρ σ os vs P H → f ρ P = some (r, P') → (∀ H', Rel X.K bs ρ σ os vs P' H' → Q r H') → t σ H Q)
    (h2 : ∀ (bs : List Nat) (ρ : EV) (σ : L2.St) (os : List SV) (vs : List V) (P : Store) (H : Hp) (Q : Bool → Hp → Prop) (r : Bool) (P' : Store), Rel X.K bs ρ σ os vs P H → g ρ P = some (r, P') → (∀ H', Rel X.K bs ρ σ os vs P' H' → Q r H') → u σ H Q)
    (bs : List Nat) (ρ : EV) (σ : L2.St) (os : List SV) (vs : List V) (P : Store) (H : Hp) (Q : Bool → Hp → Prop) (r : Bool) (P' : Store) (R : Rel X.K bs ρ σ os vs P H) (e : mOrB f g ρ P = some (r, P')) (q : ∀ H', Rel X.K bs ρ σ os vs P' H' → Q r H') : tOr t u σ H Q := by
  simp only [mOrB, Option.bind_eq_some_iff] at e
  obtain ⟨⟨s1, P1⟩, e1, e2⟩ := e
  refine h1 bs ρ σ os vs P H _ s1 P1 R e1 fun H1 R1 => ?_
  simp only at e2
  cases s1 with
  | false =>
    rw [if_neg Bool.false_ne_true] at e2 ⊢
    exact h2 bs ρ σ os vs P1 H1 _ r P' R1 e2 q
  | true =>
    rw [if_pos rfl] at e2 ⊢
    cases e2
    exact q _ R1
theorem pwd_and {a b : Expr} {rest : List Expr} {f g : BM} {pos : Pos} (h : PTd X a f) (h' : PWd X (.BoolOp .And (b :: rest) pos) g) : PWd X (.BoolOp .And (a :: b :: rest) pos) (mAndB f g) := by
  obtain ⟨t, p, h1⟩ := h
  obtain ⟨u, p', h2⟩ := h'
  exact ⟨_, pw_and p p', and_d h1 h2⟩
theorem pwd_or {a b : Expr} {rest : List Expr} {f g : BM} {pos : Pos} (h : PTd X a f) (h' : PWd X (.BoolOp .Or (b :: rest) pos) g) : PWd X (.BoolOp .Or (a :: b :: rest) pos) (mOrB f g) := by
  obtain ⟨t, p, h1⟩ := h
  obtain ⟨u, p', h2⟩ := h'
  exact ⟨_, pw_or p p', or_d h1 h2⟩
/-- .. as values (bools) -/
def mAndV (f g : XM) : XM := fun ρ P => (f ρ P).bind fun (a, P1) => match a with
  | .fz (.bool true) => g ρ P1
  | .fz (.bool false) => some (.fz (.bool false), P1)
  | _ => none
def mOrV (f g : XM) : XM := fun ρ P => (f ρ P).bind fun (a, P1) => match a with
  | .fz (.bool false) => g ρ P1
  | .fz (.bool true) => some (.fz (.bool true), P1)
  | _ => none
def mNotV (f : XM) : XM := fun ρ P => (f ρ P).bind fun (a, P1) => match a with
  | .fz (.bool b) => some (.fz (.bool (!b)), P1)
  | _ => none
theorem ped_one {op} {a : Expr} {f : XM} {pos : Pos} (h : PEd X a f) : PEd X (.BoolOp op [a] pos) f := let ⟨t, p, q⟩ := h; ⟨t, pe_one p, q⟩
theorem ped_and {a b : Expr} {rest : List Expr} {f g : XM} {pos : Pos} (h : PEd X a f) (h' : PEd X (.BoolOp .And (b :: rest) pos) g) : PEd X (.BoolOp .And (a :: b :: rest) pos) (mAndV f g) := by
  obtain ⟨t, p, h1⟩ := h
  obtain ⟨u, p', h2⟩ := h'
  refine ⟨_, pe_and p p', fun bs ρ σ os vs P H Q r P' R e q => ?_⟩
  simp only [mAndV, Option.bind_eq_some_iff] at e
  obtain ⟨⟨s1, P1⟩, e1, e2⟩ := e
  refine h1 bs ρ σ os vs P H _ s1 P1 R e1 fun x H1 R1 => ?_
  simp only at e2
  obtain ⟨F, ad, R0⟩ := R1
  obtain ⟨r1, R2⟩ := R0.pop
  split at e2
  · cases r1
    exact ⟨true, rfl, by rw [if_pos rfl]; exact h2 bs ρ σ os vs P1 H1 _ r P' ⟨F, ad, R2⟩ e2 q⟩
  · cases r1
    cases e2
    exact ⟨false, rfl, by rw [if_neg Bool.false_ne_true]; exact q _ _ (R2.atom (.bl _))⟩
  · cases e2
theorem ped_or {a b : Expr} {rest : List Expr} {f g : XM} {pos : Pos} (h : PEd X a f) (h' : PEd X (.BoolOp .Or (b :: rest) pos) g) : PEd X (.BoolOp .Or (a :: b :: rest) pos) (mOrV f g) := by
  obtain ⟨t, p, h1⟩ := h
  obtain ⟨u, p', h2⟩ := h'
  refine ⟨_, pe_or p p', fun bs ρ σ os vs P H Q r P' R e q => ?_⟩
  simp only [mOrV, Option.bind_eq_some_iff] at e
  obtain ⟨⟨s1, P1⟩, e1, e2⟩ := e
  refine h1 bs ρ σ os vs P H _ s1 P1 R e1 fun x H1 R1 => ?_
  simp only at e2
  obtain ⟨F, ad, R0⟩ := R1
  obtain ⟨r1, R2⟩ := R0.pop
  split at e2
  · cases r1
    exact ⟨false, rfl, by rw [if_neg Bool.false_ne_true]; exact h2 bs ρ σ os vs P1 H1 _ r P' ⟨F, ad, R2⟩ e2 q⟩
  · cases r1
    cases e2
    exact ⟨true, rfl, by rw [if_pos rfl]; exact q _ _ (R2.atom (.bl _))⟩
  · cases e2
theorem ped_not {a : Expr} {f : XM} {pos : Pos} (h : PEd X a f) : PEd X (.UnaryOp .Not a pos) (mNotV f) := by
  obtain ⟨t, p, h1⟩ := h
  refine ⟨_, pe_not p, fun bs ρ σ os vs P H Q r P' R e q => ?_⟩
  simp only [mNotV, Option.bind_eq_some_iff] at e
  obtain ⟨⟨s1, P1⟩, e1, e2⟩ := e
  refine h1 bs ρ σ os vs P H _ s1 P1 R e1 fun x H1 R1 => ?_
  simp only at e2
  obtain ⟨F, ad, R0⟩ := R1
  obtain ⟨r1, R2⟩ := R0.pop
  split at e2
  · cases r1
    cases e2
    exact ⟨_, rfl, q _ _ (R2.atom (.bl _))⟩
  · cases e2
def mIfE (c : BM) (f g : XM) : XM := fun ρ P => (c ρ P).bind fun (b, P1) => if b = true then f ρ P1 else g ρ P1
theorem ped_if {c a b : Expr} {fc : BM} {f g : XM} {pos : Pos} (hc : PTd X c fc) (ha : PEd X a f) (hb : PEd X b g) : PEd X (.IfExp c a b pos) (mIfE fc f g) := by
  obtain ⟨t0, p0, h0⟩ := hc
  obtain ⟨t, p, h1⟩ := ha
  obtain ⟨u, p', h2⟩ := hb
  refine ⟨_, pe_ifExp p0 p p', fun bs ρ σ os vs P H Q r P' R e q => ?_⟩
  simp only [mIfE, Option.bind_eq_some_iff] at e
  obtain ⟨⟨s1, P1⟩, e1, e2⟩ := e
  refine h0 bs ρ σ os vs P H _ s1 P1 R e1 fun H1 R1 => ?_
  simp only at e2
  cases s1 with
  | true => rw [if_pos rfl] at e2 ⊢; exact h1 bs ρ σ os vs P1 H1 _ r P' R1 e2 q
  | false => rw [if_neg Bool.false_ne_true] at e2 ⊢; exact h2 bs ρ σ os vs P1 H1 _ r P' R1 e2 q
/-- a < b < c -/
def mChain (g g' : PyData → PyData → Option PyData) (f1 f2 f3 : XM) : XM := fun ρ P => (f1 ρ P).bind fun (a, P1) => (f2 ρ P1).bind fun (b, P2) => (flat P2 a).bind fun d => (flat P2 b).bind fun e => (g d e).bind fun z => match z with
  | .bool true => (f3 ρ P2).bind fun (c, P3) => (flat P3 b).bind fun e' => (flat P3 c).bind fun k => (g' e' k).map fun z' => (.fz z', P3)
  | .bool false => some (.fz (.bool false), P2)
  | _ => none
theorem chain_d {g g' : PyData → PyData → Option PyData} {f1 f2 f3 : XM} {t1 t2 t3 : TE} {r r' : R2}
    (hr : ∀ (F H : Hp) (x y : V) (d e z : PyData) (Q : VK), Sub F H → Vw X.K F H x d → Vw X.K F H y e → g d e = some z → (∀ v H' F', Ext F H F' H' → Fz X.K F' v z → Q v H') → r x y H Q)
    (hr' : ∀ (F H : Hp) (x y : V) (d e z : PyData) (Q : VK), Sub F H → Vw X.K F H x d → Vw X.K F H y e → g' d e = some z → (∀ v H' F', Ext F H F' H' → Fz X.K F' v z → Q v H') → r' x y H Q)
    (h1 : ∀ (bs : List Nat) (ρ : EV) (σ : L2.St) (os : List SV) (vs : List V) (P : Store) (H : Hp) (Q : VK) (r : SV) (P' : Store), Rel X.K bs ρ σ os vs P H → f1 ρ P = some (r, P') → (∀ v H', Rel X.K bs ρ σ (r :: os) (v :: vs) P' H' → Q v H') → t1 σ H Q)
    (h2 : ∀ (bs : List Nat) (ρ : EV) (σ : L2.St) (os : List SV) (vs : List V) (P : Store) (H : Hp) (Q : VK) (r : SV) (P' : Store), Rel X.K bs ρ σ os vs P H → f2 ρ P = some (r, P') → (∀ v H', Rel X.K bs ρ σ (r :: os) (v :: vs) P' H' → Q v H') → t2 σ H Q)
    (h3 : ∀ (bs : List Nat) (ρ : EV) (σ : L2.St) (os : List SV) (vs : List V) (P : Store) (H : Hp) (Q : VK) (r : SV) (P' : Store), Rel X.K bs ρ σ os vs P H → f3 ρ P = some (r, P') → (∀ v H', Rel X.K bs ρ σ (r :: os) (v :: vs) P' H' → Q v H') → t3 σ H Q)
    (bs : List Nat) (ρ : EV) (σ : L2.St) (os : List SV) (vs : List V) (P : Store) (H : Hp) (Q : VK) (w : SV) (P' : Store) (R : Rel X.K bs ρ σ os vs P H) (e : mChain g g' f1 f2 f3 ρ P = some (w, P'))
    (q : ∀ v H', Rel X.K bs ρ σ (w :: os) (v :: vs) P' H' → Q v H') : tChain r r' t1 t2 t3 σ H Q := by
  simp only [mChain, Option.bind_eq_some_iff] at e
  obtain ⟨⟨s1, P1⟩, e1, ⟨s2, P2⟩, e2, d1, e3, d2, e4, z, e5, e6⟩ := e
  refine h1 bs ρ σ os vs P H _ s1 P1 R e1 fun x H1 R1 => ?_
  refine h2 bs ρ σ _ _ P1 H1 _ s2 P2 R1 e2 fun y H2 R2 => ?_
  obtain ⟨F, ad, R2⟩ := R2
  obtain ⟨r2, R3⟩ := R2.pop
  obtain ⟨r1, R4⟩ := R3.pop
  refine hr F H2 x y d1 d2 z _ R2.sub (R2.view r1 e3) (R2.view r2 e4) e5 fun v H' F' xx f => ?_
  simp only at e6
  split at e6
  · cases f
    refine ⟨true, rfl, ?_⟩
    rw [if_pos rfl]
    simp only [Option.bind_eq_some_iff, Option.map_eq_some_iff, Prod.mk.injEq] at e6
    obtain ⟨⟨s3, P3⟩, e7, d3, e8, d4, e9, z', e10, rfl, rfl⟩ := e6
    refine h3 bs ρ σ _ _ P2 H' _ s3 P3 ⟨F', ad, R2.ext xx⟩ e7 fun y3 H3 R5 => ?_
    obtain ⟨F3, ad3, R5⟩ := R5
    obtain ⟨r3, R6⟩ := R5.pop
    obtain ⟨r4, R7⟩ := R6.pop
    obtain ⟨_, R8⟩ := R7.pop
    exact hr' F3 H3 y y3 d3 d4 z' _ R5.sub (R5.view r4 e8) (R5.view r3 e9) e10 fun v H' F' x f => q v H' ((R8.ext x).atom f)
  · cases f
    refine ⟨false, rfl, ?_⟩
    rw [if_neg Bool.false_ne_true]
    cases e6
    exact q _ _ ((R4.ext xx).atom (.bl _))
  · cases e6
theorem ped_chain {a b c : Expr} {op op' : CmpOp} {g g' : PyData → PyData → Option PyData} {f1 f2 f3 : XM} {pos : Pos} (ho : OpD X (compareOp op) g) (ho' : OpD X (compareOp op') g') (ha : PEd X a f1) (hb : PEd X b f2) (hc : PEd X c f3)
    (hm : lastMarks [op, op'] [b, c] = false := by with_unfolding_all rfl) : PEd X (.Compare a [op, op'] [b, c] pos) (mChain g g' f1 f2 f3) := by
  obtain ⟨r, h, hr⟩ := ho
  obtain ⟨r', h', hr'⟩ := ho'
  obtain ⟨t1, p1, h1⟩ := ha
  obtain ⟨t2, p2, h2⟩ := hb
  obtain ⟨t3, p3, h3⟩ := hc
  exact ⟨_, pe_chain h h' p1 p2 p3 hm, chain_d hr hr' h1 h2 h3⟩
theorem ptd_chain {a b c : Expr} {op op' : CmpOp} {g g' : PyData → PyData → Option PyData} {f1 f2 f3 : XM} {pos : Pos} (ho : OpD X (compareOp op) g) (ho' : OpD X (compareOp op') g') (ha : PEd X a f1) (hb : PEd X b f2) (hc : PEd X c f3)
    (hm : lastMarks [op, op'] [b, c] = false := by with_unfolding_all rfl) : PTd X (.Compare a [op, op'] [b, c] pos) (mTB (mChain g g' f1 f2 f3)) := by
  obtain ⟨r, h, hr⟩ := ho
  obtain ⟨r', h', hr'⟩ := ho'
  obtain ⟨t1, p1, h1⟩ := ha
  obtain ⟨t2, p2, h2⟩ := hb
  obtain ⟨t3, p3, h3⟩ := hc
  refine ⟨_, pt_chain h h' p1 p2 p3 hm, fun bs ρ σ os vs P H Q w P' R e q => ?_⟩
  simp only [mTB, Option.bind_eq_some_iff] at e
  obtain ⟨⟨s1, P1⟩, e1, e2⟩ := e
  refine chain_d hr hr' h1 h2 h3 bs ρ σ os vs P H _ s1 P1 R e1 fun x H1 R1 => ?_
  simp only at e2
  split at e2
  · cases e2
    obtain ⟨F, ad, R0⟩ := R1
    obtain ⟨r1, R2⟩ := R0.pop
    cases r1
    exact ⟨_, rfl, q _ ⟨F, ad, R2⟩⟩
  · cases e2
end
end Pd

set_option Elab.async false
set_option linter.all false
set_option maxRecDepth 100000
set_option maxHeartbeats 1000000
/-! The layer Pd, part D: arguments, displays, built-in calls, slices. -/
namespace Pd
open PySem PySem.Spec PyProof.Rows L2
section
variable {X : Cx} {pos : Pos}

/-- the value is frozen -/
def mFz (f : XM) : XM := fun ρ P => (f ρ P).bind fun (a, P1) => (frz P1 a).map fun (d, P2) => (.fz d, P2)
theorem ped_fz {e : Expr} {f : XM} (h : PEd X e f) : PEd X e (mFz f) := by
  obtain ⟨t, p, h1⟩ := h
  refine ⟨t, p, fun bs ρ σ os vs P H Q r P' R e q => ?_⟩
  simp only [mFz, Option.bind_eq_some_iff, Option.map_eq_some_iff, Prod.mk.injEq] at e
  obtain ⟨⟨s1, P1⟩, e1, ⟨d, P2⟩, e2, rfl, rfl⟩ := e
  refine h1 bs ρ σ os vs P H _ s1 P1 R e1 fun x H1 R1 => ?_
  obtain ⟨F, ad, R0⟩ := R1
  obtain ⟨r1, R2⟩ := R0.pop
  obtain ⟨G, R3, _, fd⟩ := R2.freeze r1 e2
  exact q _ _ ⟨G, ad, R3.push fd⟩

def aNil : AM := fun _ P => some ([], P)
def aCons (f : XM) (g : AM) : AM := fun ρ P => (f ρ P).bind fun (a, P1) => (g ρ P1).map fun (l, P2) => (a :: l, P2)
theorem pad_nil : PAd X [] aNil := ⟨_, pa_nil, fun bs ρ σ os vs P H Q r P' R e q => by
  simp only [aNil, Option.some.injEq, Prod.mk.injEq] at e
  obtain ⟨rfl, rfl⟩ := e
  exact q [] H rfl R⟩
theorem pad_cons {e : Expr} {es : List Expr} {f : XM} {g : AM} (h : PEd X e f) (h' : PAd X es g) (hs : starEach (e :: es) X.env = (false, eval e X.env) :: starEach es X.env := by rfl) : PAd X (e :: es) (aCons f g) := by
  obtain ⟨t, p, h1⟩ := h
  obtain ⟨u, p', h2⟩ := h'
  refine ⟨_, pa_cons p p' hs, fun bs ρ σ os vs P H Q r P' R e q => ?_⟩
  simp only [aCons, Option.bind_eq_some_iff, Option.map_eq_some_iff, Prod.mk.injEq] at e
  obtain ⟨⟨s1, P1⟩, e1, ⟨l, P2⟩, e2, rfl, rfl⟩ := e
  refine h1 bs ρ σ os vs P H _ s1 P1 R e1 fun x H1 R1 => ?_
  refine h2 bs ρ σ _ _ P1 H1 _ l P2 R1 e2 fun ws H2 hl R2 => ?_
  refine q (x :: ws) H2 (by simp [hl]) ?_
  simpa using R2
theorem SVA.rev {K : PySem.W.Frag} {F : Hp} {ad : List Addr} : ∀ {l : List SV} {ws : List V} {os : List SV} {vs : List V}, ws.length = l.length → SVA K F ad (ws.reverse ++ vs) (l.reverse ++ os) → SVA K F ad ws l ∧ SVA K F ad vs os
  | [], [], os, vs, _, h => ⟨.nil, by simpa using h⟩
  | a :: l, w :: ws, os, vs, e, h => by
    have h' : SVA K F ad (ws.reverse ++ (w :: vs)) (l.reverse ++ (a :: os)) := by simpa using h
    obtain ⟨h1, h2⟩ := SVA.rev (l := l) (ws := ws) (by simpa using e) h'
    cases h2 with
    | cons a b => exact ⟨.cons a h1, b⟩
  | [], _ :: _, _, _, e, _ => by simp at e
  | _ :: _, [], _, _, e, _ => by simp at e
theorem RelX.args {K : PySem.W.Frag} {bs : List Nat} {ρ : EV} {σ : L2.St} {os : List SV} {vs : List V} {P : Store} {H F : Hp} {ad : List Addr} {l : List SV} {ws : List V} (R : RelX K bs ρ σ (l.reverse ++ os) (ws.reverse ++ vs) P H F ad) (e : ws.length = l.length) :
    SVA K F ad ws l ∧ RelX K bs ρ σ os vs P H F ad := let ⟨a, b⟩ := SVA.rev e R.tops; ⟨a, R.tops_of b⟩

/-! ### displays -/
def mTup (g : AM) : XM := fun ρ P => (g ρ P).bind fun (l, P1) => (fzs l).bind fun ds => if ds.length ≤ sizeLine then some (.fz (.tuple ds), P1) else none
def mLst (g : AM) : XM := fun ρ P => (g ρ P).bind fun (l, P1) => (fzs l).bind fun ds => if ds.length ≤ sizeLine then some (.fz (.list ds), P1) else none
/-- a list that may change -/
def mLstC (g : AM) : XM := fun ρ P => (g ρ P).bind fun (l, P1) => if l.length ≤ sizeLine then some (.ptr P1.length, P1 ++ [.lst l]) else none
theorem ped_tup {es : List Expr} {x1} {g : AM} (h : PAd X es g) : PEd X (.Tuple es x1 pos) (mTup g) := by
  obtain ⟨t, p, h1⟩ := h
  refine ⟨_, pe_tupQ p, fun bs ρ σ os vs P H Q r P' R e q => ?_⟩
  simp only [mTup, Option.bind_eq_some_iff] at e
  obtain ⟨⟨l, P1⟩, e1, ds, e2, e3⟩ := e
  split at e3
  · rename_i hz
    cases e3
    refine h1 bs ρ σ os vs P H _ l P1 R e1 fun ws H1 hl R1 => ?_
    obtain ⟨F, ad, R1⟩ := R1
    obtain ⟨a, R2⟩ := R1.args hl
    have fa := fzs_some a e2
    exact ⟨by rw [fa.length]; exact hz, tupQ_rel R2 fa q⟩
  · cases e3
theorem ped_lst {es : List Expr} {g : AM} (h : PAd X es g) : PEd X (.List es pos) (mLst g) := by
  obtain ⟨t, p, h1⟩ := h
  refine ⟨_, pe_lst p, fun bs ρ σ os vs P H Q r P' R e q => ?_⟩
  simp only [mLst, Option.bind_eq_some_iff] at e
  obtain ⟨⟨l, P1⟩, e1, ds, e2, e3⟩ := e
  split at e3
  · rename_i hz
    cases e3
    refine h1 bs ρ σ os vs P H _ l P1 R e1 fun ws H1 hl R1 => ?_
    obtain ⟨F, ad, R1⟩ := R1
    obtain ⟨a, R2⟩ := R1.args hl
    have fa := fzs_some a e2
    refine ⟨by rw [fa.length]; exact hz, fun p n => q _ _ ⟨_, ad, (R2.lay n).push ?_⟩⟩
    exact .lst (.of upd_same) (fa.mono (upd_le (R2.free n)))
  · cases e3
theorem ped_lstC {es : List Expr} {g : AM} (h : PAd X es g) : PEd X (.List es pos) (mLstC g) := by
  obtain ⟨t, p, h1⟩ := h
  refine ⟨_, pe_lst p, fun bs ρ σ os vs P H Q r P' R e q => ?_⟩
  simp only [mLstC, Option.bind_eq_some_iff] at e
  obtain ⟨⟨l, P1⟩, e1, e3⟩ := e
  split at e3
  · rename_i hz
    cases e3
    refine h1 bs ρ σ os vs P H _ l P1 R e1 fun ws H1 hl R1 => ?_
    obtain ⟨F, ad, R1⟩ := R1
    obtain ⟨a, R2⟩ := R1.args hl
    refine ⟨by rw [a.length]; exact hz, fun p n => q _ _ ⟨F, ad ++ [p], R2.cell n fun ad' pr => ⟨R2.free n, ws, upd_same, a.mono (.refl _) pr⟩⟩⟩
  · cases e3

/-! ### calls of built-ins -/
inductive VwA (K : PySem.W.Frag) (F H : Hp) : List V → List PyData → Prop
  | nil : VwA K F H [] []
  | cons {v : V} {vs : List V} {d : PyData} {ds : List PyData} : Vw K F H v d → VwA K F H vs ds → VwA K F H (v :: vs) (d :: ds)
def flats (P : Store) : List SV → Option (List PyData)
  | [] => some []
  | a :: l => (flat P a).bind fun d => (flats P l).map (d :: ·)
theorem RelX.views {K : PySem.W.Frag} {bs : List Nat} {ρ : EV} {σ : L2.St} {os : List SV} {vs : List V} {P : Store} {H F : Hp} {ad : List Addr} (R : RelX K bs ρ σ os vs P H F ad) :
    ∀ {ws : List V} {l : List SV} {ds : List PyData}, SVA K F ad ws l → flats P l = some ds → VwA K F H ws ds
  | _, _, _, .nil, e => by simp only [flats, Option.some.injEq] at e; subst e; exact .nil
  | _, _, _, .cons a t, e => by
    simp only [flats, Option.bind_eq_some_iff, Option.map_eq_some_iff] at e
    obtain ⟨d, e1, r, e2, rfl⟩ := e
    exact .cons (R.view a e1) (R.views t e2)
def CallD (X : Cx) (f : Value) (g : List PyData → Option PyData) : Prop := ∃ r, CallR X f r ∧ ∀ (F H : Hp) (xs : List V) (ds : List PyData) (z : PyData) (Q : VK), Sub F H → VwA X.K F H xs ds → g ds = some z →
  (∀ v H' F', Ext F H F' H' → Fz X.K F' v z → Q v H') → r xs H Q
def mCall (g : List PyData → Option PyData) (fs : AM) : XM := fun ρ P => (fs ρ P).bind fun (l, P1) => (flats P1 l).bind fun ds => (g ds).map fun z => (.fz z, P1)
theorem CallD.or {f : Value} {g g' : List PyData → Option PyData} (h : CallD X f g) (h' : CallD X f g') : CallD X f (fun ds => (g ds).or (g' ds)) := by
  obtain ⟨r, h, hr⟩ := h
  obtain ⟨r', h', hr'⟩ := h'
  refine ⟨_, h.or h', fun F H xs ds z Q s vx eq q => ?_⟩
  have eq : (g ds).or (g' ds) = some z := eq
  cases hz : g ds with
  | some w =>
    rw [hz] at eq
    simp only [Option.some_or, Option.some.injEq] at eq
    subst eq
    exact .inl (hr F H xs ds w Q s vx hz q)
  | none =>
    rw [hz] at eq
    exact .inr (hr' F H xs ds z Q s vx (by simpa using eq) q)
theorem call_d {g : List PyData → Option PyData} {fs : AM} {t : TA} {r : List V → Hp → VK → Prop}
    (hr : ∀ (F H : Hp) (xs : List V) (ds : List PyData) (z : PyData) (Q : VK), Sub F H → VwA X.K F H xs ds → g ds = some z → (∀ v H' F', Ext F H F' H' → Fz X.K F' v z → Q v H') → r xs H Q)
    (h1 : ∀ (bs : List Nat) (ρ : EV) (σ : L2.St) (os : List SV) (vs : List V) (P : Store) (H : Hp) (Q : List V → Hp → Prop) (r : List SV) (P' : Store), Rel X.K bs ρ σ os vs P H → fs ρ P = some (r, P') →
      (∀ ws H', ws.length = r.length → Rel X.K bs ρ σ (r.reverse ++ os) (ws.reverse ++ vs) P' H' → Q ws H') → t σ H Q)
    (bs : List Nat) (ρ : EV) (σ : L2.St) (os : List SV) (vs : List V) (P : Store) (H : Hp) (Q : VK) (w : SV) (P' : Store) (R : Rel X.K bs ρ σ os vs P H) (e : mCall g fs ρ P = some (w, P'))
    (q : ∀ v H', Rel X.K bs ρ σ (w :: os) (v :: vs) P' H' → Q v H') : t σ H fun xs H1 => r xs H1 Q := by
  simp only [mCall, Option.bind_eq_some_iff, Option.map_eq_some_iff, Prod.mk.injEq] at e
  obtain ⟨⟨l, P1⟩, e1, ds, e2, z, e3, rfl, rfl⟩ := e
  refine h1 bs ρ σ os vs P H _ l P1 R e1 fun ws H1 hl R1 => ?_
  obtain ⟨F, ad, R1⟩ := R1
  obtain ⟨a, R2⟩ := R1.args hl
  exact hr F H1 ws ds z Q R2.sub (R2.views a e2) e3 fun v H' F' x f => q v H' ((R2.ext x).atom f)
theorem ped_callB {x : Str} {id : String} {e : Expr} {es : List Expr} {g : List PyData → Option PyData} {fs : AM} {p : Pos} (hc : CallD X (.builtin id) g) (hg : Gl X x) (hm : X.mg x = none) (hv : bootBuiltins x = some (.builtin id)) (ha : PAd X (e :: es) fs)
    (hn : x ≠ "__name__" := by decide) (hdb : (x == ("__debug__" : Str)) = false := by decide)
    (he : starEach (e :: es) X.env = (false, eval e X.env) :: starEach es X.env := by rfl) (hpl : (backTo pos (starEach es X.env)).any (·.1) = false := by rfl) : PEd X (.Call (.Name x p) (e :: es) [] pos) (mCall g fs) := by
  obtain ⟨r, h, hr⟩ := hc
  obtain ⟨t, p, h1⟩ := ha
  exact ⟨_, pe_callB h hg hm hv p hn hdb he hpl, call_d hr h1⟩
theorem ped_callT {x : Str} {T : String} {e : Expr} {es : List Expr} {g : List PyData → Option PyData} {fs : AM} {p : Pos} (hc : CallD X (.type T) g) (hg : Gl X x) (hm : X.mg x = none) (hv : bootBuiltins x = some (.type T)) (ha : PAd X (e :: es) fs)
    (hn : x ≠ "__name__" := by decide) (hdb : (x == ("__debug__" : Str)) = false := by decide)
    (he : starEach (e :: es) X.env = (false, eval e X.env) :: starEach es X.env := by rfl) (hpl : (backTo pos (starEach es X.env)).any (·.1) = false := by rfl) : PEd X (.Call (.Name x p) (e :: es) [] pos) (mCall g fs) := by
  obtain ⟨r, h, hr⟩ := hc
  obtain ⟨t, p, h1⟩ := ha
  exact ⟨_, pe_callTy h hg hm hv p hn hdb he hpl, call_d hr h1⟩

/-! the built-ins -/
def gLen : List PyData → Option PyData
  | [.list ds] => some (.int ds.length)
  | [.tuple ds] => some (.int ds.length)
  | [.str z] => if z.length ≤ sizeLine then some (.int z.length) else none
  | _ => none
theorem calld_len : CallD X (.builtin "len") gLen := by
  refine ⟨_, call_len_seq.or call_len_str, fun F H xs ds z Q s vx eq q => ?_⟩
  unfold gLen at eq
  split at eq
  · cases eq
    cases vx with | cons a t => cases t; obtain ⟨p, us, rfl, hp, t⟩ := a.lists s; exact .inl ⟨p, us, rfl, .inl hp, by rw [t.length]; exact q _ _ _ .refl (.int _)⟩
  · cases eq
    cases vx with | cons a t => cases t; obtain ⟨p, us, rfl, hp, t, _⟩ := a.tups s; exact .inl ⟨p, us, rfl, .inr hp.sqT, by rw [t.length]; exact q _ _ _ .refl (.int _)⟩
  · split at eq
    · rename_i hl
      cases eq
      cases vx with | cons a t => cases t; exact .inr ⟨_, by rw [a.strs], hl, q _ _ _ .refl (.int _)⟩
    · cases eq
  · cases eq
def gList : List PyData → Option PyData
  | [.list ds] => some (.list ds)
  | [.tuple ds] => some (.list ds)
  | _ => none
theorem calld_list : CallD X (.type "list") gList := by
  refine ⟨_, call_list_of, fun F H xs ds z Q s vx eq q => ?_⟩
  unfold gList at eq
  split at eq
  · cases eq
    cases vx with | cons a t => cases t; obtain ⟨p, us, rfl, hp, t⟩ := a.lists s; exact ⟨p, us, rfl, .inl hp, fun l n => q _ _ _ (.one n) (.lst (.of upd_same) (t.mono (upd_le (s.none n))))⟩
  · cases eq
    cases vx with | cons a t => cases t; obtain ⟨p, us, rfl, hp, t, _⟩ := a.tups s; exact ⟨p, us, rfl, .inr hp.sqT, fun l n => q _ _ _ (.one n) (.lst (.of upd_same) (t.mono (upd_le (s.none n))))⟩
  · cases eq
def gTuple : List PyData → Option PyData
  | [.list ds] => some (.tuple ds)
  | [.tuple ds] => some (.tuple ds)
  | _ => none
theorem calld_tuple : CallD X (.type "tuple") gTuple := by
  refine ⟨_, call_tupleQ, fun F H xs ds z Q s vx eq q => ?_⟩
  unfold gTuple at eq
  split at eq
  · cases eq
    cases vx with | cons a t => cases t; obtain ⟨p, us, rfl, hp, t⟩ := a.lists s; exact ⟨p, us, rfl, .inl ⟨hp, tupQ_ext s t q⟩⟩
  · cases eq
    cases vx with | cons a t => cases t; obtain ⟨p, us, rfl, hp, t, f⟩ := a.tups s; exact ⟨p, us, rfl, .inr ⟨hp.sqT, q _ _ _ .refl f⟩⟩
  · cases eq
def gInt : List PyData → Option PyData
  | [.int i] => some (.int i)
  | _ => none
theorem calld_int : CallD X (.type "int") gInt := by
  refine ⟨_, call_int1, fun F H xs ds z Q s vx eq q => ?_⟩
  unfold gInt at eq
  split at eq
  · cases eq
    cases vx with | cons a t => cases t; exact .inl ⟨_, by rw [a.ints], q _ _ _ .refl (.int _)⟩
  · cases eq
def bools : List PyData → Option (List Bool)
  | [] => some []
  | .bool b :: r => (bools r).map (b :: ·)
  | _ :: _ => none
def intsD : List PyData → Option (List Int)
  | [] => some []
  | .int b :: r => (intsD r).map (b :: ·)
  | _ :: _ => none
def strsD : List PyData → Option (List Str)
  | [] => some []
  | .str b :: r => (strsD r).map (b :: ·)
  | _ :: _ => none
theorem FzA.bools {K : PySem.W.Frag} {F : Hp} : ∀ {ds : List PyData} {vs : List V} {bs : List Bool}, FzA K F vs ds → Pd.bools ds = some bs → vs = bs.map V.bl
  | [], _, _, .nil, e => by simp only [Pd.bools, Option.some.injEq] at e; subst e; rfl
  | .bool b :: r, _, _, .cons a t, e => by
    simp only [Pd.bools, Option.map_eq_some_iff] at e
    obtain ⟨l, e1, rfl⟩ := e
    cases a
    rw [FzA.bools t e1]; rfl
  | .none :: _, _, _, _, e => by simp [Pd.bools] at e
  | .int _ :: _, _, _, _, e => by simp [Pd.bools] at e
  | .str _ :: _, _, _, _, e => by simp [Pd.bools] at e
  | .list _ :: _, _, _, _, e => by simp [Pd.bools] at e
  | .tuple _ :: _, _, _, _, e => by simp [Pd.bools] at e
  | .dict _ :: _, _, _, _, e => by simp [Pd.bools] at e
theorem FzA.intsD {K : PySem.W.Frag} {F : Hp} : ∀ {ds : List PyData} {vs : List V} {bs : List Int}, FzA K F vs ds → Pd.intsD ds = some bs → vs = bs.map V.int
  | [], _, _, .nil, e => by simp only [Pd.intsD, Option.some.injEq] at e; subst e; rfl
  | .int b :: r, _, _, .cons a t, e => by
    simp only [Pd.intsD, Option.map_eq_some_iff] at e
    obtain ⟨l, e1, rfl⟩ := e
    cases a
    rw [FzA.intsD t e1]; rfl
  | .none :: _, _, _, _, e => by simp [Pd.intsD] at e
  | .bool _ :: _, _, _, _, e => by simp [Pd.intsD] at e
  | .str _ :: _, _, _, _, e => by simp [Pd.intsD] at e
  | .list _ :: _, _, _, _, e => by simp [Pd.intsD] at e
  | .tuple _ :: _, _, _, _, e => by simp [Pd.intsD] at e
  | .dict _ :: _, _, _, _, e => by simp [Pd.intsD] at e
theorem FzA.strs {K : PySem.W.Frag} {F : Hp} : ∀ {ds : List PyData} {vs : List V} {bs : List Str}, FzA K F vs ds → Pd.strsD ds = some bs → vs = bs.map V.str
  | [], _, _, .nil, e => by simp only [Pd.strsD, Option.some.injEq] at e; subst e; rfl
  | .str b :: r, _, _, .cons a t, e => by
    simp only [Pd.strsD, Option.map_eq_some_iff] at e
    obtain ⟨l, e1, rfl⟩ := e
    cases a
    rw [FzA.strs t e1]; rfl
  | .none :: _, _, _, _, e => by simp [Pd.strsD] at e
  | .bool _ :: _, _, _, _, e => by simp [Pd.strsD] at e
  | .int _ :: _, _, _, _, e => by simp [Pd.strsD] at e
  | .list _ :: _, _, _, _, e => by simp [Pd.strsD] at e
  | .tuple _ :: _, _, _, _, e => by simp [Pd.strsD] at e
  | .dict _ :: _, _, _, _, e => by simp [Pd.strsD] at e
def gAll : List PyData → Option PyData
  | [.list ds] => (bools ds).map fun bs => .bool (bs.all id)
  | _ => none
theorem calld_all (hc : X.calm = true) : CallD X (.builtin "all") gAll := by
  refine ⟨_, cr_all hc, fun F H xs ds z Q s vx eq q => ?_⟩
  unfold gAll at eq
  split at eq
  · simp only [Option.map_eq_some_iff] at eq
    obtain ⟨bs, e1, rfl⟩ := eq
    cases vx with | cons a t => cases t; obtain ⟨p, us, rfl, hp, t⟩ := a.lists s; exact ⟨p, bs, rfl, by rw [← t.bools e1]; exact hp, q _ _ _ .refl (.bl _)⟩
  · cases eq
def gAny : List PyData → Option PyData
  | [.list ds] => (bools ds).map fun bs => .bool (bs.any id)
  | _ => none
theorem calld_any (hc : X.calm = true) : CallD X (.builtin "any") gAny := by
  refine ⟨_, cr_any hc, fun F H xs ds z Q s vx eq q => ?_⟩
  unfold gAny at eq
  split at eq
  · simp only [Option.map_eq_some_iff] at eq
    obtain ⟨bs, e1, rfl⟩ := eq
    cases vx with | cons a t => cases t; obtain ⟨p, us, rfl, hp, t⟩ := a.lists s; exact ⟨p, bs, rfl, by rw [← t.bools e1]; exact hp, q _ _ _ .refl (.bl _)⟩
  · cases eq
def gSum : List PyData → Option PyData
  | [.list ds] => (intsD ds).map fun bs => .int bs.sum
  | _ => none
theorem calld_sum (hc : X.calm = true) : CallD X (.builtin "sum") gSum := by
  refine ⟨_, cr_sum hc, fun F H xs ds z Q s vx eq q => ?_⟩
  unfold gSum at eq
  split at eq
  · simp only [Option.map_eq_some_iff] at eq
    obtain ⟨bs, e1, rfl⟩ := eq
    cases vx with | cons a t => cases t; obtain ⟨p, us, rfl, hp, t⟩ := a.lists s; exact ⟨p, bs, rfl, by rw [← t.intsD e1]; exact hp, q _ _ _ .refl (.int _)⟩
  · cases eq
def gMax2 : List PyData → Option PyData
  | [.int i, .int j] => some (.int (if j > i then j else i))
  | _ => none
theorem calld_max2 (hc : X.calm = true) : CallD X (.builtin "max") gMax2 := by
  refine ⟨_, call_max2 hc, fun F H xs ds z Q s vx eq q => ?_⟩
  unfold gMax2 at eq
  split at eq
  · cases eq
    cases vx with | cons a t => cases t with | cons b t => cases t; exact ⟨_, _, by rw [a.ints, b.ints], q _ _ _ .refl (.int _)⟩
  · cases eq
def gMin2 : List PyData → Option PyData
  | [.int i, .int j] => some (.int (if j < i then j else i))
  | _ => none
theorem calld_min2 (hc : X.calm = true) : CallD X (.builtin "min") gMin2 := by
  refine ⟨_, call_min2 hc, fun F H xs ds z Q s vx eq q => ?_⟩
  unfold gMin2 at eq
  split at eq
  · cases eq
    cases vx with | cons a t => cases t with | cons b t => cases t; exact ⟨_, _, by rw [a.ints, b.ints], q _ _ _ .refl (.int _)⟩
  · cases eq

/-! ### isinstance -/
def tyOf : PyData → String
  | .none => "NoneType"
  | .bool _ => "bool"
  | .int _ => "int"
  | .str _ => "str"
  | .list _ => "list"
  | .tuple _ => "tuple"
  | .dict _ => "dict"
theorem Vw.ty {K : PySem.W.Frag} {F H : Hp} {v : V} {d : PyData} (h : Vw K F H v d) (s : Sub F H) : TyX K H v (.type (tyOf d)) := by
  cases d with
  | none => rw [h.nons]; exact .base .non
  | bool b => rw [h.bls]; exact .base (.bl b)
  | int i => rw [h.ints]; exact .base (.int i)
  | str x => rw [h.strs]; exact .base (.str x)
  | list ds =>
    obtain ⟨a, xs, rfl, hp, _⟩ := h.lists s
    rcases hp with (hp | ⟨o, hp⟩) | ⟨o, _, _, hp, hc, _⟩
    · exact .base (.lst hp)
    · exact .base (.frz hp)
    · exact .kList hp hc
  | tuple ds =>
    obtain ⟨a, xs, rfl, hp, _⟩ := h.tups s
    rcases hp.rd with hp | ⟨o, hp⟩
    · exact .base (.tup hp)
    · exact .fTuple hp
  | dict ds =>
    cases h with
    | fz h =>
      cases h with
      | dK h _ _ =>
        rcases s.rd (fun _ _ z => by cases z) h with e | ⟨o, e⟩
        · exact .base (.dK e)
        · exact .fDict e
      | dT h _ _ _ =>
        rcases s _ _ h with e | ⟨z, _⟩
        · exact .base (.dT e)
        · cases z
    | dK h _ _ =>
      rcases h with e | ⟨o, e⟩
      · exact .base (.dK e)
      · exact .fDict e
    | dT h _ _ _ => exact .base (.dT h)
end
end Pd

set_option Elab.async false
set_option linter.all false
set_option maxRecDepth 100000
set_option maxHeartbeats 1000000
/-! The layer Pd, part E: isinstance, slices, methods, statements. -/
namespace Pd
open PySem PySem.Spec PyProof.Rows L2
theorem _root_.List.mem_of_mem_dropLast' {α : Type} {a : α} : ∀ {l : List α}, a ∈ l.dropLast → a ∈ l := fun {l} h => (List.dropLast_sublist l).subset h
section
variable {X : Cx} {pos : Pos}

/-! ### isinstance -/
inductive Ty | int | str | bool | list | tuple | dict
def Ty.nm : Ty → String
  | .int => "int" | .str => "str" | .bool => "bool" | .list => "list" | .tuple => "tuple" | .dict => "dict"
def inst : Ty → PyData → Bool
  | .int, .int _ => true
  | .int, .bool _ => true
  | .str, .str _ => true
  | .bool, .bool _ => true
  | .list, .list _ => true
  | .tuple, .tuple _ => true
  | .dict, .dict _ => true
  | _, _ => false
theorem kit_inst (T : Ty) (d : PyData) : kitB (tyOf d) T.nm = some (inst T d) := by
  cases T <;> cases d <;> (simp only [tyOf, Ty.nm, inst]; decide +kernel)
theorem kitAny_inst {K : PySem.W.Frag} (d : PyData) : ∀ Ts : List Ty, PySem.W.kitAny K (.type (tyOf d)) (Ts.map fun T => .type T.nm) = some (Ts.any fun T => inst T d)
  | [] => rfl
  | T :: r => by
    have h := kit_ty (K := K) (kit_inst T d)
    refine kitAny_cons (b := inst T d) h (fun e => ?_) fun e => by simp [e]
    rw [kitAny_inst d r]; simp [e]
def mIs (g : PyData → Bool) (f : XM) : XM := fun ρ P => (f ρ P).bind fun (a, P1) => (flat P1 a).map fun d => (.fz (.bool (g d)), P1)
theorem ped_isi {a : Expr} {f : XM} {p q : Pos} (T : Ty) (hg : Gl X "isinstance") (hm : X.mg "isinstance" = none) (hgT : Gl X T.nm) (hmT : X.mg T.nm = none) (hv : bootBuiltins T.nm = some (.type T.nm)) (ha : PEd X a f)
    (he : starEach [a, .Name T.nm q] X.env = (false, eval a X.env) :: starEach [.Name T.nm q] X.env := by rfl) (hpl : (backTo pos (starEach [.Name T.nm q] X.env)).any (·.1) = false := by rfl)
    (hs2 : starEach [.Name T.nm q] X.env = (false, eval (.Name T.nm q) X.env) :: starEach [] X.env := by rfl) (hn : (T.nm : Str) ≠ "__name__" := by decide) (hdb : ((T.nm : Str) == ("__debug__" : Str)) = false := by decide) :
    PEd X (.Call (.Name "isinstance" p) [a, .Name T.nm q] [] pos) (mIs (inst T) f) := by
  obtain ⟨t, pa, h1⟩ := ha
  refine ⟨_, pe_callB call_isi hg hm (by decide +kernel) (pa_cons pa (pa_cons (pe_bltn (v := .ty T.nm) hgT hmT hv rfl hn hdb) pa_nil hs2) he) (he := he) (hpl := hpl), fun bs ρ σ os vs P H Q r P' R e q => ?_⟩
  simp only [mIs, Option.bind_eq_some_iff, Option.map_eq_some_iff, Prod.mk.injEq] at e
  obtain ⟨⟨s1, P1⟩, e1, d, e2, rfl, rfl⟩ := e
  refine h1 bs ρ σ os vs P H _ s1 P1 R e1 fun x H1 R1 => ?_
  obtain ⟨F, ad, R1⟩ := R1
  obtain ⟨r1, R2⟩ := R1.pop
  exact ⟨x, .ty T.nm, _, _, _, rfl, .ty _, (R1.view r1 e2).ty R1.sub, kit_ty (kit_inst T d), q _ _ (R2.atom (.bl _))⟩

/-! ### slices -/
abbrev OM := EV → Store → Option (Option Int × Store)
def POd (X : Cx) (e : Option Expr) (f : OM) : Prop := ∃ t, PO X e t ∧ ∀ (bs : List Nat) (ρ : EV) (σ : L2.St) (os : List SV) (vs : List V) (P : Store) (H : Hp) (Q : Option Int → Hp → Prop) (r : Option Int) (P' : Store), Rel X.K bs ρ σ os vs P H → f ρ P = some (r, P') →
  (∀ H', Rel X.K bs ρ σ os vs P' H' → Q r H') → t σ H Q
def oNone : OM := fun _ P => some (none, P)
def oSome (f : XM) : OM := fun ρ P => (f ρ P).bind fun (a, P1) => match a with
  | .fz (.int i) => some (some i, P1)
  | _ => none
theorem pod_none : POd X none oNone := ⟨_, po_none, fun bs ρ σ os vs P H Q r P' R e q => by
  simp only [oNone, Option.some.injEq, Prod.mk.injEq] at e
  obtain ⟨rfl, rfl⟩ := e
  exact q H R⟩
theorem pod_some {e : Expr} {f : XM} (h : PEd X e f) : POd X (some e) (oSome f) := by
  obtain ⟨t, p, h1⟩ := h
  refine ⟨_, po_some p, fun bs ρ σ os vs P H Q r P' R e q => ?_⟩
  simp only [oSome, Option.bind_eq_some_iff] at e
  obtain ⟨⟨s1, P1⟩, e1, e2⟩ := e
  refine h1 bs ρ σ os vs P H _ s1 P1 R e1 fun x H1 R1 => ?_
  obtain ⟨F, ad, R1⟩ := R1
  obtain ⟨r1, R2⟩ := R1.pop
  simp only at e2
  split at e2
  · cases r1
    cases e2
    exact ⟨_, rfl, q _ ⟨F, ad, R2⟩⟩
  · cases e2
def cutL {α : Type} (xs : List α) (lo hi : Option Int) : List α := (xs.drop (HT.sIx xs.length 0 lo)).take (HT.sIx xs.length xs.length hi - HT.sIx xs.length 0 lo)
theorem FzA.cut {K : PySem.W.Frag} {F : Hp} {vs : List V} {ds : List PyData} (h : FzA K F vs ds) (lo hi : Option Int) : FzA K F (cutV vs lo hi) (cutL ds lo hi) := by
  unfold cutV cutL
  rw [h.length]
  exact (h.drop _).take _
def dSl : PyData → Option Int → Option Int → Option PyData
  | .list ds, lo, hi => some (.list (cutL ds lo hi))
  | .tuple ds, lo, hi => some (.tuple (cutL ds lo hi))
  | .str z, lo, hi => if z.length ≤ sizeLine then some (.str (cutS z lo hi)) else none
  | _, _, _ => none
def mSl (f : XM) (lo hi : OM) : XM := fun ρ P => (f ρ P).bind fun (a, P1) => (lo ρ P1).bind fun (l, P2) => (hi ρ P2).bind fun (u, P3) => (flat P3 a).bind fun d => (dSl d l u).map fun z => (.fz z, P3)
theorem cut_whole {ds : List PyData} {lo hi : Option Int} (h : HT.sIx ds.length 0 lo = 0 ∧ HT.sIx ds.length ds.length hi = ds.length) : cutL ds lo hi = ds := by
  unfold cutL
  rw [h.1, h.2]
  simp
theorem ped_sl {e : Expr} {lo hi : Option Expr} {f : XM} {g h : OM} {p2 : Pos} (he : PEd X e f) (hl : POd X lo g) (hh : POd X hi h) : PEd X (.Subscript e (.Slice lo hi none p2) pos) (mSl f g h) := by
  obtain ⟨t, p, h1⟩ := he
  obtain ⟨u, pl, h2⟩ := hl
  obtain ⟨w, ph, h3⟩ := hh
  refine ⟨_, pe_slice (sl_list.or (sl_tupQ.or sl_str)) p pl ph, fun bs ρ σ os vs P H Q r P' R e q => ?_⟩
  simp only [mSl, Option.bind_eq_some_iff, Option.map_eq_some_iff, Prod.mk.injEq] at e
  obtain ⟨⟨s1, P1⟩, e1, ⟨l, P2⟩, e2, ⟨u, P3⟩, e3, d, e4, z, e5, rfl, rfl⟩ := e
  refine h1 bs ρ σ os vs P H _ s1 P1 R e1 fun x H1 R1 => ?_
  refine h2 bs ρ σ _ _ P1 H1 _ l P2 R1 e2 fun H2 R2 => ?_
  refine h3 bs ρ σ _ _ P2 H2 _ u P3 R2 e3 fun H3 R3 => ?_
  obtain ⟨F, ad, R3⟩ := R3
  obtain ⟨r3, R4⟩ := R3.pop
  have vw := R3.view r3 e4
  unfold dSl at e5
  split at e5
  · cases e5
    obtain ⟨a, xs, rfl, hp, t⟩ := vw.lists R3.sub
    exact .inl ⟨a, xs, rfl, hp, fun p n => q _ _ ⟨_, ad, (R4.lay n).push (show Fz X.K _ _ _ from .lst (.of upd_same) ((t.cut l u).mono (upd_le (R4.free n))))⟩⟩
  · cases e5
    obtain ⟨a, xs, rfl, hp, t, ff⟩ := vw.tups R3.sub
    refine .inr (.inl ⟨a, xs, rfl, hp.sqT, fun hw => ?_, fun _ => tupQ_rel R4 (t.cut l u) q⟩)
    rw [t.length] at hw
    rw [cut_whole hw] at q
    exact q _ _ (R4.atom ff)
  · split at e5
    · rename_i hz
      cases e5
      exact .inr (.inr ⟨_, vw.strs, hz, q _ _ (R4.atom (.str _))⟩)
    · cases e5
  · cases e5

/-! ### x.append(e), x.pop() of a cell -/
def okPtr (b k : Nat) : SV → Bool
  | .fz _ => true
  | .ptr _ => decide (b ≤ k)
  | .lk _ _ _ => false
theorem okPtr_ps {b k : Nat} {s : SV} (h : okPtr b k s = true) : ∀ j ∈ s.ps, b ≤ k := by
  cases s with
  | fz d => intro j hj; simp [SV.ps] at hj
  | ptr i => intro j _; simpa [okPtr] using h
  | lk _ _ _ => simp [okPtr] at h
def isLst : Option Cell → Bool
  | some (.lst _) => true
  | _ => false
def mApp (fo fe : XM) : XM := fun ρ P => (fo ρ P).bind fun (o, P1) => (fe ρ P1).bind fun (r, P2) => match o with
  | .ptr k => match P2[k]? with
    | some (.lst l) => if l.length < sizeLine ∧ okPtr ρ.b k r = true ∧ isLst P1[k]? = true then some (.fz .none, P2.set k (.lst (l ++ [r]))) else none
    | _ => none
  | _ => none
theorem lst_at {K : PySem.W.Frag} {bs : List Nat} {ρ : EV} {σ : L2.St} {os : List SV} {x : V} {vs : List V} {P : Store} {H : Hp} {k : Nat} (R : Rel K bs ρ σ (.ptr k :: os) (x :: vs) P H) (h : isLst P[k]? = true) : ∃ a, tyV K "list" (.ref a) H ∧ x = .ref a := by
  obtain ⟨F, ad, R⟩ := R
  obtain ⟨r, R1⟩ := R.pop
  cases e : P[k]? with
  | none => rw [e] at h; cases h
  | some c =>
    cases c with
    | lst l =>
      obtain ⟨a, _, rfl, _, xs, hx, _⟩ := R1.at r e
      exact ⟨a, .inl ⟨rfl, xs, .of hx⟩, rfl⟩
    | fz => rw [e] at h; cases h
    | dK => rw [e] at h; cases h
    | dT => rw [e] at h; cases h
def mPop (fo : XM) : XM := fun ρ P => (fo ρ P).bind fun (o, P1) => match o with
  | .ptr k => match P1[k]? with
    | some (.lst l) => (l[l.length - 1]?).map fun r => (r, P1.set k (.lst l.dropLast))
    | _ => none
  | _ => none
theorem ped_pop {o : Expr} {fo : XM} {apos cpos : Pos} (ho : PEd X o fo)
    (hbase : attributeBase o "pop" X.env (eval o X.env) = eval o X.env := by rfl) (hline : (apos.endLine == cpos.line) = true := by rfl) :
    PEd X (.Call (.Attribute o "pop" apos) [] [] cpos) (mPop fo) := by
  obtain ⟨t, p, h1⟩ := ho
  refine ⟨_, pe_bm0 PySem.F.plainAttrs_list PySem.F.slot_list_pop PySem.F.type_list_pop mt_pop p (hbase := hbase) (hline := hline), fun bs ρ σ os vs P H Q r P' R e q => ?_⟩
  simp only [mPop, Option.bind_eq_some_iff] at e
  obtain ⟨⟨s1, P1⟩, e1, e3⟩ := e
  simp only at e3
  split at e3
  · rename_i k
    split at e3
    · rename_i l hk
      simp only [Option.map_eq_some_iff, Prod.mk.injEq] at e3
      obtain ⟨s, hl, rfl, rfl⟩ := e3
      refine h1 bs ρ σ os vs P H _ _ P1 R e1 fun x H1 R1 => ?_
      obtain ⟨a, ty, rfl⟩ := lst_at R1 (by rw [hk]; rfl)
      refine ⟨ty, ?_⟩
      obtain ⟨F, ad, R2⟩ := R1
      obtain ⟨r1, R4⟩ := R2.pop
      obtain ⟨a', ha, e', hc⟩ := R4.at r1 hk
      cases e'
      obtain ⟨hF, xs, hx, tx⟩ := hc
      obtain ⟨v, hv, rv⟩ := tx.get hl
      refine ⟨a, xs, v, rfl, rfl, hx, by rw [tx.length]; exact hv, q _ _ ⟨F, ad, (R4.put (c := .lst l.dropLast) hk ha hF ⟨hF, _, upd_same, tx.dropLast⟩ ?_).push rv⟩⟩
      intro j hj
      simp only [Cell.ps, List.mem_flatMap] at hj ⊢
      obtain ⟨x, hx, hj⟩ := hj
      exact .inl ⟨x, List.mem_of_mem_dropLast' hx, hj⟩
    · cases e3
  · cases e3
theorem ped_append {o e : Expr} {fo fe : XM} {apos cpos : Pos} (ho : PEd X o fo) (he : PEd X e fe)
    (hbase : attributeBase o "append" X.env (eval o X.env) = eval o X.env := by rfl)
    (hfew : ((backTo cpos (starEach [e] X.env)).all (fun x => !x.1) && (backToKw cpos (keywordEach [] X.env)).all (fun x => x.1.isSome)
      && decide ([e].length + ([] : List Keyword).length + (if ([] : List Keyword).isEmpty then 0 else 1) < 30)) = true := by rfl)
    (hline : (apos.endLine == cpos.line) = true := by rfl) (hs : starEach [e] X.env = (false, eval e X.env) :: starEach [] X.env := by rfl) (hplain : (backTo cpos (starEach [] X.env)).any (·.1) = false := by rfl) :
    PEd X (.Call (.Attribute o "append" apos) [e] [] cpos) (mApp fo fe) := by
  obtain ⟨t, p, h1⟩ := ho
  obtain ⟨u, p', h2⟩ := he
  refine ⟨_, pe_bm PySem.F.plainAttrs_list PySem.F.slot_list_append PySem.F.type_list_append mt_append p (pa_cons p' pa_nil hs) (hbase := hbase) (hfew := hfew) (hline := hline) (hs := hs) (hplain := hplain), fun bs ρ σ os vs P H Q r P' R e q => ?_⟩
  simp only [mApp, Option.bind_eq_some_iff] at e
  obtain ⟨⟨s1, P1⟩, e1, ⟨s2, P2⟩, e2, e3⟩ := e
  simp only at e3
  split at e3
  · rename_i k
    split at e3
    · rename_i l hk
      split at e3
      · rename_i hz
        cases e3
        refine h1 bs ρ σ os vs P H _ _ P1 R e1 fun x H1 R1 => ?_
        obtain ⟨a, ty, rfl⟩ := lst_at R1 hz.2.2
        refine ⟨ty, ?_⟩
        refine h2 bs ρ σ _ _ P1 H1 _ s2 P2 R1 e2 fun y H2 R2 => ?_
        obtain ⟨F, ad, R2⟩ := R2
        obtain ⟨r2, R3⟩ := R2.pop
        obtain ⟨r1, R4⟩ := R3.pop
        obtain ⟨a', ha, e', hc⟩ := R4.at r1 hk
        cases e'
        obtain ⟨hF, xs, hx, tx⟩ := hc
        refine ⟨a, xs, y, rfl, rfl, hx, by rw [tx.length]; exact hz.1, q _ _ ⟨F, ad, (R4.put (c := .lst (l ++ [s2])) hk ha hF ⟨hF, _, upd_same, tx.append (.cons r2 .nil)⟩ ?_).push (show Fz X.K F _ _ from .non)⟩⟩
        intro j hj
        simp only [Cell.ps, List.flatMap_append, List.flatMap_cons, List.flatMap_nil, List.append_nil, List.mem_append] at hj
        rcases hj with hj | hj
        · exact .inl hj
        · exact .inr (okPtr_ps hz.2.1 j hj)
      · cases e3
    · cases e3
  · cases e3
end
end Pd

set_option Elab.async false
set_option linter.all false
set_option maxRecDepth 100000
set_option maxHeartbeats 1000000
/-! The layer Pd, part F: statements. -/
namespace Pd
open PySem PySem.Spec PyProof.Rows L2

inductive Fl
  | nx | rt (r : SV) | bk | ct
abbrev SM := EV → Store → Option (Fl × EV × Store)
def EV.put (ρ : EV) (i : Nat) (s : SV) : EV := { ρ with sl := ρ.sl.set i (some s) }
/-- what is asked behind a statement -/
def After (K : PySem.W.Frag) (bs : List Nat) (os : List SV) (vs : List V) (D : Ends) : Fl × EV × Store → Prop
  | (.nx, ρ, P) => ∀ σ H, Rel K bs ρ σ os vs P H → D.nx σ H
  | (.bk, ρ, P) => ∀ σ H, Rel K bs ρ σ os vs P H → D.bk σ H
  | (.ct, ρ, P) => ∀ σ H, Rel K bs ρ σ os vs P H → D.ct σ H
  | (.rt r, ρ, P) => ∀ σ v H, Rel K bs ρ σ (r :: os) (v :: vs) P H → D.rt v H
def PSd (X : Cx) (st : Stmt) (m : SM) : Prop := ∃ t, PS X st t ∧ ∀ (bs : List Nat) (ρ : EV) (σ : L2.St) (os : List SV) (vs : List V) (P : Store) (H : Hp) (D : Ends) (r : Fl × EV × Store), Rel X.K bs ρ σ os vs P H → m ρ P = some r → After X.K bs os vs D r → t D σ H
def PSsd (X : Cx) (st : List Stmt) (m : SM) : Prop := ∃ t, PSs X st t ∧ ∀ (bs : List Nat) (ρ : EV) (σ : L2.St) (os : List SV) (vs : List V) (P : Store) (H : Hp) (D : Ends) (r : Fl × EV × Store), Rel X.K bs ρ σ os vs P H → m ρ P = some r → After X.K bs os vs D r → t D σ H
section
variable {K : PySem.W.Frag} {bs : List Nat} {ρ : EV} {σ : L2.St} {os : List SV} {vs : List V} {P : Store} {H F : Hp} {ad : List Addr}
theorem RelX.store (R : RelX K bs ρ σ os vs P H F ad) {s : SV} {v : V} (h : SVR K F ad v s) (i : Nat) : RelX K bs (ρ.put i s) (σ.set i (some v)) os vs P H F ad := by
  refine { R with slots := ⟨by simp [EV.put, R.slots.1], fun j t e => ?_⟩, bb := R.bb }
  by_cases hj : i = j
  · subst hj
    by_cases hl : i < ρ.sl.length
    · have e : (ρ.sl.set i (some s))[i]? = some (some t) := e
      rw [List.getElem?_set_self hl] at e
      cases e
      exact ⟨v, by rw [List.getElem?_set_self (by rw [R.slots.1]; exact hl)], h⟩
    · have e : (ρ.sl.set i (some s))[i]? = some (some t) := e
      rw [List.getElem?_eq_none (by simpa using hl)] at e; cases e
  · have e : (ρ.sl.set i (some s))[j]? = some (some t) := e
    rw [List.getElem?_set_ne hj] at e
    obtain ⟨w, hw, r⟩ := R.slots.2 j t e
    exact ⟨w, by rw [List.getElem?_set_ne hj]; exact hw, r⟩
theorem Rel.store {s : SV} {v : V} (R : Rel K bs ρ σ (s :: os) (v :: vs) P H) (i : Nat) : Rel K bs (ρ.put i s) (σ.set i (some v)) os vs P H := by
  obtain ⟨F, ad, R⟩ := R
  obtain ⟨r, R1⟩ := R.pop
  exact ⟨F, ad, R1.store r i⟩
theorem Rel.pop {s : SV} {v : V} (R : Rel K bs ρ σ (s :: os) (v :: vs) P H) : Rel K bs ρ σ os vs P H := by
  obtain ⟨F, ad, R⟩ := R
  exact ⟨F, ad, R.pop.2⟩
end

section
variable {X : Cx} {pos : Pos}
def sNx : SM := fun ρ P => some (.nx, ρ, P)
def sSeq (m n : SM) : SM := fun ρ P => (m ρ P).bind fun r => match r with
  | (.nx, ρ1, P1) => n ρ1 P1
  | r => some r
theorem pssd_nil : PSsd X [] sNx := ⟨_, pss_nil, fun bs ρ σ os vs P H D r R e q => by
  simp only [sNx, Option.some.injEq] at e
  subst e
  exact q σ H R⟩
theorem pssd_one {st : Stmt} {m : SM} (h : PSd X st m) : PSsd X [st] m := let ⟨t, p, q⟩ := h; ⟨t, pss_one p, q⟩
theorem pssd_cons {st : Stmt} {rest : List Stmt} {m n : SM} (h : PSd X st m) (h' : PSsd X rest n) : PSsd X (st :: rest) (sSeq m n) := by
  obtain ⟨t, p, h1⟩ := h
  obtain ⟨u, p', h2⟩ := h'
  refine ⟨_, pss_cons p p', fun bs ρ σ os vs P H D r R e q => ?_⟩
  simp only [sSeq, Option.bind_eq_some_iff] at e
  obtain ⟨⟨f, ρ1, P1⟩, e1, e2⟩ := e
  refine h1 bs ρ σ os vs P H { D with nx := u D } _ R e1 ?_
  cases f with
  | nx => exact fun σ1 H1 R1 => h2 bs ρ1 σ1 os vs P1 H1 D r R1 e2 q
  | rt s => cases e2; exact q
  | bk => cases e2; exact q
  | ct => cases e2; exact q
def sRet (f : XM) : SM := fun ρ P => (f ρ P).map fun (s, P1) => (.rt s, ρ, P1)
theorem psd_ret {e : Expr} {f : XM} (h : PEd X e f) : PSd X (.Return (some e) pos) (sRet f) := by
  obtain ⟨t, p, h1⟩ := h
  refine ⟨_, ps_ret p, fun bs ρ σ os vs P H D r R e q => ?_⟩
  simp only [sRet, Option.map_eq_some_iff] at e
  obtain ⟨⟨s, P1⟩, e1, rfl⟩ := e
  exact h1 bs ρ σ os vs P H D.rt s P1 R e1 fun v H1 R1 => q σ v H1 R1
theorem psd_retN : PSd X (.Return none pos) (sRet (mC .none)) := ⟨_, ps_retN, fun bs ρ σ os vs P H D r R e q => by
  simp only [sRet, mC, Option.map_some, Option.some.injEq] at e
  subst e
  obtain ⟨F, ad, R⟩ := R
  exact q σ .non H (R.atom .non)⟩
def sEx (f : XM) : SM := fun ρ P => (f ρ P).map fun (_, P1) => (.nx, ρ, P1)
theorem psd_expr {e : Expr} {f : XM} (h : PEd X e f) (hs : swapsWith e none pos.line X.env = pure false := by rfl) : PSd X (.Expr e pos) (sEx f) := by
  obtain ⟨t, p, h1⟩ := h
  refine ⟨_, ps_expr p hs, fun bs ρ σ os vs P H D r R e q => ?_⟩
  simp only [sEx, Option.map_eq_some_iff] at e
  obtain ⟨⟨s, P1⟩, e1, rfl⟩ := e
  exact h1 bs ρ σ os vs P H _ s P1 R e1 fun v H1 R1 => q σ H1 R1.pop
theorem psd_pass : PSd X (.Pass pos) sNx := ⟨_, ps_pass, fun bs ρ σ os vs P H D r R e q => by
  simp only [sNx, Option.some.injEq] at e
  subst e
  exact q σ H R⟩
def sBk : SM := fun ρ P => some (.bk, ρ, P)
def sCt : SM := fun ρ P => some (.ct, ρ, P)
theorem psd_break : PSd X (.Break pos) sBk := ⟨_, ps_break, fun bs ρ σ os vs P H D r R e q => by
  simp only [sBk, Option.some.injEq] at e
  subst e
  exact q σ H R⟩
theorem psd_continue : PSd X (.Continue pos) sCt := ⟨_, ps_continue, fun bs ρ σ os vs P H D r R e q => by
  simp only [sCt, Option.some.injEq] at e
  subst e
  exact q σ H R⟩
/-- code that is never come to -/
def sNo : SM := fun _ _ => none
theorem psd_never {st : Stmt} : PSd X st sNo := ⟨_, ps_never, fun bs ρ σ os vs P H D r R e q => by simp [sNo] at e⟩
theorem pssd_never {st : List Stmt} : PSsd X st sNo := ⟨_, pss_never, fun bs ρ σ os vs P H D r R e q => by simp [sNo] at e⟩
def sIf (c : BM) (m n : SM) : SM := fun ρ P => (c ρ P).bind fun (b, P1) => if b = true then m ρ P1 else n ρ P1
theorem psd_if {c : Expr} {a b : List Stmt} {fc : BM} {m n : SM} (hc : PTd X c fc) (ha : PSsd X a m) (hb : PSsd X b n) : PSd X (.If c a b pos) (sIf fc m n) := by
  obtain ⟨t0, p0, h0⟩ := hc
  obtain ⟨t, p, h1⟩ := ha
  obtain ⟨u, p', h2⟩ := hb
  refine ⟨_, ps_if p0 p p', fun bs ρ σ os vs P H D r R e q => ?_⟩
  simp only [sIf, Option.bind_eq_some_iff] at e
  obtain ⟨⟨s1, P1⟩, e1, e2⟩ := e
  refine h0 bs ρ σ os vs P H _ s1 P1 R e1 fun H1 R1 => ?_
  simp only at e2
  cases s1 with
  | true => rw [if_pos rfl] at e2 ⊢; exact h1 bs ρ σ os vs P1 H1 D r R1 e2 q
  | false => rw [if_neg Bool.false_ne_true] at e2 ⊢; exact h2 bs ρ σ os vs P1 H1 D r R1 e2 q

/-! ### assignments -/
def sSet (i : Nat) (f : XM) : SM := fun ρ P => (f ρ P).map fun (s, P1) => (.nx, ρ.put i s, P1)
theorem psd_set {i : Nat} {x : Str} {e : Expr} {f : XM} {pos' : Pos} (hN : X.N.Nodup) (hi : X.N[i]? = some x) (hx : Loc X.env.scope x) (h : PEd X e f) (hs : swapsWith e (some (.Name x pos')) pos.line X.env = pure false := by rfl)
    (hf : X.fn x = true ∨ X.env.scope.names.lookup x = some .local := by first | exact .inl rfl | exact .inr rfl | assumption) : PSd X (.Assign [.Name x pos'] e pos) (sSet i f) := by
  obtain ⟨t, p, h1⟩ := h
  refine ⟨_, ps_set hN hi hx p hs hf, fun bs ρ σ os vs P H D r R e q => ?_⟩
  simp only [sSet, Option.map_eq_some_iff] at e
  obtain ⟨⟨s, P1⟩, e1, rfl⟩ := e
  exact h1 bs ρ σ os vs P H _ s P1 R e1 fun v H1 R1 => q _ H1 (R1.store i)
/-- targets: a value, the slots and the store behind -/
abbrev GM := SV → EV → Store → Option (EV × Store)
def Keeps (ts : List Nat) (σ σ' : L2.St) : Prop := σ'.length = σ.length ∧ ∀ i, i ∉ ts → σ'[i]? = σ[i]?
def PGd (X : Cx) (tg : Expr) (ts : List Nat) (g : GM) : Prop := ∃ t, PG X tg t ∧ ∀ (bs : List Nat) (ρ : EV) (σ : L2.St) (os : List SV) (vs : List V) (P : Store) (H : Hp) (s : SV) (v : V) (Q : L2.St → Hp → Prop) (ρ' : EV) (P' : Store), Rel X.K bs ρ σ (s :: os) (v :: vs) P H → g s ρ P = some (ρ', P') →
  (∀ σ' H', Rel X.K bs ρ' σ' os vs P' H' → Keeps ts σ σ' → Q σ' H') → t v σ H Q
def PGsd (X : Cx) (tgs : List Expr) (ts : List Nat) (g : List PyData → EV → Store → Option (EV × Store)) : Prop := ∃ t, PGs X tgs t ∧ ∀ (bs : List Nat) (ρ : EV) (σ : L2.St) (os : List SV) (vs : List V) (P : Store) (H : Hp) (ds : List PyData) (ws : List V) (Q : L2.St → Hp → Prop) (ρ' : EV) (P' : Store),
  Rel X.K bs ρ σ ((ds.map SV.fz) ++ os) (ws ++ vs) P H → ws.length = ds.length → g ds ρ P = some (ρ', P') → (∀ σ' H', Rel X.K bs ρ' σ' os vs P' H' → Keeps ts σ σ' → Q σ' H') → t ws σ H Q
def gNm (i : Nat) : GM := fun s ρ P => some (ρ.put i s, P)
theorem pgd_name {i : Nat} {x : Str} (hN : X.N.Nodup) (hi : X.N[i]? = some x) (hx : Loc X.env.scope x) (hf : X.fn x = true ∨ X.env.scope.names.lookup x = some .local := by first | exact .inl rfl | exact .inr rfl | assumption) : PGd X (.Name x pos) [i] (gNm i) :=
  ⟨_, pg_name hN hi hx hf, fun bs ρ σ os vs P H s v Q ρ' P' R e q => by
    simp only [gNm, Option.some.injEq, Prod.mk.injEq] at e
    obtain ⟨rfl, rfl⟩ := e
    exact q _ H (R.store i) ⟨List.length_set, fun j hj => List.getElem?_set_ne (fun z => hj (by simp [z]))⟩⟩
def gsNil : List PyData → EV → Store → Option (EV × Store)
  | [], ρ, P => some (ρ, P)
  | _, _, _ => none
def gsCons (g : GM) (h : List PyData → EV → Store → Option (EV × Store)) : List PyData → EV → Store → Option (EV × Store)
  | d :: r, ρ, P => (g (.fz d) ρ P).bind fun (ρ1, P1) => h r ρ1 P1
  | _, _, _ => none
theorem pgsd_nil : PGsd X [] [] gsNil := ⟨_, pgs_nil, fun bs ρ σ os vs P H ds ws Q ρ' P' R hl e q => by
  cases ds with
  | nil =>
    simp only [gsNil, Option.some.injEq, Prod.mk.injEq] at e
    obtain ⟨rfl, rfl⟩ := e
    have : ws = [] := List.eq_nil_of_length_eq_zero hl
    subst this
    exact ⟨rfl, q σ H (by simpa using R) ⟨rfl, fun _ _ => rfl⟩⟩
  | cons => cases e⟩
theorem pgsd_cons {e : Expr} {es : List Expr} {g : GM} {h : List PyData → EV → Store → Option (EV × Store)} {ts1 ts2 : List Nat} (h1 : PGd X e ts1 g) (h2 : PGsd X es ts2 h)
    (hs : (assignEach (e :: es) X.env).map (·.2) = assign e X.env :: (assignEach es X.env).map (·.2) := by rfl) : PGsd X (e :: es) (ts1 ++ ts2) (gsCons g h) := by
  obtain ⟨t, p, q1⟩ := h1
  obtain ⟨u, p', q2⟩ := h2
  refine ⟨_, pgs_cons p p' hs, fun bs ρ σ os vs P H ds ws Q ρ' P' R hl e q => ?_⟩
  cases ds with
  | nil => cases e
  | cons d ds =>
    cases ws with
    | nil => simp at hl
    | cons w ws =>
      simp only [gsCons, Option.bind_eq_some_iff] at e
      obtain ⟨⟨ρ1, P1⟩, e1, e2⟩ := e
      refine ⟨w, ws, rfl, q1 bs ρ σ (ds.map SV.fz ++ os) (ws ++ vs) P H (.fz d) w _ ρ1 P1 R e1 fun σ1 H1 R1 k1 => ?_⟩
      exact q2 bs ρ1 σ1 os vs P1 H1 ds ws Q ρ' P' R1 (by simpa using hl) e2 fun σ2 H2 R2 k2 => q σ2 H2 R2 ⟨k2.1.trans k1.1, fun i hi => (k2.2 i fun z => hi (List.mem_append_right _ z)).trans (k1.2 i fun z => hi (List.mem_append_left _ z))⟩
def gTu (n : Nat) (h : List PyData → EV → Store → Option (EV × Store)) : GM := fun s ρ P => match s with
  | .fz (.tuple ds) => if ds.length = n then h ds ρ P else none
  | _ => none
theorem pgd_tup {es : List Expr} {k : Nat} {h : List PyData → EV → Store → Option (EV × Store)} {n : Nat} {ts : List Nat} (hc : X.calm = true) (h1 : PGsd X es ts h)
    (hn : (assignEach es X.env).length = n := by rfl) (hst : (assignEach es X.env).findIdx? (·.1) = none := by rfl) : PGd X (.Tuple es k pos) ts (gTu n h) := by
  obtain ⟨t, p, q1⟩ := h1
  refine ⟨_, pg_tup hc p hn hst, fun bs ρ σ os vs P H s v Q ρ' P' R e q => ?_⟩
  unfold gTu at e
  split at e
  · split at e
    · rename_i ds hl
      obtain ⟨F, ad, R⟩ := R
      obtain ⟨r, R1⟩ := R.pop
      cases r with
      | tup ht tt =>
        refine ⟨_, _, rfl, (R.sub.tup ht).sqT, by rw [tt.length]; exact hl, q1 bs ρ σ os vs P H ds _ Q ρ' P' ⟨F, ad, R1.tops_of ?_⟩ tt.length e q⟩
        have : ∀ {xs : List V} {ds : List PyData}, FzA X.K F xs ds → SVA X.K F ad (xs ++ vs) (ds.map SV.fz ++ os) := by
          intro xs ds h
          induction xs generalizing ds with
          | nil => cases h; exact R1.tops
          | cons x xs ih => cases h with | cons a b => exact .cons a (ih b)
        exact this tt
    · cases e
  · cases e
def sAsg (f : XM) (g : GM) : SM := fun ρ P => (f ρ P).bind fun (s, P1) => (g s ρ P1).map fun (ρ2, P2) => (.nx, ρ2, P2)
theorem psd_asg {tg e : Expr} {f : XM} {g : GM} {ts : List Nat} (he : PEd X e f) (hg : PGd X tg ts g) (hs : swapsWithSole [tg] e pos.line X.env = pure false := by rfl) (hw : swappedStores [tg] e X.env = pure none := by rfl)
    (h1 : (assignEach [tg] X.env).map (·.2) = [assign tg X.env] := by rfl) : PSd X (.Assign [tg] e pos) (sAsg f g) := by
  obtain ⟨t, p, q1⟩ := he
  obtain ⟨u, p', q2⟩ := hg
  refine ⟨_, ps_asg p p' hs hw h1, fun bs ρ σ os vs P H D r R e q => ?_⟩
  simp only [sAsg, Option.bind_eq_some_iff, Option.map_eq_some_iff] at e
  obtain ⟨⟨s, P1⟩, e1, ⟨ρ2, P2⟩, e2, rfl⟩ := e
  exact q1 bs ρ σ os vs P H _ s P1 R e1 fun v H1 R1 => q2 bs ρ σ os vs P1 H1 s v D.nx ρ2 P2 R1 e2 fun σ' H' R' _ => q σ' H' R'
/-- a, b = x, y: names -/
def sPar (i j : Nat) (g : AM) : SM := fun ρ P => (g ρ P).bind fun (l, P1) => match l with
  | [a, b] => some (.nx, (ρ.put i a).put j b, P1)
  | _ => none
theorem psd_par {i j : Nat} {x y : Str} {a b : Expr} {g : AM} {px py pt : Pos} {kt k2 pt2} (hc : X.calm = true) (hN : X.N.Nodup) (hi : X.N[i]? = some x) (hj : X.N[j]? = some y) (hij : i ≠ j)
    (hx : X.env.scope.names.lookup x = some .local) (hy : X.env.scope.names.lookup y = some .local) (ha : PAd X [a, b] g)
    (hw : swappedStores [.Tuple [.Name x px, .Name y py] kt pt] (.Tuple [a, b] k2 pt2) X.env = pure (some [x, y]))
    (hs : swapsWithSole [.Tuple [.Name x px, .Name y py] kt pt] (.Tuple [a, b] k2 pt2) pos.line X.env = pure false := by rfl) :
    PSd X (.Assign [.Tuple [.Name x px, .Name y py] kt pt] (.Tuple [a, b] k2 pt2) pos) (sPar i j g) := by
  obtain ⟨t, p, q1⟩ := ha
  refine ⟨_, ps_par hc hN hi hj hij hx hy p hw hs, fun bs ρ σ os vs P H D r R e q => ?_⟩
  simp only [sPar, Option.bind_eq_some_iff] at e
  obtain ⟨⟨l, P1⟩, e1, e2⟩ := e
  refine q1 bs ρ σ os vs P H _ l P1 R e1 fun ws H1 hl R1 => ?_
  simp only at e2
  split at e2
  · cases e2
    match ws, hl with
    | [u, w], _ =>
      obtain ⟨F, ad, R1⟩ := R1
      obtain ⟨ra, R2⟩ := R1.args rfl
      cases ra with
      | cons r1 ra =>
        cases ra with
        | cons r2 _ => exact ⟨u, w, rfl, q _ H1 ⟨F, ad, (R2.store r1 i).store r2 j⟩⟩
  · cases e2
/-- x op= e -/
def sAug (i : Nat) (g : PyData → PyData → Option PyData) (f : XM) : SM := fun ρ P => match ρ.sl[i]? with
  | some (some (.fz d)) => (f ρ P).bind fun (a, P1) => (flat P1 a).bind fun e => (g d e).map fun z => (.nx, ρ.put i (.fz z), P1)
  | _ => none
theorem psd_augI {i : Nat} {x : Str} {e : Expr} {op : Operator} {f : XM} {h : Int → Int → Int} {pos' : Pos} (hN : X.N.Nodup) (hi : X.N[i]? = some x) (hx : Loc X.env.scope x) (he : PEd X e f) (ho : PIp X op (ipI h))
    (hf : X.fn x = true ∨ X.env.scope.names.lookup x = some .local := by first | exact .inl rfl | exact .inr rfl | assumption) : PSd X (.AugAssign (.Name x pos') op e pos) (sAug i (dI fun a b => some (.int (h a b))) f) := by
  obtain ⟨t, p, q1⟩ := he
  refine ⟨_, ps_aug hN hi hx p ho hf, fun bs ρ σ os vs P H D r R e q => ?_⟩
  unfold sAug at e
  split at e
  · rename_i d hd
    simp only [Option.bind_eq_some_iff, Option.map_eq_some_iff] at e
    obtain ⟨⟨s, P1⟩, e1, d2, e2, z, e3, rfl⟩ := e
    obtain ⟨a, b, rfl, rfl, hz⟩ := dI_some e3
    cases hz
    have hv : ∃ v, σ[i]? = some (some v) ∧ v = .int a := by
      obtain ⟨F, ad, R⟩ := R
      obtain ⟨v, hv, r⟩ := R.slots.2 i _ hd
      cases r
      exact ⟨_, hv, rfl⟩
    obtain ⟨_, hv, rfl⟩ := hv
    refine ⟨_, hv, q1 bs ρ σ os vs P H _ s P1 R e1 fun v H1 R1 => ?_⟩
    obtain ⟨F, ad, R1⟩ := R1
    obtain ⟨r1, R2⟩ := R1.pop
    exact ⟨a, b, rfl, (R1.view r1 e2).ints, q _ H1 ⟨F, ad, R2.store (s := .fz (.int (h a b))) (v := .int (h a b)) (show Fz X.K F _ _ from .int _) i⟩⟩
  · cases e

/-! ### loops -/
/-- what a loop walks: its items, as data -/
abbrev IM := EV → Store → Option (List PyData × SV × Store)
def ItOk (K : PySem.W.Frag) (J : It) (items : List PyData) (src : SV) (v : V) : Prop := ∀ (bs : List Nat) (ρ : EV) (σ : L2.St) (os : List SV) (vs : List V) (P : Store) (H : Hp) (i : Nat), Rel K bs ρ σ (src :: os) (v :: vs) P H →
  (i < items.length → J.go i H ∧ ∀ x H', J.yld i H x H' → ∃ d, items[i]? = some d ∧ Rel K bs ρ σ (.fz d :: src :: os) (x :: v :: vs) P H') ∧ (items.length ≤ i → J.stop i H)
def PId (X : Cx) (tg iter : Expr) (f : IM) : Prop := ∃ wi, PI X tg iter wi ∧ ∀ (bs : List Nat) (ρ : EV) (σ : L2.St) (os : List SV) (vs : List V) (P : Store) (H : Hp) (R : It → Hp → Prop) (items : List PyData) (src : SV) (P' : Store), Rel X.K bs ρ σ os vs P H → f ρ P = some (items, src, P') →
  (∀ J v H' sr, Rel X.K bs ρ σ (sr :: os) (v :: vs) P' H' → ItOk X.K J items sr v → R J H') → wi σ H R
def forGo (g : GM) (body : SM) : List PyData → SM
  | [], ρ, P => some (.nx, ρ, P)
  | d :: r, ρ, P => (g (.fz d) ρ P).bind fun (ρ1, P1) => (body ρ1 P1).bind fun (fl, ρ2, P2) => match fl with
    | .nx => forGo g body r ρ2 P2
    | .ct => forGo g body r ρ2 P2
    | .bk => some (.nx, ρ2, P2)
    | .rt s => some (.rt s, ρ2, P2)
def sFor (f : IM) (g : GM) (body : SM) : SM := fun ρ P => (f ρ P).bind fun (items, _, P1) => forGo g body items ρ P1
theorem Rel.pop2 {K : PySem.W.Frag} {bs : List Nat} {ρ : EV} {σ : L2.St} {s s2 : SV} {v v2 : V} {os : List SV} {vs : List V} {P : Store} {H : Hp} (R : Rel K bs ρ σ (s :: s2 :: os) (v :: v2 :: vs) P H) : Rel K bs ρ σ (s :: os) (v :: vs) P H := by
  obtain ⟨F, ad, R⟩ := R
  obtain ⟨r, R1⟩ := R.pop
  obtain ⟨_, R2⟩ := R1.pop
  exact ⟨F, ad, R2.push r⟩
theorem psd_for {tg iter : Expr} {body : List Stmt} {f : IM} {g : GM} {m : SM} {ts : List Nat} (hp : PassesOwn (model X.prog X.w) X.A X.env X.xe) (hc : X.calm = true) (hi : PId X tg iter f) (hg : PGd X tg ts g) (hb : PSsd X body m)
    (hs : ∀ x, foldedSetIterable iter X.env x = pure x := by intro _; rfl) : PSd X (.For tg iter body [] pos) (sFor f g m) := by
  obtain ⟨wi, p0, h0⟩ := hi
  obtain ⟨t, p1, h1⟩ := hg
  obtain ⟨u, p2, h2⟩ := hb
  refine ⟨_, ps_for hp hc p0 p1 p2 hs, fun bs ρ σ os vs P H D r R e q => ?_⟩
  simp only [sFor, Option.bind_eq_some_iff] at e
  obtain ⟨⟨items, src, P1⟩, e0, e1⟩ := e
  refine h0 bs ρ σ os vs P H _ items src P1 R e0 fun J v H1 src R1 ok => ?_
  refine ⟨fun i n σ H => ∃ ρ P, n = items.length - i ∧ i ≤ items.length ∧ Rel X.K bs ρ σ (src :: os) (v :: vs) P H ∧ forGo g m (items.drop i) ρ P = some r, ⟨_, ρ, P1, rfl, Nat.zero_le _, R1, by simpa using e1⟩, ?_⟩
  rintro i n σ2 H2 ⟨ρ2, P2, rfl, hle, R2, e2⟩
  obtain ⟨ok1, ok2⟩ := ok bs ρ2 σ2 os vs P2 H2 i R2
  by_cases hlt : i < items.length
  · obtain ⟨go, yl⟩ := ok1 hlt
    refine .inr ⟨go, fun σ H => ∃ ρ P, Rel X.K bs ρ σ (src :: os) (v :: vs) P H ∧ forGo g m (items.drop (i + 1)) ρ P = some r, fun σ3 H3 ⟨ρ3, P3, R3, e3⟩ => ⟨items.length - (i + 1), by omega, ρ3, P3, rfl, hlt, R3, e3⟩, fun x H' hy => ?_⟩
    obtain ⟨d, hd, R3⟩ := yl x H' hy
    rw [List.drop_eq_getElem_cons hlt] at e2
    have ed : items[i] = d := by rw [List.getElem?_eq_getElem hlt] at hd; exact Option.some.inj hd
    rw [ed] at e2
    simp only [forGo, Option.bind_eq_some_iff] at e2
    obtain ⟨⟨ρ4, P4⟩, e4, ⟨fl, ρ5, P5⟩, e5, e6⟩ := e2
    refine h1 bs ρ2 σ2 (src :: os) (v :: vs) P2 H' (.fz d) x _ ρ4 P4 R3 e4 fun σ4 H4 R4 _ => ?_
    refine h2 bs ρ4 σ4 (src :: os) (v :: vs) P4 H4 _ (fl, ρ5, P5) R4 e5 ?_
    cases fl with
    | nx => exact fun σ5 H5 R5 => ⟨ρ5, P5, R5, e6⟩
    | ct => exact fun σ5 H5 R5 => ⟨ρ5, P5, R5, e6⟩
    | bk => cases e6; exact fun σ5 H5 R5 => q σ5 H5 R5.pop
    | rt s => cases e6; exact fun σ5 w H5 R5 => q σ5 w H5 R5.pop2
  · have : i = items.length := by omega
    subst this
    rw [List.drop_length] at e2
    simp only [forGo, Option.some.injEq] at e2
    subst e2
    exact .inl ⟨ok2 (Nat.le_refl _), q σ2 H2 R2.pop⟩
/-- the items of a list or tuple that stands -/
def iSeq (f : XM) : IM := fun ρ P => (f ρ P).bind fun (a, P1) => match a with
  | .fz (.list ds) => some (ds, a, P1)
  | .fz (.tuple ds) => some (ds, a, P1)
  | _ => none
theorem RelX.push2 {K : PySem.W.Frag} {bs : List Nat} {ρ : EV} {σ : L2.St} {os : List SV} {vs : List V} {P : Store} {H F : Hp} {ad : List Addr} (R : RelX K bs ρ σ os vs P H F ad) {d : PyData} {v : V} (h : Fz K F v d) : Rel K bs ρ σ (.fz d :: os) (v :: vs) P H := ⟨F, ad, R.push h⟩
theorem pid_list {tg e : Expr} {f : XM} (h : PEd X e f) : PId X tg e (fun ρ P => (f ρ P).bind fun (a, P1) => match a with | .fz (.list ds) => some (ds, a, P1) | _ => none) := by
  obtain ⟨t, p, h1⟩ := h
  refine ⟨_, pi_list p, fun bs ρ σ os vs P H R items src P' Rl e q => ?_⟩
  simp only [Option.bind_eq_some_iff] at e
  obtain ⟨⟨a, P1⟩, e1, e2⟩ := e
  refine h1 bs ρ σ os vs P H _ a P1 Rl e1 fun v H1 R1 => ?_
  simp only at e2
  split at e2
  · rename_i ds
    cases e2
    have R1' := R1
    obtain ⟨F, ad, R1⟩ := R1
    obtain ⟨r1, R2⟩ := R1.pop
    have hv : ∃ l, v = .ref l := by cases r1; exact ⟨_, rfl⟩
    obtain ⟨l, rfl⟩ := hv
    have hl : ∃ xs, SqL X.K H1 l xs := by
      cases r1 with
      | lst hp _ => exact ⟨_, R1.sub.sqL hp⟩
    refine ⟨l, rfl, hl, q (Itl X.K l) (.ref l) H1 _ R1' fun bs ρ σ os vs P H i R => ?_⟩
    obtain ⟨F, ad, R⟩ := R
    obtain ⟨r, R3⟩ := R.pop
    cases r with
    | lst hp tt =>
      rename_i xs
      have hs : SqL X.K H l xs := R.sub.sqL hp
      have hln := tt.length
      refine ⟨fun hi => ?_, fun hi => ⟨xs, hs, by omega⟩⟩
      have hx : xs[i]? = some xs[i] := List.getElem?_eq_getElem (by omega)
      refine ⟨⟨xs, xs[i], hs, hx⟩, fun x H' ⟨e1, e2⟩ => ?_⟩
      subst e1
      have ex : x = xs[i] := Option.some.inj ((e2 xs hs).symm.trans hx)
      subst ex
      obtain ⟨d, hd, fd⟩ := tt.get hx
      exact ⟨d, hd, R.push2 fd⟩
  · cases e2
theorem pid_tup {tg e : Expr} {f : XM} (h : PEd X e f) : PId X tg e (fun ρ P => (f ρ P).bind fun (a, P1) => match a with | .fz (.tuple ds) => some (ds, a, P1) | _ => none) := by
  obtain ⟨t, p, h1⟩ := h
  refine ⟨_, pi_tup p, fun bs ρ σ os vs P H R items src P' Rl e q => ?_⟩
  simp only [Option.bind_eq_some_iff] at e
  obtain ⟨⟨a, P1⟩, e1, e2⟩ := e
  refine h1 bs ρ σ os vs P H _ a P1 Rl e1 fun v H1 R1 => ?_
  simp only at e2
  split at e2
  · rename_i ds
    cases e2
    have R1' := R1
    obtain ⟨F, ad, R1⟩ := R1
    obtain ⟨r1, R2⟩ := R1.pop
    have hv : ∃ l, v = .ref l := by cases r1; exact ⟨_, rfl⟩
    obtain ⟨l, rfl⟩ := hv
    have hl : ∃ xs, SqT X.K H1 l xs := by
      cases r1 with
      | tup hp _ => exact ⟨_, (R1.sub.tup hp).sqT⟩
    refine ⟨l, rfl, hl, q (Itt X.K l) (.ref l) H1 _ R1' fun bs ρ σ os vs P H i R => ?_⟩
    obtain ⟨F, ad, R⟩ := R
    obtain ⟨r, R3⟩ := R.pop
    cases r with
    | tup hp tt =>
      rename_i xs
      have hs : SqT X.K H l xs := (R.sub.tup hp).sqT
      have hln := tt.length
      refine ⟨fun hi => ?_, fun hi => ⟨xs, hs, by omega⟩⟩
      have hx : xs[i]? = some xs[i] := List.getElem?_eq_getElem (by omega)
      refine ⟨⟨xs, xs[i], hs, hx⟩, fun x H' ⟨e1, e2⟩ => ?_⟩
      subst e1
      have ex : x = xs[i] := Option.some.inj ((e2 xs hs).symm.trans hx)
      subst ex
      obtain ⟨d, hd, fd⟩ := tt.get hx
      exact ⟨d, hd, R.push2 fd⟩
  · cases e2
def whGo (c : BM) (body : SM) : Nat → SM
  | 0, _, _ => none
  | n + 1, ρ, P => (c ρ P).bind fun (b, P1) => if b = true then (body ρ P1).bind fun (fl, ρ2, P2) => match fl with
      | .nx => whGo c body n ρ2 P2
      | .ct => whGo c body n ρ2 P2
      | .bk => some (.nx, ρ2, P2)
      | .rt s => some (.rt s, ρ2, P2)
    else some (.nx, ρ, P1)
theorem psd_while (n : Nat) {c : Expr} {body : List Stmt} {fc : BM} {m : SM} (hp : PassesOwn (model X.prog X.w) X.A X.env X.xe) (hc : PTd X c fc) (hb : PSsd X body m) : PSd X (.While c body [] pos) (whGo fc m n) := by
  obtain ⟨t, p1, h1⟩ := hc
  obtain ⟨u, p2, h2⟩ := hb
  refine ⟨_, ps_while hp p1 p2, fun bs ρ σ os vs P H D r R e q => ?_⟩
  refine ⟨fun k σ H => ∃ ρ P, Rel X.K bs ρ σ os vs P H ∧ whGo fc m k ρ P = some r, ⟨n, ρ, P, R, e⟩, ?_⟩
  rintro k σ2 H2 ⟨ρ2, P2, R2, e2⟩
  cases k with
  | zero => simp [whGo] at e2
  | succ k =>
    simp only [whGo, Option.bind_eq_some_iff] at e2
    obtain ⟨⟨b, P3⟩, e3, e4⟩ := e2
    refine h1 bs ρ2 σ2 os vs P2 H2 _ b P3 R2 e3 fun H3 R3 => ?_
    cases b with
    | true =>
      simp only [if_true, Option.bind_eq_some_iff] at e4
      obtain ⟨⟨fl, ρ5, P5⟩, e5, e6⟩ := e4
      rw [if_pos rfl]
      refine ⟨fun σ H => ∃ ρ P, Rel X.K bs ρ σ os vs P H ∧ whGo fc m k ρ P = some r, fun σ' H' h => ⟨k, Nat.lt_succ_self k, h⟩, ?_⟩
      refine h2 bs ρ2 σ2 os vs P3 H3 _ (fl, ρ5, P5) R3 e5 ?_
      cases fl with
      | nx => exact fun σ5 H5 R5 => ⟨ρ5, P5, R5, e6⟩
      | ct => exact fun σ5 H5 R5 => ⟨ρ5, P5, R5, e6⟩
      | bk => cases e6; exact q
      | rt s => cases e6; exact q
    | false =>
      rw [if_neg Bool.false_ne_true] at e4 ⊢
      cases e4
      exact q σ2 H3 R3
end
end Pd

set_option Elab.async false
set_option linter.all false
set_option maxRecDepth 100000
set_option maxHeartbeats 1000000
/-! The layer Pd, part G: what a loop walks, comprehensions. -/
namespace Pd
open PySem PySem.Spec PyProof.Rows L2

/-! ### cutting the store -/
section
variable {K : PySem.W.Frag} {bs : List Nat} {ρ : EV} {σ : L2.St} {os : List SV} {vs : List V} {P : Store} {H F : Hp} {ad : List Addr} {n : Nat}
def SV.lt (n : Nat) : SV → Prop
  | .fz _ => True
  | .ptr k => k < n
  | .lk _ _ _ => True
theorem SVR.ltOf {v : V} {s : SV} (h : SVR K F ad v s) : s.lt ad.length := by
  cases s with
  | fz d => trivial
  | ptr k => obtain ⟨a, e, _⟩ := h; exact (List.getElem?_eq_some_iff.mp e).1
  | lk _ _ _ => trivial
theorem SVR.take {v : V} {s : SV} (h : SVR K F ad v s) (l : s.lt n) : SVR K F (ad.take n) v s := by
  cases s with
  | fz d => exact h
  | ptr k => obtain ⟨a, e, q⟩ := h; exact ⟨a, by rw [List.getElem?_take_of_lt l]; exact e, q⟩
  | lk _ _ _ => exact h
theorem SVA.ltOf : ∀ {vs : List V} {l : List SV}, SVA K F ad vs l → ∀ s ∈ l, s.lt ad.length
  | _, _, .nil, s, h => by simp at h
  | _, _, .cons a t, s, h => by
    rcases List.mem_cons.mp h with rfl | h
    · exact a.ltOf
    · exact SVA.ltOf t s h
theorem SVA.take : ∀ {vs : List V} {l : List SV}, SVA K F ad vs l → (∀ s ∈ l, s.lt n) → SVA K F (ad.take n) vs l
  | _, _, .nil, _ => .nil
  | _, _, .cons a t, h => .cons (a.take (h _ List.mem_cons_self)) (SVA.take t fun s hs => h s (List.mem_cons_of_mem _ hs))
theorem ps_lt {l : List SV} (h : ∀ j ∈ l.flatMap SV.ps, j < n) : ∀ s ∈ l, s.lt n := fun s hs => by
  cases s with
  | fz d => trivial
  | ptr k => exact h k (List.mem_flatMap.mpr ⟨_, hs, by simp [SV.ps]⟩)
  | lk _ _ _ => trivial
theorem lt_ps {l : List SV} (h : ∀ s ∈ l, s.lt n) : ∀ j ∈ l.flatMap SV.ps, j < n := fun j hj => by
  obtain ⟨s, hs, q⟩ := List.mem_flatMap.mp hj
  cases s with
  | fz d => simp [SV.ps] at q
  | ptr k => simp only [SV.ps, List.mem_singleton] at q; subst q; exact h _ hs
  | lk _ _ _ => simp [SV.ps] at q
theorem CellR.lows {a : Addr} {c : Cell} (h : CellR K F H ad a c) : ∀ j ∈ c.ps, j < ad.length := by
  cases c with
  | fz d => intro j hj; simp [Cell.ps] at hj
  | lst l => obtain ⟨_, xs, _, t⟩ := h; exact lt_ps t.ltOf
  | dK l =>
    obtain ⟨_, xs, _, t⟩ := h
    intro j hj
    refine lt_ps t.ltOf j ?_
    simpa [Cell.ps, List.flatMap_map] using hj
  | dT l =>
    obtain ⟨_, xs, _, t⟩ := h
    intro j hj
    refine lt_ps t.ltOf j ?_
    simpa [Cell.ps, List.flatMap_map] using hj
theorem CellR.take {a : Addr} {c : Cell} (h : CellR K F H ad a c) (l : ∀ j ∈ c.ps, j < n) : CellR K F H (ad.take n) a c := by
  cases c with
  | fz d => exact h
  | lst r => obtain ⟨f, xs, e, t⟩ := h; exact ⟨f, xs, e, t.take (ps_lt l)⟩
  | dK r =>
    obtain ⟨f, xs, e, t⟩ := h
    exact ⟨f, xs, e, t.take (ps_lt (by simpa [Cell.ps, List.flatMap_map] using l))⟩
  | dT r =>
    obtain ⟨f, xs, e, t⟩ := h
    exact ⟨f, xs, e, t.take (ps_lt (by simpa [Cell.ps, List.flatMap_map] using l))⟩
/-- a new base at the store's end -/
theorem RelX.enter (R : RelX K bs ρ σ os vs P H F ad) : RelX K (P.length :: bs) { ρ with b := P.length } σ os vs P H F ad := by
  refine { R with slots := R.slots, bas := ⟨fun c hc => ?_, fun c hc k x hk e j hj => ?_⟩, bb := fun c hc => ?_ }
  · rcases List.mem_cons.mp hc with rfl | hc
    · exact Nat.le_refl _
    · exact R.bas.le c hc
  · rcases List.mem_cons.mp hc with rfl | hc
    · have hl : k < ad.length := by rw [R.len]; exact hk
      have := (R.cells k x ad[k] e (List.getElem?_eq_getElem hl)).lows j hj
      rw [R.len] at this; exact this
    · exact R.bas.low c hc k x hk e j hj
  · rcases List.mem_cons.mp hc with rfl | hc
    · exact Nat.le_refl _
    · exact R.bas.le c hc
theorem RelX.slotsLt (R : RelX K bs ρ σ os vs P H F ad) : ∀ (i : Nat) (s : SV), ρ.sl[i]? = some (some s) → s.lt P.length := fun i s e => by
  obtain ⟨v, _, r⟩ := R.slots.2 i s e
  rw [← R.len]; exact r.ltOf
theorem RelX.topsLt (R : RelX K bs ρ σ os vs P H F ad) : ∀ s ∈ os, s.lt P.length := by rw [← R.len]; exact R.tops.ltOf
/-- .. and back to it -/
theorem RelX.cut (R : RelX K (n :: bs) ρ σ os vs P H F ad) {ρ' : EV} {σ' : L2.St} {os' : List SV} {vs' : List V} (hs : SlR K F ad ρ'.sl σ') (hl : ∀ (i : Nat) (s : SV), ρ'.sl[i]? = some (some s) → s.lt n) (ht : SVA K F ad vs' os') (hlt : ∀ s ∈ os', s.lt n) (hb : ∀ c ∈ bs, c ≤ ρ'.b) (hbn : ∀ c ∈ bs, c ≤ n) :
    RelX K bs ρ' σ' os' vs' (P.take n) H F (ad.take n) := by
  refine ⟨R.sub, by simp [R.len], R.nd.sublist (List.take_sublist _ _), fun a ha => R.there a (List.mem_of_mem_take ha), fun k c a e1 e2 => ?_, ⟨hs.1, fun i s e => ?_⟩, ht.take hlt, ⟨fun c hc => ?_, fun c hc k x hk e j hj => ?_⟩, hb⟩
  · have hk : k < n := by
      have := (List.getElem?_eq_some_iff.mp e1).1
      rw [List.length_take] at this; omega
    rw [List.getElem?_take_of_lt hk] at e1 e2
    exact (R.cells k c a e1 e2).take (R.bas.low n List.mem_cons_self k c hk e1)
  · obtain ⟨v, e1, r⟩ := hs.2 i s e
    exact ⟨v, e1, r.take (hl i s e)⟩
  · have h1 := R.bas.le c (List.mem_cons_of_mem _ hc)
    have h2 := hbn c hc
    rw [List.length_take]; omega
  · have h2 := hbn c hc
    rw [List.getElem?_take_of_lt (by omega)] at e
    exact R.bas.low c (List.mem_cons_of_mem _ hc) k x hk e j hj
end

/-! ### what is walked -/
section
variable {X : Cx} {tg : Expr}
theorem PI.or {iter : Expr} {w w' : TI} (h : PI X tg iter w) (h' : PI X tg iter w') : PI X tg iter (fun σ H R => w σ H R ∨ w' σ H R) :=
  ⟨fun pins s σ H R I q => q.elim (h.run pins s σ H R I) (h'.run pins s σ H R I)⟩
theorem PId.or {iter : Expr} {f g : IM} (h : PId X tg iter f) (h' : PId X tg iter g) : PId X tg iter (fun ρ P => (f ρ P).or (g ρ P)) := by
  obtain ⟨w, p, h1⟩ := h
  obtain ⟨w', p', h2⟩ := h'
  refine ⟨_, PI.or p p', fun bs ρ σ os vs P H R items src P' Rl e q => ?_⟩
  have e : (f ρ P).or (g ρ P) = some (items, src, P') := e
  cases hf : f ρ P with
  | some z =>
    rw [hf] at e
    simp only [Option.some_or, Option.some.injEq] at e
    subst e
    exact .inl (h1 bs ρ σ os vs P H R items src P' Rl hf q)
  | none =>
    rw [hf] at e
    exact .inr (h2 bs ρ σ os vs P H R items src P' Rl (by simpa using e) q)
def signsD (x : Str) : List PyData := x.cps.toList.map fun c => .str ⟨#[c]⟩
theorem pid_str {e : Expr} {f : XM} (h : PEd X e f) : PId X tg e (fun ρ P => (f ρ P).bind fun (a, P1) => match a with | .fz (.str x) => some (signsD x, a, P1) | _ => none) := by
  obtain ⟨t, p, h1⟩ := h
  refine ⟨_, pi_str p, fun bs ρ σ os vs P H R items src P' Rl e q => ?_⟩
  simp only [Option.bind_eq_some_iff] at e
  obtain ⟨⟨a, P1⟩, e1, e2⟩ := e
  refine h1 bs ρ σ os vs P H _ a P1 Rl e1 fun v H1 R1 => ?_
  simp only at e2
  split at e2
  · rename_i x
    cases e2
    have hv : v = .str x := by
      obtain ⟨F, ad, R1⟩ := R1
      obtain ⟨r1, _⟩ := R1.pop
      cases r1; rfl
    subst hv
    refine ⟨x, rfl, q (Its x) (.str x) H1 _ R1 fun bs ρ σ os vs P H i R => ⟨fun hi => ?_, fun hi => ?_⟩⟩
    · have hi' : i < x.cps.size := by simpa [signsD] using hi
      refine ⟨hi', fun y H' ⟨e1, c, hc, ey⟩ => ?_⟩
      subst e1; subst ey
      obtain ⟨F, ad, R⟩ := R
      refine ⟨.str ⟨#[c]⟩, ?_, ⟨F, ad, R.push (show Fz X.K F _ _ from .str _)⟩⟩
      unfold signsD
      rw [List.getElem?_map, Array.getElem?_toList, hc]; rfl
    · show x.cps.size ≤ i
      simpa [signsD] using hi
  · cases e2
/-! ### the keys of a dict: it stays locked -/
def iKeysL (td : TE) : TI := fun σ H R => td σ H fun x H1 => ∃ d kvs, x = .ref d ∧ ((∃ o, H1 d = some (.frz o (.dK kvs)) ∧ R (Itk d o kvs) H1) ∨ (H1 d = some (.dK kvs) ∧ ∀ o, R (Itk d o kvs) (upd H1 d (.frz o (.dK kvs)))))
theorem pi_keysL {e : Expr} {td : TE} (he : PE X e td) : PI X tg e (iKeysL td) := by
  refine ⟨fun pins s σ H R I h => ?_⟩
  refine thn (he.run pins s σ H _ I h) fun u s1 ⟨x, H1, I1, rx, d, kvs, ex, q⟩ => ?_
  subst ex
  obtain rfl : u = Value.ref d := rx
  have key : ∃ (H2 : Hp) (o : Obj), L2.Inv X pins σ H2 s1 ∧ H2 d = some (.frz o (.dK kvs)) ∧ R (Itk d o kvs) H2 := by
    rcases q with ⟨o, hd, q⟩ | ⟨hd, q⟩
    · exact ⟨H1, o, I1, hd, q⟩
    · obtain ⟨o, I2⟩ := I1.lock hd trivial
      exact ⟨_, o, I2, upd_same, q o⟩
  obtain ⟨H2, o, I2, hd, q⟩ := key
  obtain ⟨f1, f2, f3, es, ep, ws, f4, f5, f6, f7⟩ := I2.frzK hd
  refine iter_keys f1 f2 f3 f4 (pi_one (tk := s1.toks) I2 _ (turn_keys _ f4) ⟨_, Heap.get?_push_size _ rfl, rfl, ?_⟩ q)
  rw [f5] <;> rfl
theorem RelX.lockD {K : PySem.W.Frag} {bs : List Nat} {ρ : EV} {σ : L2.St} {os : List SV} {vs : List V} {P : Store} {H F : Hp} {ad : List Addr} (R : RelX K bs ρ σ os vs P H F ad) {d : Addr} {o : Obj} {kvs : List (Key × V)} (hF : F d = some (.dK kvs)) :
    RelX K bs ρ σ os vs P (upd H d (.frz o (.dK kvs))) (upd F d (.frz o (.dK kvs))) ad := by
  have l : Le F (upd F d (.frz o (.dK kvs))) := fun a u e => by
    by_cases h : a = d
    · subst h
      rw [hF] at e
      cases e
      exact .inr ⟨rfl, o, upd_same⟩
    · exact .inl (by rw [upd_ne h]; exact e)
  refine ⟨fun a u e => ?_, R.len, R.nd, fun a ha => ?_, fun k c a e1 e2 => ?_, R.slots.mono l (.refl _), R.tops.mono l (.refl _), R.bas, R.bb⟩
  · by_cases h : a = d
    · subst h
      rw [upd_same] at e ⊢
      exact .inl e
    · rw [upd_ne h] at e ⊢
      exact R.sub a u e
  · by_cases h : a = d
    · subst h; exact ⟨_, upd_same⟩
    · obtain ⟨u, e⟩ := R.there a ha
      exact ⟨u, by rw [upd_ne h]; exact e⟩
  · have hc := R.cells k c a e1 e2
    cases c with
    | fz z => exact Fz.mono l hc
    | lst z =>
      obtain ⟨n, xs, e, t⟩ := hc
      have ne : a ≠ d := fun q => by subst q; rw [hF] at n; cases n
      exact ⟨by rw [upd_ne ne]; exact n, xs, by rw [upd_ne ne]; exact e, t.mono l (.refl _)⟩
    | dK z =>
      obtain ⟨n, xs, e, t⟩ := hc
      have ne : a ≠ d := fun q => by subst q; rw [hF] at n; cases n
      exact ⟨by rw [upd_ne ne]; exact n, xs, by rw [upd_ne ne]; exact e, t.mono l (.refl _)⟩
    | dT z =>
      obtain ⟨n, xs, e, t⟩ := hc
      have ne : a ≠ d := fun q => by subst q; rw [hF] at n; cases n
      exact ⟨by rw [upd_ne ne]; exact n, xs, by rw [upd_ne ne]; exact e, t.mono l (.refl _)⟩
/-- an int or a text -/
def isKD : PyData → Bool
  | .int _ => true
  | .str _ => true
  | _ => false
def keysD (kvs : List (PyData × PyData)) : List PyData := kvs.map (·.1)
theorem keysD_zip (ks : List Key) : ∀ ds : List PyData, ks.length = ds.length → keysD ((ks.map keyD).zip ds) = ks.map keyD := by
  induction ks with
  | nil => intro ds _; rfl
  | cons k ks ih =>
    intro ds h
    cases ds with
    | nil => simp at h
    | cons d ds =>
      have := ih ds (by simpa using h)
      simpa [keysD] using this
theorem Fz.dct {K : PySem.W.Frag} {F : Hp} {v : V} {kvs : List (PyData × PyData)} (h : Fz K F v (.dict kvs)) (hk : kvs.all (fun p => isKD p.1) = true) : ∃ (a : Addr) (ks : List Key) (xs : List V), v = .ref a ∧ Rd F a (.dK (ks.zip xs)) ∧ ks.length = xs.length ∧ keysD kvs = ks.map keyD := by
  cases h with
  | @dK a ks xs ds hp hl t => exact ⟨a, ks, xs, rfl, hp, hl, keysD_zip ks ds (by have := t.length; omega)⟩
  | @dT a ks xs ds hp hl n t =>
    have hn := t.length
    cases ks with
    | nil => exact absurd rfl n
    | cons k ks =>
      cases ds with
      | nil => simp at hn; simp [hn] at hl
      | cons d ds => simp [isKD] at hk
theorem itok_keys {K : PySem.W.Frag} {d : Addr} {o : Obj} {ks : List Key} {xs : List V} {v : V} (hl : ks.length = xs.length) : ItOk K (Itk d o (ks.zip xs)) (ks.map keyD) (.lk d o (.dK (ks.zip xs))) v := fun bs ρ σ os vs P H i R => by
  have hz : (ks.zip xs).length = ks.length := by simp; omega
  have hH : H d = some (.frz o (.dK (ks.zip xs))) := by
    obtain ⟨F, ad, R⟩ := R
    obtain ⟨r, _⟩ := R.pop
    have r : F d = some (.frz o (.dK (ks.zip xs))) := r
    rcases R.sub d _ r with e | ⟨n, _⟩
    · exact e
    · cases n
  refine ⟨fun hi => ?_, fun hi => ⟨hH, by rw [hz]; simpa using hi⟩⟩
  have hi' : i < ks.length := by simpa using hi
  refine ⟨⟨hH, by rw [hz]; exact hi'⟩, fun y H' ⟨e1, k, w, hk, ey⟩ => ?_⟩
  subst e1; subst ey
  obtain ⟨F, ad, R⟩ := R
  have hk2 : ks[i]? = some k := by
    have h3 := congrArg (Option.map Prod.fst) hk
    rw [← List.getElem?_map, List.map_fst_zip (by omega)] at h3
    simpa using h3
  refine ⟨keyD k, by rw [List.getElem?_map, hk2]; rfl, ⟨F, ad, R.push ?_⟩⟩
  cases k with
  | inl n => exact (show Fz K F _ _ from .int _)
  | inr n => exact (show Fz K F _ _ from .str _)
theorem pid_dict {e : Expr} {f : XM} (h : PEd X e f) : PId X tg e (fun ρ P => (f ρ P).bind fun (a, P1) => match a with | .fz (.dict kvs) => if kvs.all (fun p => isKD p.1) = true then some (keysD kvs, a, P1) else none | _ => none) := by
  obtain ⟨t, p, h1⟩ := h
  refine ⟨_, pi_keysL p, fun bs ρ σ os vs P H R items src P' Rl e q => ?_⟩
  simp only [Option.bind_eq_some_iff] at e
  obtain ⟨⟨a, P1⟩, e1, e2⟩ := e
  refine h1 bs ρ σ os vs P H _ a P1 Rl e1 fun v H1 R1 => ?_
  simp only at e2
  split at e2
  · rename_i kvs
    split at e2
    · rename_i hk
      cases e2
      obtain ⟨F, ad, R1⟩ := R1
      obtain ⟨r1, R2⟩ := R1.pop
      obtain ⟨a, ks, xs, rfl, hp, hl, hkeys⟩ := Fz.dct r1 hk
      rw [hkeys] at q
      refine ⟨a, ks.zip xs, rfl, ?_⟩
      rcases hp with hp | ⟨o, hp⟩
      · rcases R1.sub a _ hp with e | ⟨_, o, e⟩
        · refine .inr ⟨e, fun o => ?_⟩
          exact q (Itk a o (ks.zip xs)) (.ref a) _ (.lk a o (.dK (ks.zip xs))) ⟨_, ad, (R2.lockD (o := o) hp).push (show upd F a _ a = _ from upd_same)⟩ (itok_keys hl)
        · refine .inl ⟨o, e, ?_⟩
          have hH : upd H1 a (.frz o (.dK (ks.zip xs))) = H1 := by
            funext b
            by_cases h : b = a
            · subst h; rw [upd_same, e]
            · rw [upd_ne h]
          have R3 := R2.lockD (o := o) hp
          rw [hH] at R3
          exact q (Itk a o (ks.zip xs)) (.ref a) _ (.lk a o (.dK (ks.zip xs))) ⟨_, ad, R3.push (show upd F a _ a = _ from upd_same)⟩ (itok_keys hl)
      · have e : H1 a = some (.frz o (.dK (ks.zip xs))) := by
          rcases R1.sub a _ hp with e | ⟨n, _⟩
          · exact e
          · cases n
        exact .inl ⟨o, e, q (Itk a o (ks.zip xs)) (.ref a) _ (.lk a o (.dK (ks.zip xs))) ⟨_, ad, R2.push (show F a = _ from hp)⟩ (itok_keys hl)⟩
    · cases e2
  · cases e2
/-- a list, a tuple, a text, the keys of a dict -/
def iAny (f : XM) : IM := fun ρ P => (f ρ P).bind fun (a, P1) => match a with
  | .fz (.list ds) => some (ds, a, P1)
  | .fz (.tuple ds) => some (ds, a, P1)
  | .fz (.str x) => some (signsD x, a, P1)
  | .fz (.dict kvs) => if kvs.all (fun p => isKD p.1) = true then some (keysD kvs, a, P1) else none
  | _ => none
theorem pid_any {e : Expr} {f : XM} (h : PEd X e f) : PId X tg e (iAny f) := by
  have h1 := (pid_list (tg := tg) h).or ((pid_tup h).or ((pid_str h).or (pid_dict h)))
  have e1 : (fun ρ P => ((f ρ P).bind fun (a, P1) => match a with | .fz (.list ds) => some (ds, a, P1) | _ => none).or (((f ρ P).bind fun (a, P1) => match a with | .fz (.tuple ds) => some (ds, a, P1) | _ => none).or
      (((f ρ P).bind fun (a, P1) => match a with | .fz (.str x) => some (signsD x, a, P1) | _ => none).or ((f ρ P).bind fun (a, P1) => match a with | .fz (.dict kvs) => if kvs.all (fun p => isKD p.1) = true then some (keysD kvs, a, P1) else none | _ => none)))) = iAny f := by
    funext ρ P
    unfold iAny
    cases f ρ P with
    | none => rfl
    | some z =>
      obtain ⟨a, P1⟩ := z
      cases a with
      | ptr k => rfl
      | lk _ _ _ => rfl
      | fz d => cases d <;> rfl
  rw [← e1]; exact h1
def rangeD (lo : Int) (n : Nat) : List PyData := (List.range n).map fun i => .int (lo + (i : Nat))
theorem rangeD_len (lo : Int) (n : Nat) : (rangeD lo n).length = n := by simp [rangeD]
theorem itok_range {K : PySem.W.Frag} {lo : Int} {n : Nat} {d : SV} {v : V} : ItOk K (Itr lo n) (rangeD lo n) d v := fun bs ρ σ os vs P H i R => by
  refine ⟨fun hi => ?_, fun hi => by rw [rangeD_len] at hi; exact hi⟩
  rw [rangeD_len] at hi
  refine ⟨hi, fun x H' ⟨e1, e2⟩ => ?_⟩
  subst e1; subst e2
  obtain ⟨F, ad, R⟩ := R
  exact ⟨.int (lo + i), by simp [rangeD, hi], ⟨F, ad, R.push (show Fz K F _ _ from .int _)⟩⟩
def iRange (g : AM) : IM := fun ρ P => (g ρ P).bind fun (l, P1) => match l with
  | [.fz (.int j)] => if -(2 ^ 62) ≤ j ∧ j < 2 ^ 62 then some (rangeD 0 j.toNat, .fz .none, P1) else none
  | [.fz (.int i), .fz (.int j)] => if -(2 ^ 62) ≤ i ∧ i < 2 ^ 62 ∧ -(2 ^ 62) ≤ j ∧ j < 2 ^ 62 then some (rangeD i (j - i).toNat, .fz .none, P1) else none
  | _ => none
theorem pid_range1 {a : Expr} {f : XM} {p pos : Pos} (hg : Gl X "range") (hm : X.mg "range" = none) (ha : PEd X a f) (hs : starEach [a] X.env = [(false, eval a X.env)] := by rfl) : PId X tg (.Call (.Name "range" p) [a] [] pos) (iRange (aCons f aNil)) := by
  obtain ⟨t, pa, h1⟩ := pad_cons ha pad_nil (by rw [hs]; rfl)
  refine ⟨_, pi_range1 hg hm pa hs, fun bs ρ σ os vs P H R items src P' Rl e q => ?_⟩
  simp only [iRange, Option.bind_eq_some_iff] at e
  obtain ⟨⟨l, P1⟩, e1, e2⟩ := e
  refine h1 bs ρ σ os vs P H _ l P1 Rl e1 fun ws H1 hl R1 => ?_
  obtain ⟨F, ad, R1⟩ := R1
  obtain ⟨ra, R2⟩ := R1.args hl
  simp only at e2
  split at e2
  · split at e2
    · rename_i hz
      cases e2
      cases ra with
      | cons r1 ra =>
        cases ra
        cases r1
        exact ⟨_, rfl, hz.1, hz.2, q _ .non H1 (.fz .none) ⟨F, ad, R2.push (show Fz X.K F _ _ from .non)⟩ itok_range⟩
    · cases e2
  · simp [aCons, aNil, Option.bind_eq_some_iff] at e1
  · cases e2
theorem pid_range2 {a b : Expr} {f g : XM} {p pos : Pos} (hg : Gl X "range") (hm : X.mg "range" = none) (ha : PEd X a f) (hb : PEd X b g) (hs : starEach [a, b] X.env = [(false, eval a X.env), (false, eval b X.env)] := by rfl) (hs2 : starEach [b] X.env = [(false, eval b X.env)] := by rfl) :
    PId X tg (.Call (.Name "range" p) [a, b] [] pos) (iRange (aCons f (aCons g aNil))) := by
  obtain ⟨t, pa, h1⟩ := pad_cons ha (pad_cons hb pad_nil (by rw [hs2]; rfl)) (by rw [hs, hs2])
  refine ⟨_, pi_range2 hg hm pa hs hs2, fun bs ρ σ os vs P H R items src P' Rl e q => ?_⟩
  simp only [iRange, Option.bind_eq_some_iff] at e
  obtain ⟨⟨l, P1⟩, e1, e2⟩ := e
  refine h1 bs ρ σ os vs P H _ l P1 Rl e1 fun ws H1 hl R1 => ?_
  obtain ⟨F, ad, R1⟩ := R1
  obtain ⟨ra, R2⟩ := R1.args hl
  simp only at e2
  split at e2
  · simp [aCons, aNil, Option.bind_eq_some_iff] at e1
  · split at e2
    · rename_i hz
      cases e2
      cases ra with
      | cons r1 ra =>
        cases ra with
        | cons r2 ra =>
          cases ra
          cases r1
          cases r2
          exact ⟨_, _, rfl, hz, q _ .non H1 (.fz .none) ⟨F, ad, R2.push (show Fz X.K F _ _ from .non)⟩ itok_range⟩
    · cases e2
  · cases e2
end

/-! ### comprehensions -/
def EV.wipe (ρ : EV) (vs : List Nat) : EV := { ρ with sl := vs.foldr (fun v l => l.set v none) ρ.sl }
theorem SlR.wipe {K : PySem.W.Frag} {F : Hp} {ad : List Addr} {sl : List (Option SV)} {σ : L2.St} (h : SlR K F ad sl σ) : ∀ vs : List Nat, SlR K F ad (vs.foldr (fun v l => l.set v none) sl) (L2.wipe σ vs)
  | [] => h
  | v :: vs => by
    have ih := SlR.wipe h vs
    refine ⟨by simp [L2.wipe, ih.1], fun i s e => ?_⟩
    simp only [List.foldr_cons] at e
    by_cases hi : v = i
    · subst hi
      by_cases hl : v < (vs.foldr (fun v l => l.set v none) sl).length
      · rw [List.getElem?_set_self hl] at e; cases e
      · rw [List.getElem?_eq_none (by simpa using hl)] at e; cases e
    · rw [List.getElem?_set_ne hi] at e
      obtain ⟨w, hw, r⟩ := ih.2 i s e
      exact ⟨w, by show ((L2.wipe σ vs).set v none)[i]? = _; rw [List.getElem?_set_ne hi]; exact hw, r⟩
def lcGo (g : GM) (tt : BM) (te : XM) (ρ : EV) (n : Nat) : List PyData → Store → Option Store
  | [], S => some S
  | d :: r, S => (g (.fz d) ρ S).bind fun (ρ1, S1) => (tt ρ1 S1).bind fun (b, S2) =>
    if b = true then (te ρ1 S2).bind fun (s, S3) => match s, S3[n]? with
      | .fz z, some (.lst acc) => if acc.length < sizeLine then lcGo g tt te ρ n r (S3.set n (.lst (acc ++ [.fz z]))) else none
      | _, _ => none
    else lcGo g tt te ρ n r S2
def mLC (own : List Nat) (f : IM) (g : GM) (tt : BM) (te : XM) : XM := fun ρ P => (f ρ P).bind fun (items, _, P1) =>
  (lcGo g tt te { ρ.wipe own with b := P1.length } P1.length items (P1 ++ [.lst []])).bind fun S => match S[P1.length]? with
    | some (.lst acc) => (fzs acc).map fun ds => (.fz (.list ds), S.take P1.length)
    | _ => none
def PTsd (X : Cx) (ifs : List Expr) (f : BM) : Prop := ∃ t, PTs X ifs t ∧ ∀ (bs : List Nat) (ρ : EV) (σ : L2.St) (os : List SV) (vs : List V) (P : Store) (H : Hp) (Q : Bool → Hp → Prop) (r : Bool) (P' : Store), Rel X.K bs ρ σ os vs P H → f ρ P = some (r, P') →
  (∀ H', Rel X.K bs ρ σ os vs P' H' → Q r H') → t σ H Q
def bYes : BM := fun _ P => some (true, P)
theorem ptsd_nil {X : Cx} : PTsd X [] bYes := ⟨_, pts_nil, fun bs ρ σ os vs P H Q r P' R e q => by
  simp only [bYes, Option.some.injEq, Prod.mk.injEq] at e
  obtain ⟨rfl, rfl⟩ := e
  exact q H R⟩
theorem ptsd_one {X : Cx} {c : Expr} {f : BM} (h : PTd X c f) : PTsd X [c] f := let ⟨t, p, q⟩ := h; ⟨t, pts_one p, q⟩
end Pd

set_option Elab.async false
set_option linter.all false
set_option maxRecDepth 100000
set_option maxHeartbeats 1000000
/-! The layer Pd, part H: comprehensions' proof. -/
namespace Pd
open PySem PySem.Spec PyProof.Rows L2

def tM (K : PySem.W.Frag) (f : XM) : TE := fun σ H Q => ∃ (bs : List Nat) (ρ : EV) (os : List SV) (vs : List V) (P : Store) (r : SV) (P' : Store), Rel K bs ρ σ os vs P H ∧ f ρ P = some (r, P') ∧ ∀ v H', Rel K bs ρ σ (r :: os) (v :: vs) P' H' → Q v H'
def tMT (K : PySem.W.Frag) (f : BM) : TT := fun σ H Q => ∃ (bs : List Nat) (ρ : EV) (os : List SV) (vs : List V) (P : Store) (r : Bool) (P' : Store), Rel K bs ρ σ os vs P H ∧ f ρ P = some (r, P') ∧ ∀ H', Rel K bs ρ σ os vs P' H' → Q r H'
def tMG (K : PySem.W.Frag) (ts : List Nat) (g : GM) : TG := fun v σ H Q => ∃ (bs : List Nat) (ρ : EV) (os : List SV) (vs : List V) (P : Store) (s : SV) (ρ' : EV) (P' : Store), Rel K bs ρ σ (s :: os) (v :: vs) P H ∧ g s ρ P = some (ρ', P') ∧
  ∀ σ' H', Rel K bs ρ' σ' os vs P' H' → Keeps ts σ σ' → Q σ' H'
theorem PEd.canon {X : Cx} {e : Expr} {f : XM} (h : PEd X e f) : PE X e (tM X.K f) := by
  obtain ⟨t, p, h1⟩ := h
  exact ⟨fun pins s σ H Q I ⟨bs, ρ, os, vs, P, r, P', R, e, q⟩ => p.run pins s σ H Q I (h1 bs ρ σ os vs P H Q r P' R e q)⟩
theorem PTsd.canon {X : Cx} {e : List Expr} {f : BM} (h : PTsd X e f) : PTs X e (tMT X.K f) := by
  obtain ⟨t, p, h1⟩ := h
  exact ⟨fun pins s σ H Q I ⟨bs, ρ, os, vs, P, r, P', R, e, q⟩ => p.run pins s σ H Q I (h1 bs ρ σ os vs P H Q r P' R e q)⟩
theorem PGd.canon {X : Cx} {e : Expr} {ts : List Nat} {g : GM} (h : PGd X e ts g) : PG X e (tMG X.K ts g) := by
  obtain ⟨t, p, h1⟩ := h
  exact ⟨fun pins s σ H v u Q I r ⟨bs, ρ, os, vs, P, sv, ρ', P', R, e, q⟩ => p.run pins s σ H v u Q I r (h1 bs ρ σ os vs P H sv v Q ρ' P' R e q)⟩

theorem wipe_at {σ : L2.St} {i : Nat} : ∀ {vs : List Nat}, i ∈ vs → (L2.wipe σ vs)[i]? = if i < σ.length then some none else none
  | v :: vs, h => by
    show ((L2.wipe σ vs).set v none)[i]? = _
    by_cases hv : v = i
    · subst hv
      by_cases hl : v < σ.length
      · rw [List.getElem?_set_self (by rw [L2.wipe_length]; exact hl), if_pos hl]
      · rw [List.getElem?_eq_none (by rw [List.length_set, L2.wipe_length]; omega), if_neg hl]
    · rw [List.getElem?_set_ne hv]
      rcases List.mem_cons.mp h with e | h
      · exact absurd e.symm hv
      · exact wipe_at h
theorem wipe_keeps {σ σ' : L2.St} {own ts : List Nat} (h : ∀ i ∈ ts, i ∈ own) (k : Keeps ts (L2.wipe σ own) σ') : L2.wipe σ' own = L2.wipe σ own := by
  have hl : σ'.length = σ.length := k.1.trans (L2.wipe_length _ _)
  apply List.ext_getElem?
  intro i
  by_cases hi : i ∈ own
  · rw [wipe_at hi, wipe_at hi, hl]
  · rw [L2.wipe_out hi, k.2 i fun z => hi (h i z)]
theorem SVA.split {K : PySem.W.Frag} {F : Hp} {ad : List Addr} : ∀ {ws vs : List V} {ls os : List SV}, ws.length = ls.length → SVA K F ad (ws ++ vs) (ls ++ os) → SVA K F ad ws ls ∧ SVA K F ad vs os
  | [], _, [], _, _, h => ⟨.nil, h⟩
  | w :: ws, vs, l :: ls, os, e, h => by
    cases h with
    | cons a t =>
      obtain ⟨h1, h2⟩ := SVA.split (ws := ws) (ls := ls) (by simpa using e) t
      exact ⟨.cons a h1, h2⟩
  | [], _, _ :: _, _, e, _ => by simp at e
  | _ :: _, _, [], _, e, _ => by simp at e
/-- what the slots hold, as a list -/
theorem SlR.list {K : PySem.W.Frag} : ∀ {sl : List (Option SV)} {σ : L2.St} {F : Hp} {ad : List Addr}, SlR K F ad sl σ → ∃ (ls : List SV) (ws : List V), SVA K F ad ws ls ∧ ∀ F' ad', SVA K F' ad' ws ls → SlR K F' ad' sl σ
  | [], σ, F, ad, h => ⟨[], [], .nil, fun F' ad' _ => ⟨h.1, fun i s e => by simp at e⟩⟩
  | o :: sl, [], F, ad, h => by have := h.1; simp at this
  | o :: sl, v :: σ, F, ad, h => by
    have h' : SlR K F ad sl σ := ⟨by simpa using h.1, fun i s e => h.2 (i + 1) s e⟩
    obtain ⟨ls, ws, a, b⟩ := SlR.list h'
    cases o with
    | none =>
      refine ⟨ls, ws, a, fun F' ad' x => ?_⟩
      obtain ⟨c, d⟩ := b F' ad' x
      refine ⟨by simp [c], fun i s e => ?_⟩
      cases i with
      | zero => simp at e
      | succ i => exact d i s (by simpa using e)
    | some s =>
      obtain ⟨w, hw, r⟩ := h.2 0 s rfl
      have hv : v = some w := by simpa using hw
      subst hv
      refine ⟨s :: ls, w :: ws, .cons r a, fun F' ad' x => ?_⟩
      cases x with
      | cons r' x =>
        obtain ⟨c, d⟩ := b F' ad' x
        refine ⟨by simp [c], fun i t e => ?_⟩
        cases i with
        | zero =>
          have : s = t := by simpa using e
          subst this
          exact ⟨w, rfl, r'⟩
        | succ i => exact d i t (by simpa using e)
/-- the turns of a comprehension -/
theorem lc_go {K : PySem.W.Frag} {J : It} {items : List PyData} {src : SV} {w : V} (ok : ItOk K J items src w) {g : GM} {ts : List Nat} {tt : BM} {te : XM} {own : List Nat} {bs : List Nat} {ρ : EV} {σ : L2.St} {os : List SV} {vs : List V} {P : Store} {H1 : Hp} {S : Store} {Df : Hp → Prop} {D : Addr}
    (hts : ∀ i ∈ ts, i ∈ own)
    (R : Rel K bs ρ σ (src :: os) (w :: vs) P H1) (hD : H1 D = none) (e : lcGo g tt te { ρ.wipe own with b := P.length } P.length items (P ++ [.lst []]) = some S)
    (q : ∀ H, Rel K (P.length :: bs) { ρ with b := P.length } σ (.ptr P.length :: src :: os) (.ref D :: w :: vs) S H → Df H) :
    ∃ W : Nat → Nat → Hp → Prop, (∃ m, W 0 m (upd H1 D (.lst []))) ∧ ∀ i m H, W i m H →
      (J.stop i H ∧ Df H) ∨ (J.go i H ∧ ∃ Nx : Hp → Prop, (∀ H', Nx H' → ∃ m', m' < m ∧ W (i + 1) m' H') ∧ ∀ x H', J.yld i H x H' → tMG K ts g x (L2.wipe σ own) H' fun σ2 H2 => L2.wipe σ2 own = L2.wipe σ own ∧ tMT K tt σ2 H2 fun b H3 =>
        if b = true then tM K te σ2 H3 fun y H4 => ∃ acc, H4 D = some (.lst acc) ∧ acc.length < sizeLine ∧ Nx (upd H4 D (.lst (acc ++ [y]))) else Nx H3) := by
  -- what the def's slots hold, on the stack
  have hls : ∃ (ls : List SV) (ws : List V), ws.length = ls.length ∧ (∀ F ad, SVA K F ad ws ls → SlR K F ad ρ.sl σ) ∧ Rel K bs ρ σ (src :: (ls ++ os)) (w :: (ws ++ vs)) P H1 := by
    obtain ⟨F, ad, R⟩ := R
    obtain ⟨ls, ws, a, b⟩ := R.slots.list
    obtain ⟨r, R1⟩ := R.pop
    exact ⟨ls, ws, a.length, b, F, ad, R.tops_of (.cons r (a.append R1.tops))⟩
  obtain ⟨ls, ws, hlen, hb, Rl⟩ := hls
  have start : ∃ ρx σx, ρx.b = P.length ∧ Rel K (P.length :: bs) ρx σx (.ptr P.length :: src :: (ls ++ os)) (.ref D :: w :: (ws ++ vs)) (P ++ [.lst []]) (upd H1 D (.lst [])) := by
    obtain ⟨F, ad, R⟩ := Rl
    exact ⟨_, _, rfl, F, ad ++ [D], R.enter.cell hD fun ad' pr => ⟨R.free hD, [], upd_same, .nil⟩⟩
  refine ⟨fun i m H => m = items.length - i ∧ i ≤ items.length ∧ ∃ T ρx σx, ρx.b = P.length ∧ Rel K (P.length :: bs) ρx σx (.ptr P.length :: src :: (ls ++ os)) (.ref D :: w :: (ws ++ vs)) T H ∧ lcGo g tt te { ρ.wipe own with b := P.length } P.length (items.drop i) T = some S, ⟨_, rfl, Nat.zero_le _, _, start.choose, start.choose_spec.choose, start.choose_spec.choose_spec.1, start.choose_spec.choose_spec.2, by simpa using e⟩, ?_⟩
  rintro i m H ⟨rfl, hle, T, ρx, σx, hbx, RT, eT⟩
  have under : Rel K (P.length :: bs) ρx σx (src :: .ptr P.length :: (ls ++ os)) (w :: .ref D :: (ws ++ vs)) T H := by
    obtain ⟨F, ad, R⟩ := RT
    obtain ⟨r1, R1⟩ := R.pop
    obtain ⟨r2, R2⟩ := R1.pop
    exact ⟨F, ad, (R2.push r1).push r2⟩
  obtain ⟨ok1, ok2⟩ := ok _ _ _ _ _ _ _ i under
  by_cases hlt : i < items.length
  · obtain ⟨go, yl⟩ := ok1 hlt
    refine .inr ⟨go, fun H => ∃ T ρx σx, ρx.b = P.length ∧ Rel K (P.length :: bs) ρx σx (.ptr P.length :: src :: (ls ++ os)) (.ref D :: w :: (ws ++ vs)) T H ∧ lcGo g tt te { ρ.wipe own with b := P.length } P.length (items.drop (i + 1)) T = some S, fun H' ⟨T', ρ', σ', b', R', e'⟩ => ⟨items.length - (i + 1), by omega, rfl, hlt, T', ρ', σ', b', R', e'⟩, fun x H' hy => ?_⟩
    obtain ⟨d, hd, R3⟩ := yl x H' hy
    rw [List.drop_eq_getElem_cons hlt] at eT
    have ed : items[i] = d := by rw [List.getElem?_eq_getElem hlt] at hd; exact Option.some.inj hd
    rw [ed] at eT
    simp only [lcGo, Option.bind_eq_some_iff] at eT
    obtain ⟨⟨ρ4, P4⟩, e4, ⟨b, P5⟩, e5, e6⟩ := eT
    have R4 : Rel K (P.length :: bs) { ρ.wipe own with b := P.length } (L2.wipe σ own) (.fz d :: .ptr P.length :: src :: (ls ++ os)) (x :: .ref D :: w :: (ws ++ vs)) T H' := by
      obtain ⟨F, ad, R⟩ := R3
      obtain ⟨r0, R1⟩ := R.pop
      obtain ⟨r1, R2⟩ := R1.pop
      obtain ⟨r2, R3⟩ := R2.pop
      have sp := (SVA.split hlen R3.tops).1
      refine ⟨F, ad, { R with slots := (hb F ad sp).wipe own, tops := .cons r0 (.cons r2 (.cons r1 R3.tops)), bb := fun c hc => ?_ }⟩
      have := R.bb c hc
      show c ≤ P.length
      rw [hbx] at this; exact this
    refine ⟨_, _, _, _, _, _, ρ4, P4, R4, e4, fun σ4 H4 R5 k4 => ⟨wipe_keeps hts k4, _, _, _, _, _, b, P5, R5, e5, fun H5 R6 => ?_⟩⟩
    simp only at e6
    have hb4 : ∀ {bs : List Nat} {os : List SV} {vs : List V} {P' : Store} {H : Hp}, Rel K (P.length :: bs) ρ4 σ4 os vs P' H → P.length ≤ ρ4.b := fun ⟨F, ad, R⟩ => R.bb _ List.mem_cons_self
    cases b with
    | true =>
      rw [if_pos rfl] at e6 ⊢
      simp only [Option.bind_eq_some_iff] at e6
      obtain ⟨⟨s, P6⟩, e7, e8⟩ := e6
      refine ⟨_, _, _, _, _, s, P6, R6, e7, fun y H6 R7 => ?_⟩
      simp only at e8
      split at e8
      · rename_i z acc hacc
        split at e8
        · rename_i hz
          obtain ⟨F, ad, R7⟩ := R7
          obtain ⟨ry, R8⟩ := R7.pop
          obtain ⟨rD, R9⟩ := R8.pop
          obtain ⟨a, ha, ea, hc⟩ := R8.at rD hacc
          cases ea
          obtain ⟨hF, xs, hx, tx⟩ := hc
          refine ⟨xs, hx, by rw [tx.length]; exact hz, P6.set P.length (.lst (acc ++ [.fz z])), { ρ4 with b := P.length }, σ4, rfl, ⟨F, ad, ?_⟩, e8⟩
          have R10 := R8.put (c := .lst (acc ++ [.fz z])) hacc ha hF ⟨hF, _, upd_same, tx.append (.cons ry .nil)⟩ (fun j hj => by
            refine .inl ?_
            simpa [Cell.ps, SV.ps] using hj)
          refine { R10 with slots := R10.slots, bb := fun c hc => ?_ }
          rcases List.mem_cons.mp hc with rfl | hc
          · exact Nat.le_refl _
          · obtain ⟨F0, ad0, R0⟩ := R
            exact R0.bas.le c hc
        · cases e8
      · cases e8
    | false =>
      rw [if_neg Bool.false_ne_true] at e6 ⊢
      refine ⟨P5, { ρ4 with b := P.length }, σ4, rfl, ?_, e6⟩
      obtain ⟨F, ad, R6⟩ := R6
      refine ⟨F, ad, { R6 with slots := R6.slots, bb := fun c hc => ?_ }⟩
      rcases List.mem_cons.mp hc with rfl | hc
      · exact Nat.le_refl _
      · obtain ⟨F0, ad0, R0⟩ := R
        exact R0.bas.le c hc
  · have : i = items.length := by omega
    subst this
    rw [List.drop_length] at eT
    simp only [lcGo, Option.some.injEq] at eT
    subst eT
    refine .inl ⟨ok2 (Nat.le_refl _), q H ?_⟩
    obtain ⟨F, ad, RX⟩ := RT
    obtain ⟨r1, R1⟩ := RX.pop
    obtain ⟨r2, R2⟩ := R1.pop
    obtain ⟨sp, so⟩ := SVA.split hlen R2.tops
    refine ⟨F, ad, { RX with slots := hb F ad sp, tops := .cons r1 (.cons r2 so), bb := fun c hc => ?_ }⟩
    have := RX.bb c hc
    show c ≤ P.length
    rw [hbx] at this; exact this

section
variable {X : Cx} {pos : Pos}
theorem lc_d {f : IM} {g : GM} {tt : BM} {te : XM} {ts own : List Nat} {wi : TI} (hts : ∀ i ∈ ts, i ∈ own)
    (h0 : ∀ (bs : List Nat) (ρ : EV) (σ : L2.St) (os : List SV) (vs : List V) (P : Store) (H : Hp) (R : It → Hp → Prop) (items : List PyData) (src : SV) (P' : Store), Rel X.K bs ρ σ os vs P H → f ρ P = some (items, src, P') →
      (∀ J v H' sr, Rel X.K bs ρ σ (sr :: os) (v :: vs) P' H' → ItOk X.K J items sr v → R J H') → wi σ H R)
    (bs : List Nat) (ρ : EV) (σ : L2.St) (os : List SV) (vs : List V) (P : Store) (H : Hp) (Q : VK) (r : SV) (P' : Store) (R : Rel X.K bs ρ σ os vs P H) (e : mLC own f g tt te ρ P = some (r, P'))
    (q : ∀ v H', Rel X.K bs ρ σ (r :: os) (v :: vs) P' H' → Q v H') : tLc wi (tMG X.K ts g) (tMT X.K tt) (tM X.K te) own σ H Q := by
  simp only [mLC, Option.bind_eq_some_iff] at e
  obtain ⟨⟨items, src, P1⟩, e0, S, e1, e2⟩ := e
  refine h0 bs ρ σ os vs P H _ items src P1 R e0 fun J w H1 src R1 ok => fun D hD => ?_
  refine lc_go (Df := fun H => Q (.ref D) H) ok hts R1 hD e1 fun H2 R2 => ?_
  simp only at e2
  split at e2
  · rename_i acc hacc
    simp only [Option.map_eq_some_iff, Prod.mk.injEq] at e2
    obtain ⟨ds, hds, rfl, rfl⟩ := e2
    obtain ⟨F, ad, R2⟩ := R2
    obtain ⟨F1, ad1, R1⟩ := R1
    obtain ⟨rD, R3⟩ := R2.pop
    obtain ⟨a, ha, ea, hc⟩ := R3.at rD hacc
    cases ea
    obtain ⟨hF, xs, hx, tx⟩ := hc
    obtain ⟨R4, l4, f4⟩ := R3.freezeC (d := .list ds) hacc ha hF hx fun G l g => .lst (.of g) ((fzs_some tx hds).mono l)
    obtain ⟨_, R5⟩ := R4.pop
    have R6 := R5.cut (ρ' := ρ) R5.slots R1.slotsLt R5.tops (fun s hs => R1.topsLt s (List.mem_cons_of_mem _ hs)) (fun c hc => R1.bb c hc) (fun c hc => R1.bas.le c hc)
    have e5 : (S.set P1.length (.fz (.list ds))).take P1.length = S.take P1.length := by
      rw [List.take_set_of_le (Nat.le_refl _)]
    rw [e5] at R6
    exact q _ _ ⟨_, _, R6.push (d := .fz (.list ds)) (show Fz X.K _ _ _ from f4)⟩
  · cases e2
theorem ped_lc {elt tg iter : Expr} {ifs : List Expr} {scope : Scope} {own : List (Str × Nat)} {f : IM} {g : GM} {tt : BM} {te : XM} {ts : List Nat} (hc : X.calm = true) (hN : X.N.Nodup) (hi : PId X tg iter f) (ok : BlkOk X.N X.env.scope scope own)
    (hg : ∀ (s : Shared) (H : Hp) (C : Addr) (cl : List (Str × Addr)) (fp : List Addr), PGd (X.blk s H scope (compEnvC scope cl C X.env) fp) tg ts g) (ht : ∀ (s : Shared) (H : Hp) (C : Addr) (cl : List (Str × Addr)) (fp : List Addr), PTsd (X.blk s H scope (compEnvC scope cl C X.env) fp) ifs tt)
    (he : ∀ (s : Shared) (H : Hp) (C : Addr) (cl : List (Str × Addr)) (fp : List Addr), PEd (X.blk s H scope (compEnvC scope cl C X.env) fp) elt te) (hts : ∀ i ∈ ts, i ∈ own.map (·.2) := by decide) (hs : ∀ x, foldedSetIterable iter X.env x = pure x := by intro _; rfl) :
    PEd X (.ListComp elt [⟨tg, iter, ifs, 0⟩] scope pos) (mLC (own.map (·.2)) f g tt te) := by
  obtain ⟨wi, p0, h0⟩ := hi
  exact ⟨_, pe_lc (g := tMG X.K ts g) (tt := tMT X.K tt) (te := tM X.K te) hc hN p0 ok (fun s H C cl fp => (hg s H C cl fp).canon) (fun s H C cl fp => (ht s H C cl fp).canon) (fun s H C cl fp => (he s H C cl fp).canon) hs, lc_d hts h0⟩
theorem psd_setLc {i : Nat} {y : Str} {py : Pos} {elt tg iter : Expr} {ifs : List Expr} {scope : Scope} {own : List (Str × Nat)} {spos : Pos} {f : IM} {g : GM} {tt : BM} {te : XM} {ts : List Nat} (hc : X.calm = true) (hN : X.N.Nodup) (hy : X.N[i]? = some y) (hyl : X.env.scope.names.lookup y = some .local)
    (hsw : swapsWith (.ListComp elt [⟨tg, iter, ifs, 0⟩] scope pos) (some (.Name y py)) spos.line X.env = pure true) (hi : PId X tg iter f) (ok : BlkOk X.N X.env.scope scope own)
    (hg : ∀ (s : Shared) (H : Hp) (C : Addr) (cl : List (Str × Addr)) (fp : List Addr), PGd (X.blk s H scope (compEnvC scope cl C X.env) fp) tg ts g) (ht : ∀ (s : Shared) (H : Hp) (C : Addr) (cl : List (Str × Addr)) (fp : List Addr), PTsd (X.blk s H scope (compEnvC scope cl C X.env) fp) ifs tt)
    (he : ∀ (s : Shared) (H : Hp) (C : Addr) (cl : List (Str × Addr)) (fp : List Addr), PEd (X.blk s H scope (compEnvC scope cl C X.env) fp) elt te) (hts : ∀ i ∈ ts, i ∈ own.map (·.2) := by decide) (hs : ∀ x, foldedSetIterable iter X.env x = pure x := by intro _; rfl) :
    PSd X (.Assign [.Name y py] (.ListComp elt [⟨tg, iter, ifs, 0⟩] scope pos) spos) (sSet i (mLC (own.map (·.2)) f g tt te)) := by
  obtain ⟨wi, p0, h0⟩ := hi
  refine ⟨_, ps_setLc (g := tMG X.K ts g) (tt := tMT X.K tt) (te := tM X.K te) hc hN hy hyl hsw p0 ok (fun s H C cl fp => (hg s H C cl fp).canon) (fun s H C cl fp => (ht s H C cl fp).canon) (fun s H C cl fp => (he s H C cl fp).canon) hs, fun bs ρ σ os vs P H D r R e q => ?_⟩
  simp only [sSet, Option.map_eq_some_iff] at e
  obtain ⟨⟨s, P1⟩, e1, rfl⟩ := e
  exact lc_d hts h0 bs ρ σ os vs P H _ s P1 R e1 fun v H1 R1 => q _ H1 (R1.store i)
end
end Pd

set_option Elab.async false
set_option linter.all false
set_option maxRecDepth 100000
set_option maxHeartbeats 1000000
/-! The layer Pd, part I: defs. -/
namespace Pd
open PySem PySem.Spec PyProof.Rows L2

abbrev FM := List SV → Store → Option (SV × Store)
/-- a def's promise: what its mirror tells -/
def spM (K : PySem.W.Frag) (m : FM) (n : Nat) : Sp := fun vs H Q _ => vs.length = n ∧ ∃ (bs : List Nat) (ρ : EV) (σ : L2.St) (os : List SV) (ws : List V) (args : List SV) (P : Store) (r : SV) (P' : Store), args.length = n ∧
  Rel K bs ρ σ (args ++ os) (vs ++ ws) P H ∧ m args P = some (r, P') ∧ ∀ v H', Rel K bs ρ σ (r :: os) (v :: ws) P' H' → Q v H'
theorem spM_imp {K : PySem.W.Frag} {m m' : FM} {n : Nat} (h : ∀ args P r, m' args P = some r → m args P = some r) : ∀ vs H Q E, spM K m' n vs H Q E → spM K m n vs H Q E :=
  fun vs H Q E ⟨e, bs, ρ, σ, os, ws, args, P, r, P', e2, R, em, q⟩ => ⟨e, bs, ρ, σ, os, ws, args, P, r, P', e2, R, h _ _ _ em, q⟩
theorem fn_none {P : Program} {w : World} {K : PySem.W.Frag} {mg : Str → Option Value} {base : Heap} {k n : Nat} {f : Addr} {fd : FuncData} {ps : List Str} {m : FM} (hm : ∀ args P, m args P = none) : FnOk P w K mg base CX0 k f fd ps (spM K m n) :=
  have no : ∀ vs H Q E, ¬ spM K m n vs H Q E := fun vs H Q E h => by
    obtain ⟨_, _, _, _, _, _, _, _, _, _, _, _, e, _⟩ := h
    rw [hm] at e; cases e
  ⟨fun vs H Q E h => absurd h (no vs H Q E), fun A outer s H args us vs Q E _ _ _ _ h => absurd h (no vs H Q E)⟩

/-! ### the body -/
def startE (n : Nat) (args : List SV) : List (Option SV) := args.map some ++ List.replicate (n - args.length) none
/-- what a def hands back: data -/
def exitZ (n : Nat) (r : SV) (P : Store) : Option (SV × Store) := match r with
  | .fz d => some (.fz d, P.take n)
  | .ptr k => if n ≤ k then (P[k]?.bind Cell.dat).map fun d => (.fz d, P.take n) else none
  | .lk _ _ _ => none
/-- .. or a cell -/
def exitC (n : Nat) (r : SV) (P : Store) : Option (SV × Store) := match r with
  | .fz d => some (.fz d, P.take n)
  | .ptr k => if n ≤ k then P[k]?.bind fun c => if c.ps = [] then some (.ptr n, P.take n ++ [c]) else none else some (.ptr k, P.take n)
  | .lk _ _ _ => none
def mFun (ex : Nat → SV → Store → Option (SV × Store)) (nN : Nat) (body : SM) : FM := fun args P => (body { b := P.length, sl := startE nN args } P).bind fun (fl, _, P2) => match fl with
  | .rt r => ex P.length r P2
  | .nx => ex P.length (.fz .none) P2
  | _ => none
abbrev mFunZ := mFun exitZ
abbrev mFunC := mFun exitC
/-- what an exit keeps -/
def ExOk (ex : Nat → SV → Store → Option (SV × Store)) : Prop := ∀ (K : PySem.W.Frag) (bs : List Nat) (ρ ρ' : EV) (σ σ' : L2.St) (os : List SV) (ws : List V) (r : SV) (v : V) (P' P'' : Store) (H F : Hp) (ad : List Addr) (n : Nat) (z : SV),
  RelX K (n :: bs) ρ' σ' (r :: os) (v :: ws) P' H F ad → SlR K F ad ρ.sl σ → (∀ (i : Nat) (s : SV), ρ.sl[i]? = some (some s) → s.lt n) → (∀ s ∈ os, s.lt n) → (∀ c ∈ bs, c ≤ ρ.b) → (∀ c ∈ bs, c ≤ n) → n ≤ P'.length → ex n r P' = some (z, P'') →
  Rel K bs ρ σ (z :: os) (v :: ws) P'' H
theorem exitZ_ok : ExOk exitZ := by
  intro K bs ρ ρ' σ σ' os ws r v P' P'' H F ad n z R hs hl ho hb hbn hn e
  obtain ⟨rr, R1⟩ := R.pop
  cases r with
  | fz d =>
    simp only [exitZ, Option.some.injEq, Prod.mk.injEq] at e
    obtain ⟨rfl, rfl⟩ := e
    have R2 := R1.cut hs hl R1.tops ho hb hbn
    exact ⟨F, _, R2.push (show SVR K F _ _ (.fz d) from rr)⟩
  | ptr k =>
    simp only [exitZ] at e
    split at e
    · rename_i hk
      simp only [Option.map_eq_some_iff, Prod.mk.injEq] at e
      obtain ⟨d, e1, rfl, rfl⟩ := e
      have ef : frz P' (.ptr k) = some (d, P'.set k (.fz d)) := by simp only [frz]; rw [e1]; rfl
      obtain ⟨G, R2, l, fd⟩ := R1.freeze rr ef
      have R3 := R2.cut (hs.mono l (.refl _)) hl R2.tops ho hb hbn
      rw [List.take_set_of_le hk] at R3
      exact ⟨G, _, R3.push (show SVR K G _ _ (.fz d) from fd)⟩
    · cases e
  | lk _ _ _ => cases e
theorem no_ps {K : PySem.W.Frag} {F H : Hp} {ad ad' : List Addr} {a : Addr} {c : Cell} (h : c.ps = []) (x : CellR K F H ad a c) : CellR K F H ad' a c := by
  have h0 : CellR K F H (ad.take 0) a c := x.take (n := 0) fun j hj => by rw [h] at hj; cases hj
  exact h0.grow (.refl _) (fun k b e => by simp at e) rfl id
theorem RelX.adopt {K : PySem.W.Frag} {bs : List Nat} {ρ : EV} {σ : L2.St} {os : List SV} {vs : List V} {P : Store} {H F : Hp} {ad : List Addr} (R : RelX K bs ρ σ os vs P H F ad) {a : Addr} {c : Cell} (na : a ∉ ad) (th : ∃ o, H a = some o) (hc : CellR K F H (ad ++ [a]) a c) (hp : c.ps = []) :
    RelX K bs ρ σ (.ptr P.length :: os) (.ref a :: vs) (P ++ [c]) H F (ad ++ [a]) := by
  have pr : Pre ad (ad ++ [a]) := .push _ _
  refine ⟨R.sub, by simp [R.len], ?_, fun b hb => ?_, fun k x b e1 e2 => ?_, R.slots.mono (.refl _) pr, .cons ⟨a, by rw [← R.len]; simp, rfl⟩ (R.tops.mono (.refl _) pr), ⟨fun c hc => ?_, fun c hc k x hk e j hj => ?_⟩, R.bb⟩
  · rw [List.nodup_append]
    refine ⟨R.nd, by simp, fun b hb d hd e => ?_⟩
    have : d = a := by simpa using hd
    subst this; subst e
    exact na hb
  · rcases List.mem_append.mp hb with hb | hb
    · exact R.there b hb
    · have : b = a := by simpa using hb
      subst this; exact th
  · by_cases hk : k < P.length
    · rw [List.getElem?_append_left hk] at e1
      rw [List.getElem?_append_left (by rw [R.len]; exact hk)] at e2
      exact (R.cells k x b e1 e2).grow (.refl _) pr rfl id
    · have hk' : k = P.length := by
        have := (List.getElem?_eq_some_iff.mp e1).1
        simp at this
        omega
      subst hk'
      have e1' : c = x := by simpa using e1
      have e2' : a = b := by rw [← R.len] at e2; simpa using e2
      subst e1'; subst e2'
      exact hc
  · have := R.bas.le c hc
    simp; omega
  · have hl := R.bas.le c hc
    rw [List.getElem?_append_left (by omega)] at e
    exact R.bas.low c hc k x hk e j hj
theorem exitC_ok : ExOk exitC := by
  intro K bs ρ ρ' σ σ' os ws r v P' P'' H F ad n z R hs hl ho hb hbn hn e
  obtain ⟨rr, R1⟩ := R.pop
  have R2 := R1.cut hs hl R1.tops ho hb hbn
  cases r with
  | fz d =>
    simp only [exitC, Option.some.injEq, Prod.mk.injEq] at e
    obtain ⟨rfl, rfl⟩ := e
    exact ⟨F, _, R2.push (show SVR K F _ _ (.fz d) from rr)⟩
  | ptr k =>
    simp only [exitC] at e
    split at e
    · rename_i hk
      simp only [Option.bind_eq_some_iff] at e
      obtain ⟨c, e1, e2⟩ := e
      split at e2
      · rename_i hp
        cases e2
        obtain ⟨a, ha, rfl, hc⟩ := R1.at rr e1
        have na : a ∉ ad.take n := fun hm => by
          obtain ⟨j, hj, ej⟩ := List.getElem_of_mem hm
          rw [List.length_take] at hj
          rw [List.getElem_take] at ej
          obtain ⟨h2, q2⟩ := List.getElem?_eq_some_iff.mp ha
          have := (List.getElem_inj R.nd).mp (ej.trans q2.symm)
          omega
        have R3 := R2.adopt na (R.there a (List.mem_of_getElem? ha)) (no_ps hp hc) hp
        have en : (P'.take n).length = n := by rw [List.length_take]; omega
        rw [en] at R3
        exact ⟨F, _, R3⟩
      · cases e2
    · rename_i hk
      cases e
      exact ⟨F, _, R2.push (SVR.take rr (show k < n by omega))⟩
  | lk _ _ _ => cases e
section
variable {P : Program} {w : World} {K : PySem.W.Frag} {mg : Str → Option Value} {base : Heap}
theorem startE_len {n : Nat} {args : List SV} (h : args.length ≤ n) : (startE n args).length = n := by simp [startE]; omega
theorem startE_at {n : Nat} {args : List SV} {i : Nat} {s : SV} (e : (startE n args)[i]? = some (some s)) : args[i]? = some s := by
  unfold startE at e
  by_cases hi : i < args.length
  · rw [List.getElem?_append_left (by simpa using hi), List.getElem?_map] at e
    cases h : args[i]? with
    | none => rw [h] at e; cases e
    | some a => rw [h] at e; cases e; rfl
  · rw [List.getElem?_append_right (by simpa using Nat.le_of_not_lt hi), List.getElem?_replicate] at e
    split at e <;> cases e
theorem SVA.slots {K : PySem.W.Frag} {F : Hp} {ad : List Addr} {args : List SV} {vs : List V} {N : List Str} (h : SVA K F ad vs args) (hn : args.length ≤ N.length) : SlR K F ad (startE N.length args) (L2.start N vs) := by
  have hl := h.length
  refine ⟨by rw [startE_len hn]; simp [L2.start]; omega, fun i s e => ?_⟩
  have e2 := startE_at e
  obtain ⟨v, hv, r⟩ := h.get e2
  refine ⟨v, ?_, r⟩
  unfold L2.start
  have hi : i < vs.length := (List.getElem?_eq_some_iff.mp hv).1
  rw [List.getElem?_append_left (by simpa using hi), List.getElem?_map, hv]; rfl
/-- THE RULE for a def -/
theorem fn_m {x qual : Str} {st : Stmt} {f : Addr} {fd : FuncData} {N ps : List Str} {k nN np : Nat} {body : SM} {ex : Nat → SV → Store → Option (SV × Store)} (hex : ExOk ex) (F : L2.Fun K x qual st f fd) (S : FnScope N ps (defScope st)) (hN : N.length = nN) (hp : ps.length = np) (hpn : np ≤ nN)
    (hb : ∀ (cdv : Value) (A : Around) (outer : List Env) (s : Shared) (H : Hp) (E : XK), Room k (A.deeper (envOfC qual (defScope st) s.heap.objs.size f cdv)) → PSsd (cxOf CX0 P w K mg base N qual (defScope st) f cdv A outer s H E).nox (defBody st) body) :
    FnOk P w K mg base CX0 (k + 1) f fd ps (spM K (mFun ex nN body) np) := by
  refine F.ok S (fun vs H Q E h => h.1.trans hp.symm) fun cdv A outer s H vs Q E hr h => ?_
  obtain ⟨hv, bs, ρ, σ, os, ws, args, P0, r, P', ha, R, em, q⟩ := h
  obtain ⟨t, p, h1⟩ := hb cdv A outer s H E hr
  refine ⟨t, p, ?_⟩
  simp only [mFun, Option.bind_eq_some_iff] at em
  obtain ⟨⟨fl, ρ2, P2⟩, e1, e2⟩ := em
  obtain ⟨F0, ad, R⟩ := R
  obtain ⟨ra, ro⟩ := SVA.split (hv.trans ha.symm) R.tops
  obtain ⟨ls, us, la, lb⟩ := R.slots.list
  have hlt := R.slotsLt
  have hto := R.topsLt
  have hbb := R.bb
  have hbl := R.bas.le
  have R1 := (R.tops_of (la.append ro)).enter
  have sl : SlR K F0 ad (startE nN args) (L2.start N vs) := by rw [← hN]; exact SVA.slots ra (by omega)
  have R2 : Rel K (P0.length :: bs) { b := P0.length, sl := startE nN args } (L2.start N vs) (ls ++ os) (us ++ ws) P0 H := ⟨F0, ad, { R1 with slots := sl, bb := R1.bb }⟩
  have out : ∀ {ρ' : EV} {σ' : L2.St} {z : SV} {v : V} {H' : Hp}, Rel K (P0.length :: bs) ρ' σ' (z :: (ls ++ os)) (v :: (us ++ ws)) P2 H' → ex P0.length z P2 = some (r, P') → Rel K bs ρ σ (r :: os) (v :: ws) P' H' := by
    rintro ρ' σ' z v H' ⟨G, ad', R3⟩ ez
    obtain ⟨rz, R4⟩ := R3.pop
    obtain ⟨sa, so⟩ := SVA.split la.length R4.tops
    exact hex K bs ρ ρ' σ σ' os ws z v P2 P' H' G ad' P0.length r (R3.tops_of (.cons rz so)) (lb G ad' sa) hlt (fun s hs => hto s (List.mem_append_right _ hs)) hbb hbl (R3.bas.le _ List.mem_cons_self) ez
  refine h1 (P0.length :: bs) _ (L2.start N vs) (ls ++ os) (us ++ ws) P0 H _ (fl, ρ2, P2) R2 e1 ?_
  cases fl with
  | nx =>
    intro σ' H' R3
    obtain ⟨G, ad', R3⟩ := R3
    exact q _ _ (out ⟨G, ad', R3.push (d := .fz .none) (show Fz K G .non .none from .non)⟩ e2)
  | rt z => exact fun σ' v H' R3 => q _ _ (out R3 e2)
  | bk => cases e2
  | ct => cases e2
end
section
variable {X : Cx} {pos : Pos}
/-- f(e, ..) -/
def mCallF (m : FM) (fs : AM) : XM := fun ρ P => (fs ρ P).bind fun (l, P1) => m l P1
theorem ped_call {x : Str} {p : Pos} {k n : Nat} {f : Addr} {fd : FuncData} {ps : List Str} {e : Expr} {es : List Expr} {m : FM} {fs : AM} (F : FnOk X.prog X.w X.K X.mg X.base CX0 k f fd ps (spM X.K m n)) (hr : Room k X.A) (hg : Gl X x) (hm : X.mg x = some (.ref f)) (hk : PySem.W.keepIn X.K (.ref f) = true) (hb : Binds X.K fd ps [])
    (ha : PAd X (e :: es) fs) (hn : ∀ ρ P l P', fs ρ P = some (l, P') → l.length = n)
    (hs : starEach (e :: es) X.env = (false, eval e X.env) :: starEach es X.env := by rfl) (hpl : (backTo pos (starEach es X.env)).any (·.1) = false := by rfl) (hdb : (x == ("__debug__" : Str)) = false := by decide) : PEd X (.Call (.Name x p) (e :: es) [] pos) (mCallF m fs) := by
  obtain ⟨t, pa, h1⟩ := ha
  refine ⟨_, pe_call F hr hg hm hk hb .nil pass0 pa (he := hs) (hpl := hpl) (hdb := hdb), fun bs ρ σ os vs P H Q r P' R e q => ?_⟩
  simp only [mCallF, Option.bind_eq_some_iff] at e
  obtain ⟨⟨l, P1⟩, e1, e2⟩ := e
  refine h1 bs ρ σ os vs P H _ l P1 R e1 fun ws H1 hl R1 => ?_
  obtain ⟨F, ad, R1⟩ := R1
  obtain ⟨ra, R2⟩ := R1.args hl
  have hln := hn _ _ _ _ e1
  exact ⟨by simp [hl, hln], bs, ρ, σ, os, vs, l, P1, r, P', hln, ⟨F, ad, by rw [List.append_nil]; exact R2.tops_of (ra.append R2.tops)⟩, e2, q⟩
end
end Pd

set_option Elab.async false
set_option linter.all false
set_option maxRecDepth 100000
set_option maxHeartbeats 1000000
/-! The layer Pd, part J: stores to lists, dicts. -/
namespace Pd
open PySem PySem.Spec PyProof.Rows L2
section
variable {X : Cx} {pos : Pos}

/-! ### xs[i] = v -/
def gIx (fo fi : XM) : GM := fun s ρ P => (fo ρ P).bind fun (o, P1) => (fi ρ P1).bind fun (i, P2) => match o, i with
  | .ptr k, .fz (.int i) => match P2[k]? with
    | some (.lst l) => if okPtr ρ.b k s = true then (ixN l.length i).map fun j => (ρ, P2.set k (.lst (l.set j s))) else none
    | _ => none
  | _, _ => none
theorem ps_of_set {l : List SV} {j : Nat} {s : SV} : ∀ i ∈ (l.set j s).flatMap SV.ps, i ∈ l.flatMap SV.ps ∨ i ∈ s.ps := fun i hi => by
  obtain ⟨x, hx, q⟩ := List.mem_flatMap.mp hi
  rcases List.mem_or_eq_of_mem_set hx with h | h
  · exact .inl (List.mem_flatMap.mpr ⟨x, h, q⟩)
  · subst h; exact .inr q
theorem pgd_ix {o i : Expr} {fo fi : XM} (ho : PEd X o fo) (hi : PEd X i fi)
    (ha : ∀ v, assign (.Subscript o i pos) X.env v = (do
      let ov ← holding [v] (eval o X.env)
      let iv ← holding [v, ov] (eval i X.env)
      standAt pos
      holding [v, ov, iv] (setItem ov iv v)
      release [v, ov, iv] []) := by intro _; rfl) : PGd X (.Subscript o i pos) [] (gIx fo fi) := by
  obtain ⟨t, p, h1⟩ := ho
  obtain ⟨u, p', h2⟩ := hi
  refine ⟨_, pg_sub p p' set_list ha, fun bs ρ σ os vs P H s v Q ρ' P' R e q => ?_⟩
  simp only [gIx, Option.bind_eq_some_iff] at e
  obtain ⟨⟨s1, P1⟩, e1, ⟨s2, P2⟩, e2, e3⟩ := e
  simp only at e3
  split at e3
  · rename_i k i
    split at e3
    · rename_i l hk
      split at e3
      · rename_i hz
        simp only [Option.map_eq_some_iff, Prod.mk.injEq] at e3
        obtain ⟨j, hj, rfl, rfl⟩ := e3
        refine h1 bs ρ σ _ _ P H _ _ P1 R e1 fun x H1 R1 => ?_
        refine h2 bs ρ σ _ _ P1 H1 _ _ P2 R1 e2 fun y H2 R2 => ?_
        obtain ⟨F, ad, R2⟩ := R2
        obtain ⟨r2, R3⟩ := R2.pop
        obtain ⟨r1, R4⟩ := R3.pop
        obtain ⟨r0, R5⟩ := R4.pop
        obtain ⟨a, ha, rfl, hc⟩ := R5.at r1 hk
        obtain ⟨hF, xs, hx, tx⟩ := hc
        cases r2
        refine ⟨a, xs, i, j, rfl, rfl, hx, by rw [tx.length]; exact hj, q _ _ ⟨F, ad, R5.put (c := .lst (l.set j s)) hk ha hF ⟨hF, _, upd_same, tx.set r0 j⟩ fun m hm => ?_⟩ ⟨rfl, fun _ _ => rfl⟩⟩
        rcases ps_of_set m hm with h | h
        · exact .inl h
        · exact .inr (okPtr_ps hz m h)
      · cases e3
    · cases e3
  · cases e3

/-! ### dicts -/
def keyOf : PyData → Option Key
  | .int i => some (.inl i)
  | .str x => some (.inr x)
  | _ => none
def keysOf : List PyData → Option (List Key)
  | [] => some []
  | d :: r => (keyOf d).bind fun k => (keysOf r).map (k :: ·)
def tkeyOf : PyData → Option (List Key)
  | .tuple ds => keysOf ds
  | _ => none
theorem keyOf_D (k : Key) : keyOf (keyD k) = some k := by cases k <;> rfl
theorem keysOf_D : ∀ l : List Key, keysOf (l.map keyD) = some l
  | [] => rfl
  | k :: l => by simp [keysOf, keyOf_D, keysOf_D l]
theorem keyOf_some {d : PyData} {k : Key} (h : keyOf d = some k) : d = keyD k := by
  cases d <;> simp only [keyOf, Option.some.injEq] at h <;> first | (subst h; rfl) | cases h
theorem keysOf_some : ∀ {ds : List PyData} {l : List Key}, keysOf ds = some l → ds = l.map keyD
  | [], l, h => by simp only [keysOf, Option.some.injEq] at h; subst h; rfl
  | d :: r, l, h => by
    simp only [keysOf, Option.bind_eq_some_iff, Option.map_eq_some_iff] at h
    obtain ⟨k, h1, m, h2, rfl⟩ := h
    rw [keyOf_some h1, keysOf_some h2]; rfl
def parseK : List (PyData × PyData) → Option (List (Key × SV))
  | [] => some []
  | (k, d) :: r => (keyOf k).bind fun k => (parseK r).map ((k, .fz d) :: ·)
def parseT : List (PyData × PyData) → Option (List (List Key × SV))
  | [] => some []
  | (k, d) :: r => (tkeyOf k).bind fun k => (parseT r).map ((k, .fz d) :: ·)
/-- the pairs of a dict: keys ints and texts, or tuples of them -/
inductive Dct
  | k (l : List (Key × SV))
  | t (l : List (List Key × SV))
def dictOf (P : Store) : SV → Option Dct
  | .fz (.dict kvs) => match parseK kvs with
    | some l => some (.k l)
    | none => (parseT kvs).map .t
  | .fz _ => none
  | .lk _ _ _ => none
  | .ptr k => match P[k]? with
    | some (.dK l) => some (.k l)
    | some (.dT l) => some (.t l)
    | some (.fz (.dict kvs)) => match parseK kvs with
      | some l => some (.k l)
      | none => (parseT kvs).map .t
    | _ => none
def DctR (K : PySem.W.Frag) (F H : Hp) (ad : List Addr) (a : Addr) : Dct → Prop
  | .k l => ∃ xs, Rd H a (.dK ((l.map (·.1)).zip xs)) ∧ SVA K F ad xs (l.map (·.2))
  | .t l => ∃ xs, Rd H a (.dT ((l.map (·.1)).zip xs)) ∧ SVA K F ad xs (l.map (·.2))
theorem parseK_zip : ∀ (ks : List Key) (ds : List PyData), ks.length = ds.length → parseK ((ks.map keyD).zip ds) = some (ks.zip (ds.map SV.fz))
  | [], [], _ => rfl
  | k :: ks, d :: ds, h => by simp [parseK, keyOf_D, parseK_zip ks ds (by simpa using h)]
  | [], _ :: _, h => by simp at h
  | _ :: _, [], h => by simp at h
theorem parseT_zip : ∀ (ks : List (List Key)) (ds : List PyData), ks.length = ds.length → parseT ((ks.map fun k => PyData.tuple (k.map keyD)).zip ds) = some (ks.zip (ds.map SV.fz))
  | [], [], _ => rfl
  | k :: ks, d :: ds, h => by simp [parseT, tkeyOf, keysOf_D, parseT_zip ks ds (by simpa using h)]
  | [], _ :: _, h => by simp at h
  | _ :: _, [], h => by simp at h
theorem FzA.sva {K : PySem.W.Frag} {F : Hp} {ad : List Addr} : ∀ {xs : List V} {ds : List PyData}, FzA K F xs ds → SVA K F ad xs (ds.map SV.fz)
  | _, _, .nil => .nil
  | _, _, .cons a t => .cons a (FzA.sva t)
theorem map_fst_zip {α β : Type} : ∀ (l : List α) (m : List β), l.length = m.length → (l.zip m).map (·.1) = l
  | [], [], _ => rfl
  | a :: l, b :: m, h => by simp [map_fst_zip l m (by simpa using h)]
  | [], _ :: _, h => by simp at h
  | _ :: _, [], h => by simp at h
theorem map_snd_zip {α β : Type} : ∀ (l : List α) (m : List β), l.length = m.length → (l.zip m).map (·.2) = m
  | [], [], _ => rfl
  | a :: l, b :: m, h => by simp [map_snd_zip l m (by simpa using h)]
  | [], _ :: _, h => by simp at h
  | _ :: _, [], h => by simp at h
theorem frz_dct {K : PySem.W.Frag} {F H : Hp} {ad : List Addr} {a : Addr} {kvs : List (PyData × PyData)} {D : Dct} (s : Sub F H) (h : Fz K F (.ref a) (.dict kvs))
    (e : (match parseK kvs with | some l => some (Dct.k l) | none => (parseT kvs).map .t) = some D) : DctR K F H ad a D := by
  cases h with
  | @dK _ ks xs ds hp hl t =>
    have hn := t.length
    rw [parseK_zip ks ds (by omega)] at e
    cases e
    refine ⟨xs, ?_, ?_⟩
    · rw [map_fst_zip _ _ (by simp; omega)]
      exact s.rd (fun _ _ z => by cases z) hp
    · rw [map_snd_zip _ _ (by simp; omega)]
      exact t.sva
  | @dT _ ks xs ds hp hl ne t =>
    have hn := t.length
    have hk : parseK ((ks.map fun k => PyData.tuple (k.map keyD)).zip ds) = none := by
      cases ks with
      | nil => exact absurd rfl ne
      | cons k ks =>
        cases ds with
        | nil => simp at hn; simp [hn] at hl
        | cons d ds => simp [parseK, keyOf]
    rw [hk, parseT_zip ks ds (by omega)] at e
    cases e
    refine ⟨xs, ?_, ?_⟩
    · rw [map_fst_zip _ _ (by simp; omega)]
      rcases s _ _ hp with e | ⟨z, _⟩
      · exact .inl e
      · cases z
    · rw [map_snd_zip _ _ (by simp; omega)]
      exact t.sva
theorem Fz.isRef {K : PySem.W.Frag} {F : Hp} {v : V} {d : PyData} (h : Fz K F v d) : (∃ kvs, d = .dict kvs) → ∃ a, v = .ref a := by
  cases h <;> simp
theorem RelX.dct {K : PySem.W.Frag} {bs : List Nat} {ρ : EV} {σ : L2.St} {os : List SV} {vs : List V} {P : Store} {H F : Hp} {ad : List Addr} (R : RelX K bs ρ σ os vs P H F ad) {v : V} {s : SV} {D : Dct} (h : SVR K F ad v s) (e : dictOf P s = some D) : ∃ a, v = .ref a ∧ DctR K F H ad a D := by
  cases s with
  | fz d =>
    cases d with
    | dict kvs =>
      have hv : ∃ a, v = .ref a := Fz.isRef h ⟨_, rfl⟩
      obtain ⟨a, rfl⟩ := hv
      exact ⟨a, rfl, frz_dct R.sub h e⟩
    | _ => cases e
  | lk _ _ _ => cases e
  | ptr k =>
    unfold dictOf at e
    split at e
    · rename_i heq; cases heq
    · rename_i heq; cases heq
    · rename_i heq; cases heq
    · rename_i k' heq
      cases heq
      split at e
      · rename_i l hk
        cases e
        obtain ⟨a, _, rfl, _, xs, hx, t⟩ := R.at h hk
        exact ⟨a, rfl, xs, .inl hx, t⟩
      · rename_i l hk
        cases e
        obtain ⟨a, _, rfl, _, xs, hx, t⟩ := R.at h hk
        exact ⟨a, rfl, xs, .inl hx, t⟩
      · rename_i kvs hk
        obtain ⟨a, _, rfl, hc⟩ := R.at h hk
        exact ⟨a, rfl, frz_dct R.sub hc e⟩
      · cases e
/-- d.get(k) of pairs -/
def lookS {κ : Type} [DecidableEq κ] (l : List (κ × SV)) (k : κ) : Option SV := (l.find? fun p => decide (p.1 = k)).map (·.2)
theorem look_zip {κ : Type} [DecidableEq κ] {K : PySem.W.Frag} {F : Hp} {ad : List Addr} (k : κ) : ∀ (l : List (κ × SV)) (xs : List V), SVA K F ad xs (l.map (·.2)) →
    (lookS l k = none ∧ valV ((l.map (·.1)).zip xs) k = none) ∨ ∃ s v, lookS l k = some s ∧ valV ((l.map (·.1)).zip xs) k = some v ∧ SVR K F ad v s
  | [], xs, h => .inl ⟨rfl, by cases h; rfl⟩
  | p :: l, xs, h => by
    cases h with
    | cons a t =>
      rename_i v vs
      by_cases e : p.1 = k
      · refine .inr ⟨p.2, v, by simp [lookS, List.find?_cons, e], ?_, a⟩
        exact valV_pos (p := (p.1, v)) e
      · have h1 : lookS (p :: l) k = lookS l k := by simp [lookS, List.find?_cons, e]
        have h2 : valV (((p :: l).map (·.1)).zip (v :: vs)) k = valV ((l.map (·.1)).zip vs) k := valV_neg (p := (p.1, v)) e
        rw [h1, h2]
        exact look_zip k l vs t
def dlook (D : Dct) (kd : PyData) : Option (Option SV) := match D with
  | .k l => (keyOf kd).map fun k => lookS l k
  | .t l => (tkeyOf kd).map fun k => lookS l k
theorem dget_of {K : PySem.W.Frag} {F H : Hp} {ad : List Addr} {a : Addr} {D : Dct} {kd : PyData} {y : V} {o : Option SV} (s : Sub F H) (h : DctR K F H ad a D) (hk : Vw K F H y kd) (e : dlook D kd = some o) :
    (o = none ∧ DGet H a y none) ∨ ∃ z v, o = some z ∧ DGet H a y (some v) ∧ SVR K F ad v z := by
  cases D with
  | k l =>
    simp only [dlook, Option.map_eq_some_iff] at e
    obtain ⟨k, e1, rfl⟩ := e
    obtain ⟨xs, hr, t⟩ := h
    have ey : y = kV k := by
      have e2 := keyOf_some e1
      subst e2
      cases k with
      | inl i => exact hk.ints
      | inr x => exact hk.strs
    rcases look_zip k l xs t with ⟨h1, h2⟩ | ⟨z, v, h1, h2, r⟩
    · exact .inl ⟨h1, .inl ⟨_, k, hr, ey, h2.symm⟩⟩
    · exact .inr ⟨z, v, h1, .inl ⟨_, k, hr, ey, h2.symm⟩, r⟩
  | t l =>
    simp only [dlook, Option.map_eq_some_iff] at e
    obtain ⟨k, e1, rfl⟩ := e
    obtain ⟨xs, hr, t⟩ := h
    cases kd with
    | tuple ds =>
      have e2 := keysOf_some (show keysOf ds = some k from e1)
      subst e2
      obtain ⟨b, ys, rfl, hb, tb, _⟩ := hk.tups s
      replace hb := hb.key (keyAll_keys _)
      have eys : ys = k.map kV := by
        have : ∀ (k : List Key) (ys : List V), FzA K F ys (k.map keyD) → ys = k.map kV := by
          intro k
          induction k with
          | nil => intro ys h; cases h; rfl
          | cons a k ih =>
            intro ys h
            cases h with
            | cons q r =>
              rw [ih _ r]
              cases a <;> (cases q; rfl)
        exact this k ys tb
      subst eys
      rcases look_zip k l xs t with ⟨h1, h2⟩ | ⟨z, v, h1, h2, r⟩
      · exact .inl ⟨h1, .inr ⟨_, k, b, hr, rfl, hb, h2.symm⟩⟩
      · exact .inr ⟨z, v, h1, .inr ⟨_, k, b, hr, rfl, hb, h2.symm⟩, r⟩
    | _ => simp [tkeyOf] at e1
/-- k in d -/
def mDIn (n : Bool) (fk fd : XM) : XM := fun ρ P => (fk ρ P).bind fun (k, P1) => (fd ρ P1).bind fun (d, P2) => (flat P2 k).bind fun kd => (dictOf P2 d).bind fun D => (dlook D kd).map fun o => (.fz (.bool (n != o.isSome)), P2)
theorem din_d {fk fd : XM} {n : Bool} {tk td : TE}
    (h1 : ∀ (bs : List Nat) (ρ : EV) (σ : L2.St) (os : List SV) (vs : List V) (P : Store) (H : Hp) (Q : VK) (r : SV) (P' : Store), Rel X.K bs ρ σ os vs P H → fk ρ P = some (r, P') → (∀ v H', Rel X.K bs ρ σ (r :: os) (v :: vs) P' H' → Q v H') → tk σ H Q)
    (h2 : ∀ (bs : List Nat) (ρ : EV) (σ : L2.St) (os : List SV) (vs : List V) (P : Store) (H : Hp) (Q : VK) (r : SV) (P' : Store), Rel X.K bs ρ σ os vs P H → fd ρ P = some (r, P') → (∀ v H', Rel X.K bs ρ σ (r :: os) (v :: vs) P' H' → Q v H') → td σ H Q)
    (bs : List Nat) (ρ : EV) (σ : L2.St) (os : List SV) (vs : List V) (P : Store) (H : Hp) (Q : VK) (w : SV) (P' : Store) (R : Rel X.K bs ρ σ os vs P H) (e : mDIn n fk fd ρ P = some (w, P')) (q : ∀ v H', Rel X.K bs ρ σ (w :: os) (v :: vs) P' H' → Q v H') :
    tk σ H fun y H1 => td σ H1 fun x H2 => ∃ a o, x = .ref a ∧ DGet H2 a y o ∧ Q (.bl (n != o.isSome)) H2 := by
  simp only [mDIn, Option.bind_eq_some_iff, Option.map_eq_some_iff, Prod.mk.injEq] at e
  obtain ⟨⟨s1, P1⟩, e1, ⟨s2, P2⟩, e2, kd, e3, D, e4, o, e5, rfl, rfl⟩ := e
  refine h1 bs ρ σ os vs P H _ s1 P1 R e1 fun y H1 R1 => ?_
  refine h2 bs ρ σ _ _ P1 H1 _ s2 P2 R1 e2 fun x H2 R2 => ?_
  obtain ⟨F, ad, R2⟩ := R2
  obtain ⟨r2, R3⟩ := R2.pop
  obtain ⟨r1, R4⟩ := R3.pop
  obtain ⟨a, rfl, hd⟩ := R2.dct r2 e4
  rcases dget_of R2.sub hd (R2.view r1 e3) e5 with ⟨rfl, g⟩ | ⟨z, v, rfl, g, r⟩
  · exact ⟨a, none, rfl, g, q _ _ (R4.atom (.bl _))⟩
  · exact ⟨a, some v, rfl, g, q _ _ (R4.atom (.bl _))⟩
theorem ped_din {i o : Expr} {fk fd : XM} (hu : X.A.units + 65 < cLine) (hk : PEd X i fk) (hd : PEd X o fd) (hm : behindInMarks .In o = false) : PEd X (.Compare i [.In] [o] pos) (mDIn false fk fd) := by
  obtain ⟨t, p, h1⟩ := hk
  obtain ⟨u, p', h2⟩ := hd
  refine ⟨_, pe_cmp (pc_din (by omega) p p') hm, fun bs ρ σ os vs P H Q w P' R e q => ?_⟩
  have := din_d h1 h2 bs ρ σ os vs P H Q w P' R e q
  simpa [tDIn] using this
theorem ped_dnotin {i o : Expr} {fk fd : XM} (hu : X.A.units + 65 < cLine) (hk : PEd X i fk) (hd : PEd X o fd) (hm : behindInMarks .NotIn o = false) : PEd X (.Compare i [.NotIn] [o] pos) (mDIn true fk fd) := by
  obtain ⟨t, p, h1⟩ := hk
  obtain ⟨u, p', h2⟩ := hd
  refine ⟨_, pe_cmp (pc_dnotin (by omega) p p') hm, fun bs ρ σ os vs P H Q w P' R e q => ?_⟩
  have := din_d h1 h2 bs ρ σ os vs P H Q w P' R e q
  simpa [tDNotIn] using this
theorem ptd_of_din {i o : Expr} {fk fd : XM} (hu : X.A.units + 65 < cLine) (hk : PEd X i fk) (hd : PEd X o fd) (hm : behindInMarks .In o = false) : PTd X (.Compare i [.In] [o] pos) (mTB (mDIn false fk fd)) := by
  obtain ⟨t, p, h1⟩ := hk
  obtain ⟨u, p', h2⟩ := hd
  refine ⟨_, pt_cmp (pc_din (by omega) p p') hm, fun bs ρ σ os vs P H Q w P' R e q => ?_⟩
  simp only [mTB, Option.bind_eq_some_iff] at e
  obtain ⟨⟨s1, P1⟩, e1, e2⟩ := e
  have := din_d (n := false) h1 h2 bs ρ σ os vs P H (fun x H1 => ∃ c, x = .bl c ∧ Q c H1) s1 P1 R e1 fun v H1 R1 => by
    simp only at e2
    split at e2
    · cases e2
      obtain ⟨F, ad, R0⟩ := R1
      obtain ⟨r1, R2⟩ := R0.pop
      cases r1
      exact ⟨_, rfl, q _ ⟨F, ad, R2⟩⟩
    · cases e2
  simpa [tB, tDIn] using this
theorem ptd_of_dnotin {i o : Expr} {fk fd : XM} (hu : X.A.units + 65 < cLine) (hk : PEd X i fk) (hd : PEd X o fd) (hm : behindInMarks .NotIn o = false) : PTd X (.Compare i [.NotIn] [o] pos) (mTB (mDIn true fk fd)) := by
  obtain ⟨t, p, h1⟩ := hk
  obtain ⟨u, p', h2⟩ := hd
  refine ⟨_, pt_cmp (pc_dnotin (by omega) p p') hm, fun bs ρ σ os vs P H Q w P' R e q => ?_⟩
  simp only [mTB, Option.bind_eq_some_iff] at e
  obtain ⟨⟨s1, P1⟩, e1, e2⟩ := e
  have := din_d (n := true) h1 h2 bs ρ σ os vs P H (fun x H1 => ∃ c, x = .bl c ∧ Q c H1) s1 P1 R e1 fun v H1 R1 => by
    simp only at e2
    split at e2
    · cases e2
      obtain ⟨F, ad, R0⟩ := R1
      obtain ⟨r1, R2⟩ := R0.pop
      cases r1
      exact ⟨_, rfl, q _ ⟨F, ad, R2⟩⟩
    · cases e2
  simpa [tB, tDNotIn] using this
/-- d[k] -/
def mDGet (fd fk : XM) : XM := fun ρ P => (fd ρ P).bind fun (d, P1) => (fk ρ P1).bind fun (k, P2) => (flat P2 k).bind fun kd => (dictOf P2 d).bind fun D => match dlook D kd with
  | some (some s) => some (s, P2)
  | _ => none
theorem ped_dget {o i : Expr} {fd fk : XM} (hu : X.A.units + 65 < cLine) (hd : PEd X o fd) (hk : PEd X i fk) (hs : NoSl i) : PEd X (.Subscript o i pos) (mDGet fd fk) := by
  obtain ⟨t, p, h1⟩ := hd
  obtain ⟨u, p', h2⟩ := hk
  refine ⟨_, pe_dget (by omega) p p' hs, fun bs ρ σ os vs P H Q w P' R e q => ?_⟩
  simp only [mDGet, Option.bind_eq_some_iff] at e
  obtain ⟨⟨s1, P1⟩, e1, ⟨s2, P2⟩, e2, kd, e3, D, e4, e5⟩ := e
  refine h1 bs ρ σ os vs P H _ s1 P1 R e1 fun x H1 R1 => ?_
  refine h2 bs ρ σ _ _ P1 H1 _ s2 P2 R1 e2 fun y H2 R2 => ?_
  obtain ⟨F, ad, R2⟩ := R2
  obtain ⟨r2, R3⟩ := R2.pop
  obtain ⟨r1, R4⟩ := R3.pop
  obtain ⟨a, rfl, hd⟩ := R2.dct r1 e4
  split at e5
  · rename_i s hl
    cases e5
    rcases dget_of R2.sub hd (R2.view r2 e3) hl with ⟨z, _⟩ | ⟨z, v, ez, g, r⟩
    · cases z
    · cases ez
      exact ⟨a, v, rfl, g, q _ _ ⟨F, ad, R4.push r⟩⟩
  · cases e5

/-! d[k] = v, {}, {k: v, ..} -/
def putS {κ : Type} [DecidableEq κ] (l : List (κ × SV)) (k : κ) (s : SV) : List (κ × SV) :=
  if (l.any fun p => decide (p.1 = k)) = true then l.map (fun p => if p.1 = k then (p.1, s) else p) else l ++ [(k, s)]
theorem put_zip {κ : Type} [DecidableEq κ] {K : PySem.W.Frag} {F : Hp} {ad : List Addr} (k : κ) {s : SV} {v : V} (r : SVR K F ad v s) (l : List (κ × SV)) (xs : List V) (h : SVA K F ad xs (l.map (·.2))) :
    ∃ ys, putK ((l.map (·.1)).zip xs) k v = ((putS l k s).map (·.1)).zip ys ∧ SVA K F ad ys ((putS l k s).map (·.2)) := by
  have any : ∀ (l : List (κ × SV)) (xs : List V), SVA K F ad xs (l.map (·.2)) → (((l.map (·.1)).zip xs).any fun kv => decide (kv.1 = k)) = (l.any fun p => decide (p.1 = k)) := by
    intro l
    induction l with
    | nil => intro xs h; cases h; rfl
    | cons p l ih => intro xs h; cases h with | cons a t => simp [ih _ t]
  unfold putK putS
  rw [any l xs h]
  split
  · have go : ∀ (l : List (κ × SV)) (xs : List V), SVA K F ad xs (l.map (·.2)) → ∃ ys, ((l.map (·.1)).zip xs).map (fun kv => if kv.1 = k then (kv.1, v) else kv) = ((l.map (fun p => if p.1 = k then (p.1, s) else p)).map (·.1)).zip ys ∧ SVA K F ad ys ((l.map (fun p => if p.1 = k then (p.1, s) else p)).map (·.2)) := by
      intro l
      induction l with
      | nil => intro xs h; cases h; exact ⟨[], rfl, .nil⟩
      | cons p l ih =>
        intro xs h
        cases h with
        | cons a t =>
          rename_i x xs
          obtain ⟨ys, e, q⟩ := ih _ t
          by_cases hp : p.1 = k
          · refine ⟨v :: ys, ?_, ?_⟩
            · simp only [List.map_cons, List.zip_cons_cons, if_pos hp, e]
            · simp only [List.map_cons, if_pos hp]; exact .cons r q
          · refine ⟨x :: ys, ?_, ?_⟩
            · simp only [List.map_cons, List.zip_cons_cons, if_neg hp, e]
            · simp only [List.map_cons, if_neg hp]; exact .cons a q
    exact go l xs h
  · refine ⟨xs ++ [v], ?_, ?_⟩
    · have hl := h.length
      rw [List.map_append, List.zip_append (by simpa using hl.symm)]
      rfl
    · rw [List.map_append]
      exact h.append (.cons r .nil)
theorem putS_ps {κ : Type} [DecidableEq κ] (k : κ) (s : SV) (l : List (κ × SV)) : ∀ j ∈ ((putS l k s).flatMap fun p => p.2.ps), j ∈ (l.flatMap fun p => p.2.ps) ∨ j ∈ s.ps := by
  intro j hj
  unfold putS at hj
  split at hj
  · obtain ⟨p, hp, q⟩ := List.mem_flatMap.mp hj
    obtain ⟨p0, hp0, rfl⟩ := List.mem_map.mp hp
    by_cases h : p0.1 = k
    · rw [if_pos h] at q; exact .inr q
    · rw [if_neg h] at q; exact .inl (List.mem_flatMap.mpr ⟨p0, hp0, q⟩)
  · rw [List.flatMap_append] at hj
    rcases List.mem_append.mp hj with h | h
    · exact .inl h
    · exact .inr (by simpa using h)
def sDPut (fd fk fv : XM) : SM := fun ρ P => (fv ρ P).bind fun (s, P1) => (fd ρ P1).bind fun (d, P2) => (fk ρ P2).bind fun (k, P3) => (flat P3 k).bind fun kd => match d with
  | .ptr j => match P3[j]? with
    | some (.dK l) => if l.length < sizeLine ∧ okPtr ρ.b j s = true then (keyOf kd).map fun k => (.nx, ρ, P3.set j (.dK (putS l k s))) else none
    | some (.dT l) => if l.length < sizeLine ∧ okPtr ρ.b j s = true then (tkeyOf kd).map fun k => (.nx, ρ, P3.set j (.dT (putS l k s))) else none
    | _ => none
  | _ => none
theorem tup_keys {K : PySem.W.Frag} {F : Hp} : ∀ (k : List Key) (ys : List V), FzA K F ys (k.map keyD) → ys = k.map kV := by
  intro k
  induction k with
  | nil => intro ys h; cases h; rfl
  | cons a k ih =>
    intro ys h
    cases h with
    | cons q r =>
      rw [ih _ r]
      cases a <;> (cases q; rfl)
theorem psd_dput {o i value : Expr} {fd fk fv : XM} {pos' : Pos} (hu : X.A.units + 65 < cLine) (hd : PEd X o fd) (hk : PEd X i fk) (hv : PEd X value fv) (hs : swapsWith value (some (.Subscript o i pos')) pos.line X.env = pure false := by rfl) :
    PSd X (.Assign [.Subscript o i pos'] value pos) (sDPut fd fk fv) := by
  obtain ⟨t1, p1, h1⟩ := hd
  obtain ⟨t2, p2, h2⟩ := hk
  obtain ⟨t3, p3, h3⟩ := hv
  refine ⟨_, ps_dput (by omega) p1 p2 p3 hs, fun bs ρ σ os vs P H D r R e q => ?_⟩
  simp only [sDPut, Option.bind_eq_some_iff] at e
  obtain ⟨⟨s3, P1⟩, e3, ⟨s1, P2⟩, e1, ⟨s2, P3⟩, e2, kd, e4, e5⟩ := e
  refine h3 bs ρ σ os vs P H _ s3 P1 R e3 fun v H1 R1 => ?_
  refine h1 bs ρ σ _ _ P1 H1 _ s1 P2 R1 e1 fun x H2 R2 => ?_
  refine h2 bs ρ σ _ _ P2 H2 _ s2 P3 R2 e2 fun y H3 R3 => ?_
  obtain ⟨F, ad, R3⟩ := R3
  obtain ⟨r2, R4⟩ := R3.pop
  obtain ⟨r1, R5⟩ := R4.pop
  obtain ⟨r3, R6⟩ := R5.pop
  have vk := R3.view r2 e4
  have hs := R3.sub
  simp only at e5
  split at e5
  · rename_i j
    split at e5
    · rename_i l hj
      split at e5
      · rename_i hz
        simp only [Option.map_eq_some_iff] at e5
        obtain ⟨k, ek, rfl⟩ := e5
        obtain ⟨a, ha, rfl, hF, xs, hx, t⟩ := R6.at r1 hj
        obtain ⟨ys, ey, ty⟩ := put_zip k r3 l xs t
        have eyk : y = kV k := by
          have e2 := keyOf_some ek
          subst e2
          cases k with
          | inl i => exact vk.ints
          | inr x => exact vk.strs
        have hln := t.length
        refine ⟨a, _, rfl, .inl ⟨_, k, hx, eyk, by simp at hln ⊢; omega, rfl⟩, q _ _ ⟨F, ad, ?_⟩⟩
        rw [ey]
        refine R6.put (c := .dK (putS l k s3)) hj ha hF ⟨hF, ys, upd_same, ty⟩ fun m hm => ?_
        rcases putS_ps k s3 l m hm with h | h
        · exact .inl h
        · exact .inr (okPtr_ps hz.2 m h)
      · cases e5
    · rename_i l hj
      split at e5
      · rename_i hz
        simp only [Option.map_eq_some_iff] at e5
        obtain ⟨k, ek, rfl⟩ := e5
        obtain ⟨a, ha, rfl, hF, xs, hx, t⟩ := R6.at r1 hj
        obtain ⟨ys, ey, ty⟩ := put_zip k r3 l xs t
        cases kd with
        | tuple ds =>
          have e2 := keysOf_some (show keysOf ds = some k from ek)
          subst e2
          obtain ⟨b, zs, rfl, hb, tb, _⟩ := vk.tups hs
          replace hb := hb.key (keyAll_keys _)
          have ez := tup_keys k zs tb
          subst ez
          have hln := t.length
          refine ⟨a, _, rfl, .inr ⟨_, k, b, hx, rfl, hb, by simp at hln ⊢; omega, rfl⟩, q _ _ ⟨F, ad, ?_⟩⟩
          rw [ey]
          refine R6.put (c := .dT (putS l k s3)) hj ha hF ⟨hF, ys, upd_same, ty⟩ fun m hm => ?_
          rcases putS_ps k s3 l m hm with h | h
          · exact .inl h
          · exact .inr (okPtr_ps hz.2 m h)
        | _ => simp [tkeyOf] at ek
      · cases e5
    · cases e5
  · cases e5
def mDNewK : XM := fun _ P => some (.ptr P.length, P ++ [.dK []])
def mDNewT : XM := fun _ P => some (.ptr P.length, P ++ [.dT []])
theorem ped_dnewK : PEd X (.Dict [] [] pos) mDNewK := ⟨_, pe_dnewK, fun bs ρ σ os vs P H Q r P' R e q => by
  simp only [mDNewK, Option.some.injEq, Prod.mk.injEq] at e
  obtain ⟨rfl, rfl⟩ := e
  obtain ⟨F, ad, R⟩ := R
  exact fun p n => q _ _ ⟨F, _, R.cell (o := .dK []) (c := .dK []) n fun ad' pr => ⟨R.free n, [], upd_same, .nil⟩⟩⟩
theorem ped_dnewT : PEd X (.Dict [] [] pos) mDNewT := ⟨_, pe_dnewT, fun bs ρ σ os vs P H Q r P' R e q => by
  simp only [mDNewT, Option.some.injEq, Prod.mk.injEq] at e
  obtain ⟨rfl, rfl⟩ := e
  obtain ⟨F, ad, R⟩ := R
  exact fun p n => q _ _ ⟨F, _, R.cell (o := .dT []) (c := .dT []) n fun ad' pr => ⟨R.free n, [], upd_same, .nil⟩⟩⟩
end
end Pd

set_option Elab.async false
set_option linter.all false
set_option maxRecDepth 100000
set_option maxHeartbeats 1000000
/-! The layer Pd, part K: what is told apart by the values; cells made by calls. -/
namespace Pd
open PySem PySem.Spec PyProof.Rows L2
section
variable {X : Cx} {pos : Pos}
theorem PEd.or {e : Expr} {f g : XM} (h : PEd X e f) (h' : PEd X e g) : PEd X e (fun ρ P => (f ρ P).or (g ρ P)) := by
  obtain ⟨t, p, q1⟩ := h
  obtain ⟨u, p', q2⟩ := h'
  refine ⟨fun σ H Q => t σ H Q ∨ u σ H Q, ⟨fun pins s σ H Q I w => w.elim (p.run pins s σ H Q I) (p'.run pins s σ H Q I)⟩, fun bs ρ σ os vs P H Q r P' R e q => ?_⟩
  have e : (f ρ P).or (g ρ P) = some (r, P') := e
  cases hf : f ρ P with
  | some z =>
    rw [hf] at e
    simp only [Option.some_or, Option.some.injEq] at e
    subst e
    exact .inl (q1 bs ρ σ os vs P H Q r P' R hf q)
  | none =>
    rw [hf] at e
    exact .inr (q2 bs ρ σ os vs P H Q r P' R (by simpa using e) q)
theorem PEd.imp {e : Expr} {f g : XM} (h : PEd X e f) (i : ∀ ρ P r, g ρ P = some r → f ρ P = some r) : PEd X e g := by
  obtain ⟨t, p, q1⟩ := h
  exact ⟨t, p, fun bs ρ σ os vs P H Q r P' R e q => q1 bs ρ σ os vs P H Q r P' R (i _ _ _ e) q⟩
theorem PTd.or {e : Expr} {f g : BM} (h : PTd X e f) (h' : PTd X e g) : PTd X e (fun ρ P => (f ρ P).or (g ρ P)) := by
  obtain ⟨t, p, q1⟩ := h
  obtain ⟨u, p', q2⟩ := h'
  refine ⟨fun σ H Q => t σ H Q ∨ u σ H Q, ⟨fun pins s σ H Q I w => w.elim (p.run pins s σ H Q I) (p'.run pins s σ H Q I)⟩, fun bs ρ σ os vs P H Q r P' R e q => ?_⟩
  have e : (f ρ P).or (g ρ P) = some (r, P') := e
  cases hf : f ρ P with
  | some z =>
    rw [hf] at e
    simp only [Option.some_or, Option.some.injEq] at e
    subst e
    exact .inl (q1 bs ρ σ os vs P H Q r P' R hf q)
  | none =>
    rw [hf] at e
    exact .inr (q2 bs ρ σ os vs P H Q r P' R (by simpa using e) q)
theorem PTd.imp {e : Expr} {f g : BM} (h : PTd X e f) (i : ∀ ρ P r, g ρ P = some r → f ρ P = some r) : PTd X e g := by
  obtain ⟨t, p, q1⟩ := h
  exact ⟨t, p, fun bs ρ σ os vs P H Q r P' R e q => q1 bs ρ σ os vs P H Q r P' R (i _ _ _ e) q⟩

/-- a[i]: of a sequence, or of a dict -/
def subOf (P : Store) (a : SV) (kd : PyData) : Option SV := match dictOf P a with
  | some D => (dlook D kd).bind id
  | none => ((flat P a).bind fun d => dIx d kd).map SV.fz
def mSub (f1 f2 : XM) : XM := fun ρ P => (f1 ρ P).bind fun (a, P1) => (f2 ρ P1).bind fun (b, P2) => (flat P2 b).bind fun kd => (subOf P2 a kd).map fun s => (s, P2)
theorem ped_sub {a b : Expr} {f1 f2 : XM} (hu : X.A.units + 65 < cLine) (ha : PEd X a f1) (hb : PEd X b f2) (hs : PlainIx b) : PEd X (.Subscript a b pos) (mSub f1 f2) := by
  refine ((ped_ix (pos := pos) ixd_seq ha hb hs).or (ped_dget hu ha hb hs)).imp fun ρ P r e => ?_
  obtain ⟨w, P'⟩ := r
  simp only [mSub, Option.bind_eq_some_iff, Option.map_eq_some_iff, Prod.mk.injEq] at e
  obtain ⟨⟨s1, P1⟩, e1, ⟨s2, P2⟩, e2, kd, e3, s, e4, rfl, rfl⟩ := e
  show (mBin dIx f1 f2 ρ P).or (mDGet f1 f2 ρ P) = _
  unfold subOf at e4
  split at e4
  · rename_i D hD
    have h2 : mDGet f1 f2 ρ P = some (s, P2) := by
      simp only [mDGet, e1, e2, e3, hD, Option.bind_some]
      cases h : dlook D kd with
      | none => rw [h] at e4; cases e4
      | some o => rw [h] at e4; cases o with
        | none => cases e4
        | some s' => cases e4; rfl
    have h1 : mBin dIx f1 f2 ρ P = none := by
      simp only [mBin, e1, e2, e3, Option.bind_some]
      cases hf : flat P2 s1 with
      | none => rfl
      | some d =>
        simp only [Option.bind_some]
        have : dIx d kd = none := by
          cases d with
          | dict _ => rfl
          | _ =>
            exfalso
            cases s1 with
            | fz d' => simp only [flat, Option.some.injEq] at hf; subst hf; cases hD
            | lk _ _ _ => simp [flat] at hf
            | ptr k =>
              simp only [flat, Option.bind_eq_some_iff] at hf
              obtain ⟨c, hc, hd⟩ := hf
              unfold dictOf at hD
              simp only [hc] at hD
              cases c with
              | fz d' => simp only [Cell.dat, Option.some.injEq] at hd; subst hd; cases hD
              | lst l => cases hD
              | dK l => simp [Cell.dat] at hd
              | dT l => cases l <;> simp [Cell.dat] at hd
        rw [this]; rfl
    rw [h1, h2]; rfl
  · rename_i hD
    simp only [Option.map_eq_some_iff, Option.bind_eq_some_iff] at e4
    obtain ⟨z, ⟨d, hd, hz⟩, rfl⟩ := e4
    have h1 : mBin dIx f1 f2 ρ P = some (.fz z, P2) := by simp only [mBin, e1, e2, e3, hd, hz, Option.bind_some, Option.map_some]
    rw [h1]; rfl
/-- x in a: of a list, a tuple, a text, or of a dict -/
def inOf (P : Store) (kd : PyData) (a : SV) : Option Bool := match dictOf P a with
  | some D => (dlook D kd).map Option.isSome
  | none => (flat P a).bind fun d => match dInS false kd d with
    | some (.bool b) => some b
    | _ => none
def mIn (n : Bool) (f1 f2 : XM) : XM := fun ρ P => (f1 ρ P).bind fun (a, P1) => (f2 ρ P1).bind fun (b, P2) => (flat P2 a).bind fun kd => (inOf P2 kd b).map fun v => (.fz (.bool (n != v)), P2)
theorem dInS_not {d e : PyData} {b : Bool} (n : Bool) (h : dInS false d e = some (.bool b)) : dInS n d e = some (.bool (n != b)) := by
  unfold dInS at h ⊢
  split at h
  · split at h
    · rename_i hc
      rw [if_pos hc]
      simp only [Option.some.injEq, PyData.bool.injEq] at h ⊢
      subst h; simp
    · cases h
  · split at h
    · rename_i hc
      rw [if_pos hc]
      simp only [Option.some.injEq, PyData.bool.injEq] at h ⊢
      subst h; simp
    · cases h
  · simp only [Option.some.injEq, PyData.bool.injEq] at h ⊢
    subst h; simp
  · cases h
theorem in_or {f1 f2 : XM} {n : Bool} {ρ : EV} {P : Store} {r : SV × Store} (e : mIn n f1 f2 ρ P = some r) : (mDIn n f1 f2 ρ P).or (mBin (dInS n) f1 f2 ρ P) = some r := by
  obtain ⟨w, P'⟩ := r
  simp only [mIn, Option.bind_eq_some_iff, Option.map_eq_some_iff, Prod.mk.injEq] at e
  obtain ⟨⟨s1, P1⟩, e1, ⟨s2, P2⟩, e2, kd, e3, b, e4, rfl, rfl⟩ := e
  unfold inOf at e4
  split at e4
  · rename_i D hD
    simp only [Option.map_eq_some_iff] at e4
    obtain ⟨o, ho, rfl⟩ := e4
    have h1 : mDIn n f1 f2 ρ P = some (.fz (.bool (n != o.isSome)), P2) := by simp only [mDIn, e1, e2, e3, hD, ho, Option.bind_some, Option.map_some]
    rw [h1]; rfl
  · rename_i hD
    have h1 : mDIn n f1 f2 ρ P = none := by simp only [mDIn, e1, e2, e3, hD, Option.bind_some, Option.bind_none]
    simp only [Option.bind_eq_some_iff] at e4
    obtain ⟨d, hd, h4⟩ := e4
    split at h4
    · rename_i b' hb
      cases h4
      have h2 : mBin (dInS n) f1 f2 ρ P = some (.fz (.bool (n != b)), P2) := by simp only [mBin, e1, e2, e3, hd, dInS_not n hb, Option.bind_some, Option.map_some]
      rw [h1, h2]; rfl
    · cases h4
theorem ped_in {i o : Expr} {fk fd : XM} (hu : X.A.units + 65 < cLine) (hk : PEd X i fk) (hd : PEd X o fd) (hm : behindInMarks .In o = false := by rfl) : PEd X (.Compare i [.In] [o] pos) (mIn false fk fd) :=
  ((ped_din (pos := pos) hu hk hd hm).or (ped_cmp (opd_in hu) hk hd hm)).imp fun ρ P r e => in_or e
theorem ped_notin {i o : Expr} {fk fd : XM} (hu : X.A.units + 65 < cLine) (hk : PEd X i fk) (hd : PEd X o fd) (hm : behindInMarks .NotIn o = false := by rfl) : PEd X (.Compare i [.NotIn] [o] pos) (mIn true fk fd) :=
  ((ped_dnotin (pos := pos) hu hk hd hm).or (ped_cmp (opd_notin hu) hk hd hm)).imp fun ρ P r e => in_or e
theorem mTB_or {f g h : XM} {ρ : EV} {P : Store} {r : Bool × Store} (i : ∀ r, f ρ P = some r → (g ρ P).or (h ρ P) = some r) (e : mTB f ρ P = some r) : (mTB g ρ P).or (mTB h ρ P) = some r := by
  obtain ⟨b, P'⟩ := r
  simp only [mTB, Option.bind_eq_some_iff] at e
  obtain ⟨⟨s1, P1⟩, e1, e2⟩ := e
  have := i _ e1
  cases hg : g ρ P with
  | some z =>
    rw [hg] at this
    simp only [Option.some_or, Option.some.injEq] at this
    subst this
    simp only [mTB, hg, Option.bind_some]
    simp only at e2
    rw [e2]; rfl
  | none =>
    rw [hg] at this
    simp only [Option.none_or] at this
    simp only [mTB, hg, this, Option.bind_some, Option.bind_none, Option.none_or]
    exact e2
theorem ptd_in {i o : Expr} {fk fd : XM} (hu : X.A.units + 65 < cLine) (hk : PEd X i fk) (hd : PEd X o fd) (hm : behindInMarks .In o = false := by rfl) : PTd X (.Compare i [.In] [o] pos) (mTB (mIn false fk fd)) :=
  ((ptd_of_din (pos := pos) hu hk hd hm).or (ptd_cmp (opd_in hu) hk hd hm)).imp fun ρ P r e => mTB_or (fun r h => in_or h) e
theorem ptd_notin {i o : Expr} {fk fd : XM} (hu : X.A.units + 65 < cLine) (hk : PEd X i fk) (hd : PEd X o fd) (hm : behindInMarks .NotIn o = false := by rfl) : PTd X (.Compare i [.NotIn] [o] pos) (mTB (mIn true fk fd)) :=
  ((ptd_of_dnotin (pos := pos) hu hk hd hm).or (ptd_cmp (opd_notin hu) hk hd hm)).imp fun ρ P r e => mTB_or (fun r h => in_or h) e

/-! numbers -/
def dPow : PyData → PyData → Option PyData := dIC cPow fun i j => .int (i ^ j.toNat)
theorem opd_pow : OpD X (binaryOp .Pow) dPow := opd_int op_pow (fun i j h => by simpa [cPow, CPow] using h) fun _ _ _ => .int _

/-! a list that may change, by a comprehension, by list(..) -/
def mLCC (own : List Nat) (f : IM) (g : GM) (tt : BM) (te : XM) : XM := fun ρ P => (f ρ P).bind fun (items, _, P1) =>
  (lcGo g tt te { ρ.wipe own with b := P1.length } P1.length items (P1 ++ [.lst []])).bind fun S => match S[P1.length]? with
    | some (.lst acc) => if (fzs acc).isSome = true then some (.ptr P1.length, S.take P1.length ++ [.lst acc]) else none
    | _ => none
theorem fzs_ps : ∀ {l : List SV}, (fzs l).isSome = true → l.flatMap SV.ps = []
  | [], _ => rfl
  | .fz d :: r, h => by
    simp only [fzs, Option.isSome_map] at h
    simp [SV.ps, fzs_ps h]
  | .ptr _ :: _, h => by simp [fzs] at h
  | .lk _ _ _ :: _, h => by simp [fzs] at h
theorem lcC_d {f : IM} {g : GM} {tt : BM} {te : XM} {ts own : List Nat} {wi : TI} (hts : ∀ i ∈ ts, i ∈ own)
    (h0 : ∀ (bs : List Nat) (ρ : EV) (σ : L2.St) (os : List SV) (vs : List V) (P : Store) (H : Hp) (R : It → Hp → Prop) (items : List PyData) (src : SV) (P' : Store), Rel X.K bs ρ σ os vs P H → f ρ P = some (items, src, P') →
      (∀ J v H' sr, Rel X.K bs ρ σ (sr :: os) (v :: vs) P' H' → ItOk X.K J items sr v → R J H') → wi σ H R)
    (bs : List Nat) (ρ : EV) (σ : L2.St) (os : List SV) (vs : List V) (P : Store) (H : Hp) (Q : VK) (r : SV) (P' : Store) (R : Rel X.K bs ρ σ os vs P H) (e : mLCC own f g tt te ρ P = some (r, P'))
    (q : ∀ v H', Rel X.K bs ρ σ (r :: os) (v :: vs) P' H' → Q v H') : tLc wi (tMG X.K ts g) (tMT X.K tt) (tM X.K te) own σ H Q := by
  simp only [mLCC, Option.bind_eq_some_iff] at e
  obtain ⟨⟨items, src, P1⟩, e0, S, e1, e2⟩ := e
  refine h0 bs ρ σ os vs P H _ items src P1 R e0 fun J w H1 src R1 ok => fun D hD => ?_
  refine lc_go (Df := fun H => Q (.ref D) H) ok hts R1 hD e1 fun H2 R2 => ?_
  simp only at e2
  split at e2
  · rename_i acc hacc
    split at e2
    · rename_i hds
      cases e2
      obtain ⟨F, ad, R2⟩ := R2
      obtain ⟨F1, ad1, R1⟩ := R1
      obtain ⟨rD, R3⟩ := R2.pop
      obtain ⟨a, ha, ea, hc⟩ := R3.at rD hacc
      cases ea
      have hps : (Cell.lst acc).ps = [] := fzs_ps hds
      obtain ⟨_, R5⟩ := R3.pop
      have R6 := R5.cut (ρ' := ρ) R5.slots R1.slotsLt R5.tops (fun s hs => R1.topsLt s (List.mem_cons_of_mem _ hs)) (fun c hc => R1.bb c hc) (fun c hc => R1.bas.le c hc)
      have na : D ∉ ad.take P1.length := fun hm => by
        obtain ⟨j, hj, ej⟩ := List.getElem_of_mem hm
        rw [List.length_take] at hj
        rw [List.getElem_take] at ej
        obtain ⟨h2, q2⟩ := List.getElem?_eq_some_iff.mp ha
        have := (List.getElem_inj R3.nd).mp (ej.trans q2.symm)
        omega
      have R7 := R6.adopt na (R3.there D (List.mem_of_getElem? ha)) (no_ps hps hc) hps
      have en : (S.take P1.length).length = P1.length := by
        have hl := (List.getElem?_eq_some_iff.mp hacc).1
        rw [List.length_take]; omega
      rw [en] at R7
      exact q _ _ ⟨_, _, R7⟩
    · cases e2
  · cases e2
theorem ped_lcC {elt tg iter : Expr} {ifs : List Expr} {scope : Scope} {own : List (Str × Nat)} {f : IM} {g : GM} {tt : BM} {te : XM} {ts : List Nat} (hc : X.calm = true) (hN : X.N.Nodup) (hi : PId X tg iter f) (ok : BlkOk X.N X.env.scope scope own)
    (hg : ∀ (s : Shared) (H : Hp) (C : Addr) (cl : List (Str × Addr)) (fp : List Addr), PGd (X.blk s H scope (compEnvC scope cl C X.env) fp) tg ts g) (ht : ∀ (s : Shared) (H : Hp) (C : Addr) (cl : List (Str × Addr)) (fp : List Addr), PTsd (X.blk s H scope (compEnvC scope cl C X.env) fp) ifs tt)
    (he : ∀ (s : Shared) (H : Hp) (C : Addr) (cl : List (Str × Addr)) (fp : List Addr), PEd (X.blk s H scope (compEnvC scope cl C X.env) fp) elt te) (hts : ∀ i ∈ ts, i ∈ own.map (·.2) := by decide) (hs : ∀ x, foldedSetIterable iter X.env x = pure x := by intro _; rfl) :
    PEd X (.ListComp elt [⟨tg, iter, ifs, 0⟩] scope pos) (mLCC (own.map (·.2)) f g tt te) := by
  obtain ⟨wi, p0, h0⟩ := hi
  exact ⟨_, pe_lc (g := tMG X.K ts g) (tt := tMT X.K tt) (te := tM X.K te) hc hN p0 ok (fun s H C cl fp => (hg s H C cl fp).canon) (fun s H C cl fp => (ht s H C cl fp).canon) (fun s H C cl fp => (he s H C cl fp).canon) hs, lcC_d hts h0⟩
theorem psd_setLcC {i : Nat} {y : Str} {py : Pos} {elt tg iter : Expr} {ifs : List Expr} {scope : Scope} {own : List (Str × Nat)} {spos : Pos} {f : IM} {g : GM} {tt : BM} {te : XM} {ts : List Nat} (hc : X.calm = true) (hN : X.N.Nodup) (hy : X.N[i]? = some y) (hyl : X.env.scope.names.lookup y = some .local)
    (hsw : swapsWith (.ListComp elt [⟨tg, iter, ifs, 0⟩] scope pos) (some (.Name y py)) spos.line X.env = pure true) (hi : PId X tg iter f) (ok : BlkOk X.N X.env.scope scope own)
    (hg : ∀ (s : Shared) (H : Hp) (C : Addr) (cl : List (Str × Addr)) (fp : List Addr), PGd (X.blk s H scope (compEnvC scope cl C X.env) fp) tg ts g) (ht : ∀ (s : Shared) (H : Hp) (C : Addr) (cl : List (Str × Addr)) (fp : List Addr), PTsd (X.blk s H scope (compEnvC scope cl C X.env) fp) ifs tt)
    (he : ∀ (s : Shared) (H : Hp) (C : Addr) (cl : List (Str × Addr)) (fp : List Addr), PEd (X.blk s H scope (compEnvC scope cl C X.env) fp) elt te) (hts : ∀ i ∈ ts, i ∈ own.map (·.2) := by decide) (hs : ∀ x, foldedSetIterable iter X.env x = pure x := by intro _; rfl) :
    PSd X (.Assign [.Name y py] (.ListComp elt [⟨tg, iter, ifs, 0⟩] scope pos) spos) (sSet i (mLCC (own.map (·.2)) f g tt te)) := by
  obtain ⟨wi, p0, h0⟩ := hi
  refine ⟨_, ps_setLc (g := tMG X.K ts g) (tt := tMT X.K tt) (te := tM X.K te) hc hN hy hyl hsw p0 ok (fun s H C cl fp => (hg s H C cl fp).canon) (fun s H C cl fp => (ht s H C cl fp).canon) (fun s H C cl fp => (he s H C cl fp).canon) hs, fun bs ρ σ os vs P H D r R e q => ?_⟩
  simp only [sSet, Option.map_eq_some_iff] at e
  obtain ⟨⟨s, P1⟩, e1, rfl⟩ := e
  exact lcC_d hts h0 bs ρ σ os vs P H _ s P1 R e1 fun v H1 R1 => q _ H1 (R1.store i)
def mListC (f : XM) : XM := fun ρ P => (f ρ P).bind fun (a, P1) => (flat P1 a).bind fun d => match d with
  | .list ds => some (.ptr P1.length, P1 ++ [.lst (ds.map .fz)])
  | .tuple ds => some (.ptr P1.length, P1 ++ [.lst (ds.map .fz)])
  | _ => none
theorem ped_listC {e : Expr} {f : XM} {p : Pos} (hg : Gl X "list") (hm : X.mg "list" = none) (ha : PEd X e f)
    (he : starEach [e] X.env = (false, eval e X.env) :: starEach [] X.env := by rfl) (hpl : (backTo pos (starEach [] X.env)).any (·.1) = false := by rfl) : PEd X (.Call (.Name "list" p) [e] [] pos) (mListC f) := by
  obtain ⟨t, p, h1⟩ := pad_cons ha pad_nil he
  refine ⟨_, pe_callTy call_list_of hg hm (by decide +kernel) p (he := he) (hpl := hpl), fun bs ρ σ os vs P H Q r P' R e q => ?_⟩
  simp only [mListC, Option.bind_eq_some_iff] at e
  obtain ⟨⟨a, P1⟩, e1, d, e2, e3⟩ := e
  refine h1 bs ρ σ os vs P H _ [a] P1 R (by simp only [aCons, aNil, e1, Option.bind_some, Option.map_some]) fun ws H1 hl R1 => ?_
  obtain ⟨F, ad, R1⟩ := R1
  obtain ⟨ra, R2⟩ := R1.args hl
  cases ra with
  | cons r1 ra =>
    cases ra
    have vw := R2.view r1 e2
    simp only at e3
    split at e3
    · cases e3
      obtain ⟨p, us, rfl, hp, t⟩ := vw.lists R2.sub
      exact ⟨p, us, rfl, .inl hp, fun l n => q _ _ ⟨F, _, R2.cell (c := .lst _) n fun ad' pr => ⟨R2.free n, us, upd_same, t.sva⟩⟩⟩
    · cases e3
      obtain ⟨p, us, rfl, hp, t, _⟩ := vw.tups R2.sub
      exact ⟨p, us, rfl, .inr hp.sqT, fun l n => q _ _ ⟨F, _, R2.cell (c := .lst _) n fun ad' pr => ⟨R2.free n, us, upd_same, t.sva⟩⟩⟩
    · cases e3
/-! the number of arguments -/
def ALen (n : Nat) (fs : AM) : Prop := ∀ ρ P l P', fs ρ P = some (l, P') → l.length = n
theorem alen_nil : ALen 0 aNil := fun ρ P l P' e => by
  simp only [aNil, Option.some.injEq, Prod.mk.injEq] at e
  obtain ⟨rfl, _⟩ := e; rfl
theorem alen_cons {n : Nat} {f : XM} {g : AM} (h : ALen n g) : ALen (n + 1) (aCons f g) := fun ρ P l P' e => by
  simp only [aCons, Option.bind_eq_some_iff, Option.map_eq_some_iff, Prod.mk.injEq] at e
  obtain ⟨⟨s1, P1⟩, e1, ⟨r, P2⟩, e2, rfl, rfl⟩ := e
  simp [h _ _ _ _ e2]
/-! a constant tuple of the module: x in KEPT -/
def mInK (n : Bool) (ds : List PyData) (f : XM) : XM := fun ρ P => (f ρ P).bind fun (a, P1) => (flat P1 a).bind fun d => (dInS n d (.tuple ds)).map fun z => (.fz z, P1)
def KTup (K : PySem.W.Frag) (a : Addr) (ds : List PyData) : Prop := ∃ xs, SqT K (fun _ => none) a xs ∧ FzA K (fun _ => none) xs ds
theorem KTup.dp {K : PySem.W.Frag} {a : Addr} {ds : List PyData} {H : Hp} (h : KTup K a ds) (e : PyData.canLayAll0 ds = true) : Dp K H (.ref a) (.tuple ds) := by
  obtain ⟨xs, hs, t⟩ := h
  have s : Sub (fun _ => none) H := fun a u z => by cases z
  refine .tup ?_ (t.dp s e)
  rcases hs with (z | ⟨o, z⟩) | z
  · cases z
  · cases z
  · exact .inr z
theorem ped_inK {e : Expr} {x : Str} {f : XM} {a : Addr} {ds : List PyData} {p : Pos} (hu : X.A.units + 65 < cLine) (ha : PEd X e f) (hg : Gl X x) (hm : X.mg x = some (.ref a)) (hk : KTup X.K a ds) (hdb : (x == ("__debug__" : Str)) = false := by decide) : PEd X (.Compare e [.In] [.Name x p] pos) (mInK false ds f) := by
  obtain ⟨t, p, h1⟩ := ha
  refine ⟨_, pe_cmpR (op_inTD hu) p (pe_glob (v := .ref a) hg hm rfl hdb) (by rfl), fun bs ρ σ os vs P H Q r P' R e q => ?_⟩
  simp only [mInK, Option.bind_eq_some_iff, Option.map_eq_some_iff, Prod.mk.injEq] at e
  obtain ⟨⟨s1, P1⟩, e1, d, e2, z, e3, rfl, rfl⟩ := e
  refine h1 bs ρ σ os vs P H _ s1 P1 R e1 fun y H1 R1 => ?_
  obtain ⟨F, ad, R1⟩ := R1
  obtain ⟨r1, R2⟩ := R1.pop
  unfold dInS at e3
  simp only at e3
  split at e3
  · rename_i h
    cases e3
    exact ⟨d, ds, (R1.view r1 e2).dp R1.sub (shaped_lay h.1), hk.dp (by simpa [PyData.canLay0] using shaped_lay h.2), h.1, h.2, q _ _ (R2.atom (.bl _))⟩
  · cases e3
theorem ped_notinK {e : Expr} {x : Str} {f : XM} {a : Addr} {ds : List PyData} {p : Pos} (hu : X.A.units + 65 < cLine) (ha : PEd X e f) (hg : Gl X x) (hm : X.mg x = some (.ref a)) (hk : KTup X.K a ds) (hdb : (x == ("__debug__" : Str)) = false := by decide) : PEd X (.Compare e [.NotIn] [.Name x p] pos) (mInK true ds f) := by
  obtain ⟨t, p, h1⟩ := ha
  refine ⟨_, pe_cmpR (op_notInTD hu) p (pe_glob (v := .ref a) hg hm rfl hdb) (by rfl), fun bs ρ σ os vs P H Q r P' R e q => ?_⟩
  simp only [mInK, Option.bind_eq_some_iff, Option.map_eq_some_iff, Prod.mk.injEq] at e
  obtain ⟨⟨s1, P1⟩, e1, d, e2, z, e3, rfl, rfl⟩ := e
  refine h1 bs ρ σ os vs P H _ s1 P1 R e1 fun y H1 R1 => ?_
  obtain ⟨F, ad, R1⟩ := R1
  obtain ⟨r1, R2⟩ := R1.pop
  unfold dInS at e3
  simp only at e3
  split at e3
  · rename_i h
    cases e3
    exact ⟨d, ds, (R1.view r1 e2).dp R1.sub (shaped_lay h.1), hk.dp (by simpa [PyData.canLay0] using shaped_lay h.2), h.1, h.2, q _ _ (R2.atom (.bl _))⟩
  · cases e3
end
end Pd

set_option Elab.async false
set_option linter.all false
set_option maxRecDepth 100000
set_option maxHeartbeats 1000000
/-! The layer Pd, part L: displays of dicts, the law's end. -/
namespace Pd
open PySem PySem.Spec PyProof.Rows L2
section
variable {X : Cx} {pos : Pos}
theorem ptd_inK {e : Expr} {x : Str} {f : XM} {a : Addr} {ds : List PyData} {p : Pos} (hu : X.A.units + 65 < cLine) (ha : PEd X e f) (hg : Gl X x) (hm : X.mg x = some (.ref a)) (hk : KTup X.K a ds) (hdb : (x == ("__debug__" : Str)) = false := by decide) : PTd X (.Compare e [.In] [.Name x p] pos) (mTB (mInK false ds f)) := by
  obtain ⟨t, p, h1⟩ := ha
  refine ⟨_, pt_cmpR (op_inTD hu) p (pe_glob (v := .ref a) hg hm rfl hdb) (by rfl), fun bs ρ σ os vs P H Q r P' R e q => ?_⟩
  simp only [mTB, mInK, Option.bind_eq_some_iff, Option.map_eq_some_iff, Prod.mk.injEq] at e
  obtain ⟨⟨s0, P0⟩, ⟨⟨s1, P1⟩, e1, d, e2, z, e3, rfl, rfl⟩, e4⟩ := e
  refine h1 bs ρ σ os vs P H _ s1 P1 R e1 fun y H1 R1 => ?_
  obtain ⟨F, ad, R1⟩ := R1
  obtain ⟨r1, R2⟩ := R1.pop
  unfold dInS at e3
  simp only at e3
  split at e3
  · rename_i h
    cases e3
    simp only [Option.some.injEq, Prod.mk.injEq] at e4
    obtain ⟨rfl, rfl⟩ := e4
    exact ⟨d, ds, (R1.view r1 e2).dp R1.sub (shaped_lay h.1), hk.dp (by simpa [PyData.canLay0] using shaped_lay h.2), h.1, h.2, _, rfl, q _ ⟨F, ad, R2⟩⟩
  · cases e3
theorem ptd_notinK {e : Expr} {x : Str} {f : XM} {a : Addr} {ds : List PyData} {p : Pos} (hu : X.A.units + 65 < cLine) (ha : PEd X e f) (hg : Gl X x) (hm : X.mg x = some (.ref a)) (hk : KTup X.K a ds) (hdb : (x == ("__debug__" : Str)) = false := by decide) : PTd X (.Compare e [.NotIn] [.Name x p] pos) (mTB (mInK true ds f)) := by
  obtain ⟨t, p, h1⟩ := ha
  refine ⟨_, pt_cmpR (op_notInTD hu) p (pe_glob (v := .ref a) hg hm rfl hdb) (by rfl), fun bs ρ σ os vs P H Q r P' R e q => ?_⟩
  simp only [mTB, mInK, Option.bind_eq_some_iff, Option.map_eq_some_iff, Prod.mk.injEq] at e
  obtain ⟨⟨s0, P0⟩, ⟨⟨s1, P1⟩, e1, d, e2, z, e3, rfl, rfl⟩, e4⟩ := e
  refine h1 bs ρ σ os vs P H _ s1 P1 R e1 fun y H1 R1 => ?_
  obtain ⟨F, ad, R1⟩ := R1
  obtain ⟨r1, R2⟩ := R1.pop
  unfold dInS at e3
  simp only at e3
  split at e3
  · rename_i h
    cases e3
    simp only [Option.some.injEq, Prod.mk.injEq] at e4
    obtain ⟨rfl, rfl⟩ := e4
    exact ⟨d, ds, (R1.view r1 e2).dp R1.sub (shaped_lay h.1), hk.dp (by simpa [PyData.canLay0] using shaped_lay h.2), h.1, h.2, _, rfl, q _ ⟨F, ad, R2⟩⟩
  · cases e3

/-! {k: v, ..}: keys ints and texts -/
abbrev DM := EV → Store → Option (List (Key × SV) × Store)
def PPd (X : Cx) (pos : Pos) (keys : List (Option Expr)) (values : List Expr) (g : DM) : Prop := ∃ trs, PPs X pos keys values trs ∧ ∀ (bs : List Nat) (ρ : EV) (σ : L2.St) (os : List SV) (vs : List V) (P : Store) (H : Hp) (Q : List (V × V) → Hp → Prop) (r : List (Key × SV)) (P' : Store), Rel X.K bs ρ σ os vs P H → g ρ P = some (r, P') →
  (∀ (ws : List V) H', ws.length = r.length → Rel X.K bs ρ σ ((r.map (·.2)).reverse ++ os) (ws.reverse ++ vs) P' H' → Q ((r.map fun p => kV p.1).zip ws) H') → tPairs trs σ H Q
def dNil : DM := fun _ P => some ([], P)
def dCons (k f : XM) (g : DM) : DM := fun ρ P => (k ρ P).bind fun (a, P1) => match a with
  | .fz kd => (keyOf kd).bind fun key => (f ρ P1).bind fun (s, P2) => (g ρ P2).map fun (l, P3) => ((key, s) :: l, P3)
  | _ => none
theorem ppd_nil : PPd X pos [] [] dNil := ⟨_, pps_nil, fun bs ρ σ os vs P H Q r P' R e q => by
  simp only [dNil, Option.some.injEq, Prod.mk.injEq] at e
  obtain ⟨rfl, rfl⟩ := e
  exact q [] H rfl R⟩
theorem ppd_cons {k v : Expr} {ks : List (Option Expr)} {vs : List Expr} {fk fv : XM} {g : DM} (hk : PEd X k fk) (hv : PEd X v fv) (hr : PPd X pos ks vs g) : PPd X pos (some k :: ks) (v :: vs) (dCons fk fv g) := by
  obtain ⟨t1, p1, h1⟩ := hk
  obtain ⟨t2, p2, h2⟩ := hv
  obtain ⟨t3, p3, h3⟩ := hr
  refine ⟨_, pps_cons p1 p2 p3, fun bs ρ σ os vs P H Q r P' R e q => ?_⟩
  simp only [dCons, Option.bind_eq_some_iff] at e
  obtain ⟨⟨a, P1⟩, e1, e2⟩ := e
  refine h1 bs ρ σ os vs P H _ a P1 R e1 fun x H1 R1 => ?_
  simp only at e2
  split at e2
  · rename_i kd
    simp only [Option.bind_eq_some_iff, Option.map_eq_some_iff, Prod.mk.injEq] at e2
    obtain ⟨key, ek, ⟨s, P2⟩, e3, ⟨l, P3⟩, e4, rfl, rfl⟩ := e2
    obtain ⟨F, ad, R1⟩ := R1
    obtain ⟨r1, R1'⟩ := R1.pop
    have ex : x = kV key := by
      have e2 := keyOf_some ek
      subst e2
      cases key <;> (cases r1; rfl)
    subst ex
    refine h2 bs ρ σ os vs P1 H1 _ s P2 ⟨F, ad, R1'⟩ e3 fun y H2 R2 => ?_
    refine h3 bs ρ σ _ _ P2 H2 _ l P3 R2 e4 fun ws H3 hl R3 => ?_
    exact q (y :: ws) H3 (by simp [hl]) (by simpa using R3)
  · cases e2
def mDisp (g : DM) : XM := fun ρ P => (g ρ (P ++ [.dK []])).bind fun (l, P1) => match P1[P.length]? with
  | some (.dK []) => if l.length ≤ 15 ∧ (l.all fun p => okPtr ρ.b P.length p.2) = true then some (.ptr P.length, P1.set P.length (.dK (l.foldl (fun acc p => putS acc p.1 p.2) []))) else none
  | _ => none
theorem merge_zip {K : PySem.W.Frag} {F : Hp} {ad : List Addr} : ∀ (l : List (Key × SV)) (ws : List V) (acc : List (Key × SV)) (xs : List V), SVA K F ad ws (l.map (·.2)) → SVA K F ad xs (acc.map (·.2)) →
    ∃ ys, mergeK ((acc.map (·.1)).zip xs) ((l.map (·.1)).zip ws) = ((l.foldl (fun acc p => putS acc p.1 p.2) acc).map (·.1)).zip ys ∧ SVA K F ad ys ((l.foldl (fun acc p => putS acc p.1 p.2) acc).map (·.2))
  | [], ws, acc, xs, h, h2 => ⟨xs, by simp [mergeK], h2⟩
  | p :: l, ws, acc, xs, h, h2 => by
    cases h with
    | cons a t =>
      obtain ⟨ys, e, ty⟩ := put_zip p.1 a acc xs h2
      obtain ⟨zs, e2, tz⟩ := merge_zip l _ _ ys t ty
      refine ⟨zs, ?_, tz⟩
      rw [← e] at e2
      simpa [mergeK] using e2
theorem merge_ps : ∀ (l acc : List (Key × SV)), ∀ j ∈ ((l.foldl (fun acc p => putS acc p.1 p.2) acc).flatMap fun p => p.2.ps), j ∈ (acc.flatMap fun p => p.2.ps) ∨ ∃ p ∈ l, j ∈ p.2.ps
  | [], acc, j, hj => .inl hj
  | p :: l, acc, j, hj => by
    rcases merge_ps l _ j hj with h | ⟨q, hq, h⟩
    · rcases putS_ps p.1 p.2 acc j h with h | h
      · exact .inl h
      · exact .inr ⟨p, List.mem_cons_self, h⟩
    · exact .inr ⟨q, List.mem_cons_of_mem _ hq, h⟩
theorem ped_disp {keys : List (Option Expr)} {values : List Expr} {g : DM} (h : PPd X pos keys values g) (hall : keys.all (·.isSome) = true := by rfl) (hl : keys.length = values.length := by rfl) (h0 : keys ≠ [] := by (intro z; cases z)) (h15 : keys.length ≤ 15 := by decide) :
    PEd X (.Dict keys values pos) (mDisp g) := by
  obtain ⟨trs, p, h1⟩ := h
  refine ⟨_, pe_disp p hall hl h0 h15, fun bs ρ σ os vs P H Q r P' R e q => fun a n => ?_⟩
  simp only [mDisp, Option.bind_eq_some_iff] at e
  obtain ⟨⟨l, P1⟩, e1, e2⟩ := e
  simp only at e2
  split at e2
  · rename_i hc
    split at e2
    · rename_i hz
      cases e2
      obtain ⟨F, ad, R⟩ := R
      have R0 := R.cell (o := .dK []) (c := .dK []) n fun ad' pr => ⟨R.free n, [], upd_same, .nil⟩
      refine h1 bs ρ σ _ _ _ _ _ l P1 ⟨F, _, R0⟩ e1 fun ws H2 hl R2 => ?_
      obtain ⟨F2, ad2, R2⟩ := R2
      obtain ⟨ra, R3⟩ := R2.args (l := l.map (·.2)) (ws := ws) (by simpa using hl)
      obtain ⟨rd, R4⟩ := R3.pop
      obtain ⟨a', ha, ea, hF, xs, hx, t⟩ := R3.at rd hc
      cases ea
      have hx : H2 a = some (.dK []) := hx
      obtain ⟨ys, ey, ty⟩ := merge_zip (K := X.K) (F := F2) (ad := ad2) l ws [] [] ra .nil
      refine ⟨hx, (l.map (·.1)).zip ws, ?_, ?_, ?_⟩
      · have : ∀ (l : List (Key × SV)) (ws : List V), ws.length = l.length → (l.map fun p => kV p.1).zip ws = ((l.map (·.1)).zip ws).map fun kv => (kV kv.1, kv.2) := by
          intro l
          induction l with
          | nil => intro ws h; rfl
          | cons p l ih =>
            intro ws h
            cases ws with
            | nil => simp at h
            | cons w ws => simp [ih ws (by simpa using h)]
        exact this l ws hl
      · simp [hl]; exact hz.1
      · have ey' : mergeK [] ((l.map (·.1)).zip ws) = ((l.foldl (fun acc p => putS acc p.1 p.2) []).map (·.1)).zip ys := by simpa using ey
        rw [ey']
        refine q _ _ ⟨F2, ad2, (R4.put (c := .dK (l.foldl (fun acc p => putS acc p.1 p.2) [])) hc ha hF ⟨hF, ys, upd_same, ty⟩ fun j hj => ?_).push (show SVR X.K F2 ad2 (.ref a) (.ptr P.length) from ⟨a, ha, rfl⟩)⟩
        rcases merge_ps l [] j hj with h | ⟨p, hp, h⟩
        · simp at h
        · exact .inr (okPtr_ps (List.all_eq_true.mp hz.2 p hp) j h)
    · cases e2
  · cases e2
end
/-! ### the law -/
theorem law_of {K : PySem.W.Frag} {m : FM} {H : Hp} {a : Addr} {ns : List Int} (hm : m [.fz (.list (ns.map .int))] [] = some (.fz (.bool true), [])) (hO : Only H) (hS : SqL K H a (ns.map V.int)) :
    spM K m 1 [.ref a] H (fun v _ => v = .bl true) fun _ _ _ => False := by
  refine ⟨rfl, [], ⟨0, []⟩, [], [], [], [.fz (.list (ns.map .int))], [], _, _, rfl, ?_, hm, fun v H' R => ?_⟩
  · have hF : ∀ b u, H b = some u → IsDct u = false := fun b u e => by
      rcases hO b with z | ⟨o, xs, z⟩
      · rw [z] at e; cases e
      · rw [z] at e; cases e; rfl
    have t : ∀ ns : List Int, FzA K H (ns.map V.int) (ns.map PyData.int) := by
      intro ns
      induction ns with
      | nil => exact .nil
      | cons n ns ih => exact .cons (.int n) ih
    exact ⟨H, [], ⟨fun b u e => .inl e, rfl, .nil, fun b hb => by simp at hb, fun k c b e => by simp at e, ⟨rfl, fun i s e => by simp at e⟩, .cons (.lst hS (t ns)) .nil, ⟨fun c hc => by simp at hc, fun c hc => by simp at hc⟩, fun c hc => by simp at hc⟩⟩
  · obtain ⟨F, ad, R⟩ := R
    obtain ⟨r, _⟩ := R.pop
    cases r
    rfl
end Pd

set_option Elab.async false
set_option linter.all false
set_option maxRecDepth 100000
set_option maxHeartbeats 1000000
/-! The layer Pd, part M: isinstance of several types, room. -/
namespace Pd
open PySem PySem.Spec PyProof.Rows L2
theorem hu65 {k : Nat} {A : Around} (hr : Room k A) : A.units + 65 < cLine := by have := hr.un; omega
section
variable {X : Cx} {pos : Pos}
theorem ped_isiT {a : Expr} {f : XM} {p : Pos} {es : List Expr} {kk : Nat} {tp : Pos} (Ts : List Ty) (hg : Gl X "isinstance") (hm : X.mg "isinstance" = none) (ha : PEd X a f)
    (ht : PA X es (fun _ H Q => Q (Ts.map fun T => .ty T.nm) H))
    (he : starEach [a, .Tuple es kk tp] X.env = (false, eval a X.env) :: starEach [.Tuple es kk tp] X.env := by rfl) (hpl : (backTo pos (starEach [.Tuple es kk tp] X.env)).any (·.1) = false := by rfl)
    (hs2 : starEach [.Tuple es kk tp] X.env = (false, eval (.Tuple es kk tp) X.env) :: starEach [] X.env := by rfl) (hn : Ts.length ≤ sizeLine := by decide) :
    PEd X (.Call (.Name "isinstance" p) [a, .Tuple es kk tp] [] pos) (mIs (fun d => Ts.any fun T => inst T d) f) := by
  obtain ⟨t, pa, h1⟩ := ha
  refine ⟨_, pe_callB call_isiT hg hm (by decide +kernel) (pa_cons pa (pa_cons (pe_tup ht) pa_nil hs2) he) (he := he) (hpl := hpl), fun bs ρ σ os vs P H Q r P' R e q => ?_⟩
  simp only [mIs, Option.bind_eq_some_iff, Option.map_eq_some_iff, Prod.mk.injEq] at e
  obtain ⟨⟨s1, P1⟩, e1, d, e2, rfl, rfl⟩ := e
  refine h1 bs ρ σ os vs P H _ s1 P1 R e1 fun x H1 R1 => ?_
  obtain ⟨F, ad, R1⟩ := R1
  refine ⟨by simpa using hn, fun tp n => ?_⟩
  have R2 := R1.lay (o := .tup (Ts.map fun T => V.ty T.nm)) n
  obtain ⟨r1, R3⟩ := R2.pop
  refine ⟨x, tp, _, _, Ts.map fun T => Value.type T.nm, _, rfl, upd_same, ?_, (R2.view r1 e2).ty R2.sub, kitAny_inst d Ts, q _ _ (R3.atom (.bl _))⟩
  induction Ts with
  | nil => exact .nil
  | cons T r ih => exact .cons (.ty _) (by
      have : ∀ l : List Ty, Paired ClsV (l.map fun T => V.ty T.nm) (l.map fun T => Value.type T.nm) := by
        intro l
        induction l with
        | nil => exact .nil
        | cons T r ih => exact .cons (.ty _) ih
      exact this r)
theorem pa_ty {e : Expr} {es : List Expr} {T : Ty} {Ts : List Ty} (h : PE X e (tC (.ty T.nm))) (h' : PA X es (fun _ H Q => Q (Ts.map fun T => .ty T.nm) H)) (hs : starEach (e :: es) X.env = (false, eval e X.env) :: starEach es X.env := by rfl) :
    PA X (e :: es) (fun _ H Q => Q ((T :: Ts).map fun T => .ty T.nm) H) := pa_cons h h' hs
theorem ped_isi2 {a : Expr} {f : XM} {p q q2 : Pos} {kk : Nat} {tp : Pos} {T U : Ty} (hg : Gl X "isinstance") (hm : X.mg "isinstance" = none) (hgT : Gl X T.nm) (hmT : X.mg T.nm = none) (hv : bootBuiltins T.nm = some (.type T.nm))
    (hgU : Gl X U.nm) (hmU : X.mg U.nm = none) (hvU : bootBuiltins U.nm = some (.type U.nm)) (ha : PEd X a f)
    (he : starEach [a, .Tuple [.Name T.nm q, .Name U.nm q2] kk tp] X.env = (false, eval a X.env) :: starEach [.Tuple [.Name T.nm q, .Name U.nm q2] kk tp] X.env := by rfl) (hpl : (backTo pos (starEach [.Tuple [.Name T.nm q, .Name U.nm q2] kk tp] X.env)).any (·.1) = false := by rfl)
    (hs2 : starEach [.Tuple [.Name T.nm q, .Name U.nm q2] kk tp] X.env = (false, eval (.Tuple [.Name T.nm q, .Name U.nm q2] kk tp) X.env) :: starEach [] X.env := by rfl)
    (h1 : starEach [.Name T.nm q, .Name U.nm q2] X.env = (false, eval (.Name T.nm q) X.env) :: starEach [.Name U.nm q2] X.env := by rfl) (h2 : starEach [.Name U.nm q2] X.env = (false, eval (.Name U.nm q2) X.env) :: starEach [] X.env := by rfl)
    (hn : (T.nm : Str) ≠ "__name__" := by decide) (hdb : ((T.nm : Str) == ("__debug__" : Str)) = false := by decide) (hnU : (U.nm : Str) ≠ "__name__" := by decide) (hdbU : ((U.nm : Str) == ("__debug__" : Str)) = false := by decide) :
    PEd X (.Call (.Name "isinstance" p) [a, .Tuple [.Name T.nm q, .Name U.nm q2] kk tp] [] pos) (mIs (fun d => inst T d || inst U d) f) := by
  have := ped_isiT (pos := pos) (p := p) (kk := kk) (tp := tp) [T, U] hg hm ha (pa_ty (pe_bltn (pos := q) (v := .ty T.nm) hgT hmT hv rfl hn hdb) (pa_ty (Ts := []) (pe_bltn (pos := q2) (v := .ty U.nm) hgU hmU hvU rfl hnU hdbU) pa_nil h2) h1) he hpl hs2 (by show 2 ≤ _; decide)
  simpa using this
end
end Pd

set_option Elab.async false
set_option linter.all false
set_option maxRecDepth 100000
set_option maxHeartbeats 1000000
/-! The layer Pd, part N: lists of dicts' keys, get with a default, isinstance of three, texts of numbers, ranges that fall. -/
namespace Pd
open PySem PySem.Spec PyProof.Rows L2
/-- list(d), d locked or not -/
theorem call_listR {X : Cx} (hc : X.calm = true) : CallR X (.type "list") (fun xs H Q => ∃ p kvs, xs = [.ref p] ∧ Rd H p (.dK kvs) ∧ ∀ q, H q = none → Q (.ref q) (upd H q (.lst (kvs.map fun kv => kV kv.1)))) := by
  intro pins s σ H xs us Q I r h
  obtain ⟨p, l, e, hk, q⟩ := h
  subst e
  obtain ⟨u, eu, rx⟩ := vals1 r
  subst eu
  obtain rfl : u = Value.ref p := rx
  obtain ⟨z, lo, ws, rk, hd⟩ := (show ObjOk X.prog X.w H s.heap p (.dK l) from hk.ok I.hok)
  obtain ⟨ep, at_⟩ := hd.dictAt
  have hlen : l.length = ws.length := Paired.length rk
  have key1 : ∀ (j : Nat) (k : Key), (ws.map (·.1))[j]? = some k → (l.map fun kv => kV kv.1)[j]? = some (kV k) := fun j k h => by
    have e3 : (l.map fun kv => kV kv.1) = (l.map (·.1)).map kV := by rw [List.map_map]; rfl
    rw [e3, List.getElem?_map, KV.keys rk, h]; rfl
  refine PySem.W.kdl_call (PySem.W.kdl_dict (knd := mixKind X.prog X.w) (kvs := ws) (ep := ep) lo) (I.ok.hd hc) at_ (by omega) fun h2 t2 acc c2 kp gS gI => ?_
  have okl : ObjOk X.prog X.w (upd H s.heap.objs.size (.lst (l.map fun kv => kV kv.1))) h2 s.heap.objs.size (.lst (l.map fun kv => kV kv.1)) := by
    refine ⟨by rw [List.length_map]; exact z, acc.toList, c2, ?_, by rw [Array.toArray_toList]; exact gS⟩
    have el : acc.toList.length = acc.size := by simp
    refine vals_of_at (by rw [List.length_map, el, gI.1, hlen]) fun j x w h1 h3 => ?_
    obtain ⟨k, y, ky, hi⟩ := gI.2 j w (by rw [← Array.getElem?_toList]; exact h3)
    rw [key1 j k (by rw [List.getElem?_map, ky]; rfl)] at h1
    cases h1
    exact keyIs_rel hi
  exact ⟨.ref s.heap.objs.size, _, I.laid kp (Nat.le_refl _) okl, rfl, q _ (I.hok.fresh (Nat.le_refl _))⟩
theorem fza_keys {K : PySem.W.Frag} {F : Hp} : ∀ ks : List Key, FzA K F (ks.map kV) (ks.map keyD)
  | [] => .nil
  | .inl i :: r => .cons (.int i) (fza_keys r)
  | .inr x :: r => .cons (.str x) (fza_keys r)
def gListD : List PyData → Option PyData
  | [.dict kvs] => if kvs.all (fun p => isKD p.1) = true then some (.list (keysD kvs)) else none
  | _ => none
theorem Vw.dct {K : PySem.W.Frag} {F H : Hp} {v : V} {kvs : List (PyData × PyData)} (h : Vw K F H v (.dict kvs)) (s : Sub F H) (hk : kvs.all (fun p => isKD p.1) = true) : ∃ (a : Addr) (ks : List Key) (xs : List V), v = .ref a ∧ Rd H a (.dK (ks.zip xs)) ∧ ks.length = xs.length ∧ keysD kvs = ks.map keyD := by
  cases h with
  | fz h =>
    obtain ⟨a, ks, xs, e, hp, hl, q⟩ := Fz.dct h hk
    exact ⟨a, ks, xs, e, s.rd (fun _ _ z => by cases z) hp, hl, q⟩
  | @dK a ks xs ds hp hl t => exact ⟨a, ks, xs, rfl, hp, hl, keysD_zip ks ds (by have := t.length; omega)⟩
  | @dT a ks xs ds hp hl n t =>
    have hn := t.length
    cases ks with
    | nil => exact absurd rfl n
    | cons k ks =>
      cases ds with
      | nil => simp at hn; simp [hn] at hl
      | cons d ds => simp [isKD] at hk
section
variable {X : Cx} {pos : Pos}
/-- x.get(k, y) -/
def mGetD (fd fk fx : XM) : XM := fun ρ P => (fd ρ P).bind fun (d, P1) => (dictOf P1 d).bind fun _ => (fk ρ P1).bind fun (k, P2) => (fx ρ P2).bind fun (z, P3) => (flat P3 k).bind fun kd => (dictOf P3 d).bind fun D => (dlook D kd).map fun o => (o.getD z, P3)
theorem isD_of {K : PySem.W.Frag} {F H : Hp} {ad : List Addr} {a : Addr} {D : Dct} (h : DctR K F H ad a D) : IsD H a := by
  cases D with
  | k l => obtain ⟨xs, h, _⟩ := h; exact .inl ⟨_, h⟩
  | t l => obtain ⟨xs, h, _⟩ := h; exact .inr ⟨_, h⟩
theorem ped_getD {o i e : Expr} {fd fk fx : XM} {apos cpos : Pos} (hu : X.A.units + 65 < cLine) (hd : PEd X o fd) (hk : PEd X i fk) (hx : PEd X e fx) (m : M2 X o "get" apos i e cpos := by exact ⟨rfl, rfl, rfl, rfl⟩) : PEd X (.Call (.Attribute o "get" apos) [i, e] [] cpos) (mGetD fd fk fx) := by
  obtain ⟨t, p, h1⟩ := hd
  obtain ⟨u, p', h2⟩ := hk
  obtain ⟨w, p'', h3⟩ := hx
  refine ⟨_, pe_dget2 (by omega) p p' p'' m, fun bs ρ σ os vs P H Q w P' R e q => ?_⟩
  simp only [mGetD, Option.bind_eq_some_iff, Option.map_eq_some_iff, Prod.mk.injEq] at e
  obtain ⟨⟨s1, P1⟩, e1, D0, e0, ⟨s2, P2⟩, e2, ⟨s3, P3⟩, e3, kd, e4, D, e5, r, e6, rfl, rfl⟩ := e
  refine h1 bs ρ σ os vs P H _ s1 P1 R e1 fun x H1 R1 => ?_
  have ha : ∃ a, x = .ref a ∧ IsD H1 a := by
    obtain ⟨F, ad, R1⟩ := R1
    obtain ⟨r1, _⟩ := R1.pop
    obtain ⟨a, e, d⟩ := R1.dct r1 e0
    exact ⟨a, e, isD_of d⟩
  obtain ⟨a, rfl, hD⟩ := ha
  refine ⟨a, rfl, hD, h2 bs ρ σ _ _ P1 H1 _ s2 P2 R1 e2 fun y H2 R2 => ?_⟩
  refine h3 bs ρ σ _ _ P2 H2 _ s3 P3 R2 e3 fun z H3 R3 => ?_
  obtain ⟨F, ad, R3⟩ := R3
  obtain ⟨r3, R4⟩ := R3.pop
  obtain ⟨r2, R5⟩ := R4.pop
  obtain ⟨r1, R6⟩ := R5.pop
  obtain ⟨a', ea, hd⟩ := R3.dct r1 e5
  cases ea
  rcases dget_of R3.sub hd (R3.view r2 e4) e6 with ⟨rfl, g⟩ | ⟨z', v, rfl, g, rr⟩
  · exact ⟨_, g, q _ _ ⟨F, ad, R6.push r3⟩⟩
  · exact ⟨_, g, q _ _ ⟨F, ad, R6.push rr⟩⟩
theorem ped_isi3 {a : Expr} {f : XM} {p q q2 q3 : Pos} {kk : Nat} {tp : Pos} {T U W : Ty} (hg : Gl X "isinstance") (hm : X.mg "isinstance" = none) (hgT : Gl X T.nm) (hmT : X.mg T.nm = none) (hv : bootBuiltins T.nm = some (.type T.nm))
    (hgU : Gl X U.nm) (hmU : X.mg U.nm = none) (hvU : bootBuiltins U.nm = some (.type U.nm)) (hgW : Gl X W.nm) (hmW : X.mg W.nm = none) (hvW : bootBuiltins W.nm = some (.type W.nm)) (ha : PEd X a f)
    (he : starEach [a, .Tuple [.Name T.nm q, .Name U.nm q2, .Name W.nm q3] kk tp] X.env = (false, eval a X.env) :: starEach [.Tuple [.Name T.nm q, .Name U.nm q2, .Name W.nm q3] kk tp] X.env := by rfl) (hpl : (backTo pos (starEach [.Tuple [.Name T.nm q, .Name U.nm q2, .Name W.nm q3] kk tp] X.env)).any (·.1) = false := by rfl)
    (hs2 : starEach [.Tuple [.Name T.nm q, .Name U.nm q2, .Name W.nm q3] kk tp] X.env = (false, eval (.Tuple [.Name T.nm q, .Name U.nm q2, .Name W.nm q3] kk tp) X.env) :: starEach [] X.env := by rfl)
    (h1 : starEach [.Name T.nm q, .Name U.nm q2, .Name W.nm q3] X.env = (false, eval (.Name T.nm q) X.env) :: starEach [.Name U.nm q2, .Name W.nm q3] X.env := by rfl) (h2 : starEach [.Name U.nm q2, .Name W.nm q3] X.env = (false, eval (.Name U.nm q2) X.env) :: starEach [.Name W.nm q3] X.env := by rfl) (h3 : starEach [.Name W.nm q3] X.env = (false, eval (.Name W.nm q3) X.env) :: starEach [] X.env := by rfl)
    (hn : (T.nm : Str) ≠ "__name__" := by decide) (hdb : ((T.nm : Str) == ("__debug__" : Str)) = false := by decide) (hnU : (U.nm : Str) ≠ "__name__" := by decide) (hdbU : ((U.nm : Str) == ("__debug__" : Str)) = false := by decide) (hnW : (W.nm : Str) ≠ "__name__" := by decide) (hdbW : ((W.nm : Str) == ("__debug__" : Str)) = false := by decide) :
    PEd X (.Call (.Name "isinstance" p) [a, .Tuple [.Name T.nm q, .Name U.nm q2, .Name W.nm q3] kk tp] [] pos) (mIs (fun d => inst T d || (inst U d || inst W d)) f) := by
  have := ped_isiT (pos := pos) (p := p) (kk := kk) (tp := tp) [T, U, W] hg hm ha (pa_ty (pe_bltn (pos := q) (v := .ty T.nm) hgT hmT hv rfl hn hdb) (pa_ty (pe_bltn (pos := q2) (v := .ty U.nm) hgU hmU hvU rfl hnU hdbU) (pa_ty (Ts := []) (pe_bltn (pos := q3) (v := .ty W.nm) hgW hmW hvW rfl hnW hdbW) pa_nil h3) h2) h1) he hpl hs2 (by show 3 ≤ _; decide)
  simpa using this
end
section
variable {X : Cx}
def gStr : List PyData → Option PyData
  | [.int i] => if i.natAbs.log2 < 1920 then some (.str (toString i)) else none
  | _ => none
theorem calld_str : CallD X (.type "str") gStr := by
  refine ⟨_, call_str_int, fun F H xs ds z Q s vx eq q => ?_⟩
  unfold gStr at eq
  split at eq
  · split at eq
    · rename_i h
      cases eq
      cases vx with | cons a t => cases t; exact ⟨_, by rw [a.ints], h, q _ _ _ .refl (.str _)⟩
    · cases eq
  · cases eq
/-- list(x), of a dict its keys -/
theorem calld_listD (hc : X.calm = true) : CallD X (.type "list") gListD := by
  refine ⟨_, call_listR hc, fun F H xs ds z Q s vx eq q => ?_⟩
  unfold gListD at eq
  split at eq
  · split at eq
    · rename_i hk
      cases eq
      cases vx with
      | cons a t =>
        cases t
        obtain ⟨d, ks, us, rfl, hp, hl, hkeys⟩ := Vw.dct a s hk
        refine ⟨d, _, rfl, hp, fun p n => ?_⟩
        have e1 : ((ks.zip us).map fun kv => kV kv.1) = ks.map kV := by
          rw [show (fun kv : Key × V => kV kv.1) = kV ∘ Prod.fst from rfl, ← List.map_map, List.map_fst_zip (by omega)]
        rw [hkeys] at q
        rw [e1]
        exact q _ _ _ (.one n) (.lst (.of upd_same) (fza_keys ks))
    · cases eq
  · cases eq
/-- list(x) of a text -/
theorem call_listS (hc : X.calm = true) : CallR X (.type "list") (fun xs H Q => ∃ x : Str, xs = [.str x] ∧ x.length ≤ sizeLine ∧ ∀ q, H q = none → Q (.ref q) (upd H q (.lst (x.cps.toList.map fun c => V.str ⟨#[c]⟩)))) := by
  intro pins s σ H xs us Q I r h
  obtain ⟨x, e, hz, q⟩ := h
  subst e
  obtain ⟨u, eu, rx⟩ := vals1 r
  subst eu
  obtain ⟨t, rfl⟩ := rx
  refine PySem.call_list_str (I.ok.hd hc) x t (fun h2 t2 acc c2 kp gS gI => ?_) hz
  have okl : ObjOk X.prog X.w (upd H s.heap.objs.size (.lst (x.cps.toList.map fun c => V.str ⟨#[c]⟩))) h2 s.heap.objs.size (.lst (x.cps.toList.map fun c => V.str ⟨#[c]⟩)) := by
    refine ⟨by rw [List.length_map, Array.length_toList]; exact hz, acc.toList, c2, ?_, by rw [Array.toArray_toList]; exact gS⟩
    have el : acc.toList.length = acc.size := by simp
    refine vals_of_at (by rw [List.length_map, Array.length_toList, el, gI.1]) fun j y w h1 h3 => ?_
    have h4 := gI.2 j w (by rw [← Array.getElem?_toList]; exact h3)
    obtain ⟨c, t', hc1, rfl⟩ := h4
    rw [List.getElem?_map, Array.getElem?_toList, hc1] at h1
    cases h1
    exact ⟨_, rfl⟩
  exact ⟨.ref s.heap.objs.size, _, I.laid kp (Nat.le_refl _) okl, rfl, q _ (I.hok.fresh (Nat.le_refl _))⟩
def gListS : List PyData → Option PyData
  | [.str x] => if x.length ≤ sizeLine then some (.list (signsD x)) else none
  | _ => none
theorem fza_signs {K : PySem.W.Frag} {F : Hp} : ∀ l : List Nat, FzA K F (l.map fun c => V.str ⟨#[c]⟩) (l.map fun c => PyData.str ⟨#[c]⟩)
  | [] => .nil
  | c :: r => .cons (.str _) (fza_signs r)
theorem calld_listS (hc : X.calm = true) : CallD X (.type "list") gListS := by
  refine ⟨_, call_listS hc, fun F H xs ds z Q s vx eq q => ?_⟩
  unfold gListS at eq
  split at eq
  · split at eq
    · rename_i hz
      cases eq
      cases vx with
      | cons a t => cases t; exact ⟨_, by rw [a.strs], hz, fun p n => q _ _ _ (.one n) (.lst (.of upd_same) (fza_signs _))⟩
    · cases eq
  · cases eq
/-- range(i, j, -1) -/
def iRange3 (g : AM) : IM := fun ρ P => (g ρ P).bind fun (l, P1) => match l with
  | [.fz (.int i), .fz (.int j), .fz (.int k)] => if k = -1 ∧ -(2 ^ 62) ≤ i ∧ i < 2 ^ 62 ∧ -(2 ^ 62) ≤ j ∧ j < 2 ^ 62 then some ((List.range (i - j).toNat).map fun n => .int (i + (n : Nat) * (-1)), .fz .none, P1) else none
  | _ => none
theorem itok_range3 {K : PySem.W.Frag} {lo c : Int} {n : Nat} {d : SV} {v : V} : ItOk K (Itc lo c n) ((List.range n).map fun i => .int (lo + (i : Nat) * c)) d v := fun bs ρ σ os vs P H i R => by
  refine ⟨fun hi => ?_, fun hi => show n ≤ i by simpa using hi⟩
  have hi' : i < n := by simpa using hi
  refine ⟨hi', fun x H' ⟨e1, e2⟩ => ?_⟩
  subst e1; subst e2
  obtain ⟨F, ad, R⟩ := R
  exact ⟨.int (lo + (i : Nat) * c), by simp [hi'], ⟨F, ad, R.push (show Fz K F _ _ from .int _)⟩⟩
theorem pid_range3 {tg a b c : Expr} {f g h : XM} {p pos : Pos} (hg : Gl X "range") (hm : X.mg "range" = none) (ha : PEd X a f) (hb : PEd X b g) (hcc : PEd X c h)
    (hs : starEach [a, b, c] X.env = (false, eval a X.env) :: starEach [b, c] X.env := by rfl) (hs2 : starEach [b, c] X.env = (false, eval b X.env) :: starEach [c] X.env := by rfl) (hs3 : starEach [c] X.env = (false, eval c X.env) :: starEach [] X.env := by rfl)
    (hpl : (backTo pos (starEach [b, c] X.env)).any (·.1) = false := by rfl) : PId X tg (.Call (.Name "range" p) [a, b, c] [] pos) (iRange3 (aCons f (aCons g (aCons h aNil)))) := by
  obtain ⟨t, pa, h1⟩ := pad_cons ha (pad_cons hb (pad_cons hcc pad_nil hs3) hs2) hs
  refine ⟨_, pi_range3 hg hm pa hs hpl, fun bs ρ σ os vs P H R items src P' Rl e q => ?_⟩
  simp only [iRange3, Option.bind_eq_some_iff] at e
  obtain ⟨⟨l, P1⟩, e1, e2⟩ := e
  refine h1 bs ρ σ os vs P H _ l P1 Rl e1 fun ws H1 hl R1 => ?_
  obtain ⟨F, ad, R1⟩ := R1
  obtain ⟨ra, R2⟩ := R1.args hl
  simp only at e2
  split at e2
  · split at e2
    · rename_i hz
      cases e2
      cases ra with
      | cons r1 ra =>
        cases ra with
        | cons r2 ra =>
          cases ra with
          | cons r3 ra =>
            cases ra
            cases r1
            cases r2
            cases r3
            obtain ⟨z0, z1, z2, z3, z4⟩ := hz
            subst z0
            exact ⟨_, _, _, _, rfl, RgC.neg z1 z2 z3 z4, q _ .non H1 (.fz .none) ⟨F, ad, R2.push (show Fz X.K F _ _ from .non)⟩ itok_range3⟩
    · cases e2
  · cases e2
theorem call_lenDk : CallR X (.builtin "len") (fun xs H Q => ∃ a kvs, xs = [.ref a] ∧ Rd H a (.dK kvs) ∧ Q (.int kvs.length) H) := by
  intro pins s σ H xs us Q I r h
  obtain ⟨a, l, e, hk, q⟩ := h
  subst e
  obtain ⟨u, eu, rx⟩ := vals1 r
  subst eu
  obtain rfl : u = Value.ref a := rx
  exact d_len I hk fun t s1 I1 => ⟨.int l.length, H, I1, ⟨t, rfl⟩, q⟩
def gLenD : List PyData → Option PyData
  | [.dict kvs] => if kvs.all (fun p => isKD p.1) = true then some (.int kvs.length) else none
  | _ => none
theorem calld_lenD : CallD X (.builtin "len") gLenD := by
  refine ⟨_, call_lenDk, fun F H xs ds z Q s vx eq q => ?_⟩
  unfold gLenD at eq
  split at eq
  · split at eq
    · rename_i kvs hk
      cases eq
      cases vx with
      | cons a t =>
        cases t
        obtain ⟨d, ks, us, rfl, hp, hl, hkeys⟩ := Vw.dct a s hk
        have e1 : kvs.length = (ks.zip us).length := by
          have := congrArg List.length hkeys
          simp only [keysD, List.length_map] at this
          rw [this, List.length_zip]; omega
        exact ⟨d, _, rfl, hp, by rw [← e1]; exact q _ _ _ .refl (.int _)⟩
    · cases eq
  · cases eq
def gLenA : List PyData → Option PyData := fun ds => (gLen ds).or (gLenD ds)
theorem calld_lenA : CallD X (.builtin "len") gLenA := calld_len.or calld_lenD
def gListA : List PyData → Option PyData := fun ds => (gList ds).or ((gListD ds).or (gListS ds))
theorem calld_listA (hc : X.calm = true) : CallD X (.type "list") gListA := calld_list.or ((calld_listD hc).or (calld_listS hc))
end
end Pd

set_option Elab.async false
set_option linter.all false
set_option maxRecDepth 100000
set_option maxHeartbeats 1000000
/-! The layer Pd, part O: a number as eight signs. -/
namespace Pd
open PySem PySem.Spec PyProof.Rows L2 PySem.W PySem.Calls
def bin8 (n : Nat) : Str := ⟨(List.replicate (8 - (Nat.toDigits 2 n).length) 48 ++ (Nat.toDigits 2 n).map Char.toNat).toArray⟩
theorem meets_08b (n : Nat) (hn : n < 256) (t : Tok) : ∀ u, Meets (Builtin.«int.__format__» ⟨[.int (n : Int) t, .str ("08b" : Str) u], []⟩) (fun _ R s => ∀ t' k, R (.ok (.ret (.str (bin8 n) t'))) { s with toks := k }) := by
  intro _
  apply KPc.meets_of
  intro _ _ _ _ _ _ hq
  unfold Builtin.«int.__format__»
  refine wpAny_bind (wpAny_of_eq (a := (_, _)) rfl ?_)
  refine wpAny_bind (wpAny_of_eq (a := _) rfl ?_)
  kxf_if
  refine wpAny_bind (wpAny_typeNameOf (T := "str") (typeIs_str _ _ _) (by decide) fun _ => ?_)
  refine wpAny_bind (wpAny_of_eq (a := some _) rfl ?_)
  kxf_if
  kxf_if
  refine wpAny_bind (wpAny_typeNameOfCut_int ?_)
  repeat kxf_if
  refine KXf.ret_text (T := bin8 n) ?e ?l hq
  case e => clear hq; revert n; decide +kernel
  case l => clear hq; revert n; decide +kernel
end Pd

set_option Elab.async false
set_option linter.all false
set_option maxRecDepth 100000
set_option maxHeartbeats 1000000
/-! The layer Pd, part P: f"{n:08b}". -/
namespace Pd
open PySem PySem.Spec PyProof.Rows L2 PySem.W PySem.Calls
section
variable {X : Cx} {pos : Pos}
theorem pe_fmt8 {e sp : Expr} {te ts : TE} (he : PE X e te) (hs : PE X sp ts) : PE X (.FormattedValue e (-1) (some sp) pos) (fun σ H Q => te σ H fun x H1 => ts σ H1 fun y H2 => ∃ n : Nat, x = .int n ∧ n < 256 ∧ y = .str ("08b" : Str) ∧ Q (.str (bin8 n)) H2) := by
  refine ⟨fun pins s σ H Q I h => ?_⟩
  refine wpAny_FormattedValue_spec (thn (he.run pins s σ H _ I h) fun v s1 ⟨x, H1, I1, rx, q1⟩ => thn (hs.run pins s1 σ H1 _ I1 q1) fun r s2 ⟨y, H2, I2, ry, n, ex, hn, ey, q⟩ => ?_)
  subst ex
  subst ey
  obtain ⟨t, rfl⟩ := rx
  obtain ⟨t2, rfl⟩ := ry
  exact ⟨_, _, rfl, KXf.field_int rfl (by decide +kernel) (by decide +kernel) (meets_08b n hn t) fun t' k => ⟨.str (bin8 n), H2, I2.tok _, ⟨_, rfl⟩, q⟩⟩
def mFmt8 (f : XM) : XM := fun ρ P => (f ρ P).bind fun (a, P1) => match a with
  | .fz (.int i) => if 0 ≤ i ∧ i < 256 then some (.fz (.str (bin8 i.toNat)), P1) else none
  | _ => none
theorem ped_fmt8 {e sp : Expr} {f : XM} (he : PEd X e f) (hs : PEd X sp (mC (.str "08b"))) : PEd X (.FormattedValue e (-1) (some sp) pos) (mFmt8 f) := by
  obtain ⟨t, p, h1⟩ := he
  obtain ⟨u, p2, h2⟩ := hs
  refine ⟨_, pe_fmt8 p p2, fun bs ρ σ os vs P H Q r P' R e q => ?_⟩
  simp only [mFmt8, Option.bind_eq_some_iff] at e
  obtain ⟨⟨a, P1⟩, e1, e2⟩ := e
  simp only at e2
  split at e2
  · rename_i i
    split at e2
    · rename_i hi
      cases e2
      refine h1 bs ρ σ os vs P H _ _ _ R e1 fun x H1 R1 => ?_
      have hx : x = .int i := by
        obtain ⟨F, ad, R1⟩ := R1
        obtain ⟨r1, _⟩ := R1.pop
        cases r1; rfl
      subst hx
      refine h2 bs ρ σ _ _ _ H1 _ _ _ R1 rfl fun y H2 R2 => ?_
      obtain ⟨F, ad, R2⟩ := R2
      obtain ⟨r2, R3⟩ := R2.pop
      obtain ⟨_, R4⟩ := R3.pop
      cases r2
      refine ⟨i.toNat, by rw [Int.toNat_of_nonneg hi.1], by omega, rfl, q _ _ ⟨F, ad, R4.push (show Fz X.K F _ _ from .str _)⟩⟩
    · cases e2
  · cases e2
theorem ped_joined1 {e : Expr} {f : XM} (he : PEd X e f) : PEd X (.JoinedStr [e] pos) f := by
  obtain ⟨t, p, h1⟩ := he
  exact ⟨t, pe_joined1 p, h1⟩
end
end Pd

set_option Elab.async false
set_option linter.all false
set_option maxRecDepth 100000
set_option maxHeartbeats 1000000
/-! The layer Pd, part S: the mirrors run by simp. -/
namespace Pd
open PySem PySem.Spec PyProof.Rows L2
section
variable {ρ : EV} {P : Store}
@[simp] theorem mC_ap (d : PyData) : mC d ρ P = some (.fz d, P) := id rfl
@[simp] theorem mVar_ap (i b : Nat) (sl : List (Option SV)) : mVar i ⟨b, sl⟩ P = (sl[i]?.join).map fun s => (s, P) := by
  unfold mVar
  cases h : sl[i]? with
  | none => simp [h]
  | some o => cases o <;> simp [h]
@[simp] theorem put_ap (b i : Nat) (sl : List (Option SV)) (s : SV) : EV.put ⟨b, sl⟩ i s = ⟨b, sl.set i (some s)⟩ := id rfl
@[simp] theorem flat_fz (d : PyData) : flat P (.fz d) = some d := id rfl
@[simp] theorem frz_fz (d : PyData) : frz P (.fz d) = some (d, P) := id rfl
@[simp] theorem fzs_nil : fzs [] = some [] := id rfl
@[simp] theorem fzs_cons (d : PyData) (r : List SV) : fzs (.fz d :: r) = (fzs r).map (d :: ·) := id rfl
theorem fzs_map (l : List PyData) : fzs (l.map SV.fz) = some l := by
  induction l with
  | nil => rfl
  | cons d l ih => simp [ih]
theorem fzs_map' {α : Type} (f : α → PyData) (l : List α) : fzs (l.map fun x => SV.fz (f x)) = some (l.map f) := by
  induction l with
  | nil => rfl
  | cons d l ih => simp [ih]
@[simp] theorem flats_nil : flats P [] = some [] := id rfl
@[simp] theorem flats_cons (a : SV) (l : List SV) : flats P (a :: l) = (flat P a).bind fun d => (flats P l).map (d :: ·) := id rfl
@[simp] theorem mBin_ap (g : PyData → PyData → Option PyData) (f1 f2 : XM) : mBin g f1 f2 ρ P = (f1 ρ P).bind fun (a, P1) => (f2 ρ P1).bind fun (b, P2) => (flat P2 a).bind fun d => (flat P2 b).bind fun e => (g d e).map fun z => (.fz z, P2) := id rfl
@[simp] theorem mUn_ap (g : PyData → Option PyData) (f : XM) : mUn g f ρ P = (f ρ P).bind fun (a, P1) => (flat P1 a).bind fun d => (g d).map fun z => (.fz z, P1) := id rfl
@[simp] theorem mTB_ap (f : XM) : mTB f ρ P = (f ρ P).bind fun (a, P1) => match a with
  | .fz (.bool b) => some (b, P1)
  | _ => none := id rfl
@[simp] theorem mNotB_ap (f : BM) : mNotB f ρ P = (f ρ P).map fun (a, P1) => (!a, P1) := id rfl
@[simp] theorem mAndB_ap (f g : BM) : mAndB f g ρ P = (f ρ P).bind fun (a, P1) => if a = true then g ρ P1 else some (false, P1) := id rfl
@[simp] theorem mOrB_ap (f g : BM) : mOrB f g ρ P = (f ρ P).bind fun (a, P1) => if a = true then some (true, P1) else g ρ P1 := id rfl
@[simp] theorem mAndV_ap (f g : XM) : mAndV f g ρ P = (f ρ P).bind fun (a, P1) => match a with
  | .fz (.bool true) => g ρ P1
  | .fz (.bool false) => some (.fz (.bool false), P1)
  | _ => none := id rfl
@[simp] theorem mOrV_ap (f g : XM) : mOrV f g ρ P = (f ρ P).bind fun (a, P1) => match a with
  | .fz (.bool false) => g ρ P1
  | .fz (.bool true) => some (.fz (.bool true), P1)
  | _ => none := id rfl
@[simp] theorem mNotV_ap (f : XM) : mNotV f ρ P = (f ρ P).bind fun (a, P1) => match a with
  | .fz (.bool b) => some (.fz (.bool (!b)), P1)
  | _ => none := id rfl
@[simp] theorem mIfE_ap (c : BM) (f g : XM) : mIfE c f g ρ P = (c ρ P).bind fun (b, P1) => if b = true then f ρ P1 else g ρ P1 := id rfl
@[simp] theorem mChain_ap (g g' : PyData → PyData → Option PyData) (f1 f2 f3 : XM) : mChain g g' f1 f2 f3 ρ P = (f1 ρ P).bind fun (a, P1) => (f2 ρ P1).bind fun (b, P2) => (flat P2 a).bind fun d => (flat P2 b).bind fun e => (g d e).bind fun z => match z with
  | .bool true => (f3 ρ P2).bind fun (c, P3) => (flat P3 b).bind fun e' => (flat P3 c).bind fun k => (g' e' k).map fun z' => (.fz z', P3)
  | .bool false => some (.fz (.bool false), P2)
  | _ => none := id rfl
@[simp] theorem mFz_ap (f : XM) : mFz f ρ P = (f ρ P).bind fun (a, P1) => (frz P1 a).map fun (d, P2) => (.fz d, P2) := id rfl
@[simp] theorem aNil_ap : aNil ρ P = some ([], P) := id rfl
@[simp] theorem aCons_ap (f : XM) (g : AM) : aCons f g ρ P = (f ρ P).bind fun (a, P1) => (g ρ P1).map fun (l, P2) => (a :: l, P2) := id rfl
@[simp] theorem mTup_ap (g : AM) : mTup g ρ P = (g ρ P).bind fun (l, P1) => (fzs l).bind fun ds => if ds.length ≤ sizeLine then some (.fz (.tuple ds), P1) else none := id rfl
@[simp] theorem mLst_ap (g : AM) : mLst g ρ P = (g ρ P).bind fun (l, P1) => (fzs l).bind fun ds => if ds.length ≤ sizeLine then some (.fz (.list ds), P1) else none := id rfl
@[simp] theorem mLstC_ap (g : AM) : mLstC g ρ P = (g ρ P).bind fun (l, P1) => if l.length ≤ sizeLine then some (.ptr P1.length, P1 ++ [.lst l]) else none := id rfl
@[simp] theorem mCall_ap (g : List PyData → Option PyData) (fs : AM) : mCall g fs ρ P = (fs ρ P).bind fun (l, P1) => (flats P1 l).bind fun ds => (g ds).map fun z => (.fz z, P1) := id rfl
@[simp] theorem mCallF_ap (m : FM) (fs : AM) : mCallF m fs ρ P = (fs ρ P).bind fun (l, P1) => m l P1 := id rfl
@[simp] theorem mIs_ap (g : PyData → Bool) (f : XM) : mIs g f ρ P = (f ρ P).bind fun (a, P1) => (flat P1 a).map fun d => (.fz (.bool (g d)), P1) := id rfl
@[simp] theorem mSub_ap (f1 f2 : XM) : mSub f1 f2 ρ P = (f1 ρ P).bind fun (a, P1) => (f2 ρ P1).bind fun (b, P2) => (flat P2 b).bind fun kd => (subOf P2 a kd).map fun s => (s, P2) := id rfl
@[simp] theorem mIn_ap (n : Bool) (f1 f2 : XM) : mIn n f1 f2 ρ P = (f1 ρ P).bind fun (a, P1) => (f2 ρ P1).bind fun (b, P2) => (flat P2 a).bind fun kd => (inOf P2 kd b).map fun v => (.fz (.bool (n != v)), P2) := id rfl
@[simp] theorem mInK_ap (n : Bool) (ds : List PyData) (f : XM) : mInK n ds f ρ P = (f ρ P).bind fun (a, P1) => (flat P1 a).bind fun d => (dInS n d (.tuple ds)).map fun z => (.fz z, P1) := id rfl
@[simp] theorem mSl_ap (f : XM) (lo hi : OM) : mSl f lo hi ρ P = (f ρ P).bind fun (a, P1) => (lo ρ P1).bind fun (l, P2) => (hi ρ P2).bind fun (u, P3) => (flat P3 a).bind fun d => (dSl d l u).map fun z => (.fz z, P3) := id rfl
@[simp] theorem oNone_ap : oNone ρ P = some (none, P) := id rfl
@[simp] theorem oSome_ap (f : XM) : oSome f ρ P = (f ρ P).bind fun (a, P1) => match a with
  | .fz (.int i) => some (some i, P1)
  | _ => none := id rfl
@[simp] theorem mApp_ap (fo fe : XM) : mApp fo fe ρ P = (fo ρ P).bind fun (o, P1) => (fe ρ P1).bind fun (r, P2) => match o with
  | .ptr k => match P2[k]? with
    | some (.lst l) => if l.length < sizeLine ∧ okPtr ρ.b k r = true ∧ isLst P1[k]? = true then some (.fz .none, P2.set k (.lst (l ++ [r]))) else none
    | _ => none
  | _ => none := id rfl
@[simp] theorem okPtr_fz (b k : Nat) (d : PyData) : okPtr b k (.fz d) = true := id rfl
@[simp] theorem isLst_lst (l : List SV) : isLst (some (.lst l)) = true := id rfl
@[simp] theorem sNx_ap : sNx ρ P = some (.nx, ρ, P) := id rfl
@[simp] theorem sSeq_ap (m n : SM) : sSeq m n ρ P = (m ρ P).bind fun r => match r with
  | (.nx, ρ1, P1) => n ρ1 P1
  | r => some r := id rfl
@[simp] theorem sRet_ap (f : XM) : sRet f ρ P = (f ρ P).map fun (s, P1) => (.rt s, ρ, P1) := id rfl
@[simp] theorem sEx_ap (f : XM) : sEx f ρ P = (f ρ P).map fun (_, P1) => (.nx, ρ, P1) := id rfl
@[simp] theorem sBk_ap : sBk ρ P = some (.bk, ρ, P) := id rfl
@[simp] theorem sCt_ap : sCt ρ P = some (.ct, ρ, P) := id rfl
@[simp] theorem sIf_ap (c : BM) (m n : SM) : sIf c m n ρ P = (c ρ P).bind fun (b, P1) => if b = true then m ρ P1 else n ρ P1 := id rfl
@[simp] theorem sSet_ap (i : Nat) (f : XM) : sSet i f ρ P = (f ρ P).map fun (s, P1) => (.nx, ρ.put i s, P1) := id rfl
@[simp] theorem sAsg_ap (f : XM) (g : GM) : sAsg f g ρ P = (f ρ P).bind fun (s, P1) => (g s ρ P1).map fun (ρ2, P2) => (.nx, ρ2, P2) := id rfl
@[simp] theorem sPar_ap (i j : Nat) (g : AM) : sPar i j g ρ P = (g ρ P).bind fun (l, P1) => match l with
  | [a, b] => some (.nx, (ρ.put i a).put j b, P1)
  | _ => none := id rfl
@[simp] theorem gNm_ap (i : Nat) (s : SV) : gNm i s ρ P = some (ρ.put i s, P) := id rfl
@[simp] theorem gsNil_ap : gsNil [] ρ P = some (ρ, P) := id rfl
@[simp] theorem gsCons_ap (g : GM) (h : List PyData → EV → Store → Option (EV × Store)) (d : PyData) (r : List PyData) : gsCons g h (d :: r) ρ P = (g (.fz d) ρ P).bind fun (ρ1, P1) => h r ρ1 P1 := id rfl
@[simp] theorem gTu_ap (n : Nat) (h : List PyData → EV → Store → Option (EV × Store)) (ds : List PyData) : gTu n h (.fz (.tuple ds)) ρ P = if ds.length = n then h ds ρ P else none := id rfl
@[simp] theorem gIx_ap (fo fi : XM) (s : SV) : gIx fo fi s ρ P = (fo ρ P).bind fun (o, P1) => (fi ρ P1).bind fun (i, P2) => match o, i with
  | .ptr k, .fz (.int i) => match P2[k]? with
    | some (.lst l) => if okPtr ρ.b k s = true then (ixN l.length i).map fun j => (ρ, P2.set k (.lst (l.set j s))) else none
    | _ => none
  | _, _ => none := id rfl
@[simp] theorem sFor_ap (f : IM) (g : GM) (body : SM) : sFor f g body ρ P = (f ρ P).bind fun (items, _, P1) => forGo g body items ρ P1 := id rfl
@[simp] theorem iAny_ap (f : XM) : iAny f ρ P = (f ρ P).bind fun (a, P1) => match a with
  | .fz (.list ds) => some (ds, a, P1)
  | .fz (.tuple ds) => some (ds, a, P1)
  | .fz (.str x) => some (signsD x, a, P1)
  | .fz (.dict kvs) => if kvs.all (fun p => isKD p.1) = true then some (keysD kvs, a, P1) else none
  | _ => none := id rfl
@[simp] theorem iRange_ap (g : AM) : iRange g ρ P = (g ρ P).bind fun (l, P1) => match l with
  | [.fz (.int j)] => if -(2 ^ 62) ≤ j ∧ j < 2 ^ 62 then some (rangeD 0 j.toNat, .fz .none, P1) else none
  | [.fz (.int i), .fz (.int j)] => if -(2 ^ 62) ≤ i ∧ i < 2 ^ 62 ∧ -(2 ^ 62) ≤ j ∧ j < 2 ^ 62 then some (rangeD i (j - i).toNat, .fz .none, P1) else none
  | _ => none := id rfl
@[simp] theorem bYes_ap : bYes ρ P = some (true, P) := id rfl
theorem mFun_ap (ex : Nat → SV → Store → Option (SV × Store)) (nN : Nat) (body : SM) (args : List SV) : mFun ex nN body args P = (body { b := P.length, sl := startE nN args } P).bind fun (fl, _, P2) => match fl with
  | .rt r => ex P.length r P2
  | .nx => ex P.length (.fz .none) P2
  | _ => none := rfl
@[simp] theorem exitZ_fz (n : Nat) (d : PyData) : exitZ n (.fz d) P = some (.fz d, P.take n) := id rfl
@[simp] theorem exitC_fz (n : Nat) (d : PyData) : exitC n (.fz d) P = some (.fz d, P.take n) := id rfl
theorem exitZ_ptr {n k : Nat} {c : Cell} {d : PyData} (h : n ≤ k) (hc : P[k]? = some c) (hd : c.dat = some d) : exitZ n (.ptr k) P = some (.fz d, P.take n) := by
  simp [exitZ, h, hc, hd]
@[simp] theorem dictOf_tup (ds : List PyData) : dictOf P (.fz (.tuple ds)) = none := id rfl
@[simp] theorem dictOf_lst (ds : List PyData) : dictOf P (.fz (.list ds)) = none := id rfl
@[simp] theorem dictOf_str (x : Str) : dictOf P (.fz (.str x)) = none := id rfl
theorem dictOf_cell {k : Nat} {l : List SV} (h : P[k]? = some (.lst l)) : dictOf P (.ptr k) = none := by simp [dictOf, h]
@[simp] theorem subOf_tup (ds : List PyData) (i : Int) : subOf P (.fz (.tuple ds)) (.int i) = (atI ds i).map .fz := id rfl
@[simp] theorem subOf_lst (ds : List PyData) (i : Int) : subOf P (.fz (.list ds)) (.int i) = (atI ds i).map .fz := id rfl
theorem subOf_str (z : Str) (i : Int) (h : z.length ≤ sizeLine) : subOf P (.fz (.str z)) (.int i) = (atI z.cps.toList i).map fun c => .fz (.str ⟨#[c]⟩) := by
  simp [subOf, dIx, h, Option.map_map, Function.comp_def]
theorem subOf_cell {k : Nat} {l : List SV} {ds : List PyData} (h : P[k]? = some (.lst l)) (hd : fzs l = some ds) (i : Int) : subOf P (.ptr k) (.int i) = (atI ds i).map .fz := by
  simp [subOf, dictOf_cell h, flat, h, Cell.dat, hd, dIx]
theorem flat_cell {k : Nat} {c : Cell} (h : P[k]? = some c) : flat P (.ptr k) = c.dat := by simp [flat, h]
@[simp] theorem dat_lst (l : List SV) : (Cell.lst l).dat = (fzs l).map .list := id rfl
@[simp] theorem inOf_tup (ds : List PyData) (d : PyData) : inOf P d (.fz (.tuple ds)) = if SeqAt.shaped d = true ∧ SeqAt.shaped (.tuple ds) = true then some (ds.any fun y => PyData.eqv y d) else none := by
  simp only [inOf, dictOf_tup, flat_fz, Option.bind_some, dInS]
  by_cases h : SeqAt.shaped d = true ∧ SeqAt.shaped (.tuple ds) = true
  · simp [h]
  · simp [h]
@[simp] theorem inOf_lst (ds : List PyData) (d : PyData) : inOf P d (.fz (.list ds)) = if SeqAt.shaped d = true ∧ SeqAt.shaped (.list ds) = true then some (ds.any fun y => PyData.eqv y d) else none := by
  simp only [inOf, dictOf_lst, flat_fz, Option.bind_some, dInS]
  by_cases h : SeqAt.shaped d = true ∧ SeqAt.shaped (.list ds) = true
  · simp [h]
  · simp [h]
@[simp] theorem inOf_sign (x : Str) (c : Nat) : inOf P (.str ⟨#[c]⟩) (.fz (.str x)) = some (decide (c ∈ x.cps.toList)) := by
  have := StrLaws.found_one x c
  simp only [inOf, dictOf_str, flat_fz, Option.bind_some, dInS, this]
  simp
end

/-! items -/
@[simp] theorem ixN_nat (n j : Nat) : ixN n (j : Int) = if j < n then some j else none := by
  unfold ixN
  by_cases h : j < n
  · simp [h]
  · simp [h]
@[simp] theorem atI_nat' {α : Type} (xs : List α) (j : Nat) : atI xs (j : Int) = xs[j]? := by
  unfold atI
  rw [ixN_nat]
  split
  · rfl
  · rw [List.getElem?_eq_none (by omega)]; rfl
@[simp] theorem atI_0 {α : Type} (xs : List α) : atI xs 0 = xs[0]? := atI_nat' xs 0
@[simp] theorem atI_1 {α : Type} (xs : List α) : atI xs 1 = xs[1]? := atI_nat' xs 1
@[simp] theorem atI_2 {α : Type} (xs : List α) : atI xs 2 = xs[2]? := atI_nat' xs 2
@[simp] theorem atI_3 {α : Type} (xs : List α) : atI xs 3 = xs[3]? := atI_nat' xs 3
@[simp] theorem atI_4 {α : Type} (xs : List α) : atI xs 4 = xs[4]? := atI_nat' xs 4
@[simp] theorem ixN_0 (n : Nat) : ixN n 0 = if 0 < n then some 0 else none := ixN_nat n 0
@[simp] theorem ixN_1 (n : Nat) : ixN n 1 = if 1 < n then some 1 else none := ixN_nat n 1
@[simp] theorem ixN_2 (n : Nat) : ixN n 2 = if 2 < n then some 2 else none := ixN_nat n 2
@[simp] theorem ixN_3 (n : Nat) : ixN n 3 = if 3 < n then some 3 else none := ixN_nat n 3

/-! operations on data -/
@[simp] theorem dAdd_int (i j : Int) : dAdd (.int i) (.int j) = some (.int (i + j)) := id rfl
@[simp] theorem dSub_int (i j : Int) : dSub (.int i) (.int j) = some (.int (i - j)) := id rfl
theorem dAdd_lst (xs ys : List PyData) (h : xs.length + ys.length ≤ sizeLine) : dAdd (.list xs) (.list ys) = some (.list (xs ++ ys)) := by
  simp [dAdd, dI, dAddS, dS, dAddL, h]
theorem dAdd_tup (xs ys : List PyData) (h : xs.length + ys.length ≤ sizeLine) : dAdd (.tuple xs) (.tuple ys) = some (.tuple (xs ++ ys)) := by
  simp [dAdd, dI, dAddS, dS, dAddL, dAddT, h]
@[simp] theorem dMod_int (i j : Int) : dMod (.int i) (.int j) = if decide (j ≠ 0) = true then some (.int (i.fmod j)) else none := id rfl
@[simp] theorem dDiv_int (i j : Int) : dDiv (.int i) (.int j) = if cDiv i j = true then some (.int (i.fdiv j)) else none := id rfl
@[simp] theorem dMulI_int (i j : Int) : dMulI (.int i) (.int j) = if cMul i j = true then some (.int (i * j)) else none := id rfl
@[simp] theorem dLt_int (i j : Int) : dLt (.int i) (.int j) = some (.bool (decide (i < j))) := id rfl
@[simp] theorem dLe_int (i j : Int) : dLe (.int i) (.int j) = some (.bool (decide (i ≤ j))) := id rfl
@[simp] theorem dGt_int (i j : Int) : dGt (.int i) (.int j) = some (.bool (decide (j < i))) := id rfl
@[simp] theorem dGe_int (i j : Int) : dGe (.int i) (.int j) = some (.bool (decide (j ≤ i))) := id rfl
@[simp] theorem dLe_str (x y : Str) : dLe (.str x) (.str y) = some (.bool (!decide (y.cps.toList < x.cps.toList))) := id rfl
@[simp] theorem dLt_str (x y : Str) : dLt (.str x) (.str y) = some (.bool (decide (x.cps.toList < y.cps.toList))) := id rfl
@[simp] theorem dEq_int (i j : Int) : dEq (.int i) (.int j) = some (.bool (decide (i = j))) := by simp [dEq, dEqA, atom, scal]
@[simp] theorem dNe_int (i j : Int) : dNe (.int i) (.int j) = some (.bool (!decide (i = j))) := by simp [dNe, dEqA, atom, scal]
@[simp] theorem dEq_str2 (x y : Str) : dEq (.str x) (.str y) = some (.bool (decide (x = y))) := by simp [dEq, dEqA, atom, scal]
@[simp] theorem dNe_str2 (x y : Str) : dNe (.str x) (.str y) = some (.bool (!decide (x = y))) := by simp [dNe, dEqA, atom, scal]
@[simp] theorem dIs_non (n : Bool) (d : PyData) : dIs n d .none = some (.bool (n != isNon d)) := by cases d <;> rfl
@[simp] theorem dIs_bl (n a b : Bool) : dIs n (.bool a) (.bool b) = some (.bool (n != decide (a = b))) := id rfl
@[simp] theorem gLen_lst (ds : List PyData) : gLen [.list ds] = some (.int ds.length) := id rfl
@[simp] theorem gLen_tup (ds : List PyData) : gLen [.tuple ds] = some (.int ds.length) := id rfl
@[simp] theorem gInt_int (i : Int) : gInt [.int i] = some (.int i) := id rfl
@[simp] theorem gTuple_lst (ds : List PyData) : gTuple [.list ds] = some (.tuple ds) := id rfl
@[simp] theorem gTuple_tup (ds : List PyData) : gTuple [.tuple ds] = some (.tuple ds) := id rfl
@[simp] theorem gList_lst (ds : List PyData) : gList [.list ds] = some (.list ds) := id rfl
@[simp] theorem gList_tup (ds : List PyData) : gList [.tuple ds] = some (.list ds) := id rfl
theorem bools_map {α : Type} (f : α → Bool) (l : List α) : bools (l.map fun x => .bool (f x)) = some (l.map f) := by
  induction l with
  | nil => rfl
  | cons a l ih => simp [bools, ih]
theorem intsD_map {α : Type} (f : α → Int) (l : List α) : intsD (l.map fun x => .int (f x)) = some (l.map f) := by
  induction l with
  | nil => rfl
  | cons a l ih => simp [intsD, ih]
theorem gAll_map {α : Type} (f : α → Bool) (l : List α) : gAll [.list (l.map fun x => .bool (f x))] = some (.bool (l.all f)) := by
  simp [gAll, bools_map, List.all_map, Function.comp_def]
theorem gAny_map {α : Type} (f : α → Bool) (l : List α) : gAny [.list (l.map fun x => .bool (f x))] = some (.bool (l.any f)) := by
  simp [gAny, bools_map, List.any_map, Function.comp_def]
theorem gSum_map {α : Type} (f : α → Int) (l : List α) : gSum [.list (l.map fun x => .int (f x))] = some (.int (l.map f).sum) := by
  simp [gSum, intsD_map]

/-! comprehensions that change nothing -/
theorem lcGo_pure {g : GM} {tt : BM} {te : XM} {ρ : EV} {n : Nat} (p : PyData → Bool) (h : PyData → PyData) : ∀ (items : List PyData) (P : Store) (acc : List SV), P.length = n → acc.length + items.length ≤ sizeLine →
    (∀ d ∈ items, ∀ S : Store, ∃ ρ1, g (.fz d) ρ S = some (ρ1, S) ∧ tt ρ1 S = some (p d, S) ∧ (p d = true → te ρ1 S = some (.fz (h d), S))) →
    lcGo g tt te ρ n items (P ++ [.lst acc]) = some (P ++ [.lst (acc ++ ((items.filter p).map fun d => SV.fz (h d)))])
  | [], P, acc, _, _, _ => by simp [lcGo]
  | d :: r, P, acc, hP, hl, hh => by
    obtain ⟨ρ1, e1, e2, e3⟩ := hh d List.mem_cons_self (P ++ [.lst acc])
    have ih := fun acc' (hl' : acc'.length + r.length ≤ sizeLine) => lcGo_pure (g := g) (tt := tt) (te := te) (ρ := ρ) (n := n) p h r P acc' hP hl' fun d hd S => hh d (List.mem_cons_of_mem _ hd) S
    simp only [List.length_cons] at hl
    simp only [lcGo, e1, e2, Option.bind_some]
    by_cases hp : p d = true
    · have hn : (P ++ [Cell.lst acc])[n]? = some (.lst acc) := by rw [← hP]; simp
      simp only [hp, if_true, e3 hp, Option.bind_some, hn]
      rw [if_pos (by omega)]
      have hs : (P ++ [Cell.lst acc]).set n (.lst (acc ++ [.fz (h d)])) = P ++ [.lst (acc ++ [.fz (h d)])] := by
        rw [← hP, List.set_append_right _ _ (Nat.le_refl _)]; simp
      rw [hs, ih _ (by simp; omega)]
      simp [List.filter_cons, hp]
    · simp only [hp, Bool.false_eq_true, if_false]
      rw [ih acc (by omega)]
      simp [List.filter_cons, hp]
theorem mLC_pure {own : List Nat} {f : IM} {g : GM} {tt : BM} {te : XM} {ρ : EV} {P : Store} {items : List PyData} {src : SV} (p : PyData → Bool) (h : PyData → PyData) (hf : f ρ P = some (items, src, P)) (hl : items.length ≤ sizeLine)
    (hh : ∀ d ∈ items, ∀ S : Store, ∃ ρ1, g (.fz d) { ρ.wipe own with b := P.length } S = some (ρ1, S) ∧ tt ρ1 S = some (p d, S) ∧ (p d = true → te ρ1 S = some (.fz (h d), S))) :
    mLC own f g tt te ρ P = some (.fz (.list ((items.filter p).map h)), P) := by
  have := lcGo_pure (g := g) (tt := tt) (te := te) (ρ := { ρ.wipe own with b := P.length }) p h items P [] rfl (by simpa using hl) hh
  simp only [mLC, hf, Option.bind_some, this, List.nil_append]
  simp [fzs_map']
/-- .. without a test -/
theorem mLC_map {own : List Nat} {f : IM} {g : GM} {te : XM} {ρ : EV} {P : Store} {items : List PyData} {src : SV} (h : PyData → PyData) (hf : f ρ P = some (items, src, P)) (hl : items.length ≤ sizeLine)
    (hh : ∀ d ∈ items, ∀ S : Store, ∃ ρ1, g (.fz d) { ρ.wipe own with b := P.length } S = some (ρ1, S) ∧ te ρ1 S = some (.fz (h d), S)) :
    mLC own f g bYes te ρ P = some (.fz (.list (items.map h)), P) := by
  have := mLC_pure (tt := bYes) (fun _ => true) h hf hl fun d hd S => let ⟨ρ1, a, b⟩ := hh d hd S; ⟨ρ1, a, rfl, fun _ => b⟩
  have e : items.filter (fun _ => true) = items := List.filter_eq_self.mpr fun _ _ => rfl
  rw [e] at this
  exact this

/-! good data -/
def okD : Nat → PyData → Bool
  | _, .none => true
  | _, .bool _ => true
  | _, .int _ => true
  | _, .str x => PyData.strOk x && decide (x.length ≤ 4000)
  | n + 1, .list ds => decide (ds.length ≤ 4000) && ds.all (okD n)
  | n + 1, .tuple ds => decide (ds.length ≤ 4000) && ds.all (okD n)
  | _, _ => false
theorem okD_lay : ∀ (n : Nat) (d : PyData), okD n d = true → d.canLay0 = true ∧ d.depth ≤ n := by
  intro n
  induction n with
  | zero => intro d h; cases d <;> simp_all [okD, PyData.canLay0, PyData.depth]
  | succ n ih =>
    have all : ∀ ds : List PyData, ds.all (okD n) = true → PyData.canLayAll0 ds = true ∧ PyData.depthAll ds ≤ n := by
      intro ds
      induction ds with
      | nil => intro _; simp [PyData.canLayAll0, PyData.depthAll]
      | cons d r ihr =>
        intro h
        simp only [List.all_cons, Bool.and_eq_true] at h
        have h1 := ih d h.1
        have h2 := ihr h.2
        simp only [PyData.canLayAll0, PyData.depthAll, h1.1, h2.1, Bool.and_true, true_and]
        omega
    intro d h
    cases d with
    | list ds =>
      simp only [okD, Bool.and_eq_true] at h
      have := all ds h.2
      simp only [PyData.canLay0, PyData.depth, this.1, true_and]; omega
    | tuple ds =>
      simp only [okD, Bool.and_eq_true] at h
      have := all ds h.2
      simp only [PyData.canLay0, PyData.depth, this.1, true_and]; omega
    | _ => simp_all [okD, PyData.canLay0, PyData.depth]
theorem okD_shaped {n : Nat} {d : PyData} (h : okD n d = true) (hn : n ≤ 64) : SeqAt.shaped d = true := by
  obtain ⟨h1, h2⟩ := okD_lay n d h
  unfold SeqAt.shaped
  simp only [h1, Bool.true_and, decide_eq_true_eq]
  omega
/-- the data is this text -/
def isS (x : Str) : PyData → Bool
  | .str y => decide (y = x)
  | _ => false
theorem eqv_str (x : Str) (d : PyData) : PyData.eqv (.str x) d = isS x d := by
  cases d with
  | str s =>
    simp only [PyData.eqv, isS]
    rw [Bool.eq_iff_iff]
    simp only [beq_iff_eq, decide_eq_true_eq]
    exact ⟨Eq.symm, Eq.symm⟩
  | _ => simp [PyData.eqv, isS]
theorem dEq_str {d : PyData} (x : Str) (h : SeqAt.shaped d = true) (hx : PyData.strOk x = true := by decide +kernel) : dEq d (.str x) = some (.bool (isS x d)) := by
  have hs : SeqAt.shaped (.str x) = true := by simp [SeqAt.shaped, PyData.canLay0, PyData.depth, hx]
  cases d <;> simp [dEq, dEqA, atom, scal, isS, dEqD, h, hs, PyData.eqv]
/-! sizes -/
@[simp] theorem sz_1 : (1 : Nat) ≤ sizeLine := by decide
@[simp] theorem sz_2 : (2 : Nat) ≤ sizeLine := by decide
@[simp] theorem sz_3 : (3 : Nat) ≤ sizeLine := by decide
@[simp] theorem sz_4 : (4 : Nat) ≤ sizeLine := by decide
@[simp] theorem sz_5 : (5 : Nat) ≤ sizeLine := by decide
@[simp] theorem sz_6 : (6 : Nat) ≤ sizeLine := by decide
@[simp] theorem sz_7 : (7 : Nat) ≤ sizeLine := by decide
@[simp] theorem sz_8 : (8 : Nat) ≤ sizeLine := by decide
@[simp] theorem sz_9 : (9 : Nat) ≤ sizeLine := by decide
@[simp] theorem sz_10 : (10 : Nat) ≤ sizeLine := by decide
@[simp] theorem sz_11 : (11 : Nat) ≤ sizeLine := by decide
@[simp] theorem sz_12 : (12 : Nat) ≤ sizeLine := by decide
@[simp] theorem sz_13 : (13 : Nat) ≤ sizeLine := by decide
@[simp] theorem sz_14 : (14 : Nat) ≤ sizeLine := by decide
@[simp] theorem sz_15 : (15 : Nat) ≤ sizeLine := by decide
@[simp] theorem sz_16 : (16 : Nat) ≤ sizeLine := by decide
end Pd

set_option Elab.async false
set_option linter.all false
set_option maxRecDepth 100000
set_option maxHeartbeats 1000000
/-! The layer Pd, part Q: more of the mirrors run by simp. -/
namespace Pd
open PySem PySem.Spec PyProof.Rows L2
section
variable {ρ : EV} {P : Store}
@[simp] theorem gLenA_lst (ds : List PyData) : gLenA [.list ds] = some (.int ds.length) := id rfl
@[simp] theorem gLenA_tup (ds : List PyData) : gLenA [.tuple ds] = some (.int ds.length) := id rfl
theorem gLenA_str {x : Str} (h : x.length ≤ 4000) : gLenA [.str x] = some (.int x.length) := by
  simp only [gLenA, gLen]
  rw [if_pos (Nat.le_trans h (by decide))]; rfl
theorem gLenA_dct (kvs : List (PyData × PyData)) (h : kvs.all (fun p => isKD p.1) = true) : gLenA [.dict kvs] = some (.int kvs.length) := by
  simp [gLenA, gLen, gLenD, -List.all_eq_true, h]
@[simp] theorem gListA_lst (ds : List PyData) : gListA [.list ds] = some (.list ds) := id rfl
@[simp] theorem gListA_tup (ds : List PyData) : gListA [.tuple ds] = some (.list ds) := id rfl
theorem gListA_dct (kvs : List (PyData × PyData)) (h : kvs.all (fun p => isKD p.1) = true) : gListA [.dict kvs] = some (.list (keysD kvs)) := by
  simp [gListA, gList, gListD, -List.all_eq_true, h]
theorem gListA_str {x : Str} (h : x.length ≤ 4000) : gListA [.str x] = some (.list (signsD x)) := by
  simp only [gListA, gList, gListD, gListS]
  rw [if_pos (Nat.le_trans h (by decide))]; rfl
@[simp] theorem mGetD_ap (fd fk fx : XM) : mGetD fd fk fx ρ P = (fd ρ P).bind fun (d, P1) => (dictOf P1 d).bind fun _ => (fk ρ P1).bind fun (k, P2) => (fx ρ P2).bind fun (z, P3) => (flat P3 k).bind fun kd => (dictOf P3 d).bind fun D => (dlook D kd).map fun o => (o.getD z, P3) := id rfl
@[simp] theorem mFmt8_ap (f : XM) : mFmt8 f ρ P = (f ρ P).bind fun (a, P1) => match a with
  | .fz (.int i) => if 0 ≤ i ∧ i < 256 then some (.fz (.str (bin8 i.toNat)), P1) else none
  | _ => none := id rfl
@[simp] theorem mDNewK_ap : mDNewK ρ P = some (.ptr P.length, P ++ [.dK []]) := id rfl
/-- a dict of texts, as data -/
def dctD (l : List (Str × PyData)) : PyData := .dict (l.map fun p => (.str p.1, p.2))
theorem parseK_dct : ∀ l : List (Str × PyData), parseK (l.map fun p => (PyData.str p.1, p.2)) = some (l.map fun p => (Sum.inr p.1, SV.fz p.2))
  | [] => rfl
  | p :: r => by simp [parseK, keyOf, parseK_dct r]
@[simp] theorem dictOf_dct (l : List (Str × PyData)) : dictOf P (.fz (dctD l)) = some (.k (l.map fun p => (Sum.inr p.1, SV.fz p.2))) := by
  simp [dictOf, dctD, parseK_dct]
def lookD (l : List (Str × PyData)) (x : Str) : Option PyData := (l.find? fun p => decide (p.1 = x)).map (·.2)
theorem lookS_dct (l : List (Str × PyData)) (x : Str) : lookS (l.map fun p => ((Sum.inr p.1 : Key), SV.fz p.2)) (Sum.inr x) = (lookD l x).map SV.fz := by
  induction l with
  | nil => rfl
  | cons p r ih =>
    by_cases h : p.1 = x
    · simp [lookS, lookD, List.find?_cons, h]
    · have h2 : ¬ ((Sum.inr p.1 : Key) = Sum.inr x) := fun z => h (Sum.inr.inj z)
      simpa [lookS, lookD, List.find?_cons, h, h2] using ih
theorem dlook_dct (l : List (Str × PyData)) (x : Str) : dlook (.k (l.map fun p => (Sum.inr p.1, SV.fz p.2))) (.str x) = some ((lookD l x).map SV.fz) := by
  simp [dlook, keyOf, lookS_dct]
theorem subOf_dct (l : List (Str × PyData)) (x : Str) : subOf P (.fz (dctD l)) (.str x) = (lookD l x).map SV.fz := by
  simp [subOf, dlook_dct]
theorem inOf_dct (l : List (Str × PyData)) (x : Str) : inOf P (.str x) (.fz (dctD l)) = some (lookD l x).isSome := by
  simp [inOf, dlook_dct]
theorem isKD_dct (l : List (Str × PyData)) : (l.map fun p => (PyData.str p.1, p.2)).all (fun p => isKD p.1) = true := by
  induction l with
  | nil => rfl
  | cons p r ih => simpa [isKD] using ih
theorem keysD_dct (l : List (Str × PyData)) : keysD (l.map fun p => (PyData.str p.1, p.2)) = l.map fun p => .str p.1 := by
  simp [keysD, Function.comp_def]
end
/-! ranges -/
theorem rg2 (n : Nat) (hn : n ≤ 4000) : -(2 ^ 62) ≤ (n : Int) ∧ (n : Int) < 2 ^ 62 := by
  have h1 : (0 : Int) ≤ n := Int.natCast_nonneg n
  have h2 : (n : Int) ≤ 4000 := by omega
  exact ⟨Int.le_trans (by decide) h1, Int.lt_of_le_of_lt h2 (by decide)⟩
def rgF (P1 : Store) (l : List SV) : Option (List PyData × SV × Store) := match l with
  | [.fz (.int j)] => if -(2 ^ 62) ≤ j ∧ j < 2 ^ 62 then some (rangeD 0 j.toNat, .fz .none, P1) else none
  | [.fz (.int i), .fz (.int j)] => if -(2 ^ 62) ≤ i ∧ i < 2 ^ 62 ∧ -(2 ^ 62) ≤ j ∧ j < 2 ^ 62 then some (rangeD i (j - i).toNat, .fz .none, P1) else none
  | _ => none
theorem iR (g : AM) (ρ : EV) (P : Store) : iRange g ρ P = (g ρ P).bind fun x => rgF x.2 x.1 := rfl
theorem rgF1 (P1 : Store) (j : Int) : rgF P1 [.fz (.int j)] = if -(2 ^ 62) ≤ j ∧ j < 2 ^ 62 then some (rangeD 0 j.toNat, .fz .none, P1) else none := rfl
theorem rgF2 (P1 : Store) (j : Int) (h : -(2 ^ 62) ≤ j ∧ j < 2 ^ 62) : rgF P1 [.fz (.int j)] = some (rangeD 0 j.toNat, .fz .none, P1) := by
  rw [rgF1]; exact if_pos h
theorem iRange_nat {g : AM} {ρ : EV} {P P1 : Store} {n : Nat} (hg : g ρ P = some ([.fz (.int n)], P1)) (hn : n ≤ 4000) : iRange g ρ P = some (rangeD 0 n, .fz .none, P1) := by
  rw [iR, hg, Option.bind_some]
  show rgF P1 [.fz (.int n)] = _
  rw [rgF2 P1 n (rg2 n hn), Int.toNat_natCast]
end Pd

set_option Elab.async false
set_option linter.all false
set_option maxRecDepth 100000
set_option maxHeartbeats 1000000
/-! The layer Pd, part R: what a mirror ends with. -/
namespace Pd
open PySem PySem.Spec PyProof.Rows L2
/-- the mirror ends, with something that Q holds of -/
inductive Tg {α : Type} (Q : α → Prop) : Type
  | o | p
/-- (the mark t keeps simp out of Q) -/
def W {α : Type} (x : Option α) (Q : α → Prop) (t : Tg Q := .o) : Prop := ∃ a, x = some a ∧ Q a
section
variable {α β : Type}
@[simp] theorem W_some (a : α) (Q : α → Prop) : W (some a) Q = Q a := propext ⟨fun ⟨_, e, q⟩ => (by cases e; exact q), fun q => ⟨a, rfl, q⟩⟩
@[simp] theorem W_bind (x : Option α) (f : α → Option β) (Q : β → Prop) : W (x.bind f) Q = W x fun a => W (f a) Q := by
  cases x with
  | none => exact propext ⟨fun ⟨_, e, _⟩ => (by cases e), fun ⟨_, e, _⟩ => (by cases e)⟩
  | some a => rw [Option.bind_some, W_some]
@[simp] theorem W_map (x : Option α) (f : α → β) (Q : β → Prop) : W (x.map f) Q = W x fun a => Q (f a) := by
  cases x with
  | none => exact propext ⟨fun ⟨_, e, _⟩ => (by cases e), fun ⟨_, e, _⟩ => (by cases e)⟩
  | some a => rw [Option.map_some, W_some, W_some]
@[simp] theorem W_none (Q : α → Prop) : W none Q = False := propext ⟨fun ⟨_, e, _⟩ => (by cases e), False.elim⟩
theorem W.mono {x : Option α} {Q Q' : α → Prop} (h : W x Q) (q : ∀ a, Q a → Q' a) : W x Q' := let ⟨a, e, h⟩ := h; ⟨a, e, q a h⟩
theorem W.eq {x : Option α} {a : α} (h : x = some a) {Q : α → Prop} (q : Q a) : W x Q := ⟨a, h, q⟩
theorem W.of {x : Option α} {a : α} (h : W x fun b => b = a) : x = some a := let ⟨b, e, h⟩ := h; h ▸ e
/-- two ends of one thing -/
theorem W.two {x : Option α} {Q Q' : α → Prop} (h : W x Q) (h' : W x Q') : W x fun a => Q a ∧ Q' a := by
  obtain ⟨a, e, q⟩ := h
  obtain ⟨b, e', q'⟩ := h'
  rw [e] at e'; cases e'
  exact ⟨a, e, q, q'⟩
end
/-- for, no way out -/
theorem W_for {g : GM} {body : SM} {ρ : EV} {P : Store} {Q : Fl × EV × Store → Prop} {items : List PyData} (I : Nat → EV → Store → Prop) (h0 : I 0 ρ P)
    (hs : ∀ (i : Nat) (d : PyData) (ρ : EV) (P : Store), items[i]? = some d → I i ρ P → W (g (.fz d) ρ P) fun r => W (body r.1 r.2) fun r => (r.1 = .nx ∨ r.1 = .ct) ∧ I (i + 1) r.2.1 r.2.2)
    (hQ : ∀ ρ P, I items.length ρ P → Q (.nx, ρ, P)) : W (forGo g body items ρ P) Q := by
  have key : ∀ (r : List PyData) (i : Nat) (ρ : EV) (P : Store), (∀ j d, r[j]? = some d → items[i + j]? = some d) → i + r.length = items.length → I i ρ P → W (forGo g body r ρ P) Q := by
    intro r
    induction r with
    | nil =>
      intro i ρ P _ hl h
      simp only [forGo, W_some]
      refine hQ ρ P ?_
      rw [← hl]; exact h
    | cons d r ih =>
      intro i ρ P hj hl h
      obtain ⟨⟨ρ1, P1⟩, e1, ⟨fl, ρ2, P2⟩, e2, h3, h4⟩ := hs i d ρ P (hj 0 d rfl) h
      simp only [forGo, e1, Option.bind_some]
      have := ih (i + 1) ρ2 P2 (fun j d' hd => by have := hj (j + 1) d' (by simpa using hd); rw [show i + 1 + j = i + (j + 1) by omega]; exact this) (by simp at hl; omega) h4
      simp only at e2
      rw [e2]
      simp only at h3
      rcases h3 with rfl | rfl
      · exact this
      · exact this
  exact key items 0 ρ P (fun j d h => by simpa using h) (by simp) h0
/-- for, with a way out -/
theorem W_forR {g : GM} {body : SM} {ρ : EV} {P : Store} {Q : Fl × EV × Store → Prop} {items : List PyData} (I : Nat → EV → Store → Prop) (h0 : I 0 ρ P)
    (hs : ∀ (i : Nat) (d : PyData) (ρ : EV) (P : Store), items[i]? = some d → I i ρ P → W (g (.fz d) ρ P) fun r => W (body r.1 r.2) fun r => (r.1 = .nx ∧ I (i + 1) r.2.1 r.2.2) ∨ (r.1 = .ct ∧ I (i + 1) r.2.1 r.2.2) ∨ (r.1 = .bk ∧ Q (.nx, r.2)) ∨ (∃ s, r.1 = .rt s ∧ Q r))
    (hQ : ∀ ρ P, I items.length ρ P → Q (.nx, ρ, P)) : W (forGo g body items ρ P) Q := by
  have key : ∀ (r : List PyData) (i : Nat) (ρ : EV) (P : Store), (∀ j d, r[j]? = some d → items[i + j]? = some d) → i + r.length = items.length → I i ρ P → W (forGo g body r ρ P) Q := by
    intro r
    induction r with
    | nil =>
      intro i ρ P _ hl h
      simp only [forGo, W_some]
      refine hQ ρ P ?_
      rw [← hl]; exact h
    | cons d r ih =>
      intro i ρ P hj hl h
      obtain ⟨⟨ρ1, P1⟩, e1, ⟨fl, ρ2, P2⟩, e2, h3⟩ := hs i d ρ P (hj 0 d rfl) h
      simp only [forGo, e1, Option.bind_some]
      have := fun h4 => ih (i + 1) ρ2 P2 (fun j d' hd => by have := hj (j + 1) d' (by simpa using hd); rw [show i + 1 + j = i + (j + 1) by omega]; exact this) (by simp at hl; omega) h4
      simp only at e2
      rw [e2]
      simp only at h3
      rcases h3 with ⟨rfl, h4⟩ | ⟨rfl, h4⟩ | ⟨rfl, h4⟩ | ⟨s, rfl, h4⟩
      · exact this h4
      · exact this h4
      · exact ⟨_, rfl, h4⟩
      · exact ⟨_, rfl, h4⟩
  exact key items 0 ρ P (fun j d h => by simpa using h) (by simp) h0
/-- what comes behind a turn -/
def whK (c : BM) (body : SM) (n : Nat) : Fl × EV × Store → Option (Fl × EV × Store)
  | (.nx, ρ2, P2) => whGo c body n ρ2 P2
  | (.ct, ρ2, P2) => whGo c body n ρ2 P2
  | (.bk, ρ2, P2) => some (.nx, ρ2, P2)
  | (.rt s, ρ2, P2) => some (.rt s, ρ2, P2)
theorem whGo_t {c : BM} {body : SM} {n : Nat} {ρ : EV} {P P1 : Store} (h : c ρ P = some (true, P1)) : whGo c body (n + 1) ρ P = (body ρ P1).bind (whK c body n) := by
  simp only [whGo, h, Option.bind_some, if_true]
  cases body ρ P1 with
  | none => rfl
  | some r =>
    obtain ⟨fl, ρ2, P2⟩ := r
    cases fl <;> rfl
theorem whGo_T {body : SM} {n : Nat} {ρ : EV} {P : Store} : whGo (mTB (mC (.bool true))) body (n + 1) ρ P = (body ρ P).bind (whK (mTB (mC (.bool true))) body n) := whGo_t rfl
@[simp] theorem whK_nx {c : BM} {body : SM} {n : Nat} {ρ : EV} {P : Store} : whK c body n (.nx, ρ, P) = whGo c body n ρ P := rfl
@[simp] theorem whK_rt {c : BM} {body : SM} {n : Nat} {ρ : EV} {P : Store} {s : SV} : whK c body n (.rt s, ρ, P) = some (.rt s, ρ, P) := rfl
/-- while -/
theorem W_while {c : BM} {body : SM} {Q : Fl × EV × Store → Prop} (I : Nat → EV → Store → Prop)
    (hs : ∀ (k : Nat) (ρ : EV) (P : Store), I k ρ P → W (c ρ P) fun r => if r.1 = true then W (body ρ r.2) fun s => match s.1 with
      | .nx => ∃ j, j < k ∧ I j s.2.1 s.2.2
      | .ct => ∃ j, j < k ∧ I j s.2.1 s.2.2
      | .bk => Q (.nx, s.2)
      | .rt x => Q (.rt x, s.2)
      else Q (.nx, ρ, r.2)) : ∀ {n k : Nat} {ρ : EV} {P : Store}, I k ρ P → k < n → W (whGo c body n ρ P) Q := by
  intro n
  induction n with
  | zero => intro k ρ P _ h; omega
  | succ n ih =>
    intro k ρ P h hk
    obtain ⟨⟨b, P1⟩, e1, h1⟩ := hs k ρ P h
    simp only [whGo, e1, Option.bind_some]
    simp only at h1
    by_cases hb : b = true
    · rw [if_pos hb] at h1 ⊢
      obtain ⟨⟨fl, ρ2, P2⟩, e2, h2⟩ := h1
      rw [e2]
      simp only [Option.bind_some]
      cases fl with
      | nx =>
        obtain ⟨j, hj, h3⟩ := h2
        exact ih h3 (by omega)
      | ct =>
        obtain ⟨j, hj, h3⟩ := h2
        exact ih h3 (by omega)
      | bk => exact ⟨_, rfl, h2⟩
      | rt s => exact ⟨_, rfl, h2⟩
    · rw [if_neg hb] at h1 ⊢
      exact ⟨_, rfl, h1⟩
/-- a comprehension that may change the cells of before -/
theorem W_lc {own : List Nat} {f : IM} {g : GM} {tt : BM} {te : XM} {ρ : EV} {P P1 : Store} {items : List PyData} {src : SV} {Q : SV × Store → Prop} (I : Nat → List PyData → Store → Prop)
    (hf : f ρ P = some (items, src, P1)) (hl : items.length ≤ sizeLine) (h0 : I 0 [] P1)
    (hs : ∀ (i : Nat) (d : PyData) (acc : List PyData) (S : Store), items[i]? = some d → I i acc S → S.length = P1.length → W (g (.fz d) { ρ.wipe own with b := P1.length } (S ++ [.lst (acc.map SV.fz)])) fun r => W (tt r.1 r.2) fun t =>
      if t.1 = true then W (te r.1 t.2) fun u => ∃ z S', u = (.fz z, S' ++ [.lst (acc.map SV.fz)]) ∧ S'.length = P1.length ∧ I (i + 1) (acc ++ [z]) S'
      else ∃ S', t.2 = S' ++ [.lst (acc.map SV.fz)] ∧ S'.length = P1.length ∧ I (i + 1) acc S')
    (hQ : ∀ acc S, I items.length acc S → S.length = P1.length → acc.length ≤ items.length → Q (.fz (.list acc), S)) : W (mLC own f g tt te ρ P) Q := by
  have key : ∀ (r : List PyData) (i : Nat) (acc : List PyData) (S : Store), (∀ j d, r[j]? = some d → items[i + j]? = some d) → i + r.length = items.length → acc.length ≤ i → S.length = P1.length → I i acc S →
      ∃ acc' S', lcGo g tt te { ρ.wipe own with b := P1.length } P1.length r (S ++ [.lst (acc.map SV.fz)]) = some (S' ++ [.lst (acc'.map SV.fz)]) ∧ I items.length acc' S' ∧ S'.length = P1.length ∧ acc'.length ≤ items.length := by
    intro r
    induction r with
    | nil =>
      intro i acc S _ hl ha hS h
      simp only [List.length_nil, Nat.add_zero] at hl
      exact ⟨acc, S, rfl, by rw [← hl]; exact h, hS, by omega⟩
    | cons d r ih =>
      intro i acc S hj hl ha hS h
      simp only [List.length_cons] at hl
      have hj' : ∀ j d', r[j]? = some d' → items[i + 1 + j]? = some d' := fun j d' hd => by have := hj (j + 1) d' (by simpa using hd); rw [show i + 1 + j = i + (j + 1) by omega]; exact this
      obtain ⟨⟨ρ1, S1⟩, e1, ⟨b, S2⟩, e2, h3⟩ := hs i d acc S (hj 0 d rfl) h hS
      simp only at e2 h3
      simp only [lcGo, e1, e2, Option.bind_some]
      by_cases hb : b = true
      · rw [if_pos hb] at h3 ⊢
        obtain ⟨⟨s, S3⟩, e3, z, S', e4, hS', h4⟩ := h3
        cases e4
        have hn : (S' ++ [Cell.lst (acc.map SV.fz)])[P1.length]? = some (.lst (acc.map SV.fz)) := by rw [← hS']; simp
        have hset : (S' ++ [Cell.lst (acc.map SV.fz)]).set P1.length (.lst (acc.map SV.fz ++ [.fz z])) = S' ++ [.lst ((acc ++ [z]).map SV.fz)] := by
          rw [← hS', List.set_append_right _ _ (Nat.le_refl _)]; simp
        simp only [e3, Option.bind_some, hn]
        rw [if_pos (by simp; omega), hset]
        exact ih (i + 1) (acc ++ [z]) S' hj' (by omega) (by simp; omega) hS' h4
      · rw [if_neg hb] at h3 ⊢
        obtain ⟨S', e4, hS', h4⟩ := h3
        subst e4
        exact ih (i + 1) acc S' hj' (by omega) (by omega) hS' h4
  obtain ⟨acc, S, e, h, hS, ha⟩ := key items 0 [] P1 (fun j d h => by simpa using h) (by simp) (Nat.le_refl _) rfl h0
  refine ⟨(.fz (.list acc), S), ?_, hQ acc S h hS ha⟩
  simp only [List.map_nil] at e
  have hn : (S ++ [Cell.lst (acc.map SV.fz)])[P1.length]? = some (.lst (acc.map SV.fz)) := by rw [← hS]; simp
  simp only [mLC, hf, Option.bind_some, e, hn, fzs_map, Option.map_some]
  rw [← hS]
  simp
/-- of a def: its body ends with a value, the cells of before stay -/
theorem W_fun {ex : Nat → SV → Store → Option (SV × Store)} {nN : Nat} {body : SM} {args : List SV} {P : Store} {Q : SV × Store → Prop}
    (h : W (body { b := P.length, sl := startE nN args } P) fun r => match r.1 with
      | .rt s => W (ex P.length s r.2.2) Q
      | .nx => W (ex P.length (.fz .none) r.2.2) Q
      | _ => False) : W (mFun ex nN body args P) Q := by
  obtain ⟨⟨fl, ρ, P2⟩, e, h⟩ := h
  rw [mFun_ap, e, Option.bind_some]
  cases fl with
  | rt s => exact h
  | nx => exact h
  | bk => exact h.elim
  | ct => exact h.elim
end Pd

set_option Elab.async false
set_option linter.all false
set_option maxRecDepth 100000
set_option maxHeartbeats 1000000
/-! The layer Pd, part T: data in order: sorted, <, min, max. -/
namespace Pd
open PySem PySem.Spec PyProof.Rows L2
open PySem.W (AllAlike Sortable dataLe EachIs alike dataLt)
/-! ### sorted(xs), xs a list of data -/
def rSortA (K : PySem.W.Frag) : List V → Hp → VK → Prop := fun vs H Q => ∃ (a : Addr) (bs : List (V × PyData)), vs = [.ref a] ∧ SqL K H a (bs.map (·.1)) ∧ (∀ b ∈ bs, Dp K H b.1 b.2) ∧ AllAlike (bs.map (·.2)) ∧ Sortable (bs.map (·.2)) ∧ (∀ b ∈ bs, b.2.depth ≤ 63) ∧
  ∀ p, H p = none → Q (.ref p) (upd H p (.lst ((bs.mergeSort (dataLe false (·.2))).map (·.1))))
theorem each_rel : ∀ {us : List Value} {bs : List (V × PyData)}, Vals (bs.map (·.1)) us → EachIs (fun v (b : V × PyData) => RelV b.1 v) us bs
  | _, [], h => by cases h; exact .nil
  | _, b :: bs, h => by
    cases h with
    | cons r t => exact .cons r (each_rel t)
theorem rel_each : ∀ {us : List Value} {bs : List (V × PyData)}, EachIs (fun v (b : V × PyData) => RelV b.1 v) us bs → Vals (bs.map (·.1)) us
  | _, [], h => by cases h; exact .nil
  | _, b :: bs, h => by
    cases h with
    | cons r t => exact .cons r (rel_each t)
section
variable {X : Cx}
theorem each_reads {pins : List (Addr × Obj)} {σ : L2.St} {H : Hp} {s : Shared} (I : Inv X pins σ H s) : ∀ {us : List Value} {bs : List (V × PyData)}, EachIs (fun v (b : V × PyData) => RelV b.1 v) us bs → (∀ b ∈ bs, Dp X.K H b.1 b.2) → EachIs (fun v (b : V × PyData) => ∃ as, Reads s.heap v b.2 as) us bs
  | _, [], h, _ => by cases h; exact .nil
  | _, b :: bs, h, hd => by
    cases h with
    | cons r t => exact .cons (Dp.reads I b.2 b.1 _ (hd b List.mem_cons_self) r) (each_reads I t fun c hc => hd c (List.mem_cons_of_mem _ hc))
theorem cr_sortA (hu : X.A.units + 65 < cLine) : CallR X (.builtin "sorted") (rSortA X.K) := by
  intro pins s σ H vs us Q I r h
  obtain ⟨a, bs, rfl, hs, hd, hal, hk, hdep, q⟩ := h
  obtain ⟨its, rv, hl, hz⟩ := I.list hs
  rw [Vals.ref1 r]
  have e := each_rel rv
  have er := each_reads I e hd
  have hlen : bs.length ≤ sizeLine := by
    rw [List.length_map] at hz
    exact hz
  refine PySem.W.sorted_data (enc := fun b : V × PyData => b.2) hl.isList e er hal hk hlen (fun b hb => by have := hdep b hb; omega) fun out h1 eo => ?_
  obtain ⟨ep, he'⟩ := PyProof.Rows.sortedAll_at s.heap its (List.toArray out)
  refine ⟨.ref _, upd H (s.heap.objs.size + 1) (.lst ((bs.mergeSort (dataLe false (·.2))).map (·.1))), I.laid (t' := s.toks) (fun _ _ => PyProof.Rows.sortedAll_old) (Nat.le_succ _) ⟨?_, out, ep, rel_each eo, he'⟩, rfl, q _ (I.hok.fresh (Nat.le_succ _))⟩
  rw [List.length_map, List.length_mergeSort]
  exact hlen
/-- what sorted takes -/
def tupN : PyData → Bool
  | .tuple (_ :: _) => true
  | _ => false
def notT : PyData → Bool
  | .tuple _ => false
  | .none => false
  | _ => true
def sortOk (ds : List PyData) : Bool := (ds.all fun d => ds.all fun e => alike d e) && ((ds.all tupN || ds.all notT) && SeqAt.shaped (.list ds))
theorem sortOk_of {ds : List PyData} (h : sortOk ds = true) : AllAlike ds ∧ Sortable ds ∧ SeqAt.shaped (.list ds) = true := by
  simp only [sortOk, Bool.and_eq_true, Bool.or_eq_true, List.all_eq_true] at h
  obtain ⟨h1, h2, h3⟩ := h
  refine ⟨fun d hd e he => h1 d hd e he, ?_, h3⟩
  rcases h2 with h2 | h2
  · refine .inl fun d hd => ?_
    have := h2 d hd
    unfold tupN at this
    split at this
    · exact ⟨_, _, rfl⟩
    · cases this
  · refine .inr fun d hd => ?_
    have := h2 d hd
    unfold notT at this
    split at this
    · cases this
    · cases this
    · rename_i n1 n2
      exact ⟨fun e => n2 e, fun xs e => n1 xs e⟩
def sortD (ds : List PyData) : List PyData := ds.mergeSort (dataLe false fun d : PyData => d)
def gSortL : List PyData → Option PyData
  | [.list ds] => if sortOk ds = true then some (.list (sortD ds)) else none
  | _ => none
theorem fza_zip {K : PySem.W.Frag} {F : Hp} : ∀ {us : List V} {ds : List PyData}, FzA K F us ds → ∀ b ∈ us.zip ds, Fz K F b.1 b.2
  | _, _, .nil, b, h => by simp at h
  | _, _, .cons a t, b, h => by
    simp only [List.zip_cons_cons, List.mem_cons] at h
    rcases h with rfl | h
    · exact a
    · exact fza_zip t b h
theorem zip_fza {K : PySem.W.Frag} {F : Hp} : ∀ {bs : List (V × PyData)}, (∀ b ∈ bs, Fz K F b.1 b.2) → FzA K F (bs.map (·.1)) (bs.map (·.2))
  | [], _ => .nil
  | b :: bs, h => .cons (h b List.mem_cons_self) (zip_fza fun c hc => h c (List.mem_cons_of_mem _ hc))
theorem lay_mem : ∀ {ds : List PyData}, PyData.canLayAll0 ds = true → ∀ d ∈ ds, d.canLay0 = true ∧ d.depth ≤ PyData.depthAll ds
  | [], _, d, h => by simp at h
  | e :: r, h, d, hd => by
    simp only [PyData.canLayAll0, Bool.and_eq_true] at h
    simp only [PyData.depthAll]
    rcases List.mem_cons.mp hd with rfl | hd
    · exact ⟨h.1, by omega⟩
    · have := lay_mem h.2 d hd
      exact ⟨this.1, by omega⟩
theorem shaped_mem {ds : List PyData} (h : SeqAt.shaped (.list ds) = true) : ∀ d ∈ ds, d.canLay0 = true ∧ d.depth ≤ 63 := by
  intro d hd
  have h1 : PyData.canLayAll0 ds = true := by simpa [PyData.canLay0] using SeqAt.canLay_of_shaped h
  have h2 := SeqAt.depth_of_shaped h
  simp only [PyData.depth] at h2
  have := lay_mem h1 d hd
  exact ⟨this.1, by omega⟩
theorem calld_sortL (hu : X.A.units + 65 < cLine) : CallD X (.builtin "sorted") gSortL := by
  refine ⟨_, cr_sortA hu, fun F H xs ds z Q s vx eq q => ?_⟩
  unfold gSortL at eq
  split at eq
  · rename_i ds
    split at eq
    · rename_i hk
      cases eq
      obtain ⟨h1, h2, h3⟩ := sortOk_of hk
      cases vx with
      | cons a t =>
        cases t
        obtain ⟨p, us, rfl, hp, t⟩ := a.lists s
        have m1 : (us.zip ds).map (·.1) = us := List.map_fst_zip (by rw [t.length]; exact Nat.le_refl _)
        have m2 : (us.zip ds).map (·.2) = ds := List.map_snd_zip (by rw [t.length]; exact Nat.le_refl _)
        have sm : ((us.zip ds).mergeSort (dataLe false (·.2))).map (·.2) = sortD ds := by
          have := PySem.W.sort_maps (r := dataLe false fun b : V × PyData => b.2) (s := dataLe false fun d : PyData => d) (fun b : V × PyData => b.2) (l := us.zip ds) fun _ _ _ _ => rfl
          rw [m2] at this
          exact this
        have mem : ∀ b ∈ us.zip ds, b.2 ∈ ds := fun b hb => by
          rw [← m2]; exact List.mem_map.mpr ⟨b, hb, rfl⟩
        refine ⟨p, us.zip ds, rfl, by rw [m1]; exact hp, fun b hb => (fza_zip t b hb).dp s (shaped_mem h3 _ (mem b hb)).1, by rw [m2]; exact h1, by rw [m2]; exact h2, fun b hb => (shaped_mem h3 _ (mem b hb)).2, fun p n => ?_⟩
        refine q _ _ _ (.one n) (.lst (.of upd_same) ?_)
        have hz := zip_fza (K := X.K) (F := F) (bs := (us.zip ds).mergeSort (dataLe false (·.2))) fun b hb => fza_zip t b ((List.mergeSort_perm _ _).mem_iff.mp hb)
        rw [sm] at hz
        exact hz.mono (upd_le (s.none n))
    · cases eq
  · cases eq
/-! ### sorted(d), d a dict whose keys are texts -/
def strLe (x y : Str) : Bool := decide (x.cps.toList ≤ y.cps.toList)
def sortS (xs : List Str) : List Str := xs.mergeSort strLe
theorem str_ext {x y : Str} (h : x.cps.toList = y.cps.toList) : x = y := by
  cases x; cases y
  simp only [Str.mk.injEq]
  exact Array.toList_inj.mp h
theorem strLe_trans (a b c : Str) (h1 : strLe a b = true) (h2 : strLe b c = true) : strLe a c = true := by
  simp only [strLe, decide_eq_true_eq] at *
  exact List.le_trans h1 h2
theorem strLe_total (a b : Str) : (strLe a b || strLe b a) = true := by
  simp only [strLe, Bool.or_eq_true, decide_eq_true_eq]
  exact List.le_total _ _
theorem strLe_antisymm (a b : Str) (h1 : strLe a b = true) (h2 : strLe b a = true) : a = b := by
  simp only [strLe, decide_eq_true_eq] at *
  exact str_ext (List.le_antisymm h1 h2)
theorem sortS_pairwise (xs : List Str) : (sortS xs).Pairwise fun a b => strLe a b = true := List.pairwise_mergeSort strLe_trans strLe_total xs
theorem sortS_perm (xs : List Str) : (sortS xs).Perm xs := List.mergeSort_perm _ _
theorem sortS_one {xs ys : List Str} (hp : ys.Perm xs) (hs : ys.Pairwise fun a b => strLe a b = true) : ys = sortS xs :=
  List.Perm.eq_of_pairwise (fun a b _ _ h1 h2 => strLe_antisymm a b h1 h2) hs (sortS_pairwise xs) (hp.trans (sortS_perm xs).symm)
theorem sortD_strs (xs : List Str) : sortD (xs.map .str) = (sortS xs).map .str := by
  have := PySem.W.sort_maps (r := strLe) (s := dataLe false fun d : PyData => d) PyData.str (l := xs) fun a _ b _ => by
    show strLe a b = !dataLt (.str b) (.str a)
    rw [PySem.W.dataLt_str, PySem.W.not_lt_str]; rfl
  exact this.symm
theorem rising_pw : ∀ (l : List Str) (p : Str), risingS p l = true → (p :: l).Pairwise fun a b => strLe a b = true
  | [], p, _ => by simp
  | x :: r, p, h => by
    simp only [risingS, Bool.and_eq_true] at h
    have ih := rising_pw r x h.2
    have hx : strLe p x = true := by
      have h1 : (!decide (x.cps.toList < p.cps.toList)) = true := by
        have h1 := h.1
        rw [ltCps_eq] at h1
        exact h1
      rw [PySem.W.not_lt_str] at h1
      exact h1
    refine List.pairwise_cons.mpr ⟨fun y hy => ?_, ih⟩
    rcases List.mem_cons.mp hy with rfl | hy
    · exact hx
    · exact strLe_trans p x y hx ((List.pairwise_cons.mp ih).1 y hy)
theorem sorted_pw {l : List Str} (h : sortedS l = true) : l.Pairwise fun a b => strLe a b = true := by
  cases l with
  | nil => simp
  | cons x r => exact rising_pw r x h
def strKeys : List (PyData × PyData) → Option (List Str)
  | [] => some []
  | (.str x, _) :: r => (strKeys r).map (x :: ·)
  | _ :: _ => none
theorem strKeys_isKD : ∀ {kvs : List (PyData × PyData)} {ks : List Str}, strKeys kvs = some ks → kvs.all (fun p => isKD p.1) = true ∧ keysD kvs = ks.map .str
  | [], ks, h => by simp only [strKeys, Option.some.injEq] at h; subst h; exact ⟨rfl, rfl⟩
  | (d, v) :: r, ks, h => by
    cases d with
    | str x =>
      simp only [strKeys, Option.map_eq_some_iff] at h
      obtain ⟨l, h1, rfl⟩ := h
      obtain ⟨h2, h3⟩ := strKeys_isKD h1
      exact ⟨by simp only [List.all_cons, Bool.and_eq_true]; exact ⟨rfl, h2⟩, by simp only [keysD, List.map_cons] at h3 ⊢; rw [h3]⟩
    | _ => simp [strKeys] at h
def gSortK : List PyData → Option PyData
  | [.dict kvs] => (strKeys kvs).bind fun ks => if ks.length < 64 then some (.list ((sortS ks).map .str)) else none
  | _ => none
theorem fza_strs {K : PySem.W.Frag} {F : Hp} : ∀ l : List Str, FzA K F (l.map V.str) (l.map PyData.str)
  | [] => .nil
  | c :: r => .cons (.str c) (fza_strs r)
theorem keys_inr : ∀ {ks : List Key} {xs : List Str}, ks.map keyD = xs.map .str → ks = xs.map Sum.inr
  | [], [], _ => rfl
  | [], _ :: _, h => by simp at h
  | _ :: _, [], h => by simp at h
  | k :: ks, x :: xs, h => by
    simp only [List.map_cons, List.cons.injEq] at h
    rw [List.map_cons, keys_inr h.2]
    cases k with
    | inl i => simp [keyD] at h
    | inr y => simp only [keyD, PyData.str.injEq] at h; rw [h.1]
theorem calld_sortK (hc : X.calm = true) : CallD X (.builtin "sorted") gSortK := by
  refine ⟨_, call_sortedD hc, fun F H xs ds z Q s vx eq q => ?_⟩
  unfold gSortK at eq
  split at eq
  · rename_i kvs
    simp only [Option.bind_eq_some_iff] at eq
    obtain ⟨ks, e1, e2⟩ := eq
    split at e2
    · rename_i h64
      cases e2
      obtain ⟨hk, hkd⟩ := strKeys_isKD e1
      cases vx with
      | cons a t =>
        cases t
        obtain ⟨d, ks', us, rfl, hp, hl, hkeys⟩ := Vw.dct a s hk
        rw [hkd] at hkeys
        have hin := keys_inr hkeys.symm
        refine ⟨d, _, ks, rfl, hp, ?_, h64, fun ys p hperm hs n => ?_⟩
        · rw [List.map_fst_zip (by omega), hin]
        · rw [sortS_one hperm (sorted_pw hs)]
          exact q _ _ _ (.one n) (.lst (.of upd_same) (fza_strs _))
    · cases e2
  · cases eq
def gSorted : List PyData → Option PyData := fun ds => (gSortL ds).or (gSortK ds)
theorem calld_sorted (hc : X.calm = true) (hu : X.A.units + 65 < cLine) : CallD X (.builtin "sorted") gSorted := (calld_sortL hu).or (calld_sortK hc)
end
end Pd

set_option Elab.async false
set_option linter.all false
set_option maxRecDepth 100000
set_option maxHeartbeats 1000000
/-! The layer Pd, part U: x[::-1], d.get(k), dict(d). -/
namespace HT
open PySem PySem.Spec PyProof.Rows L2
section
variable {prog : Program} {w : World} {A : Around} {E : Value → Shared → Prop} {s : Shared}
theorem back_adjust (n : Nat) : Builtin.Slice.sliceAdjust none none (-1) (n : Int) = ((n : Int) - 1, -1) := by
  unfold Builtin.Slice.sliceAdjust
  simp
theorem back_places (n : Nat) : Builtin.Slice.slicePlaces ((n : Int) - 1) (-1) (-1) = n := by
  unfold Builtin.Slice.slicePlaces
  have h1 : ¬ ((-1 : Int) > 0) := by decide
  simp only [h1, if_false]
  by_cases h : (n : Int) - 1 > -1
  · rw [if_pos h]
    have : ((n : Int) - 1 - -1 - 1) / (- -1) = (n : Int) - 1 := by
      rw [show (- -1 : Int) = 1 by decide, Int.ediv_one]; omega
    rw [this]; omega
  · rw [if_neg h]
    simp; omega
theorem fm_congr {α β : Type} {f g : α → Option β} : ∀ {l : List α}, (∀ a ∈ l, f a = g a) → l.filterMap f = l.filterMap g
  | [], _ => rfl
  | a :: l, h => by
    rw [List.filterMap_cons, List.filterMap_cons, h a List.mem_cons_self, fm_congr fun b hb => h b (List.mem_cons_of_mem _ hb)]
theorem back_pick (xs : Array Value) : ((List.range xs.size).filterMap fun (m : Nat) => xs[(((xs.size : Int) - 1) + (m : Int) * (-1)).toNat]?).toArray = xs.toList.reverse.toArray := by
  have e1 : (List.range xs.size).filterMap (fun (m : Nat) => xs[(((xs.size : Int) - 1) + (m : Int) * (-1)).toNat]?) = ((List.range xs.size).map fun k => xs.size - 1 - k).filterMap (xs[·]?) := by
    rw [List.filterMap_map]
    refine fm_congr fun m hm => ?_
    have := List.mem_range.mp hm
    have e : (((xs.size : Int) - 1) + (m : Int) * (-1)).toNat = xs.size - 1 - m := by omega
    simp only [Function.comp_apply, e]
  rw [e1, PySem.W.krv_range, List.filterMap_reverse, PySem.W.krv_all]
theorem back_applied {sl : Addr} {vs : Value} {n : Nat} {Q : Int × Int × Nat → Shared → Prop} (hsl : s.heap.IsSliceOf sl .none .none vs) (pst : IsPart vs (some (-1)))
    (hq : Q ((n : Int) - 1, -1, n) s) : wpAny (model prog w) A (Builtin.Slice.sliceApplied (.ref sl) (pure (n : Int))) Q E s := by
  obtain ⟨ob, hob, _, hda⟩ := hsl
  unfold Builtin.Slice.sliceApplied Builtin.Slice.sliceFields
  have f0 := fun (R : Value → Shared → Prop) (h : R .none s) => wpAny_field (M := model prog w) (A := A) (E := E) (Q := R) hob hda (x := .none) (i := 0) rfl h
  refine wpAny_bind (wpAny_bind (f0 _ (wpAny_bind (wpAny_field hob hda (x := .none) (i := 1) rfl (wpAny_bind (wpAny_field hob hda (x := vs) (i := 2) rfl (wpAny_pure ?_)))))))
  refine wpAny_bind (slicePart_ pst ?_)
  show wpAny _ _ (if ((-1 : Int) == 0) = true then _ else _) _ _ s
  rw [if_neg (by decide)]
  refine wpAny_bind (slicePart_none (wpAny_bind (slicePart_none (wpAny_bind (wpAny_pure ?_)))))
  show wpAny _ _ (match Builtin.Slice.sliceAdjust none none (-1) (n : Int) with | (lo, hi) => pure (lo, (-1 : Int), Builtin.Slice.slicePlaces lo hi (-1))) _ _ s
  rw [back_adjust]
  show wpAny _ _ (pure ((n : Int) - 1, (-1 : Int), Builtin.Slice.slicePlaces ((n : Int) - 1) (-1) (-1))) _ _ s
  rw [back_places]
  exact wpAny_pure hq
/-- t[::-1], t a tuple -/
theorem back_tuple {t sl : Addr} {items : Array Value} {vs : Value} {Q : Value → Shared → Prop} (tup : IsTup s.heap t items) (hsl : s.heap.IsSliceOf sl .none .none vs) (pst : IsPart vs (some (-1)))
    (hq : Q (.ref s.heap.objs.size) { s with heap := s.heap.push { cls := .type "tuple", data := .seq items.toList.reverse.toArray } }) (small : items.size ≤ sizeLine) : wpAny (model prog w) A (getItem (.ref t) (.ref sl)) Q E s := by
  have room : sizeOk (.seq items.toList.reverse.toArray) := by
    show items.toList.reverse.toArray.size ≤ sizeLine
    simpa using small
  obtain ⟨ob, hob, hcl, _⟩ := id hsl
  have isSl : s.TypeIs (.ref sl) "slice" := ⟨ob, hob, hcl⟩
  unfold getItem
  try with_reducible refine wpAny_holding ?_
  first | refine wpAny_bind (wpAny_pure ?_) | skip
  refine wpAny_bind (wpAny_sequenceKey tup.typeIs (by decide) ?_)
  refine wpAny_bind (wpAny_callSpecial?_slot (name := Str.ofString "__getitem__") tup.typeIs PyProof.Rows.slot_tuple_getitem (wpAny_call_entry PyProof.Rows.slot_tuple_getitem tup.typeIs entry_tuple_getitem ?_ (args_tuple_getitem _ _)))
  show wpAny _ _ (Builtin.Tuple.tupleItemsOf (.ref t) >>= _) _ _ s
  refine wpAny_bind (tupleItemsOf_ tup (wpAny_bind (wpAny_typeOf isSl ?_)))
  rw [if_pos (by decide)]
  refine wpAny_bind (back_applied hsl pst ?_)
  have turned : ¬ ((((items.size : Int) - 1) == 0 && (-1 : Int) == 1 && items.size == items.size) = true) := by
    intro q
    rw [Bool.and_eq_true, Bool.and_eq_true] at q
    exact absurd q.1.2 (by decide)
  show wpAny _ _ (if (((items.size : Int) - 1) == 0 && (-1 : Int) == 1 && items.size == items.size) = true then _ else _) _ _ s
  rw [if_neg turned, back_pick]
  first
    | exact wpAny_bind (m := Builtin.Tuple.tupleExact _) (wpAny_newObj_type (wpAny_pure ⟨_, rfl, wpAny_pure hq⟩) room)
    | exact wpAny_bind (wpAny_bind (m := Builtin.Tuple.tupleExact _) (wpAny_newObj_type (wpAny_pure (wpAny_pure ⟨_, rfl, wpAny_pure hq⟩)) room))
    | exact wpAny_bind (wpAny_bind (m := Builtin.Tuple.tupleExact _) (wpAny_newObj_type (wpAny_pure ⟨_, rfl, wpAny_pure hq⟩) room))
    | exact wpAny_bind (m := Builtin.Tuple.tupleExact _) (wpAny_newObj_type (wpAny_bind (wpAny_pure (wpAny_pure ⟨_, rfl, wpAny_pure hq⟩))) room)
end
end HT
namespace Pd
open PySem PySem.Spec PyProof.Rows L2
/-- x[::-1] of a list or a tuple -/
def tRevA (K : PySem.W.Frag) (te : TE) : TE := fun σ H Q => te σ H fun x H1 => ∃ a xs, x = .ref a ∧ ((SqL K H1 a xs ∧ ∀ p, H1 p = none → Q (.ref p) (upd H1 p (.lst xs.reverse))) ∨ (SqT K H1 a xs ∧ TupQ H1 xs.reverse Q))
section
variable {X : Cx}
theorem pe_revAny {e : Expr} {te : TE} {k : Nat} {p1 p2 p3 pos : Pos} (he : PE X e te) : PE X (.Subscript e (.Slice none none (some (.UnaryOp .USub (.Constant (.int 1) k p1) p2)) p3) pos) (tRevA X.K te) := by
  refine ⟨fun pins s σ H Q I h => Subscript_ (thn (he.run pins s σ H _ I h) fun v s1 ⟨x, H1, I1, r1, a, xs, ex, hx⟩ => ?_)⟩
  subst ex
  cases r1
  have stp : PO X (some (.UnaryOp .USub (.Constant (.int 1) k p1) p2)) (tPart (tUn (rU fun i => .int (-i)) (tC (.int 1)))) := po_some (pe_un un_neg pe_int)
  refine wpAny_Slice ?_
  rw [evalPart_none]
  refine wpAny_pure (wpAny_pure (thn (stp.run pins s1 σ H1 (fun o H4 => o = some (-1) ∧ H4 = H1) I1 ⟨1, rfl, -1, rfl, rfl, rfl⟩) fun vs s4 ⟨o, H4, I4, ps, eo, e4⟩ => ?_))
  subst eo e4
  have I5 : Inv X pins σ H4 { s4 with heap := s4.heap.push { cls := .type "slice", data := .fields #[.none, .none, vs] } } := I4.kept (t' := s4.toks) fun b ob q => Heap.get?_push_of_some _ q
  have hsl := Heap.IsSliceOf.new s4.heap .none .none vs
  show wpAny (model X.prog X.w) X.A (subscriptTail e (.Slice none none (some (.UnaryOp .USub (.Constant (.int 1) k p1) p2)) p3) (.ref a) (.ref s4.heap.objs.size)) (EP X pins σ Q) X.xe { s4 with heap := s4.heap.push { cls := .type "slice", data := .fields #[.none, .none, vs] } }
  rcases hx with ⟨hx, q⟩ | ⟨hx, q⟩
  · obtain ⟨its, r, ht, hz⟩ := I5.list hx
    have hlen := r.length
    refine tail_any (ops := [.ref a, .ref s4.heap.objs.size]) ht.isList.typeIs PySem.slot_list_getitem.lookup ?_ (by with_unfolding_all rfl)
    refine wpAny_getItem_list_slice ht.isList hsl .none .none ps (by decide) ?_ (by rw [List.size_toArray]; omega)
    rw [PySem.W.krv_pick]
    exact ⟨.ref _, _, I5.laid (t' := s4.toks) (o := .lst xs.reverse) (fun b ob q => Heap.get?_push_of_some _ q) (Nat.le_refl _) ⟨by rw [List.length_reverse]; exact hz, _, 0, r.reverse, Heap.get?_push_size _ rfl⟩, rfl, q _ (I5.hok.fresh (Nat.le_refl _))⟩
  · obtain ⟨its, r, ht, hz⟩ := I5.tuple hx
    have hlen := r.length
    refine tail_any (ops := [.ref a, .ref s4.heap.objs.size]) ht.typeIs PyProof.Rows.slot_tuple_getitem.lookup ?_ (by with_unfolding_all rfl)
    refine HT.back_tuple ht hsl ps ?_ (by rw [List.size_toArray]; omega)
    exact q.run I5 (by rw [List.length_reverse]; exact hz) r.reverse
def dRev : PyData → Option PyData
  | .list ds => some (.list ds.reverse)
  | .tuple ds => some (.tuple ds.reverse)
  | _ => none
theorem FzA.reverse {K : PySem.W.Frag} {F : Hp} {vs : List V} {ds : List PyData} (h : FzA K F vs ds) : FzA K F vs.reverse ds.reverse := by
  induction vs generalizing ds with
  | nil => cases h; exact .nil
  | cons v vs ih =>
    cases h with
    | cons a t =>
      rw [List.reverse_cons, List.reverse_cons]
      exact (ih t).append (.cons a .nil)
theorem ped_rev {e : Expr} {f : XM} {k : Nat} {p1 p2 p3 pos : Pos} (he : PEd X e f) : PEd X (.Subscript e (.Slice none none (some (.UnaryOp .USub (.Constant (.int 1) k p1) p2)) p3) pos) (mUn dRev f) := by
  obtain ⟨t, p, h1⟩ := he
  refine ⟨_, pe_revAny p, fun bs ρ σ os vs P H Q r P' R e q => ?_⟩
  simp only [mUn, Option.bind_eq_some_iff, Option.map_eq_some_iff, Prod.mk.injEq] at e
  obtain ⟨⟨s1, P1⟩, e1, d, e2, z, e3, rfl, rfl⟩ := e
  refine h1 bs ρ σ os vs P H _ s1 P1 R e1 fun x H1 R1 => ?_
  obtain ⟨F, ad, R1⟩ := R1
  obtain ⟨r1, R2⟩ := R1.pop
  have vw := R2.view r1 e2
  unfold dRev at e3
  split at e3
  · cases e3
    obtain ⟨a, us, rfl, hp, t⟩ := vw.lists R2.sub
    refine ⟨a, us, rfl, .inl ⟨hp, fun p n => q _ _ ⟨_, ad, (R2.lay n).push ?_⟩⟩⟩
    exact .lst (.of upd_same) (t.reverse.mono (upd_le (R2.free n)))
  · cases e3
    obtain ⟨a, us, rfl, hp, t, _⟩ := vw.tups R2.sub
    exact ⟨a, us, rfl, .inr ⟨hp.sqT, tupQ_rel R2 t.reverse q⟩⟩
  · cases e3
/-- d.get(k) -/
def mGet1 (fd fk : XM) : XM := fun ρ P => (fd ρ P).bind fun (d, P1) => (dictOf P1 d).bind fun _ => (fk ρ P1).bind fun (k, P2) => (flat P2 k).bind fun kd => (dictOf P2 d).bind fun D => (dlook D kd).map fun o => (o.getD (.fz .none), P2)
theorem ped_get1 {o i : Expr} {fd fk : XM} {apos cpos : Pos} (hu : X.A.units + 65 < cLine) (hd : PEd X o fd) (hk : PEd X i fk) (m : M1 X o "get" apos i cpos := by exact ⟨rfl, rfl, rfl, rfl⟩) : PEd X (.Call (.Attribute o "get" apos) [i] [] cpos) (mGet1 fd fk) := by
  obtain ⟨t, p, h1⟩ := hd
  obtain ⟨u, p', h2⟩ := hk
  refine ⟨_, pe_dget1 (by omega) p p' m, fun bs ρ σ os vs P H Q w P' R e q => ?_⟩
  simp only [mGet1, Option.bind_eq_some_iff, Option.map_eq_some_iff, Prod.mk.injEq] at e
  obtain ⟨⟨s1, P1⟩, e1, D0, e0, ⟨s2, P2⟩, e2, kd, e4, D, e5, r, e6, rfl, rfl⟩ := e
  refine h1 bs ρ σ os vs P H _ s1 P1 R e1 fun x H1 R1 => ?_
  have ha : ∃ a, x = .ref a ∧ IsD H1 a := by
    obtain ⟨F, ad, R1⟩ := R1
    obtain ⟨r1, _⟩ := R1.pop
    obtain ⟨a, e, d⟩ := R1.dct r1 e0
    exact ⟨a, e, isD_of d⟩
  obtain ⟨a, rfl, hD⟩ := ha
  refine ⟨a, rfl, hD, h2 bs ρ σ _ _ P1 H1 _ s2 P2 R1 e2 fun y H2 R2 => ?_⟩
  obtain ⟨F, ad, R2⟩ := R2
  obtain ⟨r2, R3⟩ := R2.pop
  obtain ⟨r1, R4⟩ := R3.pop
  obtain ⟨a', ea, hd⟩ := R2.dct r1 e5
  cases ea
  rcases dget_of R2.sub hd (R2.view r2 e4) e6 with ⟨rfl, g⟩ | ⟨z', v, rfl, g, rr⟩
  · exact ⟨_, g, q _ _ ⟨F, ad, R4.push (show SVR X.K F ad .non (.fz .none) from Fz.non)⟩⟩
  · exact ⟨_, g, q _ _ ⟨F, ad, R4.push rr⟩⟩
/-- dict(d): a new dict that may change -/
def mDictC (f : XM) : XM := fun ρ P => (f ρ P).bind fun (a, P1) => (dictOf P1 a).bind fun D => match D with
  | .k l => some (.ptr P1.length, P1 ++ [.dK l])
  | .t _ => none
theorem ped_dictC {e : Expr} {f : XM} {p : Pos} {pos : Pos} (hg : Gl X "dict") (hm : X.mg "dict" = none) (ha : PEd X e f)
    (he : starEach [e] X.env = (false, eval e X.env) :: starEach [] X.env := by rfl) (hpl : (backTo pos (starEach [] X.env)).any (·.1) = false := by rfl) : PEd X (.Call (.Name "dict" p) [e] [] pos) (mDictC f) := by
  obtain ⟨t, p, h1⟩ := pad_cons ha pad_nil he
  refine ⟨_, pe_callTy call_dictD hg hm (by decide +kernel) p (he := he) (hpl := hpl), fun bs ρ σ os vs P H Q r P' R e q => ?_⟩
  simp only [mDictC, Option.bind_eq_some_iff] at e
  obtain ⟨⟨a, P1⟩, e1, D, e2, e3⟩ := e
  refine h1 bs ρ σ os vs P H _ [a] P1 R (by simp only [aCons, aNil, e1, Option.bind_some, Option.map_some]) fun ws H1 hl R1 => ?_
  obtain ⟨F, ad, R1⟩ := R1
  obtain ⟨ra, R2⟩ := R1.args hl
  cases ra with
  | cons r1 ra =>
    cases ra
    cases D with
    | t l => cases e3
    | k l =>
      simp only [Option.some.injEq, Prod.mk.injEq] at e3
      obtain ⟨rfl, rfl⟩ := e3
      obtain ⟨d, rfl, xs, hp, t⟩ := R2.dct r1 e2
      exact ⟨d, _, rfl, hp, fun b n => q _ _ ⟨F, _, R2.cell (c := .dK l) n fun ad' pr => ⟨R2.free n, xs, upd_same, t.mono (.refl _) pr⟩⟩⟩
/-- l.index(x), t.index(x), x there (t not of ints and texts alone) -/
def gIndex : PyData → PyData → Option Nat
  | .list ds, kd => if SeqAt.shaped (.list ds) = true ∧ SeqAt.shaped kd = true then ds.findIdx? fun y => PyData.eqv y kd else none
  | _, _ => none
def gIndexT (ds : List PyData) (kd : PyData) : Option Nat := if keyAll ds = false ∧ SeqAt.shaped (.tuple ds) = true ∧ SeqAt.shaped kd = true then ds.findIdx? fun y => PyData.eqv y kd else none
def isLD : Option PyData → Bool
  | some (.list _) => true
  | _ => false
def mIndex (fo fk : XM) : XM := fun ρ P => (fo ρ P).bind fun (o, P1) => match o with
  | .fz (.tuple ds) => if keyAll ds = false then (fk ρ P1).bind fun (k, P2) => (flat P2 k).bind fun kd => (gIndexT ds kd).map fun (j : Nat) => (.fz (.int j), P2) else none
  | o => if isLD (flat P1 o) = true then (fk ρ P1).bind fun (k, P2) => (flat P2 o).bind fun d => (flat P2 k).bind fun kd => (gIndex d kd).map fun (j : Nat) => (.fz (.int j), P2) else none
theorem idx_fin {ds : List PyData} {kd : PyData} {j : Nat} (h : ds.findIdx? (fun y => PyData.eqv y kd) = some j) : ∃ z, ds[j]? = some z ∧ PyData.eqv z kd = true ∧ ∀ (m : Nat) (z' : PyData), m < j → ds[m]? = some z' → PyData.eqv z' kd = false := by
  obtain ⟨hj, h3, h4⟩ := List.findIdx?_eq_some_iff_getElem.mp h
  refine ⟨ds[j], List.getElem?_eq_getElem hj, h3, fun m z' hm hz => ?_⟩
  obtain ⟨hm2, rfl⟩ := List.getElem?_eq_some_iff.mp hz
  have := h4 m hm
  simpa using this
theorem ped_index {o e : Expr} {fo fe : XM} {apos cpos : Pos} (hu : X.A.units + 65 < cLine) (ho : PEd X o fo) (ha : PEd X e fe)
    (hbase : attributeBase o "index" X.env (eval o X.env) = eval o X.env := by rfl)
    (hfew : ((backTo cpos (starEach [e] X.env)).all (fun x => !x.1) && (backToKw cpos (keywordEach [] X.env)).all (fun x => x.1.isSome) && decide ([e].length + ([] : List Keyword).length + (if ([] : List Keyword).isEmpty then 0 else 1) < 30)) = true := by rfl)
    (hline : (apos.endLine == cpos.line) = true := by rfl) (hs : starEach [e] X.env = (false, eval e X.env) :: starEach [] X.env := by rfl) (hplain : (backTo cpos (starEach [] X.env)).any (·.1) = false := by rfl) :
    PEd X (.Call (.Attribute o "index" apos) [e] [] cpos) (mIndex fo fe) := by
  obtain ⟨t, p, h1⟩ := ho
  obtain ⟨u, p2, h2⟩ := pad_cons ha pad_nil hs
  refine ⟨_, pe_idx hu p p2 (hbase := hbase) (hfew := hfew) (hline := hline) (hs := hs) (hplain := hplain), fun bs ρ σ os vs P H Q r P' R e q => ?_⟩
  simp only [mIndex, Option.bind_eq_some_iff] at e
  obtain ⟨⟨s1, P1⟩, e1, e2⟩ := e
  refine h1 bs ρ σ os vs P H _ s1 P1 R e1 fun x H1 R1 => ?_
  simp only at e2
  split at e2
  · rename_i ds
    split at e2
    · rename_i hk
      simp only [Option.bind_eq_some_iff, Option.map_eq_some_iff, Prod.mk.injEq] at e2
      obtain ⟨⟨s2, P2⟩, e3, kd, e5, j, e6, rfl, rfl⟩ := e2
      have h2' := fun Q' => h2 bs ρ σ _ _ P1 H1 Q' [s2] P2 R1 (by simp only [aCons, aNil, e3, Option.bind_some, Option.map_some])
      obtain ⟨F, ad, R1⟩ := R1
      obtain ⟨r1, R2⟩ := R1.pop
      obtain ⟨a, us, rfl, hp, _⟩ := (Vw.fz (H := H1) r1).tups R2.sub
      obtain ⟨ob, g1, g2, g3⟩ := hp.known hk
      refine ⟨a, us, rfl, .inr ⟨ob, g1, g2, g3, h2' _ fun ws H2 hl R2 => ?_⟩⟩
      obtain ⟨F, ad, R2⟩ := R2
      obtain ⟨ra, R3⟩ := R2.args hl
      cases ra with
      | cons r2 ra =>
        cases ra
        obtain ⟨r1, R4⟩ := R3.pop
        have v1 : Vw X.K F H2 (.ref a) (.tuple ds) := .fz r1
        have v2 := R4.view r2 e5
        unfold gIndexT at e6
        split at e6
        · rename_i hsh
          obtain ⟨z, k1, k2, k3⟩ := idx_fin e6
          exact ⟨a, _, _, ds, j, z, rfl, rfl, v1.dp R4.sub (shaped_lay hsh.2.1), v2.dp R4.sub (shaped_lay hsh.2.2), hsh.2.1, hsh.2.2, k1, k2, k3, q _ _ (R4.atom (.int _))⟩
        · cases e6
    · cases e2
  · split at e2
    · rename_i hL
      simp only [Option.bind_eq_some_iff, Option.map_eq_some_iff, Prod.mk.injEq] at e2
      obtain ⟨⟨s2, P2⟩, e3, d, e4, kd, e5, j, e6, rfl, rfl⟩ := e2
      have h2' := fun Q' => h2 bs ρ σ _ _ P1 H1 Q' [s2] P2 R1 (by simp only [aCons, aNil, e3, Option.bind_some, Option.map_some])
      obtain ⟨F, ad, R1⟩ := R1
      obtain ⟨r1, R2⟩ := R1.pop
      cases hf : flat P1 s1 with
      | none => rw [hf] at hL; cases hL
      | some d1 =>
        rw [hf] at hL
        unfold isLD at hL
        split at hL
        · rename_i ds e
          cases e
          obtain ⟨a, us, rfl, hp, _⟩ := (R2.view r1 hf).lists R2.sub
          refine ⟨a, us, rfl, .inl ⟨hp, h2' _ fun ws H2 hl R2 => ?_⟩⟩
          obtain ⟨F, ad, R2⟩ := R2
          obtain ⟨ra, R3⟩ := R2.args hl
          cases ra with
          | cons r2 ra =>
            cases ra
            obtain ⟨r1, R4⟩ := R3.pop
            have v1 := R4.view r1 e4
            have v2 := R4.view r2 e5
            unfold gIndex at e6
            split at e6
            · rename_i ds
              split at e6
              · rename_i hsh
                obtain ⟨z, k1, k2, k3⟩ := idx_fin e6
                exact ⟨a, _, _, ds, j, z, rfl, rfl, v1.dp R4.sub (shaped_lay hsh.1), v2.dp R4.sub (shaped_lay hsh.2), hsh.1, hsh.2, k1, k2, k3, q _ _ (R4.atom (.int _))⟩
              · cases e6
            · cases e6
        · cases hL
    · cases e2
/-- .. run -/
theorem mIndex_t {fo fk : XM} {ρ : EV} {P P1 P2 : Store} {ds : List PyData} {k : SV} {kd : PyData} {j : Nat} (h1 : fo ρ P = some (.fz (.tuple ds), P1)) (hk : keyAll ds = false) (h2 : fk ρ P1 = some (k, P2)) (h3 : flat P2 k = some kd) (h4 : gIndexT ds kd = some j) : mIndex fo fk ρ P = some (.fz (.int j), P2) := by
  simp only [mIndex, h1, Option.bind_some, hk, if_true, h2, h3, h4, Option.map_some]
theorem mIndex_l {fo fk : XM} {ρ : EV} {P P1 P2 : Store} {ds : List PyData} {k : SV} {kd : PyData} {j : Nat} (h1 : fo ρ P = some (.fz (.list ds), P1)) (h2 : fk ρ P1 = some (k, P2)) (h3 : flat P2 k = some kd) (h4 : gIndex (.list ds) kd = some j) : mIndex fo fk ρ P = some (.fz (.int j), P2) := by
  have e : ∀ Q, flat Q (.fz (.list ds)) = some (.list ds) := fun _ => rfl
  simp only [mIndex, h1, Option.bind_some, e, isLD, if_true, h2, h3, h4, Option.map_some]
end
end Pd

set_option Elab.async false
set_option linter.all false
set_option maxRecDepth 100000
set_option maxHeartbeats 1000000
/-! The layer Pd, part V: comprehensions of two fors. -/
namespace Pd
open PySem PySem.Spec PyProof.Rows L2
/-- the turns of the inner for -/
theorem lc_in {K : PySem.W.Frag} {J : It} {items : List PyData} {src : SV} {w : V} (ok : ItOk K J items src w) {g : GM} {ts : List Nat} {tt : BM} {te : XM} {own : List Nat} {n : Nat} {bs : List Nat} {ρ : EV} {σ : L2.St} {os : List SV} {vs : List V} {P : Store} {H1 : Hp} {S : Store} {Df : Hp → Prop} {D : Addr}
    (hts : ∀ i ∈ ts, i ∈ own) (hbn : ρ.b = n)
    (R : Rel K (n :: bs) ρ σ (src :: .ptr n :: os) (w :: .ref D :: vs) P H1) (e : lcGo g tt te { ρ.wipe own with b := n } n items P = some S)
    (q : ∀ ρ' σ' H, ρ'.b = n → Rel K (n :: bs) ρ' σ' (.ptr n :: os) (.ref D :: vs) S H → Df H) :
    ∃ W : Nat → Nat → Hp → Prop, (∃ m, W 0 m H1) ∧ ∀ i m H, W i m H →
      (J.stop i H ∧ Df H) ∨ (J.go i H ∧ ∃ Nx : Hp → Prop, (∀ H', Nx H' → ∃ m', m' < m ∧ W (i + 1) m' H') ∧ ∀ x H', J.yld i H x H' → tMG K ts g x (L2.wipe σ own) H' fun σ2 H2 => L2.wipe σ2 own = L2.wipe σ own ∧ tMT K tt σ2 H2 fun b H3 =>
        if b = true then tM K te σ2 H3 fun y H4 => ∃ acc, H4 D = some (.lst acc) ∧ acc.length < sizeLine ∧ Nx (upd H4 D (.lst (acc ++ [y]))) else Nx H3) := by
  have hls : ∃ (ls : List SV) (ws : List V), ws.length = ls.length ∧ (∀ F ad, SVA K F ad ws ls → SlR K F ad ρ.sl σ) ∧ Rel K (n :: bs) ρ σ (.ptr n :: src :: (ls ++ os)) (.ref D :: w :: (ws ++ vs)) P H1 := by
    obtain ⟨F, ad, R⟩ := R
    obtain ⟨ls, ws, a, b⟩ := R.slots.list
    obtain ⟨r, R1⟩ := R.pop
    obtain ⟨r2, R2⟩ := R1.pop
    exact ⟨ls, ws, a.length, b, F, ad, R.tops_of (.cons r2 (.cons r (a.append R2.tops)))⟩
  obtain ⟨ls, ws, hlen, hb, Rl⟩ := hls
  refine ⟨fun i m H => m = items.length - i ∧ i ≤ items.length ∧ ∃ T ρx σx, ρx.b = n ∧ Rel K (n :: bs) ρx σx (.ptr n :: src :: (ls ++ os)) (.ref D :: w :: (ws ++ vs)) T H ∧ lcGo g tt te { ρ.wipe own with b := n } n (items.drop i) T = some S, ⟨_, rfl, Nat.zero_le _, _, _, _, hbn, Rl, by simpa using e⟩, ?_⟩
  rintro i m H ⟨rfl, hle, T, ρx, σx, hbx, RT, eT⟩
  have under : Rel K (n :: bs) ρx σx (src :: .ptr n :: (ls ++ os)) (w :: .ref D :: (ws ++ vs)) T H := by
    obtain ⟨F, ad, R⟩ := RT
    obtain ⟨r1, R1⟩ := R.pop
    obtain ⟨r2, R2⟩ := R1.pop
    exact ⟨F, ad, (R2.push r1).push r2⟩
  obtain ⟨ok1, ok2⟩ := ok _ _ _ _ _ _ _ i under
  by_cases hlt : i < items.length
  · obtain ⟨go, yl⟩ := ok1 hlt
    refine .inr ⟨go, fun H => ∃ T ρx σx, ρx.b = n ∧ Rel K (n :: bs) ρx σx (.ptr n :: src :: (ls ++ os)) (.ref D :: w :: (ws ++ vs)) T H ∧ lcGo g tt te { ρ.wipe own with b := n } n (items.drop (i + 1)) T = some S, fun H' ⟨T', ρ', σ', b', R', e'⟩ => ⟨items.length - (i + 1), by omega, rfl, hlt, T', ρ', σ', b', R', e'⟩, fun x H' hy => ?_⟩
    obtain ⟨d, hd, R3⟩ := yl x H' hy
    rw [List.drop_eq_getElem_cons hlt] at eT
    have ed : items[i] = d := by rw [List.getElem?_eq_getElem hlt] at hd; exact Option.some.inj hd
    rw [ed] at eT
    simp only [lcGo, Option.bind_eq_some_iff] at eT
    obtain ⟨⟨ρ4, P4⟩, e4, ⟨b, P5⟩, e5, e6⟩ := eT
    have R4 : Rel K (n :: bs) { ρ.wipe own with b := n } (L2.wipe σ own) (.fz d :: .ptr n :: src :: (ls ++ os)) (x :: .ref D :: w :: (ws ++ vs)) T H' := by
      obtain ⟨F, ad, R⟩ := R3
      obtain ⟨r0, R1⟩ := R.pop
      obtain ⟨r1, R2⟩ := R1.pop
      obtain ⟨r2, R3⟩ := R2.pop
      have sp := (SVA.split hlen R3.tops).1
      refine ⟨F, ad, { R with slots := (hb F ad sp).wipe own, tops := .cons r0 (.cons r2 (.cons r1 R3.tops)), bb := fun c hc => ?_ }⟩
      have := R.bb c hc
      show c ≤ n
      rw [hbx] at this; exact this
    refine ⟨_, _, _, _, _, _, ρ4, P4, R4, e4, fun σ4 H4 R5 k4 => ⟨wipe_keeps hts k4, _, _, _, _, _, b, P5, R5, e5, fun H5 R6 => ?_⟩⟩
    simp only at e6
    have hb4 : ∀ {bs : List Nat} {os : List SV} {vs : List V} {P' : Store} {H : Hp}, Rel K (n :: bs) ρ4 σ4 os vs P' H → n ≤ ρ4.b := fun ⟨F, ad, R⟩ => R.bb _ List.mem_cons_self
    cases b with
    | true =>
      rw [if_pos rfl] at e6 ⊢
      simp only [Option.bind_eq_some_iff] at e6
      obtain ⟨⟨s, P6⟩, e7, e8⟩ := e6
      refine ⟨_, _, _, _, _, s, P6, R6, e7, fun y H6 R7 => ?_⟩
      simp only at e8
      split at e8
      · rename_i z acc hacc
        split at e8
        · rename_i hz
          obtain ⟨F, ad, R7⟩ := R7
          obtain ⟨ry, R8⟩ := R7.pop
          obtain ⟨rD, R9⟩ := R8.pop
          obtain ⟨a, ha, ea, hc⟩ := R8.at rD hacc
          cases ea
          obtain ⟨hF, xs, hx, tx⟩ := hc
          refine ⟨xs, hx, by rw [tx.length]; exact hz, P6.set n (.lst (acc ++ [.fz z])), { ρ4 with b := n }, σ4, rfl, ⟨F, ad, ?_⟩, e8⟩
          have R10 := R8.put (c := .lst (acc ++ [.fz z])) hacc ha hF ⟨hF, _, upd_same, tx.append (.cons ry .nil)⟩ (fun j hj => by
            refine .inl ?_
            simpa [Cell.ps, SV.ps] using hj)
          refine { R10 with slots := R10.slots, bb := fun c hc => ?_ }
          rcases List.mem_cons.mp hc with rfl | hc
          · exact Nat.le_refl _
          · obtain ⟨F0, ad0, R0⟩ := R
            exact hbn ▸ R0.bb c (List.mem_cons_of_mem _ hc)
        · cases e8
      · cases e8
    | false =>
      rw [if_neg Bool.false_ne_true] at e6 ⊢
      refine ⟨P5, { ρ4 with b := n }, σ4, rfl, ?_, e6⟩
      obtain ⟨F, ad, R6⟩ := R6
      refine ⟨F, ad, { R6 with slots := R6.slots, bb := fun c hc => ?_ }⟩
      rcases List.mem_cons.mp hc with rfl | hc
      · exact Nat.le_refl _
      · obtain ⟨F0, ad0, R0⟩ := R
        exact hbn ▸ R0.bb c (List.mem_cons_of_mem _ hc)
  · have : i = items.length := by omega
    subst this
    rw [List.drop_length] at eT
    simp only [lcGo, Option.some.injEq] at eT
    subst eT
    refine .inl ⟨ok2 (Nat.le_refl _), q ρx σx H hbx ?_⟩
    obtain ⟨F, ad, RX⟩ := RT
    obtain ⟨r1, R1⟩ := RX.pop
    obtain ⟨r2, R2⟩ := R1.pop
    obtain ⟨sp, so⟩ := SVA.split hlen R2.tops
    exact ⟨F, ad, RX.tops_of (.cons r1 so)⟩
def tMI (K : PySem.W.Frag) (f : IM) : TI := fun σ H R => ∃ (bs : List Nat) (ρ : EV) (os : List SV) (vs : List V) (P : Store) (items : List PyData) (src : SV) (P' : Store), Rel K bs ρ σ os vs P H ∧ f ρ P = some (items, src, P') ∧
  ∀ J v H' sr, Rel K bs ρ σ (sr :: os) (v :: vs) P' H' → ItOk K J items sr v → R J H'
theorem PId.canon {X : Cx} {tg iter : Expr} {f : IM} (h : PId X tg iter f) : PI X tg iter (tMI X.K f) := by
  obtain ⟨t, p, h1⟩ := h
  exact ⟨fun pins s σ H R I ⟨bs, ρ, os, vs, P, items, src, P', R1, e, q⟩ => p.run pins s σ H R I (h1 bs ρ σ os vs P H R items src P' R1 e q)⟩
def lc2Go (g : GM) (tt : BM) (f1 : IM) (own1 : List Nat) (g1 : GM) (tt1 : BM) (te : XM) (ρ : EV) (n : Nat) : List PyData → Store → Option Store
  | [], S => some S
  | d :: r, S => (g (.fz d) ρ S).bind fun (ρ1, S1) => (tt ρ1 S1).bind fun (b, S2) =>
    if b = true then (f1 ρ1 S2).bind fun (items, _, S3) => (lcGo g1 tt1 te { ({ ρ1 with b := n } : EV).wipe own1 with b := n } n items S3).bind fun S4 => lc2Go g tt f1 own1 g1 tt1 te ρ n r S4
    else lc2Go g tt f1 own1 g1 tt1 te ρ n r S2
/-- [te for g in f if tt for g1 in f1 if tt1] -/
def mLC2 (own own1 : List Nat) (f : IM) (g : GM) (tt : BM) (f1 : IM) (g1 : GM) (tt1 : BM) (te : XM) : XM := fun ρ P => (f ρ P).bind fun (items, _, P1) =>
  (lc2Go g tt f1 own1 g1 tt1 te { ρ.wipe own with b := P1.length } P1.length items (P1 ++ [.lst []])).bind fun S => match S[P1.length]? with
    | some (.lst acc) => (fzs acc).map fun ds => (.fz (.list ds), S.take P1.length)
    | _ => none
theorem lc2_go {K : PySem.W.Frag} {J : It} {items : List PyData} {src : SV} {w : V} (ok : ItOk K J items src w) {g g1 : GM} {ts ts1 : List Nat} {tt tt1 : BM} {f1 : IM} {te : XM} {own own1 : List Nat} {bs : List Nat} {ρ : EV} {σ : L2.St} {os : List SV} {vs : List V} {P : Store} {H1 : Hp} {S : Store} {Df : Hp → Prop} {D : Addr}
    (hts : ∀ i ∈ ts, i ∈ own) (hts1 : ∀ i ∈ ts1, i ∈ own1)
    (R : Rel K bs ρ σ (src :: os) (w :: vs) P H1) (hD : H1 D = none) (e : lc2Go g tt f1 own1 g1 tt1 te { ρ.wipe own with b := P.length } P.length items (P ++ [.lst []]) = some S)
    (q : ∀ H, Rel K (P.length :: bs) { ρ with b := P.length } σ (.ptr P.length :: src :: os) (.ref D :: w :: vs) S H → Df H) :
    ∃ W : Nat → Nat → Hp → Prop, (∃ m, W 0 m (upd H1 D (.lst []))) ∧ ∀ i m H, W i m H →
      (J.stop i H ∧ Df H) ∨ (J.go i H ∧ ∃ Nx : Hp → Prop, (∀ H', Nx H' → ∃ m', m' < m ∧ W (i + 1) m' H') ∧ ∀ x H', J.yld i H x H' → tMG K ts g x (L2.wipe σ own) H' fun σ2 H2 => L2.wipe σ2 own = L2.wipe σ own ∧ tMT K tt σ2 H2 fun b H3 =>
        if b = true then tMI K f1 σ2 H3 fun J1 H4 => ∃ W1 : Nat → Nat → Hp → Prop, (∃ m, W1 0 m H4) ∧ ∀ j k H, W1 j k H →
          (J1.stop j H ∧ Nx H) ∨ (J1.go j H ∧ ∃ Nx1 : Hp → Prop, (∀ H', Nx1 H' → ∃ k', k' < k ∧ W1 (j + 1) k' H') ∧ ∀ x H', J1.yld j H x H' → tMG K ts1 g1 x (L2.wipe σ2 own1) H' fun σ3 H5 => L2.wipe σ3 own1 = L2.wipe σ2 own1 ∧ tMT K tt1 σ3 H5 fun b H6 =>
            if b = true then tM K te σ3 H6 fun y H7 => ∃ acc, H7 D = some (.lst acc) ∧ acc.length < sizeLine ∧ Nx1 (upd H7 D (.lst (acc ++ [y]))) else Nx1 H6)
        else Nx H3) := by
  have hls : ∃ (ls : List SV) (ws : List V), ws.length = ls.length ∧ (∀ F ad, SVA K F ad ws ls → SlR K F ad ρ.sl σ) ∧ Rel K bs ρ σ (src :: (ls ++ os)) (w :: (ws ++ vs)) P H1 := by
    obtain ⟨F, ad, R⟩ := R
    obtain ⟨ls, ws, a, b⟩ := R.slots.list
    obtain ⟨r, R1⟩ := R.pop
    exact ⟨ls, ws, a.length, b, F, ad, R.tops_of (.cons r (a.append R1.tops))⟩
  obtain ⟨ls, ws, hlen, hb, Rl⟩ := hls
  have start : ∃ ρx σx, ρx.b = P.length ∧ Rel K (P.length :: bs) ρx σx (.ptr P.length :: src :: (ls ++ os)) (.ref D :: w :: (ws ++ vs)) (P ++ [.lst []]) (upd H1 D (.lst [])) := by
    obtain ⟨F, ad, R⟩ := Rl
    exact ⟨_, _, rfl, F, ad ++ [D], R.enter.cell hD fun ad' pr => ⟨R.free hD, [], upd_same, .nil⟩⟩
  refine ⟨fun i m H => m = items.length - i ∧ i ≤ items.length ∧ ∃ T ρx σx, ρx.b = P.length ∧ Rel K (P.length :: bs) ρx σx (.ptr P.length :: src :: (ls ++ os)) (.ref D :: w :: (ws ++ vs)) T H ∧ lc2Go g tt f1 own1 g1 tt1 te { ρ.wipe own with b := P.length } P.length (items.drop i) T = some S, ⟨_, rfl, Nat.zero_le _, _, start.choose, start.choose_spec.choose, start.choose_spec.choose_spec.1, start.choose_spec.choose_spec.2, by simpa using e⟩, ?_⟩
  rintro i m H ⟨rfl, hle, T, ρx, σx, hbx, RT, eT⟩
  have under : Rel K (P.length :: bs) ρx σx (src :: .ptr P.length :: (ls ++ os)) (w :: .ref D :: (ws ++ vs)) T H := by
    obtain ⟨F, ad, R⟩ := RT
    obtain ⟨r1, R1⟩ := R.pop
    obtain ⟨r2, R2⟩ := R1.pop
    exact ⟨F, ad, (R2.push r1).push r2⟩
  obtain ⟨ok1, ok2⟩ := ok _ _ _ _ _ _ _ i under
  by_cases hlt : i < items.length
  · obtain ⟨go, yl⟩ := ok1 hlt
    refine .inr ⟨go, fun H => ∃ T ρx σx, ρx.b = P.length ∧ Rel K (P.length :: bs) ρx σx (.ptr P.length :: src :: (ls ++ os)) (.ref D :: w :: (ws ++ vs)) T H ∧ lc2Go g tt f1 own1 g1 tt1 te { ρ.wipe own with b := P.length } P.length (items.drop (i + 1)) T = some S, fun H' ⟨T', ρ', σ', b', R', e'⟩ => ⟨items.length - (i + 1), by omega, rfl, hlt, T', ρ', σ', b', R', e'⟩, fun x H' hy => ?_⟩
    obtain ⟨d, hd, R3⟩ := yl x H' hy
    rw [List.drop_eq_getElem_cons hlt] at eT
    have ed : items[i] = d := by rw [List.getElem?_eq_getElem hlt] at hd; exact Option.some.inj hd
    rw [ed] at eT
    simp only [lc2Go, Option.bind_eq_some_iff] at eT
    obtain ⟨⟨ρ4, P4⟩, e4, ⟨b, P5⟩, e5, e6⟩ := eT
    have R4 : Rel K (P.length :: bs) { ρ.wipe own with b := P.length } (L2.wipe σ own) (.fz d :: .ptr P.length :: src :: (ls ++ os)) (x :: .ref D :: w :: (ws ++ vs)) T H' := by
      obtain ⟨F, ad, R⟩ := R3
      obtain ⟨r0, R1⟩ := R.pop
      obtain ⟨r1, R2⟩ := R1.pop
      obtain ⟨r2, R3⟩ := R2.pop
      have sp := (SVA.split hlen R3.tops).1
      refine ⟨F, ad, { R with slots := (hb F ad sp).wipe own, tops := .cons r0 (.cons r2 (.cons r1 R3.tops)), bb := fun c hc => ?_ }⟩
      have := R.bb c hc
      show c ≤ P.length
      rw [hbx] at this; exact this
    refine ⟨_, _, _, _, _, _, ρ4, P4, R4, e4, fun σ4 H4 R5 k4 => ⟨wipe_keeps hts k4, _, _, _, _, _, b, P5, R5, e5, fun H5 R6 => ?_⟩⟩
    simp only at e6
    have toB : ∀ {os : List SV} {vs : List V} {P' : Store} {H : Hp}, Rel K (P.length :: bs) ρ4 σ4 os vs P' H → Rel K (P.length :: bs) { ρ4 with b := P.length } σ4 os vs P' H := fun ⟨F, ad, R7⟩ => by
      refine ⟨F, ad, { R7 with slots := R7.slots, bb := fun c hc => ?_ }⟩
      rcases List.mem_cons.mp hc with rfl | hc
      · exact Nat.le_refl _
      · obtain ⟨F0, ad0, R0⟩ := R
        exact R0.bas.le c hc
    cases b with
    | true =>
      rw [if_pos rfl] at e6 ⊢
      simp only [Option.bind_eq_some_iff] at e6
      obtain ⟨⟨items1, src1, P6⟩, e7, S4, e8, e9⟩ := e6
      refine ⟨_, _, _, _, _, items1, src1, P6, R6, e7, fun J1 v1 H6 sr1 R7 ok7 => ?_⟩
      exact lc_in (n := P.length) (bs := bs) (ρ := { ρ4 with b := P.length }) (os := src :: (ls ++ os)) (vs := w :: (ws ++ vs)) (D := D) ok7 hts1 rfl (toB R7) e8 fun ρ' σ' H hb' R8 => ⟨S4, ρ', σ', hb', R8, e9⟩
    | false =>
      rw [if_neg Bool.false_ne_true] at e6 ⊢
      exact ⟨P5, { ρ4 with b := P.length }, σ4, rfl, toB R6, e6⟩
  · have : i = items.length := by omega
    subst this
    rw [List.drop_length] at eT
    simp only [lc2Go, Option.some.injEq] at eT
    subst eT
    refine .inl ⟨ok2 (Nat.le_refl _), q H ?_⟩
    obtain ⟨F, ad, RX⟩ := RT
    obtain ⟨r1, R1⟩ := RX.pop
    obtain ⟨r2, R2⟩ := R1.pop
    obtain ⟨sp, so⟩ := SVA.split hlen R2.tops
    refine ⟨F, ad, { RX with slots := hb F ad sp, tops := .cons r1 (.cons r2 so), bb := fun c hc => ?_ }⟩
    have := RX.bb c hc
    show c ≤ P.length
    rw [hbx] at this; exact this
section
variable {X : Cx} {pos : Pos}
theorem lc2_d {f f1 : IM} {g g1 : GM} {tt tt1 : BM} {te : XM} {ts ts1 own own1 : List Nat} {wi : TI} (hts : ∀ i ∈ ts, i ∈ own) (hts1 : ∀ i ∈ ts1, i ∈ own1)
    (h0 : ∀ (bs : List Nat) (ρ : EV) (σ : L2.St) (os : List SV) (vs : List V) (P : Store) (H : Hp) (R : It → Hp → Prop) (items : List PyData) (src : SV) (P' : Store), Rel X.K bs ρ σ os vs P H → f ρ P = some (items, src, P') →
      (∀ J v H' sr, Rel X.K bs ρ σ (sr :: os) (v :: vs) P' H' → ItOk X.K J items sr v → R J H') → wi σ H R)
    (bs : List Nat) (ρ : EV) (σ : L2.St) (os : List SV) (vs : List V) (P : Store) (H : Hp) (Q : VK) (r : SV) (P' : Store) (R : Rel X.K bs ρ σ os vs P H) (e : mLC2 own own1 f g tt f1 g1 tt1 te ρ P = some (r, P'))
    (q : ∀ v H', Rel X.K bs ρ σ (r :: os) (v :: vs) P' H' → Q v H') : tLc2 wi (tMG X.K ts g) (tMT X.K tt) (tMI X.K f1) (tMG X.K ts1 g1) (tMT X.K tt1) (tM X.K te) own own1 σ H Q := by
  simp only [mLC2, Option.bind_eq_some_iff] at e
  obtain ⟨⟨items, src, P1⟩, e0, S, e1, e2⟩ := e
  refine h0 bs ρ σ os vs P H _ items src P1 R e0 fun J w H1 src R1 ok => fun D hD => ?_
  refine lc2_go (Df := fun H => Q (.ref D) H) ok hts hts1 R1 hD e1 fun H2 R2 => ?_
  simp only at e2
  split at e2
  · rename_i acc hacc
    simp only [Option.map_eq_some_iff, Prod.mk.injEq] at e2
    obtain ⟨ds, hds, rfl, rfl⟩ := e2
    obtain ⟨F, ad, R2⟩ := R2
    obtain ⟨F1, ad1, R1⟩ := R1
    obtain ⟨rD, R3⟩ := R2.pop
    obtain ⟨a, ha, ea, hc⟩ := R3.at rD hacc
    cases ea
    obtain ⟨hF, xs, hx, tx⟩ := hc
    obtain ⟨R4, l4, f4⟩ := R3.freezeC (d := .list ds) hacc ha hF hx fun G l g => .lst (.of g) ((fzs_some tx hds).mono l)
    obtain ⟨_, R5⟩ := R4.pop
    have R6 := R5.cut (ρ' := ρ) R5.slots R1.slotsLt R5.tops (fun s hs => R1.topsLt s (List.mem_cons_of_mem _ hs)) (fun c hc => R1.bb c hc) (fun c hc => R1.bas.le c hc)
    have e5 : (S.set P1.length (.fz (.list ds))).take P1.length = S.take P1.length := by
      rw [List.take_set_of_le (Nat.le_refl _)]
    rw [e5] at R6
    exact q _ _ ⟨_, _, R6.push (d := .fz (.list ds)) (show Fz X.K _ _ _ from f4)⟩
  · cases e2
theorem ped_lc2 {elt tg iter tg1 iter1 : Expr} {ifs ifs1 : List Expr} {scope : Scope} {own : List (Str × Nat)} {own1 : List Nat} {f f1 : IM} {g g1 : GM} {tt tt1 : BM} {te : XM} {ts ts1 : List Nat} (hc : X.calm = true) (hN : X.N.Nodup) (hi : PId X tg iter f) (ok : BlkOk X.N X.env.scope scope own)
    (hg : ∀ (s : Shared) (H : Hp) (C : Addr) (cl : List (Str × Addr)) (fp : List Addr), PGd (X.blk s H scope (compEnvC scope cl C X.env) fp) tg ts g) (ht : ∀ (s : Shared) (H : Hp) (C : Addr) (cl : List (Str × Addr)) (fp : List Addr), PTsd (X.blk s H scope (compEnvC scope cl C X.env) fp) ifs tt)
    (hi1 : ∀ (s : Shared) (H : Hp) (C : Addr) (cl : List (Str × Addr)) (fp : List Addr), PId (X.blk s H scope (compEnvC scope cl C X.env) fp) tg1 iter1 f1)
    (hg1 : ∀ (s : Shared) (H : Hp) (C : Addr) (cl : List (Str × Addr)) (fp : List Addr), PGd (X.blk s H scope (compEnvC scope cl C X.env) fp) tg1 ts1 g1) (ht1 : ∀ (s : Shared) (H : Hp) (C : Addr) (cl : List (Str × Addr)) (fp : List Addr), PTsd (X.blk s H scope (compEnvC scope cl C X.env) fp) ifs1 tt1)
    (he : ∀ (s : Shared) (H : Hp) (C : Addr) (cl : List (Str × Addr)) (fp : List Addr), PEd (X.blk s H scope (compEnvC scope cl C X.env) fp) elt te) (hts : ∀ i ∈ ts, i ∈ own.map (·.2) := by decide) (hts1 : ∀ i ∈ ts1, i ∈ own1 := by decide) (hv : ∀ i ∈ own1, i ∈ own.map (·.2) := by decide) (hs : ∀ x, foldedSetIterable iter X.env x = pure x := by intro _; rfl) (hs1 : ∀ env x, foldedSetIterable iter1 env x = pure x := by intro _ _; rfl) :
    PEd X (.ListComp elt [⟨tg, iter, ifs, 0⟩, ⟨tg1, iter1, ifs1, 0⟩] scope pos) (mLC2 (own.map (·.2)) own1 f g tt f1 g1 tt1 te) := by
  obtain ⟨wi, p0, h0⟩ := hi
  exact ⟨_, pe_lc2 (g := tMG X.K ts g) (tt := tMT X.K tt) (wi1 := tMI X.K f1) (g1 := tMG X.K ts1 g1) (tt1 := tMT X.K tt1) (te := tM X.K te) hc hN p0 ok hv (fun s H C cl fp => (hg s H C cl fp).canon) (fun s H C cl fp => (ht s H C cl fp).canon) (fun s H C cl fp => (hi1 s H C cl fp).canon) (fun s H C cl fp => (hg1 s H C cl fp).canon) (fun s H C cl fp => (ht1 s H C cl fp).canon) (fun s H C cl fp => (he s H C cl fp).canon) hs hs1, lc2_d hts hts1 h0⟩
theorem psd_setLc2 {i : Nat} {y : Str} {py : Pos} {elt tg iter tg1 iter1 : Expr} {ifs ifs1 : List Expr} {scope : Scope} {own : List (Str × Nat)} {own1 : List Nat} {spos : Pos} {f f1 : IM} {g g1 : GM} {tt tt1 : BM} {te : XM} {ts ts1 : List Nat} (hc : X.calm = true) (hN : X.N.Nodup) (hy : X.N[i]? = some y) (hyl : X.env.scope.names.lookup y = some .local)
    (hsw : swapsWith (.ListComp elt [⟨tg, iter, ifs, 0⟩, ⟨tg1, iter1, ifs1, 0⟩] scope pos) (some (.Name y py)) spos.line X.env = pure true) (hi : PId X tg iter f) (ok : BlkOk X.N X.env.scope scope own)
    (hg : ∀ (s : Shared) (H : Hp) (C : Addr) (cl : List (Str × Addr)) (fp : List Addr), PGd (X.blk s H scope (compEnvC scope cl C X.env) fp) tg ts g) (ht : ∀ (s : Shared) (H : Hp) (C : Addr) (cl : List (Str × Addr)) (fp : List Addr), PTsd (X.blk s H scope (compEnvC scope cl C X.env) fp) ifs tt)
    (hi1 : ∀ (s : Shared) (H : Hp) (C : Addr) (cl : List (Str × Addr)) (fp : List Addr), PId (X.blk s H scope (compEnvC scope cl C X.env) fp) tg1 iter1 f1)
    (hg1 : ∀ (s : Shared) (H : Hp) (C : Addr) (cl : List (Str × Addr)) (fp : List Addr), PGd (X.blk s H scope (compEnvC scope cl C X.env) fp) tg1 ts1 g1) (ht1 : ∀ (s : Shared) (H : Hp) (C : Addr) (cl : List (Str × Addr)) (fp : List Addr), PTsd (X.blk s H scope (compEnvC scope cl C X.env) fp) ifs1 tt1)
    (he : ∀ (s : Shared) (H : Hp) (C : Addr) (cl : List (Str × Addr)) (fp : List Addr), PEd (X.blk s H scope (compEnvC scope cl C X.env) fp) elt te) (hts : ∀ i ∈ ts, i ∈ own.map (·.2) := by decide) (hts1 : ∀ i ∈ ts1, i ∈ own1 := by decide) (hv : ∀ i ∈ own1, i ∈ own.map (·.2) := by decide) (hs : ∀ x, foldedSetIterable iter X.env x = pure x := by intro _; rfl) (hs1 : ∀ env x, foldedSetIterable iter1 env x = pure x := by intro _ _; rfl) :
    PSd X (.Assign [.Name y py] (.ListComp elt [⟨tg, iter, ifs, 0⟩, ⟨tg1, iter1, ifs1, 0⟩] scope pos) spos) (sSet i (mLC2 (own.map (·.2)) own1 f g tt f1 g1 tt1 te)) := by
  obtain ⟨wi, p0, h0⟩ := hi
  refine ⟨_, ps_setLc2 (g := tMG X.K ts g) (tt := tMT X.K tt) (wi1 := tMI X.K f1) (g1 := tMG X.K ts1 g1) (tt1 := tMT X.K tt1) (te := tM X.K te) hc hN hy hyl hsw p0 ok hv (fun s H C cl fp => (hg s H C cl fp).canon) (fun s H C cl fp => (ht s H C cl fp).canon) (fun s H C cl fp => (hi1 s H C cl fp).canon) (fun s H C cl fp => (hg1 s H C cl fp).canon) (fun s H C cl fp => (ht1 s H C cl fp).canon) (fun s H C cl fp => (he s H C cl fp).canon) hs hs1, fun bs ρ σ os vs P H D r R e q => ?_⟩
  simp only [sSet, Option.map_eq_some_iff] at e
  obtain ⟨⟨s, P1⟩, e1, rfl⟩ := e
  exact lc2_d hts hts1 h0 bs ρ σ os vs P H _ s P1 R e1 fun v H1 R1 => q _ H1 (R1.store i)
end
end Pd

set_option Elab.async false
set_option linter.all false
set_option maxRecDepth 100000
set_option maxHeartbeats 1000000
/-! The layer Pd, part W: dict comprehensions with tuple keys. -/
namespace Pd
open PySem PySem.Spec PyProof.Rows L2
/-- a store into the dict of a comprehension, keys tuples -/
theorem set_dT {X : Cx} {pins : List (Addr × Obj)} {σ : L2.St} {H : Hp} {s : Shared} {E : Value → Shared → Prop} {D b : Addr} {kvs : List (List Key × V)} {k : List Key} {v : V} {r : Value} {Q : Unit → Shared → Prop} (hu : X.A.units < cLine) (I : Inv X pins σ H s)
    (hD : H D = some (.dT kvs)) (hb : H b = some (.tup (k.map kV))) (hz : kvs.length < sizeLine) (rv : RelV v r) (h : ∀ s', Inv X pins σ (upd H D (.dT (putK kvs k v))) s' → Q () s') : wpAny (model X.prog X.w) X.A (dictSet D (.ref b) r) Q E s := by
  obtain ⟨z, hd, xs, rel, dd⟩ := dt_of I.hok hD
  have hzx : xs.length ≤ sizeLine := by rw [← Paired.length rel]; exact z
  have hll : (putK kvs k v).length ≤ sizeLine := by have := length_putK kvs k v; omega
  refine wpAny_dictSet_heap (hsz := hzx) (show X.A.units < cLine from hu) (key_of I.hok hb) dd fun h' dd' hs => h _ ?_
  obtain ⟨q, es, ep, hq, h2, h3, h4, _, h5⟩ := dd'
  refine d_write I (by rw [hD]; exact True.intro) hs ⟨q, hq⟩ ⟨hll, hd, _, (rel.put k hb rv).keeps fun c ys ec => ?_, q, es, ep, hq, h2, h3, h4, h5⟩
  rw [upd_ne (ne_of ec hD fun z => nomatch z)]
  exact ec
/-- what such a comprehension promises: D the new dict -/
def tDcT (wi : TI) (g : TG) (tt : TT) (tk tv : TE) (own : List Nat) : TE := fun σ H Q => wi σ H fun J H1 => ∀ D, H1 D = none → ∃ Wd : Nat → Nat → Hp → Prop, (∃ m, Wd 0 m (upd H1 D (.dT []))) ∧ ∀ i m H, Wd i m H →
  (J.stop i H ∧ Q (.ref D) H) ∨ (J.go i H ∧ ∃ Go : Hp → Prop, (∀ G, Go G → ∃ l, l < m ∧ Wd (i + 1) l G) ∧ ∀ x G, J.yld i H x G → g x (L2.wipe σ own) G fun σ2 H2 => L2.wipe σ2 own = L2.wipe σ own ∧ tt σ2 H2 fun b H3 =>
    if b = true then tk σ2 H3 fun y H4 => tv σ2 H4 fun z H5 => ∃ kvs k a, y = .ref a ∧ H5 a = some (.tup (k.map kV)) ∧ H5 D = some (.dT kvs) ∧ kvs.length < sizeLine ∧ Go (upd H5 D (.dT (putK kvs k z))) else Go H3)
section
variable {X : Cx} {pos : Pos}
theorem pe_dcT {kx vx tg iter : Expr} {ifs : List Expr} {scope : Scope} {own : List (Str × Nat)} {wi : TI} {g : TG} {tt : TT} {tk tv : TE} (hu : X.A.units < cLine) (calm : X.calm = true) (nd : X.N.Nodup) (pi : PI X tg iter wi) (bo : BlkOk X.N X.env.scope scope own)
    (pg : ∀ (s : Shared) (H : Hp) (C : Addr) (cl : List (Str × Addr)) (fp : List Addr), PG (X.blk s H scope (compEnvC scope cl C X.env) fp) tg g) (pt : ∀ (s : Shared) (H : Hp) (C : Addr) (cl : List (Str × Addr)) (fp : List Addr), PTs (X.blk s H scope (compEnvC scope cl C X.env) fp) ifs tt)
    (pk : ∀ (s : Shared) (H : Hp) (C : Addr) (cl : List (Str × Addr)) (fp : List Addr), PE (X.blk s H scope (compEnvC scope cl C X.env) fp) kx tk)
    (pv : ∀ (s : Shared) (H : Hp) (C : Addr) (cl : List (Str × Addr)) (fp : List Addr), PE (X.blk s H scope (compEnvC scope cl C X.env) fp) vx tv) (fold : ∀ x, foldedSetIterable iter X.env x = pure x := by intro _; rfl) :
    PE X (.DictComp kx vx [⟨tg, iter, ifs, 0⟩] scope pos) (tDcT wi g tt tk tv (own.map (·.2))) := by
  refine ⟨fun pins s σ H Q I h => ?_⟩
  rw [arm_eval_DictComp]
  have free : ∀ y ∈ scope.names, y.2 = .free → ∃ c, X.env.cells.lookup y.1 = some c := fun y hy e => (bo.free y hy e).elim (fun k => I.ok.has _ (.inl k)) fun k => I.ok.has _ (.inr k)
  have run0 := pi.run pins s σ H _ I h
  refine wpAny_comprehension_free (use := none) rfl fold (closure_ok free) bo.kind (fun y hy e => (bo.uniq y hy).trans (congrArg some e)) (thn run0 fun _ _ a => thn a fun _ t came => ?_)
  obtain ⟨it, fp, tn, J, G, rfl, IG, T, st, own0, q⟩ := came
  refine wpAny_newObj_type (newEnv_comp ?_)
  -- the new dict at D, the state t1
  generalize eD : t.heap.objs.size = D
  generalize et1 : ({ t with heap := t.heap.push { cls := .type "dict", data := .dict #[] } } : Shared) = t1
  obtain ⟨Wd, ⟨m0, w0⟩, turn⟩ := q D (IG.hok.fresh (Nat.le_of_eq eD))
  have ht1 : t1.heap = t.heap.push { cls := .type "dict", data := .dict #[] } := by rw [← et1]
  have I1 : Inv X pins σ (upd G D (.dT [])) t1 := by
    subst et1
    refine IG.laid (t' := t.toks) (fun _ _ => Heap.get?_push_of_some _) (Nat.le_of_eq eD) ?_
    subst eD
    exact dt_empty t.heap IG.big
  have small : ∀ b ∈ fp, b < t.heap.objs.size := fun b hb => let ⟨_, e, _⟩ := T.obj _ _ st b hb; Heap.lt_size e
  have own1 : ∀ b ∈ fp, FpOk X pins (upd G D (.dT [])) b ∧ b < t1.heap.objs.size := fun b hb => by
    have lt := small b hb
    have ne : b ≠ D := by subst eD; exact Nat.ne_of_lt lt
    exact ⟨⟨by rw [upd_ne ne]; exact (own0 b hb).1, (own0 b hb).2⟩, by rw [ht1, Heap.size_push]; exact Nat.lt_succ_of_lt lt⟩
  have st1 : tn 0 t1.heap := T.keep _ _ _ st fun b _ o e => by rw [ht1]; exact Heap.get?_push_of_some _ e
  -- the block
  have I2 := block_start I1 bo nd own1
  have g1 := pg t1 (upd G D (.dT [])) t1.heap.objs.size (cellsFrom (t1.heap.objs.size + 1) scope.names (cloFrom X.env.cells scope.names [])) fp
  have t2 := pt t1 (upd G D (.dT [])) t1.heap.objs.size (cellsFrom (t1.heap.objs.size + 1) scope.names (cloFrom X.env.cells scope.names [])) fp
  have k1 := pk t1 (upd G D (.dT [])) t1.heap.objs.size (cellsFrom (t1.heap.objs.size + 1) scope.names (cloFrom X.env.cells scope.names [])) fp
  have v1 := pv t1 (upd G D (.dT [])) t1.heap.objs.size (cellsFrom (t1.heap.objs.size + 1) scope.names (cloFrom X.env.cells scope.names [])) fp
  have none1 : ∀ b ∈ fp, (upd G D (.dT [])) b = none := fun b hb => (own1 b hb).1.1
  show codeAny _ _ (.compStart (.DictComp kx vx [⟨tg, iter, ifs, 0⟩] scope pos) 0 (.ref it) (.ref D) (compEnvC scope (cellsFrom (t1.heap.objs.size + 1) scope.names (cloFrom X.env.cells scope.names [])) t1.heap.objs.size X.env)) (compPost (model X.prog X.w) X.A X.xe none (EP X pins σ Q) (.ref D) t1.heap.objs.size) { t1 with heap := pushCells (t1.heap.push { cls := .type "dict", data := .dict #[] }) scope.names }
  obtain ⟨ce, ece⟩ : ∃ ce, compEnvC scope (cellsFrom (t1.heap.objs.size + 1) scope.names (cloFrom X.env.cells scope.names [])) t1.heap.objs.size X.env = ce := ⟨_, rfl⟩
  have at1 : ce.locals = t1.heap.objs.size := by rw [← ece]; rfl
  rw [ece] at I2 g1 t2 k1 v1 ⊢
  generalize upd G D (.dT []) = G1 at *
  obtain ⟨t3, et3⟩ : ∃ t3 : Shared, ({ t1 with heap := pushCells (t1.heap.push { cls := .type "dict", data := .dict #[] }) scope.names } : Shared) = t3 := ⟨_, rfl⟩
  rw [et3] at I2 ⊢
  have st3 : tn 0 t3.heap := T.keep _ _ _ st1 fun b _ o e => by rw [← et3]; exact pushCells_keeps _ _ _ _ (Heap.get?_push_of_some _ e)
  have held : ∀ {σ' : L2.St} {H' : Hp} {s' : Shared}, Inv (X.blk t1 G1 scope ce fp) [] σ' H' s' → (∀ b ∈ fp, H' b = none) → ∀ b ∈ fp, FpOk (X.blk t1 G1 scope ce fp) [] H' b := fun {σ' H' s'} I' n b hb =>
    ⟨n b hb, (I'.ok.exf b hb).1, I'.ok.exfs b hb, .inl hb, fun x c e => (I'.ok.exf b hb).2 x c e, fun p hp => absurd (show p ∈ ([] : List (Addr × Obj)) ++ [] from hp) (by simp)⟩
  have loop : codeAny (model X.prog X.w) X.A (.compLoop (.DictComp kx vx [⟨tg, iter, ifs, 0⟩] scope pos) 0 (.ref it) (.ref D) ce) (compPost (model X.prog X.w) X.A X.xe none (EP X pins σ Q) (.ref D) t1.heap.objs.size) t3 := by
    refine compLoop_anyD (fun n s' => ∃ i H', Inv (X.blk t1 G1 scope ce fp) [] (L2.wipe σ (own.map (·.2))) H' s' ∧ tn i s'.heap ∧ (∀ b ∈ fp, H' b = none) ∧ Wd i n H') ?_ m0 ⟨0, G1, I2, st3, none1, w0⟩
    rintro n s5 ⟨i, H5, I5, st5, n5, w5⟩
    rcases turn i n H5 w5 with ⟨stop, qq⟩ | ⟨go, Nx, hNx, step⟩
    · refine thnF (T.done (X.blk t1 G1 scope ce fp) rfl rfl rfl calm i [] s5 _ H5 (fun _ _ => False) I5 (held I5 n5) st5 stop) fun r s6 ⟨hr, I6⟩ => ?_
      subst hr
      have I7 : Inv X pins σ H5 s6 := I1.call' (ch := fp) I6.os I6.base I6.hok I6.bare fun b hb => let o := (own1 b hb).1.2; ⟨o.2.2.1, o.1, o.2.2.2.1, o.2.2.2.2⟩
      have nC : H5 t1.heap.objs.size = none := at1 ▸ (I6.free : H5 ce.locals = none)
      obtain ⟨m, hn, _⟩ := I6.loc
      have hn : s6.heap.Ns t1.heap.objs.size m := at1 ▸ (hn : s6.heap.Ns ce.locals m)
      refine ⟨m, hn, fun h'' sb => ?_⟩
      obtain ⟨f0, f1, f2, f3, f4, f5⟩ := I1.fpOk (Nat.le_refl _) nC
      exact ⟨.ref D, H5, I7.turned (t' := s6.toks) (fun b o hb e => (sb.2 b hb).trans e) f0 f1 f3 f4 f5, rfl, qq⟩
    · refine thnF (T.item (X.blk t1 G1 scope ce fp) rfl rfl rfl calm i [] s5 _ H5 (fun _ _ => False) I5 (held I5 n5) st5 go) fun r s6 ⟨u, hr, h6⟩ => ?_
      subst hr
      refine thnF h6 fun _ s7 ⟨x, H7, I7, r7, y7, st7, n7⟩ => ?_
      refine thnF (g1.run _ s7 _ H7 x u _ (I7.pinned (held I7 n7) (T.obj _ _ st7)) r7 (step x H7 y7)) fun _ s8 ⟨σ8, H8, I8, hw8, q8⟩ => ?_
      refine thnF (t2.run _ s8 σ8 H8 _ I8 q8) fun b s9 ⟨H9, I9, q9⟩ => ?_
      have over : ∀ {s' : Shared} {H' : Hp}, Inv (X.blk t1 G1 scope ce fp) ([] ++ pinsAt fp s7.heap) σ8 H' s' → Nx H' → ∃ m, m < n ∧ ∃ i H', Inv (X.blk t1 G1 scope ce fp) [] (L2.wipe σ (own.map (·.2))) H' s' ∧ tn i s'.heap ∧ (∀ b ∈ fp, H' b = none) ∧ Wd i m H' := fun {s' H'} I' nx => by
        obtain ⟨l, hl, w'⟩ := hNx H' nx
        have pin : ∀ b ∈ fp, ∀ o, s7.heap.get? b = some o → s'.heap.get? b = some o ∧ H' b = none := fun b hb o e =>
          let z := I'.pin (b, o) (List.mem_append_right _ (List.mem_append_right _ (mem_pinsAt hb e)))
          ⟨z.1, z.2.1⟩
        have len : (L2.wipe σ (own.map (·.2))).length = σ8.length := hw8 ▸ L2.wipe_length _ _
        refine ⟨l, hl, i + 1, H', (I'.unpinned (pins := [])).weak len (fun j v e => (wipe_some (hw8 ▸ e)).1), T.keep _ _ _ st7 fun b hb o e => (pin b hb o e).1, fun b hb => ?_, w'⟩
        obtain ⟨o, e, _⟩ := T.obj _ _ st7 b hb
        exact (pin b hb o e).2
      cases b with
      | false => exact over I9 (by simpa using q9)
      | true =>
        rw [if_pos rfl] at q9 ⊢
        refine thnF (k1.run _ s9 σ8 H9 _ I9 q9) fun z s10 ⟨yk, H10, I10, r10, q10⟩ => ?_
        refine thnF (v1.run _ s10 σ8 H10 _ I10 q10) fun z2 s11 ⟨yv, H11, I11, r11, kvs, k, a, ek, ha, hD11, hz11, nx⟩ => ?_
        subst ek
        cases (show z = Value.ref a from r10)
        exact set_dT (X := X.blk t1 G1 scope ce fp) hu I11 hD11 ha hz11 r11 fun s12 I12 => over I12 nx
  exact codeAny_compStart_dict loop (T.self X.A 0 _ _ _ st3 loop)
end
end Pd

set_option Elab.async false
set_option linter.all false
set_option maxRecDepth 100000
set_option maxHeartbeats 1000000
/-! The layer Pd, part X: mirrors of dict comprehensions with tuple keys. -/
namespace Pd
open PySem PySem.Spec PyProof.Rows L2
def dcGo (g : GM) (tt : BM) (tk tv : XM) (ρ : EV) (n : Nat) : List PyData → Store → Option Store
  | [], S => some S
  | d :: r, S => (g (.fz d) ρ S).bind fun (ρ1, S1) => (tt ρ1 S1).bind fun (b, S2) =>
    if b = true then (tk ρ1 S2).bind fun (k, S3) => (tv ρ1 S3).bind fun (s, S4) => (flat S4 k).bind fun kd => match s, S4[n]? with
      | .fz z, some (.dT l) => if l.length < sizeLine then (tkeyOf kd).bind fun k => dcGo g tt tk tv ρ n r (S4.set n (.dT (putS l k (.fz z)))) else none
      | _, _ => none
    else dcGo g tt tk tv ρ n r S2
/-- {tk: tv for g in f if tt}, keys tuples: a new dict that may change -/
def mDcT (own : List Nat) (f : IM) (g : GM) (tt : BM) (tk tv : XM) : XM := fun ρ P => (f ρ P).bind fun (items, _, P1) =>
  (dcGo g tt tk tv { ρ.wipe own with b := P1.length } P1.length items (P1 ++ [.dT []])).bind fun S => match S[P1.length]? with
    | some (.dT l) => if (fzs (l.map (·.2))).isSome = true then some (.ptr P1.length, S.take P1.length ++ [.dT l]) else none
    | _ => none
theorem dc_go {K : PySem.W.Frag} {J : It} {items : List PyData} {src : SV} {w : V} (ok : ItOk K J items src w) {g : GM} {ts : List Nat} {tt : BM} {tk tv : XM} {own : List Nat} {bs : List Nat} {ρ : EV} {σ : L2.St} {os : List SV} {vs : List V} {P : Store} {H1 : Hp} {S : Store} {Df : Hp → Prop} {D : Addr}
    (hts : ∀ i ∈ ts, i ∈ own)
    (R : Rel K bs ρ σ (src :: os) (w :: vs) P H1) (hD : H1 D = none) (e : dcGo g tt tk tv { ρ.wipe own with b := P.length } P.length items (P ++ [.dT []]) = some S)
    (q : ∀ H, Rel K (P.length :: bs) { ρ with b := P.length } σ (.ptr P.length :: src :: os) (.ref D :: w :: vs) S H → Df H) :
    ∃ W : Nat → Nat → Hp → Prop, (∃ m, W 0 m (upd H1 D (.dT []))) ∧ ∀ i m H, W i m H →
      (J.stop i H ∧ Df H) ∨ (J.go i H ∧ ∃ Nx : Hp → Prop, (∀ H', Nx H' → ∃ m', m' < m ∧ W (i + 1) m' H') ∧ ∀ x H', J.yld i H x H' → tMG K ts g x (L2.wipe σ own) H' fun σ2 H2 => L2.wipe σ2 own = L2.wipe σ own ∧ tMT K tt σ2 H2 fun b H3 =>
        if b = true then tM K tk σ2 H3 fun y H4 => tM K tv σ2 H4 fun z H5 => ∃ kvs k a, y = .ref a ∧ H5 a = some (.tup (k.map kV)) ∧ H5 D = some (.dT kvs) ∧ kvs.length < sizeLine ∧ Nx (upd H5 D (.dT (putK kvs k z))) else Nx H3) := by
  -- what the def's slots hold, on the stack
  have hls : ∃ (ls : List SV) (ws : List V), ws.length = ls.length ∧ (∀ F ad, SVA K F ad ws ls → SlR K F ad ρ.sl σ) ∧ Rel K bs ρ σ (src :: (ls ++ os)) (w :: (ws ++ vs)) P H1 := by
    obtain ⟨F, ad, R⟩ := R
    obtain ⟨ls, ws, a, b⟩ := R.slots.list
    obtain ⟨r, R1⟩ := R.pop
    exact ⟨ls, ws, a.length, b, F, ad, R.tops_of (.cons r (a.append R1.tops))⟩
  obtain ⟨ls, ws, hlen, hb, Rl⟩ := hls
  have start : ∃ ρx σx, ρx.b = P.length ∧ Rel K (P.length :: bs) ρx σx (.ptr P.length :: src :: (ls ++ os)) (.ref D :: w :: (ws ++ vs)) (P ++ [.dT []]) (upd H1 D (.dT [])) := by
    obtain ⟨F, ad, R⟩ := Rl
    exact ⟨_, _, rfl, F, ad ++ [D], R.enter.cell hD fun ad' pr => ⟨R.free hD, [], upd_same, .nil⟩⟩
  refine ⟨fun i m H => m = items.length - i ∧ i ≤ items.length ∧ ∃ T ρx σx, ρx.b = P.length ∧ Rel K (P.length :: bs) ρx σx (.ptr P.length :: src :: (ls ++ os)) (.ref D :: w :: (ws ++ vs)) T H ∧ dcGo g tt tk tv { ρ.wipe own with b := P.length } P.length (items.drop i) T = some S, ⟨_, rfl, Nat.zero_le _, _, start.choose, start.choose_spec.choose, start.choose_spec.choose_spec.1, start.choose_spec.choose_spec.2, by simpa using e⟩, ?_⟩
  rintro i m H ⟨rfl, hle, T, ρx, σx, hbx, RT, eT⟩
  have under : Rel K (P.length :: bs) ρx σx (src :: .ptr P.length :: (ls ++ os)) (w :: .ref D :: (ws ++ vs)) T H := by
    obtain ⟨F, ad, R⟩ := RT
    obtain ⟨r1, R1⟩ := R.pop
    obtain ⟨r2, R2⟩ := R1.pop
    exact ⟨F, ad, (R2.push r1).push r2⟩
  obtain ⟨ok1, ok2⟩ := ok _ _ _ _ _ _ _ i under
  by_cases hlt : i < items.length
  · obtain ⟨go, yl⟩ := ok1 hlt
    refine .inr ⟨go, fun H => ∃ T ρx σx, ρx.b = P.length ∧ Rel K (P.length :: bs) ρx σx (.ptr P.length :: src :: (ls ++ os)) (.ref D :: w :: (ws ++ vs)) T H ∧ dcGo g tt tk tv { ρ.wipe own with b := P.length } P.length (items.drop (i + 1)) T = some S, fun H' ⟨T', ρ', σ', b', R', e'⟩ => ⟨items.length - (i + 1), by omega, rfl, hlt, T', ρ', σ', b', R', e'⟩, fun x H' hy => ?_⟩
    obtain ⟨d, hd, R3⟩ := yl x H' hy
    rw [List.drop_eq_getElem_cons hlt] at eT
    have ed : items[i] = d := by rw [List.getElem?_eq_getElem hlt] at hd; exact Option.some.inj hd
    rw [ed] at eT
    simp only [dcGo, Option.bind_eq_some_iff] at eT
    obtain ⟨⟨ρ4, P4⟩, e4, ⟨b, P5⟩, e5, e6⟩ := eT
    have R4 : Rel K (P.length :: bs) { ρ.wipe own with b := P.length } (L2.wipe σ own) (.fz d :: .ptr P.length :: src :: (ls ++ os)) (x :: .ref D :: w :: (ws ++ vs)) T H' := by
      obtain ⟨F, ad, R⟩ := R3
      obtain ⟨r0, R1⟩ := R.pop
      obtain ⟨r1, R2⟩ := R1.pop
      obtain ⟨r2, R3⟩ := R2.pop
      have sp := (SVA.split hlen R3.tops).1
      refine ⟨F, ad, { R with slots := (hb F ad sp).wipe own, tops := .cons r0 (.cons r2 (.cons r1 R3.tops)), bb := fun c hc => ?_ }⟩
      have := R.bb c hc
      show c ≤ P.length
      rw [hbx] at this; exact this
    refine ⟨_, _, _, _, _, _, ρ4, P4, R4, e4, fun σ4 H4 R5 k4 => ⟨wipe_keeps hts k4, _, _, _, _, _, b, P5, R5, e5, fun H5 R6 => ?_⟩⟩
    simp only at e6
    have hb4 : ∀ {bs : List Nat} {os : List SV} {vs : List V} {P' : Store} {H : Hp}, Rel K (P.length :: bs) ρ4 σ4 os vs P' H → P.length ≤ ρ4.b := fun ⟨F, ad, R⟩ => R.bb _ List.mem_cons_self
    cases b with
    | true =>
      rw [if_pos rfl] at e6 ⊢
      simp only [Option.bind_eq_some_iff] at e6
      obtain ⟨⟨sk, P6⟩, e7, ⟨sv, P7⟩, e9, kd, e10, e8⟩ := e6
      refine ⟨_, _, _, _, _, sk, P6, R6, e7, fun y H6 R7 => ⟨_, _, _, _, _, sv, P7, R7, e9, fun z H7 R8 => ?_⟩⟩
      simp only at e8
      split at e8
      · rename_i z' l hl
        split at e8
        · rename_i hz
          simp only [Option.bind_eq_some_iff] at e8
          obtain ⟨kk, ek, e8⟩ := e8
          obtain ⟨F, ad, R8⟩ := R8
          obtain ⟨rz, R9⟩ := R8.pop
          obtain ⟨ry, R10⟩ := R9.pop
          obtain ⟨rD, R11⟩ := R10.pop
          have vk := R8.view ry e10
          have hs := R8.sub
          obtain ⟨a, ha, ea, hc⟩ := R10.at rD hl
          cases ea
          obtain ⟨hF, xs, hx, tx⟩ := hc
          obtain ⟨ys, ey, ty⟩ := put_zip kk rz l xs tx
          cases kd with
          | tuple ds =>
            have e2 := keysOf_some (show keysOf ds = some kk from ek)
            subst e2
            obtain ⟨bb, zs, rfl, hb2, tb, _⟩ := vk.tups hs
            replace hb2 := hb2.key (keyAll_keys _)
            have ez := tup_keys kk zs tb
            subst ez
            have hln := tx.length
            refine ⟨_, kk, bb, rfl, hb2, hx, by simp at hln ⊢; omega, P7.set P.length (.dT (putS l kk (.fz z'))), { ρ4 with b := P.length }, σ4, rfl, ⟨F, ad, ?_⟩, e8⟩
            rw [ey]
            have R12 := R10.put (c := .dT (putS l kk (.fz z'))) hl ha hF ⟨hF, ys, upd_same, ty⟩ fun m hm => by
              rcases putS_ps kk (.fz z') l m hm with h | h
              · exact .inl h
              · simp [SV.ps] at h
            refine { R12 with slots := R12.slots, bb := fun c hc => ?_ }
            rcases List.mem_cons.mp hc with rfl | hc
            · exact Nat.le_refl _
            · obtain ⟨F0, ad0, R0⟩ := R
              exact R0.bas.le c hc
          | _ => simp [tkeyOf] at ek
        · cases e8
      · cases e8
    | false =>
      rw [if_neg Bool.false_ne_true] at e6 ⊢
      refine ⟨P5, { ρ4 with b := P.length }, σ4, rfl, ?_, e6⟩
      obtain ⟨F, ad, R6⟩ := R6
      refine ⟨F, ad, { R6 with slots := R6.slots, bb := fun c hc => ?_ }⟩
      rcases List.mem_cons.mp hc with rfl | hc
      · exact Nat.le_refl _
      · obtain ⟨F0, ad0, R0⟩ := R
        exact R0.bas.le c hc
  · have : i = items.length := by omega
    subst this
    rw [List.drop_length] at eT
    simp only [dcGo, Option.some.injEq] at eT
    subst eT
    refine .inl ⟨ok2 (Nat.le_refl _), q H ?_⟩
    obtain ⟨F, ad, RX⟩ := RT
    obtain ⟨r1, R1⟩ := RX.pop
    obtain ⟨r2, R2⟩ := R1.pop
    obtain ⟨sp, so⟩ := SVA.split hlen R2.tops
    refine ⟨F, ad, { RX with slots := hb F ad sp, tops := .cons r1 (.cons r2 so), bb := fun c hc => ?_ }⟩
    have := RX.bb c hc
    show c ≤ P.length
    rw [hbx] at this; exact this

section
variable {X : Cx} {pos : Pos}
theorem pairs_ps : ∀ {l : List (List Key × SV)}, (fzs (l.map (·.2))).isSome = true → l.flatMap (fun p => p.2.ps) = []
  | [], _ => rfl
  | (k, .fz d) :: r, h => by
    simp only [List.map_cons, fzs, Option.isSome_map] at h
    rw [List.flatMap_cons, pairs_ps h]; rfl
  | (_, .ptr _) :: _, h => by simp [fzs] at h
  | (_, .lk _ _ _) :: _, h => by simp [fzs] at h
theorem dcT_d {f : IM} {g : GM} {tt : BM} {tk tv : XM} {ts own : List Nat} {wi : TI} (hts : ∀ i ∈ ts, i ∈ own)
    (h0 : ∀ (bs : List Nat) (ρ : EV) (σ : L2.St) (os : List SV) (vs : List V) (P : Store) (H : Hp) (R : It → Hp → Prop) (items : List PyData) (src : SV) (P' : Store), Rel X.K bs ρ σ os vs P H → f ρ P = some (items, src, P') →
      (∀ J v H' sr, Rel X.K bs ρ σ (sr :: os) (v :: vs) P' H' → ItOk X.K J items sr v → R J H') → wi σ H R)
    (bs : List Nat) (ρ : EV) (σ : L2.St) (os : List SV) (vs : List V) (P : Store) (H : Hp) (Q : VK) (r : SV) (P' : Store) (R : Rel X.K bs ρ σ os vs P H) (e : mDcT own f g tt tk tv ρ P = some (r, P'))
    (q : ∀ v H', Rel X.K bs ρ σ (r :: os) (v :: vs) P' H' → Q v H') : tDcT wi (tMG X.K ts g) (tMT X.K tt) (tM X.K tk) (tM X.K tv) own σ H Q := by
  simp only [mDcT, Option.bind_eq_some_iff] at e
  obtain ⟨⟨items, src, P1⟩, e0, S, e1, e2⟩ := e
  refine h0 bs ρ σ os vs P H _ items src P1 R e0 fun J w H1 src R1 ok => fun D hD => ?_
  refine dc_go (Df := fun H => Q (.ref D) H) ok hts R1 hD e1 fun H2 R2 => ?_
  simp only at e2
  split at e2
  · rename_i l hl
    split at e2
    · rename_i hds
      cases e2
      obtain ⟨F, ad, R2⟩ := R2
      obtain ⟨F1, ad1, R1⟩ := R1
      obtain ⟨rD, R3⟩ := R2.pop
      obtain ⟨a, ha, ea, hc⟩ := R3.at rD hl
      cases ea
      have hps : (Cell.dT l).ps = [] := pairs_ps hds
      obtain ⟨_, R5⟩ := R3.pop
      have R6 := R5.cut (ρ' := ρ) R5.slots R1.slotsLt R5.tops (fun s hs => R1.topsLt s (List.mem_cons_of_mem _ hs)) (fun c hc => R1.bb c hc) (fun c hc => R1.bas.le c hc)
      have na : D ∉ ad.take P1.length := fun hm => by
        obtain ⟨j, hj, ej⟩ := List.getElem_of_mem hm
        rw [List.length_take] at hj
        rw [List.getElem_take] at ej
        obtain ⟨h2, q2⟩ := List.getElem?_eq_some_iff.mp ha
        have := (List.getElem_inj R3.nd).mp (ej.trans q2.symm)
        omega
      have R7 := R6.adopt na (R3.there D (List.mem_of_getElem? ha)) (no_ps hps hc) hps
      have en : (S.take P1.length).length = P1.length := by
        have hl := (List.getElem?_eq_some_iff.mp hl).1
        rw [List.length_take]; omega
      rw [en] at R7
      exact q _ _ ⟨_, _, R7⟩
    · cases e2
  · cases e2
theorem ped_dcT {kx vx tg iter : Expr} {ifs : List Expr} {scope : Scope} {own : List (Str × Nat)} {f : IM} {g : GM} {tt : BM} {tk tv : XM} {ts : List Nat} (hu : X.A.units + 65 < cLine) (hc : X.calm = true) (hN : X.N.Nodup) (hi : PId X tg iter f) (ok : BlkOk X.N X.env.scope scope own)
    (hg : ∀ (s : Shared) (H : Hp) (C : Addr) (cl : List (Str × Addr)) (fp : List Addr), PGd (X.blk s H scope (compEnvC scope cl C X.env) fp) tg ts g) (ht : ∀ (s : Shared) (H : Hp) (C : Addr) (cl : List (Str × Addr)) (fp : List Addr), PTsd (X.blk s H scope (compEnvC scope cl C X.env) fp) ifs tt)
    (hk : ∀ (s : Shared) (H : Hp) (C : Addr) (cl : List (Str × Addr)) (fp : List Addr), PEd (X.blk s H scope (compEnvC scope cl C X.env) fp) kx tk)
    (hv : ∀ (s : Shared) (H : Hp) (C : Addr) (cl : List (Str × Addr)) (fp : List Addr), PEd (X.blk s H scope (compEnvC scope cl C X.env) fp) vx tv) (hts : ∀ i ∈ ts, i ∈ own.map (·.2) := by decide) (hs : ∀ x, foldedSetIterable iter X.env x = pure x := by intro _; rfl) :
    PEd X (.DictComp kx vx [⟨tg, iter, ifs, 0⟩] scope pos) (mDcT (own.map (·.2)) f g tt tk tv) := by
  obtain ⟨wi, p0, h0⟩ := hi
  exact ⟨_, pe_dcT (g := tMG X.K ts g) (tt := tMT X.K tt) (tk := tM X.K tk) (tv := tM X.K tv) (by omega) hc hN p0 ok (fun s H C cl fp => (hg s H C cl fp).canon) (fun s H C cl fp => (ht s H C cl fp).canon) (fun s H C cl fp => (hk s H C cl fp).canon) (fun s H C cl fp => (hv s H C cl fp).canon) hs, dcT_d hts h0⟩
end
end Pd

set_option Elab.async false
set_option linter.all false
set_option maxRecDepth 100000
set_option maxHeartbeats 1000000
/-! The layer Pd, part Y: dict(zip(xs, t)), xs a list, t a tuple (turned from the rules for two lists and for two tuples). -/
namespace RZ
open PySem
open PySem.Sem (wp)
section
variable {prog : Program} {w : World} {A : Around} {E : Value → Shared → Prop} {s : Shared}
theorem zipM_next_item {z TI TO i1 i2 l1 l2 : Addr} {k1 k2 : Nat} {xs ys : Array Value} {x y a b : Value} {Q : Value → Shared → Prop} (D : ZipApart z TI TO i1 i2 l1 l2)
    (hz : IsZip s.heap z TI TO .none) (hTI : IsPair s.heap TI (.ref i1) (.ref i2)) (hTO : IsPair s.heap TO a b)
    (h1 : s.heap.IsListIter i1 l1 k1) (h2 : s.heap.IsTupleIter i2 l2 k2) (hl1 : s.heap.IsList l1 xs) (hl2 : s.heap.IsTuple l2 ys) (hx : xs[k1]? = some x) (hy : ys[k2]? = some y)
    (hQ : ∀ h', IsZip h' z TI TO (rawInt s.heap.objs.size) → IsPair h' TO x y → h'.IsListIter i1 l1 (k1 + 1) → h'.IsTupleIter i2 l2 (k2 + 1) → IsPair h' s.heap.objs.size x y → h'.objs.size = s.heap.objs.size + 1 →
      (∀ c o, c ≠ z → c ≠ TO → c ≠ i1 → c ≠ i2 → s.heap.get? c = some o → h'.get? c = some o) → Q (.ref s.heap.objs.size) { s with heap := h' }) :
    wpAny (model prog w) A (Builtin.«zip.__next__» ⟨[.ref z], []⟩) (fun fin s' => ∃ v, fin = .done (.ret v) ∧ Q v s') E s := by
  show wpAny _ _ (field (.ref z) 2 >>= _) _ _ _
  refine wpAny_bind (wpAny_field hz rfl (x := .bool false) rfl ?_)
  show wpAny _ _ (field (.ref z) 3 >>= _) _ _ _
  refine wpAny_bind (wpAny_field hz rfl (x := .ref TI) rfl ?_)
  refine wpAny_bind (wpAny_seqItems hTI rfl ?_)
  show wpAny _ _ (Builtin.SmallTypes.ownedTupleIsFree (.ref z) >>= _) _ _ _
  refine wpAny_bind ?_
  unfold Builtin.SmallTypes.ownedTupleIsFree
  refine wpAny_bind (wpAny_field hz rfl (x := .none) rfl (wpAny_pure ?_))
  simp only [if_true]
  refine wpAny_bind (wpAny_rule ?_)
  refine wpAny_bind (wpAny_field hz rfl (x := .ref TO) rfl ?_)
  refine wpAny_bind (wpAny_setField_rec hz (by simp) fun h₁ hz₁ hs₁ => ?_)
  replace hz₁ : IsZip h₁ z TI TO .ellipsis := hz₁
  refine wpAny_bind ?_
  simp only [List.zipIdx_cons, List.zipIdx_nil, List.forIn_cons, List.forIn_nil]

  refine wpAny_bind (wpAny_bind (wpAny_onRaise ?_))
  show wpAny _ _ (Builtin.SmallTypes.nextOf (.ref i1) >>= _) _ _ _
  refine wpAny_bind (wpAny_nextOf_list_item (h1.extBut hs₁.extBut D.i1z) (hl1.extBut hs₁.extBut D.l1z) hx fun h₂ h1₂ hs₂ => wpAny_pure ?_)
  have hTO₂ : IsPair h₂ TO a b := hs₂.extBut _ _ D.TOi1 (hs₁.extBut _ _ D.TOz hTO)
  refine wpAny_bind (wpAny_seqItems hTO₂ rfl ?_)
  refine wpAny_bind (wpAny_updateSeq_pair hTO₂ fun h₃ hTO₃ hs₃ => ?_)
  replace hTO₃ : IsPair h₃ TO x b := hTO₃
  refine wpAny_bind (wpAny_letGo (wpAny_pure ?_))

  refine wpAny_bind (wpAny_bind (wpAny_onRaise ?_))
  show wpAny _ _ (Builtin.SmallTypes.nextOf (.ref i2) >>= _) _ _ _
  refine wpAny_bind (nextOf_tuple_item (((h2.extBut hs₁.extBut D.i2z).extBut hs₂.extBut D.i12.symm).extBut hs₃.extBut D.TOi2.symm)
    (((hl2.extBut hs₁.extBut D.l2z).extBut hs₂.extBut D.l2i1).extBut hs₃.extBut D.l2TO) hy fun h₄ h2₄ hs₄ => wpAny_pure ?_)
  have hTO₄ : IsPair h₄ TO x b := hs₄.extBut _ _ D.TOi2 hTO₃
  refine wpAny_bind (wpAny_seqItems hTO₄ rfl ?_)
  refine wpAny_bind (wpAny_updateSeq_pair hTO₄ fun h₅ hTO₅ hs₅ => ?_)
  replace hTO₅ : IsPair h₅ TO x y := hTO₅
  refine wpAny_bind (wpAny_letGo (wpAny_pure (wpAny_pure ?_)))

  refine wpAny_bind (wpAny_seqItems hTO₅ rfl ?_)
  refine wpAny_bind (wpAny_newTuple ?_)
  have hsz : h₅.objs.size = s.heap.objs.size := by rw [hs₅.1, hs₄.1, hs₃.1, hs₂.1, hs₁.1]
  have hz₅ : IsZip h₅ z TI TO .ellipsis := hs₅.extBut _ _ D.TOz.symm (hs₄.extBut _ _ D.i2z.symm (hs₃.extBut _ _ D.TOz.symm (hs₂.extBut _ _ D.i1z.symm hz₁)))
  have hk₅ : ∀ c o, c ≠ z → c ≠ TO → c ≠ i1 → c ≠ i2 → s.heap.get? c = some o → h₅.get? c = some o := fun c o c1 c2 c3 c4 e =>
    hs₅.extBut _ _ c2 (hs₄.extBut _ _ c4 (hs₃.extBut _ _ c2 (hs₂.extBut _ _ c3 (hs₁.extBut _ _ c1 e))))
  have h1₅ : h₅.IsListIter i1 l1 (k1 + 1) := ((h1₂.extBut hs₃.extBut D.TOi1.symm).extBut hs₄.extBut D.i12).extBut hs₅.extBut D.TOi1.symm
  have h2₅ : h₅.IsTupleIter i2 l2 (k2 + 1) := h2₄.extBut hs₅.extBut D.TOi2.symm
  have hzlt : z < h₅.objs.size := Heap.lt_size hz₅
  have hTOlt : TO < h₅.objs.size := Heap.lt_size hTO₅
  have hi1lt : i1 < h₅.objs.size := by obtain ⟨_, e, _⟩ := h1₅; exact Heap.lt_size e
  have hi2lt : i2 < h₅.objs.size := by obtain ⟨_, e, _⟩ := h2₅; exact Heap.lt_size e
  show wpAny _ _ (Builtin.SmallTypes.ownedTupleHandOut (.ref z) (.ref h₅.objs.size) >>= _) _ _ _
  refine wpAny_bind ?_
  unfold Builtin.SmallTypes.ownedTupleHandOut
  have hz₆ : IsZip (h₅.push { cls := .type "tuple", data := .seq #[x, y] }) z TI TO .ellipsis := Heap.get?_push_of_some _ hz₅
  refine wpAny_bind (wpAny_setField_rec hz₆ (by simp) fun h₇ hz₇ hs₇ => ?_)
  replace hz₇ : IsZip h₇ z TI TO (rawInt h₅.objs.size) := hz₇
  refine wpAny_setField_rec hz₇ (by simp) fun h₈ hz₈ hs₈ => ?_
  replace hz₈ : IsZip h₈ z TI TO (rawInt h₅.objs.size) := hz₈
  have up : ∀ c o, c ≠ z → h₅.get? c = some o → h₈.get? c = some o := fun c o c1 e => hs₈.extBut _ _ c1 (hs₇.extBut _ _ c1 (Heap.get?_push_of_some _ e))
  have hT₈ : IsPair h₈ h₅.objs.size x y := hs₈.extBut _ _ (Nat.ne_of_gt hzlt) (hs₇.extBut _ _ (Nat.ne_of_gt hzlt) (Heap.get?_push_size _ rfl))
  have hz8 : h₈.objs.size = h₅.objs.size + 1 := by rw [hs₈.1, hs₇.1, Heap.size_push]
  rw [hsz] at hz₈ hT₈ hz8
  refine wpAny_pure ⟨_, rfl, ?_⟩
  show Q (.ref h₅.objs.size) _
  rw [hsz]
  exact hQ h₈ hz₈ (up _ _ D.TOz hTO₅) (h1₅.at fun o e => up _ o D.i1z e) (h2₅.at fun o e => up _ o D.i2z e) hT₈ hz8 fun c o c1 c2 c3 c4 e => up c o c1 (hk₅ c o c1 c2 c3 c4 e)

theorem zipM_next_end {z TI TO i1 i2 l1 l2 : Addr} {k1 k2 : Nat} {xs ys : Array Value} {a b : Value} {Q : Fin → Shared → Prop} (hh : A.handled = none) (D : ZipApart z TI TO i1 i2 l1 l2)
    (hz : IsZip s.heap z TI TO .none) (hTI : IsPair s.heap TI (.ref i1) (.ref i2)) (hTO : IsPair s.heap TO a b)
    (h1 : s.heap.IsListIter i1 l1 k1) (h2 : s.heap.IsTupleIter i2 l2 k2) (hl1 : s.heap.IsList l1 xs) (hl2 : s.heap.IsTuple l2 ys) (hend : xs[k1]? = none ∨ ys[k2]? = none)
    (hE : ∀ h' e, (∀ c o, c ≠ z → c ≠ TO → c ≠ i1 → c ≠ i2 → s.heap.get? c = some o → h'.get? c = some o) → (∃ o, h'.get? e = some o ∧ o.cls = .type "StopIteration") → E (.ref e) { s with heap := h' }) :
    wpAny (model prog w) A (Builtin.«zip.__next__» ⟨[.ref z], []⟩) Q E s := by
  show wpAny _ _ (field (.ref z) 2 >>= _) _ _ _
  refine wpAny_bind (wpAny_field hz rfl (x := .bool false) rfl ?_)
  show wpAny _ _ (field (.ref z) 3 >>= _) _ _ _
  refine wpAny_bind (wpAny_field hz rfl (x := .ref TI) rfl ?_)
  refine wpAny_bind (wpAny_seqItems hTI rfl ?_)
  show wpAny _ _ (Builtin.SmallTypes.ownedTupleIsFree (.ref z) >>= _) _ _ _
  refine wpAny_bind ?_
  unfold Builtin.SmallTypes.ownedTupleIsFree
  refine wpAny_bind (wpAny_field hz rfl (x := .none) rfl (wpAny_pure ?_))
  simp only [if_true]
  refine wpAny_bind (wpAny_rule ?_)
  refine wpAny_bind (wpAny_field hz rfl (x := .ref TO) rfl ?_)
  refine wpAny_bind (wpAny_setField_rec hz (by simp) fun h₁ hz₁ hs₁ => ?_)
  replace hz₁ : IsZip h₁ z TI TO .ellipsis := hz₁
  refine wpAny_bind ?_
  simp only [List.zipIdx_cons, List.zipIdx_nil, List.forIn_cons, List.forIn_nil]
  refine wpAny_bind (wpAny_bind (wpAny_onRaise ?_))
  show wpAny _ _ (Builtin.SmallTypes.nextOf (.ref i1) >>= _) _ _ _
  cases hx : xs[k1]? with
  | none =>
    refine wpAny_bind (wpAny_nextOf_list_end hh (h1.extBut hs₁.extBut D.i1z) (hl1.extBut hs₁.extBut D.l1z) hx fun h₂ e hs₂ he => ?_)
    obtain ⟨oe, hoe, hce⟩ := he
    have hz₂ : IsZip h₂ z TI TO .ellipsis := hs₂ _ _ D.i1z.symm hz₁
    have hez : e ≠ z := fun x => by subst x; rw [hz₂] at hoe; cases hoe; simp at hce
    refine wpAny_setField_rec hz₂ (by simp) fun h₃ _ hs₃ => hE h₃ e (fun c o c1 _ c3 _ x => hs₃.extBut _ _ c1 (hs₂ _ _ c3 (hs₁.extBut _ _ c1 x))) ⟨oe, hs₃.extBut _ _ hez hoe, hce⟩
  | some x =>
    have hy : ys[k2]? = none := by rcases hend with h | h; rw [hx] at h; cases h; exact h
    refine wpAny_bind (wpAny_nextOf_list_item (h1.extBut hs₁.extBut D.i1z) (hl1.extBut hs₁.extBut D.l1z) hx fun h₂ h1₂ hs₂ => wpAny_pure ?_)
    have hTO₂ : IsPair h₂ TO a b := hs₂.extBut _ _ D.TOi1 (hs₁.extBut _ _ D.TOz hTO)
    refine wpAny_bind (wpAny_seqItems hTO₂ rfl ?_)
    refine wpAny_bind (wpAny_updateSeq_pair hTO₂ fun h₃ hTO₃ hs₃ => ?_)
    refine wpAny_bind (wpAny_letGo (wpAny_pure ?_))
    refine wpAny_bind (wpAny_bind (wpAny_onRaise ?_))
    show wpAny _ _ (Builtin.SmallTypes.nextOf (.ref i2) >>= _) _ _ _
    refine wpAny_bind (nextOf_tuple_end hh (((h2.extBut hs₁.extBut D.i2z).extBut hs₂.extBut D.i12.symm).extBut hs₃.extBut D.TOi2.symm)
      (((hl2.extBut hs₁.extBut D.l2z).extBut hs₂.extBut D.l2i1).extBut hs₃.extBut D.l2TO) hy fun h₄ e hs₄ he => ?_)
    obtain ⟨oe, hoe, hce⟩ := he
    have hz₄ : IsZip h₄ z TI TO .ellipsis := hs₄ _ _ D.i2z.symm (hs₃.extBut _ _ D.TOz.symm (hs₂.extBut _ _ D.i1z.symm hz₁))
    have hez : e ≠ z := fun x => by subst x; rw [hz₄] at hoe; cases hoe; simp at hce
    refine wpAny_setField_rec hz₄ (by simp) fun h₅ _ hs₅ => hE h₅ e (fun c o c1 c2 c3 c4 x => hs₅.extBut _ _ c1 (hs₄ _ _ c4 (hs₃.extBut _ _ c2 (hs₂.extBut _ _ c3 (hs₁.extBut _ _ c1 x))))) ⟨oe, hs₅.extBut _ _ hez hoe, hce⟩

theorem pyNext_zipM_item {z TI TO i1 i2 l1 l2 : Addr} {k1 k2 : Nat} {xs ys : Array Value} {x y a b : Value} {Q : Option Value → Shared → Prop} (D : ZipApart z TI TO i1 i2 l1 l2)
    (hz : IsZip s.heap z TI TO .none) (hTI : IsPair s.heap TI (.ref i1) (.ref i2)) (hTO : IsPair s.heap TO a b)
    (h1 : s.heap.IsListIter i1 l1 k1) (h2 : s.heap.IsTupleIter i2 l2 k2) (hl1 : s.heap.IsList l1 xs) (hl2 : s.heap.IsTuple l2 ys) (hx : xs[k1]? = some x) (hy : ys[k2]? = some y)
    (hQ : ∀ h', IsZip h' z TI TO (rawInt s.heap.objs.size) → IsPair h' TO x y → h'.IsListIter i1 l1 (k1 + 1) → h'.IsTupleIter i2 l2 (k2 + 1) → IsPair h' s.heap.objs.size x y → h'.objs.size = s.heap.objs.size + 1 →
      (∀ c o, c ≠ z → c ≠ TO → c ≠ i1 → c ≠ i2 → s.heap.get? c = some o → h'.get? c = some o) → Q (some (.ref s.heap.objs.size)) { s with heap := h' }) :
    wpAny (model prog w) A (pyNext (.ref z)) Q E s := by
  have hT : s.TypeIs (.ref z) "zip" := ⟨_, hz, rfl⟩
  unfold pyNext
  exact wpAny_bind (wpAny_attempt (wpAny_callSpecial?_slot (name := Str.ofString "__next__") hT F.slot_zip_next
    (wpAny_call_entry F.slot_zip_next hT F.entry_zip_next
      (zipM_next_item D hz hTI hTO h1 h2 hl1 hl2 hx hy fun h' a1 a2 a3 a4 a5 a6 a7 => wpAny_pure (hQ h' a1 a2 a3 a4 a5 a6 a7)) (F.args_zip_next_1 _))))

theorem pyNext_zipM_end {z TI TO i1 i2 l1 l2 : Addr} {k1 k2 : Nat} {xs ys : Array Value} {a b : Value} {Q : Option Value → Shared → Prop} (hh : A.handled = none) (D : ZipApart z TI TO i1 i2 l1 l2)
    (hz : IsZip s.heap z TI TO .none) (hTI : IsPair s.heap TI (.ref i1) (.ref i2)) (hTO : IsPair s.heap TO a b)
    (h1 : s.heap.IsListIter i1 l1 k1) (h2 : s.heap.IsTupleIter i2 l2 k2) (hl1 : s.heap.IsList l1 xs) (hl2 : s.heap.IsTuple l2 ys) (hend : xs[k1]? = none ∨ ys[k2]? = none)
    (hQ : ∀ h', (∀ c o, c ≠ z → c ≠ TO → c ≠ i1 → c ≠ i2 → s.heap.get? c = some o → h'.get? c = some o) → Q none { s with heap := h' }) : wpAny (model prog w) A (pyNext (.ref z)) Q E s := by
  have hT : s.TypeIs (.ref z) "zip" := ⟨_, hz, rfl⟩
  unfold pyNext
  refine wpAny_bind (wpAny_attempt (wpAny_callSpecial?_slot (name := Str.ofString "__next__") hT F.slot_zip_next
    (wpAny_call_entry F.slot_zip_next hT F.entry_zip_next (zipM_next_end hh D hz hTI hTO h1 h2 hl1 hl2 hend fun h' e hk he => ?_) (F.args_zip_next_1 _))))
  obtain ⟨o, ho, hc⟩ := he
  refine wpAny_bind (wpAny_isInstance (T := "StopIteration") (b := true) ⟨o, ho, hc⟩ isSubtype_stop ?_)
  exact wpAny_pure (hQ _ hk)

theorem zipM_next_item_held {z TI TO T i1 i2 l1 l2 : Addr} {f : Bool} {oT : Obj} {k1 k2 : Nat} {xs ys : Array Value} {x y : Value} {Q : Value → Shared → Prop} (D : ZipApart z TI TO i1 i2 l1 l2)
    (hz : IsZipHeld s.heap z TI TO T f) (hT : s.heap.get? T = some oT) (hTI : IsPair s.heap TI (.ref i1) (.ref i2))
    (h1 : s.heap.IsListIter i1 l1 k1) (h2 : s.heap.IsTupleIter i2 l2 k2) (hl1 : s.heap.IsList l1 xs) (hl2 : s.heap.IsTuple l2 ys) (hx : xs[k1]? = some x) (hy : ys[k2]? = some y)
    (hQ : ∀ h', IsZipHeld h' z TI TO T true → h'.IsListIter i1 l1 (k1 + 1) → h'.IsTupleIter i2 l2 (k2 + 1) → IsPair h' s.heap.objs.size x y → h'.objs.size = s.heap.objs.size + 1 →
      (∀ c o, c ≠ z → c ≠ i1 → c ≠ i2 → s.heap.get? c = some o → h'.get? c = some o) → Q (.ref s.heap.objs.size) { s with heap := h' }) :
    wpAny (model prog w) A (Builtin.«zip.__next__» ⟨[.ref z], []⟩) (fun fin s' => ∃ v, fin = .done (.ret v) ∧ Q v s') E s := by
  show wpAny _ _ (field (.ref z) 2 >>= _) _ _ _
  refine wpAny_bind (wpAny_field hz rfl (x := .bool false) rfl ?_)
  show wpAny _ _ (field (.ref z) 3 >>= _) _ _ _
  refine wpAny_bind (wpAny_field hz rfl (x := .ref TI) rfl ?_)
  refine wpAny_bind (wpAny_seqItems hTI rfl ?_)
  show wpAny _ _ (Builtin.SmallTypes.ownedTupleIsFree (.ref z) >>= _) _ _ _
  refine wpAny_bind (wpAny_tupleHeld_zip hz hT fun h₁ hz₁ hs₁ => ?_)
  simp only [Bool.false_eq_true, if_false]
  refine wpAny_bind ?_
  rw [← Array.forIn_toList]
  simp only [List.forIn_cons, List.forIn_nil]
  refine wpAny_bind (wpAny_bind (wpAny_holding ?_))
  show wpAny _ _ (Builtin.SmallTypes.nextOf (.ref i1) >>= _) _ _ _
  refine wpAny_bind (wpAny_nextOf_list_item (s := { s with heap := h₁ }) (h1.extBut hs₁.extBut D.i1z) (hl1.extBut hs₁.extBut D.l1z) hx fun h₂ h1₂ hs₂ => wpAny_pure ?_)
  refine wpAny_pure ?_
  refine wpAny_bind (wpAny_bind (wpAny_holding ?_))
  show wpAny _ _ (Builtin.SmallTypes.nextOf (.ref i2) >>= _) _ _ _
  refine wpAny_bind (nextOf_tuple_item (s := { s with heap := h₂ }) ((h2.extBut hs₁.extBut D.i2z).extBut hs₂.extBut D.i12.symm) ((hl2.extBut hs₁.extBut D.l2z).extBut hs₂.extBut D.l2i1) hy fun h₃ h2₃ hs₃ => wpAny_pure ?_)
  refine wpAny_pure (wpAny_pure ?_)
  show wpAny _ _ (newTuple [x, y] >>= _) _ _ _
  refine wpAny_bind (wpAny_newTuple ?_)
  have hsz : h₃.objs.size = s.heap.objs.size := by rw [hs₃.1, hs₂.1, hs₁.1]
  have hz₃ : IsZipHeld h₃ z TI TO T true := hs₃.extBut _ _ D.i2z.symm (hs₂.extBut _ _ D.i1z.symm hz₁)
  have hk : ∀ c o, c ≠ z → c ≠ i1 → c ≠ i2 → s.heap.get? c = some o → h₃.get? c = some o := fun c o c1 c2 c3 e => hs₃.extBut _ _ c3 (hs₂.extBut _ _ c2 (hs₁.extBut _ _ c1 e))
  have h1₃ : h₃.IsListIter i1 l1 (k1 + 1) := h1₂.extBut hs₃.extBut D.i12
  refine wpAny_pure ⟨_, rfl, ?_⟩
  show Q (.ref h₃.objs.size) _
  have hp : IsPair (h₃.push { cls := .type "tuple", data := .seq #[x, y] }) h₃.objs.size x y := Heap.get?_push_size _ rfl
  have hz4 : (h₃.push { cls := .type "tuple", data := .seq #[x, y] }).objs.size = h₃.objs.size + 1 := Heap.size_push ..
  rw [hsz] at hp hz4 ⊢
  exact hQ _ (Heap.get?_push_of_some _ hz₃) (h1₃.at fun o e => Heap.get?_push_of_some _ e) (h2₃.at fun o e => Heap.get?_push_of_some _ e) hp hz4 fun c o c1 c2 c3 e => Heap.get?_push_of_some _ (hk c o c1 c2 c3 e)

theorem zipM_next_end_held {z TI TO T i1 i2 l1 l2 : Addr} {f : Bool} {oT : Obj} {k1 k2 : Nat} {xs ys : Array Value} {Q : Fin → Shared → Prop} (hh : A.handled = none) (D : ZipApart z TI TO i1 i2 l1 l2)
    (hz : IsZipHeld s.heap z TI TO T f) (hT : s.heap.get? T = some oT) (hTI : IsPair s.heap TI (.ref i1) (.ref i2))
    (h1 : s.heap.IsListIter i1 l1 k1) (h2 : s.heap.IsTupleIter i2 l2 k2) (hl1 : s.heap.IsList l1 xs) (hl2 : s.heap.IsTuple l2 ys) (hend : xs[k1]? = none ∨ ys[k2]? = none)
    (hE : ∀ h' e, (∀ c o, c ≠ z → c ≠ i1 → c ≠ i2 → s.heap.get? c = some o → h'.get? c = some o) → (∃ o, h'.get? e = some o ∧ o.cls = .type "StopIteration") → E (.ref e) { s with heap := h' }) :
    wpAny (model prog w) A (Builtin.«zip.__next__» ⟨[.ref z], []⟩) Q E s := by
  show wpAny _ _ (field (.ref z) 2 >>= _) _ _ _
  refine wpAny_bind (wpAny_field hz rfl (x := .bool false) rfl ?_)
  show wpAny _ _ (field (.ref z) 3 >>= _) _ _ _
  refine wpAny_bind (wpAny_field hz rfl (x := .ref TI) rfl ?_)
  refine wpAny_bind (wpAny_seqItems hTI rfl ?_)
  show wpAny _ _ (Builtin.SmallTypes.ownedTupleIsFree (.ref z) >>= _) _ _ _
  refine wpAny_bind (wpAny_tupleHeld_zip hz hT fun h₁ hz₁ hs₁ => ?_)
  simp only [Bool.false_eq_true, if_false]
  refine wpAny_bind ?_
  rw [← Array.forIn_toList]
  simp only [List.forIn_cons, List.forIn_nil]
  refine wpAny_bind (wpAny_bind (wpAny_holding ?_))
  show wpAny _ _ (Builtin.SmallTypes.nextOf (.ref i1) >>= _) _ _ _
  cases hx : xs[k1]? with
  | none =>
    refine wpAny_bind (wpAny_nextOf_list_end (s := { s with heap := h₁ }) hh (h1.extBut hs₁.extBut D.i1z) (hl1.extBut hs₁.extBut D.l1z) hx fun h₂ e hs₂ he => ?_)
    exact hE h₂ e (fun c o c1 c2 _ x => hs₂ _ _ c2 (hs₁.extBut _ _ c1 x)) he
  | some x =>
    have hy : ys[k2]? = none := by rcases hend with h | h; rw [hx] at h; cases h; exact h
    refine wpAny_bind (wpAny_nextOf_list_item (s := { s with heap := h₁ }) (h1.extBut hs₁.extBut D.i1z) (hl1.extBut hs₁.extBut D.l1z) hx fun h₂ h1₂ hs₂ => wpAny_pure ?_)
    refine wpAny_pure ?_
    refine wpAny_bind (wpAny_bind (wpAny_holding ?_))
    show wpAny _ _ (Builtin.SmallTypes.nextOf (.ref i2) >>= _) _ _ _
    refine wpAny_bind (nextOf_tuple_end (s := { s with heap := h₂ }) hh ((h2.extBut hs₁.extBut D.i2z).extBut hs₂.extBut D.i12.symm) ((hl2.extBut hs₁.extBut D.l2z).extBut hs₂.extBut D.l2i1) hy fun h₃ e hs₃ he => ?_)
    exact hE h₃ e (fun c o c1 c2 c3 x => hs₃ _ _ c3 (hs₂.extBut _ _ c2 (hs₁.extBut _ _ c1 x))) he

theorem pyNext_zipM_item_held {z TI TO T i1 i2 l1 l2 : Addr} {f : Bool} {oT : Obj} {k1 k2 : Nat} {xs ys : Array Value} {x y : Value} {Q : Option Value → Shared → Prop} (D : ZipApart z TI TO i1 i2 l1 l2)
    (hz : IsZipHeld s.heap z TI TO T f) (hT : s.heap.get? T = some oT) (hTI : IsPair s.heap TI (.ref i1) (.ref i2))
    (h1 : s.heap.IsListIter i1 l1 k1) (h2 : s.heap.IsTupleIter i2 l2 k2) (hl1 : s.heap.IsList l1 xs) (hl2 : s.heap.IsTuple l2 ys) (hx : xs[k1]? = some x) (hy : ys[k2]? = some y)
    (hQ : ∀ h', IsZipHeld h' z TI TO T true → h'.IsListIter i1 l1 (k1 + 1) → h'.IsTupleIter i2 l2 (k2 + 1) → IsPair h' s.heap.objs.size x y → h'.objs.size = s.heap.objs.size + 1 →
      (∀ c o, c ≠ z → c ≠ i1 → c ≠ i2 → s.heap.get? c = some o → h'.get? c = some o) → Q (some (.ref s.heap.objs.size)) { s with heap := h' }) :
    wpAny (model prog w) A (pyNext (.ref z)) Q E s := by
  have hTy : s.TypeIs (.ref z) "zip" := ⟨_, hz, rfl⟩
  unfold pyNext
  exact wpAny_bind (wpAny_attempt (wpAny_callSpecial?_slot (name := Str.ofString "__next__") hTy F.slot_zip_next
    (wpAny_call_entry F.slot_zip_next hTy F.entry_zip_next
      (zipM_next_item_held D hz hT hTI h1 h2 hl1 hl2 hx hy fun h' a1 a3 a4 a5 a6 a7 => wpAny_pure (hQ h' a1 a3 a4 a5 a6 a7)) (F.args_zip_next_1 _))))

theorem pyNext_zipM_end_held {z TI TO T i1 i2 l1 l2 : Addr} {f : Bool} {oT : Obj} {k1 k2 : Nat} {xs ys : Array Value} {Q : Option Value → Shared → Prop} (hh : A.handled = none) (D : ZipApart z TI TO i1 i2 l1 l2)
    (hz : IsZipHeld s.heap z TI TO T f) (hT : s.heap.get? T = some oT) (hTI : IsPair s.heap TI (.ref i1) (.ref i2))
    (h1 : s.heap.IsListIter i1 l1 k1) (h2 : s.heap.IsTupleIter i2 l2 k2) (hl1 : s.heap.IsList l1 xs) (hl2 : s.heap.IsTuple l2 ys) (hend : xs[k1]? = none ∨ ys[k2]? = none)
    (hQ : ∀ h', (∀ c o, c ≠ z → c ≠ i1 → c ≠ i2 → s.heap.get? c = some o → h'.get? c = some o) → Q none { s with heap := h' }) : wpAny (model prog w) A (pyNext (.ref z)) Q E s := by
  have hTy : s.TypeIs (.ref z) "zip" := ⟨_, hz, rfl⟩
  unfold pyNext
  refine wpAny_bind (wpAny_attempt (wpAny_callSpecial?_slot (name := Str.ofString "__next__") hTy F.slot_zip_next
    (wpAny_call_entry F.slot_zip_next hTy F.entry_zip_next (zipM_next_end_held hh D hz hT hTI h1 h2 hl1 hl2 hend fun h' e hk he => ?_) (F.args_zip_next_1 _))))
  obtain ⟨o, ho, hc⟩ := he
  refine wpAny_bind (wpAny_isInstance (T := "StopIteration") (b := true) ⟨o, ho, hc⟩ isSubtype_stop ?_)
  exact wpAny_pure (hQ _ hk)

end
abbrev zipMH1 (h : Heap) (l1 : Addr) : Heap := h.push { cls := .type "list_iterator", data := .fields #[.ref l1, .int 0 0] }
abbrev zipMH2 (h : Heap) (l1 l2 : Addr) : Heap := (zipMH1 h l1).push { cls := .type "tuple_iterator", data := .fields #[.ref l2, .int 0 0] }
abbrev zipMH3 (h : Heap) (l1 l2 : Addr) : Heap := (zipMH2 h l1 l2).push { cls := .type "tuple", data := .seq #[.ref h.objs.size, .ref (zipMH1 h l1).objs.size] }
abbrev zipMH4 (h : Heap) (l1 l2 : Addr) : Heap := (zipMH3 h l1 l2).push { cls := .type "tuple", data := .seq #[.none, .none] }
abbrev zipMH5 (h : Heap) (l1 l2 : Addr) : Heap := (zipMH4 h l1 l2).push { cls := .type "zip", data := .fields #[.none, .bool false, .bool false, .ref (zipMH2 h l1 l2).objs.size, .ref (zipMH3 h l1 l2).objs.size] }

theorem meets_zipM_new (l1 l2 : Addr) (xs ys : Array Value) :
    Meets (Builtin.«zip.__new__» ⟨[.type "zip", .ref l1, .ref l2], []⟩) (fun _ R s => s.heap.IsList l1 xs ∧ s.heap.IsTuple l2 ys ∧
      R (.ok (.ret (.ref (zipMH4 s.heap l1 l2).objs.size))) { s with heap := zipMH5 s.heap l1 l2 }) :=
  .of_wp fun prog w A R s h => by
    obtain ⟨hp, g, d, tk, os⟩ := s; obtain ⟨hl1, hl2, h⟩ := h
    have hsub := sub_zip
    have hL1 : Heap.IsList (Shared.heap ⟨hp, g, d, tk, os⟩) l1 xs := hl1
    have hL2 : Heap.IsTuple (Shared.heap ⟨hp.push { cls := .type "list_iterator", data := .fields #[.ref l1, .int 0 0] }, g, d, tk, os⟩) l2 ys := Heap.IsTuple.push hl2 _
    wp_walk using wpAny_pyIter_list hL1, wpAny_pyIter_tuple hL2
    exact ⟨_, rfl, h⟩
section
variable {prog : Program} {w : World} {A : Around} {E : Value → Shared → Prop} {s : Shared}
theorem call_zipM {l1 l2 : Addr} {xs ys : Array Value} {Q : Value → Shared → Prop} (hl1 : s.heap.IsList l1 xs) (hl2 : s.heap.IsTuple l2 ys)
    (h : ∀ h', IsZip h' (s.heap.objs.size + 4) (s.heap.objs.size + 2) (s.heap.objs.size + 3) .none → IsPair h' (s.heap.objs.size + 2) (.ref s.heap.objs.size) (.ref (s.heap.objs.size + 1)) →
      IsPair h' (s.heap.objs.size + 3) .none .none → h'.IsListIter s.heap.objs.size l1 0 → h'.IsTupleIter (s.heap.objs.size + 1) l2 0 → h'.objs.size = s.heap.objs.size + 5 →
      (∀ c o, s.heap.get? c = some o → h'.get? c = some o) → Q (.ref (s.heap.objs.size + 4)) { s with heap := h' }) :
    wpAny (model prog w) A (call (.type "zip") [.ref l1, .ref l2]) Q E s := by
  refine callType_new F.called_zip (by decide) (F.typeCall_zip_2 _ _) (F.newCall_zip_2 _ _) (fun obj => F.args_object_init_3 obj _ _) F.entry_zip_new
    (meets_zipM_new l1 l2 xs ys) ⟨hl1, hl2, ?_⟩
  have z1 : (zipMH1 s.heap l1).objs.size = s.heap.objs.size + 1 := Heap.size_push ..
  have z2 : (zipMH2 s.heap l1 l2).objs.size = s.heap.objs.size + 2 := by rw [Heap.size_push, z1]
  have z3 : (zipMH3 s.heap l1 l2).objs.size = s.heap.objs.size + 3 := by rw [Heap.size_push, z2]
  have z4 : (zipMH4 s.heap l1 l2).objs.size = s.heap.objs.size + 4 := by rw [Heap.size_push, z3]
  have z5 : (zipMH5 s.heap l1 l2).objs.size = s.heap.objs.size + 5 := by rw [Heap.size_push, z4]
  have g5 : (zipMH5 s.heap l1 l2).get? (zipMH4 s.heap l1 l2).objs.size = some _ := Heap.get?_push_size _ rfl
  have g4 : (zipMH5 s.heap l1 l2).get? (zipMH3 s.heap l1 l2).objs.size = some _ := Heap.get?_push_of_some _ (Heap.get?_push_size _ rfl)
  have g3 : (zipMH5 s.heap l1 l2).get? (zipMH2 s.heap l1 l2).objs.size = some _ := Heap.get?_push_of_some _ (Heap.get?_push_of_some _ (Heap.get?_push_size _ rfl))
  have g2 : (zipMH5 s.heap l1 l2).get? (zipMH1 s.heap l1).objs.size = some _ := Heap.get?_push_of_some _ (Heap.get?_push_of_some _ (Heap.get?_push_of_some _ (Heap.get?_push_size _ rfl)))
  have g1 : (zipMH5 s.heap l1 l2).get? s.heap.objs.size = some _ := Heap.get?_push_of_some _ (Heap.get?_push_of_some _ (Heap.get?_push_of_some _ (Heap.get?_push_of_some _ (Heap.get?_push_size _ rfl))))
  show _ ∧ _
  rw [z2, z3, z4] at g5
  rw [z1, z2] at g3
  rw [z3] at g4
  rw [z1] at g2
  rw [z4]
  exact ⟨⟨_, g5, rfl⟩, h _ g5 g3 g4 ⟨_, g1, rfl, rfl⟩ ⟨_, g2, rfl, rfl⟩ z5 fun c o x =>
    Heap.get?_push_of_some _ (Heap.get?_push_of_some _ (Heap.get?_push_of_some _ (Heap.get?_push_of_some _ (Heap.get?_push_of_some _ x))))⟩
end
section
variable {prog : Program} {w : World}
theorem PairArg.zipM (z TI TO i1 i2 l1 l2 : Addr) (D : ZipApart z TI TO i1 i2 l1 l2) (xs ys : Array Value) :
    PairArg prog w "zip" z [z, TI, TO, i1, i2, l1, l2] [z, TO, i1, i2] (min xs.size ys.size) (fun i k v => xs[i]? = some k ∧ ys[i]? = some v)
      (fun h => IsZip h z TI TO .none ∧ IsPair h TI (.ref i1) (.ref i2) ∧ (∃ a b, IsPair h TO a b) ∧ h.IsListIter i1 l1 0 ∧ h.IsTupleIter i2 l2 0 ∧ h.IsList l1 xs ∧ h.IsTuple l2 ys) where
  type := fun s ok => ⟨_, ok.1, rfl⟩
  notDict := by decide
  keep := fun h h' ok hk => by
    obtain ⟨hz, hTI, ⟨a, b, hTO⟩, h1, h2, hl1, hl2⟩ := ok
    exact ⟨hk _ _ hz, hk _ _ hTI, ⟨a, b, hk _ _ hTO⟩, h1.at fun o e => hk _ o e, h2.at fun o e => hk _ o e, hl1.at fun o e => hk _ o e, hl2.at fun o e => hk _ o e⟩
  there := fun h ok b hb => by
    obtain ⟨hz, hTI, ⟨a, c, hTO⟩, ⟨o1, h1, _⟩, ⟨o2, h2, _⟩, ⟨o3, hl1, _⟩, ⟨o4, hl2, _⟩⟩ := ok
    simp only [List.mem_cons, List.not_mem_nil, or_false] at hb
    rcases hb with rfl | rfl | rfl | rfl | rfl | rfl | rfl
    all_goals first | exact ⟨_, hz⟩ | exact ⟨_, hTI⟩ | exact ⟨_, hTO⟩ | exact ⟨_, h1⟩ | exact ⟨_, h2⟩ | exact ⟨_, hl1⟩ | exact ⟨_, hl2⟩
  sub := fun b hb => by simp at hb ⊢; rcases hb with rfl | rfl | rfl | rfl <;> simp
  noKeys := fun A s Q E hA ok h => getAttrOr_miss_zip ok.1 rfl rfl rfl zip_no_keys (by decide +kernel) hA h
  iter := fun A s d Q E hA ok hd hdf h => by
    obtain ⟨hz, hTI, ⟨a, b, hTO⟩, h1, h2, hl1, hl2⟩ := ok
    simp only [List.mem_cons, List.not_mem_nil, or_false, not_or] at hdf
    obtain ⟨dz, dTI, dTO, di1, di2, dl1, dl2⟩ := hdf
    refine wpAny_pyIter_zip hz (h z [z, TO, i1, i2] (fun i h => IsPair h TI (.ref i1) (.ref i2) ∧ h.IsListIter i1 l1 i ∧ h.IsTupleIter i2 l2 i ∧ h.IsList l1 xs ∧ h.IsTuple l2 ys ∧
      ((IsZip h z TI TO .none ∧ ∃ a b, IsPair h TO a b) ∨ ∃ T f oT, IsZipHeld h z TI TO T f ∧ h.get? T = some oT ∧ T ≠ z ∧ T ≠ i1 ∧ T ≠ i2 ∧ T ≠ d)) s.heap s.toks ?_
      ⟨hTI, h1, h2, hl1, hl2, .inl ⟨hz, a, b, hTO⟩⟩ (fun _ _ e => e) fun b hb => .inl hb)
    exact {
      off := fun hm => by
        simp only [List.mem_cons, List.not_mem_nil, or_false] at hm
        rcases hm with e | e | e | e
        · exact dz e
        · exact dTO e
        · exact di1 e
        · exact di2 e
      frame := fun i h₁ h₂ st hk => by
        obtain ⟨hTI, h1, h2, hl1, hl2, hz⟩ := st
        refine ⟨hk _ _ (Ne.symm dTI) hTI, h1.at fun o e => hk _ o (Ne.symm di1) e, h2.at fun o e => hk _ o (Ne.symm di2) e, hl1.at fun o e => hk _ o (Ne.symm dl1) e, hl2.at fun o e => hk _ o (Ne.symm dl2) e, ?_⟩
        rcases hz with ⟨hz, a, b, hTO⟩ | ⟨T, f, oT, hz, hT, r1, r2, r3, r4⟩
        · exact .inl ⟨hk _ _ (Ne.symm dz) hz, a, b, hk _ _ (Ne.symm dTO) hTO⟩
        · exact .inr ⟨T, f, oT, hk _ _ (Ne.symm dz) hz, hk _ _ r4 hT, r1, r2, r3, r4⟩
      item := fun i s₁ Q₁ E₁ hi st hds hQ => by
        obtain ⟨hTI, h1, h2, hl1, hl2, hz⟩ := st
        have hix : i < xs.size := Nat.lt_of_lt_of_le hi (Nat.min_le_left ..)
        have hiy : i < ys.size := Nat.lt_of_lt_of_le hi (Nat.min_le_right ..)
        have ex := Array.getElem?_eq_getElem hix
        have ey := Array.getElem?_eq_getElem hiy
        have lt : ∀ {c o}, s₁.heap.get? c = some o → s₁.heap.objs.size ≠ c := fun e => Nat.ne_of_gt (Heap.lt_size e)
        have n1 : s₁.heap.objs.size ≠ i1 := let ⟨_, e, _⟩ := h1; lt e
        have n2 : s₁.heap.objs.size ≠ i2 := let ⟨_, e, _⟩ := h2; lt e
        rcases hz with ⟨hz, a, b, hTO⟩ | ⟨T, f, oT, hz, hT, r1, r2, r3, r4⟩
        · refine pyNext_zipM_item D hz hTI hTO h1 h2 hl1 hl2 ex ey fun h' a1 a2 a3 a4 a5 a6 hk => ?_
          exact hQ s₁.heap.objs.size _ _ h' s₁.toks ⟨ex, ey⟩ (.inl ⟨_, a5, rfl, _, rfl⟩)
            ⟨hk _ _ D.TIz D.TITO D.TIi1 D.TIi2 hTI, a3, a4, hl1.at fun o e => hk _ o D.l1z D.l1TO D.l1i1 D.l1i2 e, hl2.at fun o e => hk _ o D.l2z D.l2TO D.l2i1 D.l2i2 e,
              .inr ⟨s₁.heap.objs.size, false, _, a1, a5, lt hz, n1, n2, Nat.ne_of_gt hds⟩⟩
            fun c o hc e => hk c o (fun x => hc (by simp [x])) (fun x => hc (by simp [x])) (fun x => hc (by simp [x])) (fun x => hc (by simp [x])) e
        · refine pyNext_zipM_item_held D hz hT hTI h1 h2 hl1 hl2 ex ey fun h' a1 a3 a4 a5 a6 hk => ?_
          exact hQ s₁.heap.objs.size _ _ h' s₁.toks ⟨ex, ey⟩ (.inl ⟨_, a5, rfl, _, rfl⟩)
            ⟨hk _ _ D.TIz D.TIi1 D.TIi2 hTI, a3, a4, hl1.at fun o e => hk _ o D.l1z D.l1i1 D.l1i2 e, hl2.at fun o e => hk _ o D.l2z D.l2i1 D.l2i2 e,
              .inr ⟨T, true, oT, a1, hk _ _ r1 r2 r3 hT, r1, r2, r3, r4⟩⟩
            fun c o hc e => hk c o (fun x => hc (by simp [x])) (fun x => hc (by simp [x])) (fun x => hc (by simp [x])) e
      done := fun s₁ Q₁ E₁ st hQ => by
        obtain ⟨hTI, h1, h2, hl1, hl2, hz⟩ := st
        have hend : xs[min xs.size ys.size]? = none ∨ ys[min xs.size ys.size]? = none := by
          rcases Nat.le_total xs.size ys.size with h | h
          · exact .inl (Array.getElem?_eq_none (by rw [Nat.min_eq_left h]; exact Nat.le_refl _))
          · exact .inr (Array.getElem?_eq_none (by rw [Nat.min_eq_right h]; exact Nat.le_refl _))
        rcases hz with ⟨hz, a, b, hTO⟩ | ⟨T, f, oT, hz, hT, r1, r2, r3, r4⟩
        · exact pyNext_zipM_end hA D hz hTI hTO h1 h2 hl1 hl2 hend fun h' hk => hQ h' s₁.toks fun c o hc e => hk c o (fun x => hc (by simp [x])) (fun x => hc (by simp [x])) (fun x => hc (by simp [x])) (fun x => hc (by simp [x])) e
        · exact pyNext_zipM_end_held hA D hz hT hTI h1 h2 hl1 hl2 hend fun h' hk => hQ h' s₁.toks fun c o hc e => hk c o (fun x => hc (by simp [x])) (fun x => hc (by simp [x])) (fun x => hc (by simp [x])) e }
end
end RZ
namespace Pd
open PySem PySem.Spec PyProof.Rows L2
def tDictZ (K : PySem.W.Frag) (ta : TA) : TE := fun σ H Q => ta σ H fun vs H1 => ∃ (a b : Addr) (ks : List Key) (ys : List V), vs = [.ref a, .ref b] ∧ SqL K H1 a (ks.map kV) ∧ SqT K H1 b ys ∧ ks.length = ys.length ∧ ks.Nodup ∧ ks.length ≤ sizeLine ∧
  ∀ p, H1 p = none → Q (.ref p) (upd H1 p (.dK (ks.zip ys)))
section
variable {X : Cx}
theorem kv_zip : ∀ {ks : List Key} {ys : List V} {its its2 : List Value}, Vals (ks.map kV) its → Vals ys its2 → ks.length = ys.length → KV (ks.zip ys) (ks.zip its2)
  | [], [], _, _, _, h2, _ => by cases h2; exact .nil
  | [], _ :: _, _, _, _, _, h => by simp at h
  | _ :: _, [], _, _, _, _, h => by simp at h
  | k :: ks, y :: ys, _, _, h1, h2, h => by
    cases h1 with
    | cons r1 t1 =>
      cases h2 with
      | cons r2 t2 => exact .cons ⟨rfl, r2⟩ (kv_zip t1 t2 (by simpa using h))
theorem pe_dictZ {e1 e2 : Expr} {ta : TA} {p p2 pos pos2 : Pos} (hc : X.calm = true) (hgd : Gl X "dict") (hmd : X.mg "dict" = none) (hgz : Gl X "zip") (hmz : X.mg "zip" = none) (ha : PA X [e1, e2] ta)
    (hs : starEach [e1, e2] X.env = (false, eval e1 X.env) :: starEach [e2] X.env := by rfl) (hpl : (backTo pos2 (starEach [e2] X.env)).any (·.1) = false := by rfl)
    (na : starEach [.Call (.Name "zip" p2) [e1, e2] [] pos2] X.env = (false, eval (.Call (.Name "zip" p2) [e1, e2] [] pos2) X.env) :: starEach [] X.env := by rfl) :
    PE X (.Call (.Name "dict" p) [.Call (.Name "zip" p2) [e1, e2] [] pos2] [] pos) (tDictZ X.K ta) := by
  refine ⟨fun pins s σ H Q I h => ?_⟩
  have inner : wpAny (model X.prog X.w) X.A (eval (.Call (.Name "zip" p2) [e1, e2] [] pos2) X.env) (fun z s' => ∃ (n0 : Nat) (a b : Addr) (ks : List Key) (ys : List V) (its its2 : List Value) (H1 : Hp), z = .ref (n0 + 4) ∧
      IsZip s'.heap (n0 + 4) (n0 + 2) (n0 + 3) .none ∧ IsPair s'.heap (n0 + 2) (.ref n0) (.ref (n0 + 1)) ∧ IsPair s'.heap (n0 + 3) .none .none ∧ s'.heap.IsListIter n0 a 0 ∧ s'.heap.IsTupleIter (n0 + 1) b 0 ∧ s'.heap.IsList a its.toArray ∧ s'.heap.IsTuple b its2.toArray ∧
      a < n0 ∧ b < n0 ∧ Inv X pins σ H1 s' ∧ (∀ c, c ∈ [n0 + 4, n0 + 2, n0 + 3, n0, n0 + 1] → FpOk X pins H1 c) ∧ Vals (ks.map kV) its ∧ Vals ys its2 ∧ ks.length = ys.length ∧ ks.Nodup ∧ ks.length ≤ sizeLine ∧
      ∀ p, H1 p = none → Q (.ref p) (upd H1 p (.dK (ks.zip ys)))) X.xe s := by
    refine Call_ (ld_blt I hgz hmz PyProof.Rows.boot_zip (PyProof.Rows.callWith_type1 (thn (ha.run pos2 pins s σ H _ I h) fun us s1 ⟨vs, H1, I1, r1, a, b, ks, ys, ev, hqx, hqy, hlen, hnd, hz, q⟩ => ?_) hs hpl))
    subst ev
    cases r1 with
    | cons r rr =>
      cases rr with
      | cons r' rr =>
        cases rr
        cases r
        cases r'
        have fresh5 : ∀ c, c ∈ [s1.heap.objs.size + 4, s1.heap.objs.size + 2, s1.heap.objs.size + 3, s1.heap.objs.size, s1.heap.objs.size + 1] → FpOk X pins H1 c := fun c hcm => by
          have hle : s1.heap.objs.size ≤ c := by
            simp only [List.mem_cons, List.not_mem_nil, or_false] at hcm
            rcases hcm with e | e | e | e | e <;> (rw [e]; first | exact Nat.le_add_right _ _ | exact Nat.le_refl _)
          exact I1.fpOk hle (I1.hok.fresh hle)
        obtain ⟨its, rv, p1, _⟩ := I1.list hqx
        obtain ⟨its2, rv2, p2, _⟩ := I1.tuple hqy
        obtain ⟨o2, ho2, _⟩ := id p2
        refine RZ.call_zipM p1.isList (show s1.heap.IsTuple b its2.toArray from p2) fun h' hz' hTI hTO h1 h2 hsz hk => ?_
        have I2 : Inv X pins σ H1 { s1 with heap := h' } := I1.kept (t' := s1.toks) hk
        exact ⟨s1.heap.objs.size, a, b, ks, ys, its, its2, H1, rfl, hz', hTI, hTO, h1, h2, p1.isList.at fun o e => hk _ o e, (show s1.heap.IsTuple b its2.toArray from p2).at fun o e => hk _ o e, p1.lt, Heap.lt_size ho2, I2, fresh5, rv, rv2, hlen, hnd, hz, q⟩
  refine Call_ (ld_blt I hgd hmd PyProof.Rows.boot_dict (PyProof.Rows.callWith_type1 (args_cons (thn inner fun z s2 ⟨n0, a, b, ks, ys, its, its2, H1, ez, hz, hTI, hTO, h1, h2, hl1, hl2, la, lb, I2, fp, rv, rv2, hlen, hnd, hsz, q⟩ => args_nil ?_) na) na))
  subst ez
  have hl1' := rv.length
  have hl2' := rv2.length
  rw [List.length_map] at hl1'
  refine call_dict_pairs (knd := mixKind X.prog X.w) (kvs := ks.zip its2) (RZ.PairArg.zipM (n0 + 4) (n0 + 2) (n0 + 3) n0 (n0 + 1) a b (PySem.W.ktu_apart n0 a b la lb) its.toArray its2.toArray) (I2.ok.hd hc) ⟨hz, hTI, ⟨_, _, hTO⟩, h1, h2, hl1, hl2⟩ ⟨?_, ?_⟩ (by simp only [List.size_toArray]; omega) fun h' tk hd' hk => ?_
  · simp only [List.length_zip, List.size_toArray]; omega
  · rintro i key v ⟨e1, e2⟩
    have e1' : its[i]? = some key := by simpa using e1
    have e2' : its2[i]? = some v := by simpa using e2
    have hi : i < ks.length := by have := (List.getElem?_eq_some_iff.mp e1').1; omega
    refine ⟨ks[i], ?_, ?_⟩
    · rw [List.getElem?_zip_eq_some]
      exact ⟨List.getElem?_eq_getElem hi, e2'⟩
    · obtain ⟨u, hu, ru⟩ := rv.get (i := i) (x := kV ks[i]) (by rw [List.getElem?_map, List.getElem?_eq_getElem hi]; rfl)
      rw [e1'] at hu; cases hu
      exact kV_is ru
  · have hm : merged [] (ks.zip its2) = ks.zip its2 := merged_nil_of_nodup _ (by rw [List.map_fst_zip (by omega)]; exact hnd)
    rw [hm] at hd'
    have hbig : (s2.heap.objs.size == sysModules) = false := beq_eq_false_iff_ne.mpr (Nat.ne_of_gt I2.big)
    have new : ObjOk X.prog X.w (upd H1 s2.heap.objs.size (.dK (ks.zip ys))) h' s2.heap.objs.size (.dK (ks.zip ys)) := ⟨by rw [List.length_zip]; omega, hbig, ks.zip its2, kv_zip rv rv2 hlen, hd'⟩
    refine ⟨.ref s2.heap.objs.size, _, I2.turnedNew (t' := tk) (ch := [n0 + 4, n0 + 2, n0 + 3, n0, n0 + 1]) (fun c o hb e => hk c o (fun hw => hb ?_) e) fp (Nat.le_refl _) new, rfl, q _ (I2.hok.fresh (Nat.le_refl _))⟩
    simp only [List.mem_cons, List.not_mem_nil, or_false] at hw ⊢
    rcases hw with e | e | e | e <;> simp [e]
/-- dict(zip(xs, t)): a new dict that may change -/
def mDictZ (g : AM) : XM := fun ρ P => (g ρ P).bind fun (l, P1) => match l with
  | [a, b] => match flat P1 a, flat P1 b with
    | some (.list ds), some (.tuple es) => (keysOf ds).bind fun ks => if ks.Nodup ∧ ks.length = es.length ∧ ks.length ≤ 4000 then some (.ptr P1.length, P1 ++ [.dK (ks.zip (es.map SV.fz))]) else none
    | _, _ => none
  | _ => none
theorem ped_dictZ {e1 e2 : Expr} {g : AM} {p p2 pos pos2 : Pos} (hc : X.calm = true) (hgd : Gl X "dict") (hmd : X.mg "dict" = none) (hgz : Gl X "zip") (hmz : X.mg "zip" = none) (ha : PAd X [e1, e2] g)
    (hs : starEach [e1, e2] X.env = (false, eval e1 X.env) :: starEach [e2] X.env := by rfl) (hpl : (backTo pos2 (starEach [e2] X.env)).any (·.1) = false := by rfl)
    (na : starEach [.Call (.Name "zip" p2) [e1, e2] [] pos2] X.env = (false, eval (.Call (.Name "zip" p2) [e1, e2] [] pos2) X.env) :: starEach [] X.env := by rfl) :
    PEd X (.Call (.Name "dict" p) [.Call (.Name "zip" p2) [e1, e2] [] pos2] [] pos) (mDictZ g) := by
  obtain ⟨t, p, h1⟩ := ha
  refine ⟨_, pe_dictZ hc hgd hmd hgz hmz p (hs := hs) (hpl := hpl) (na := na), fun bs ρ σ os vs P H Q r P' R e q => ?_⟩
  simp only [mDictZ, Option.bind_eq_some_iff] at e
  obtain ⟨⟨l, P1⟩, e1, e2⟩ := e
  refine h1 bs ρ σ os vs P H _ l P1 R e1 fun ws H1 hl R1 => ?_
  obtain ⟨F, ad, R1⟩ := R1
  obtain ⟨ra, R2⟩ := R1.args hl
  simp only at e2
  split at e2
  · rename_i a b
    split at e2
    · rename_i ds es f1 f2
      simp only [Option.bind_eq_some_iff] at e2
      obtain ⟨ks, k1, e3⟩ := e2
      split at e3
      · rename_i hh
        cases e3
        cases ra with
        | cons r1 ra =>
          cases ra with
          | cons r2 ra =>
            cases ra
            obtain ⟨a', us, rfl, hp, ta⟩ := (R2.view r1 f1).lists R2.sub
            obtain ⟨b', ws2, rfl, hq, tb, _⟩ := (R2.view r2 f2).tups R2.sub
            have hds := keysOf_some k1
            subst hds
            have hus := tup_keys ks us ta
            subst hus
            have hln := tb.length
            refine ⟨a', b', ks, ws2, rfl, hp, hq.sqT, by omega, hh.1, Nat.le_trans hh.2.2 (by decide), fun p n => q _ _ ⟨F, _, R2.cell (c := .dK _) n fun ad' pr => ⟨R2.free n, ws2, ?_, ?_⟩⟩⟩
            · rw [List.map_fst_zip (by rw [List.length_map]; omega)]; exact upd_same
            · rw [List.map_snd_zip (by rw [List.length_map]; omega)]; exact tb.sva
      · cases e3
    · cases e2
  · cases e2
end
end Pd

set_option Elab.async false
set_option linter.all false
set_option maxRecDepth 100000
set_option maxHeartbeats 4000000
/-! own errors: class RouteError(ValueError): def __init__(self, at): super().__init__(at); self.at = at; and classes under it -/
namespace PySem
namespace AtX
open PySem.W PySem.Calls PyProof.Rows PySem.HandSPX
def iA (p1 p2 : Pos) : Arguments := { posonlyargs := [], args := [{ arg := "self", annotation := none, pos := p1 }, { arg := "at", annotation := none, pos := p2 }], vararg := none, kwonlyargs := [], kw_defaults := [], kwarg := none, defaults := [] }
def iB (q1 q2 q3 q4 q5 q6 q7 q8 q9 q10 : Pos) : List Stmt := [.Expr (.Call (.Attribute (.Call (.Name "super" q1) [] [] q2) "__init__" q3) [.Name "at" q4] [] q5) q6, .Assign [.Attribute (.Name "self" q7) "at" q8] (.Name "at" q9) q10]
def iS : Scope := { kind := .function, names := [(PySem.Str.ofString "self", .local), (PySem.Str.ofString "at", .local), (PySem.Str.ofString "__class__", .free), (PySem.Str.ofString "super", .globalImplicit)], isGenerator := false, isCoroutine := false, more := [] }
/-- what the written part says of a class of errors at C (x its name), of the class D whose __init__ it has, at fI -/
structure AtTxt (prog : Program) (K : Frag) (mg : Str → Option Value) (x : Str) (C D fI : Addr) : Prop where
  gC : mg x = some (.ref C)
  gS : mg "super" = none
  cls : ∃ nm q N bs bm sn sub ab col dd k0 k1 k2 k3 k5, K.lookup C = some (excClassObj nm q C N bs bm true sn sub ab col dd k0 k1 k2 k3 k5 "ValueError.__new__") ∧ refsVE bm = true ∧ alongIn K "__init__" (((Value.ref C :: bm).dropWhile (· != .ref D)).drop 1) = some (some (.builtin "ValueError.__init__"))
  clsD : ∃ cd, clsIn K D = some cd
  subD : mroIn K C (.ref D) = some true
  subV : subIn K (.ref C) (.type "ValueError") = some true
  sa : findIn K (.ref C) "__setattr__" = some (some (.builtin "object.__setattr__"))
  ga : findIn K (.ref C) "__getattribute__" = some (some (.builtin "BaseException.__getattribute__"))
  gg : findIn K (.ref C) "__getattr__" = some none
  noN : findIn K (.ref C) "at" = some none
  iC : findIn K (.ref C) "__init__" = some (some (.ref fI))
  tC : typeIn K (.ref fI) = some (.type "function")
  kC : keepIn K (.ref C) = true
  exC : subIn K (.ref C) (.type "BaseException") = some true
  tyC : typeIn K (.ref C) = some (.type "type")
  hdC : hasDictIn K C = true
  te : exmOne K (.ref C) (.ref C) = some true
  any : nsIn K cStatics "thirdparty.any" = some none
  top : (prog.main.scope.names.lookup ("super" : Str)).isSome = false
  fn : ∃ (oc : Value) (od : Option Addr) (doc pm : Value) (an : Option Addr) (cda : Addr) (ct : Value) (osl : Array (Option Value)) (qual : Str) (cc : Addr) (p1 p2 q1 q2 q3 q4 q5 q6 q7 q8 q9 q10 : Pos),
    K.lookup fI = some ⟨oc, od, .func (ksFn "__init__" qual (iA p1 p2) (iB q1 q2 q3 q4 q5 q6 q7 q8 q9 q10) iS .none .none doc pm an (.ref cda) ct cc), osl⟩ ∧ codeIn K (.ref cda) qual = true ∧
    (∃ cl cld csl, K.lookup cc = some ⟨cl, cld, .cell (some (.ref D)), csl⟩) ∧ (q3.endLine == q5.line) = true ∧ (∃ ccl cdd ccs vs file tf, K.lookup cda = some ⟨ccl, cdd, .fields vs, ccs⟩ ∧ vs[2]? = some (.str file tf) ∧ ((prog.main.file : Str) == file) = true)
theorem mc_eq {o : Expr} {name : Str} {apos pos : Pos} {args : List Expr} {env : Env} (hl : (apos.endLine == pos.line) = true) (hf : methodCallForm (args.length + 0) (backTo pos (starEach args env)) [] = true) :
    eval (.Call (.Attribute o name apos) args [] pos) env = (do
      let ov ← attributeBase o name env (eval o env)
      standAt apos.atName
      let (f, first) ← holding [ov] (getMethod ov name (do return (← importBound o env).getD true))
      callWith pos f first (backTo pos (starEach args env)) []) := by
  show (do
      let ov ← attributeBase o name env (eval o env)
      standAt apos.atName
      methodCall o name apos pos env ov (args.length + 0) (backTo pos (starEach args env)) []) = _
  have e1 : ∀ ov, methodCall o name apos pos env ov (args.length + 0) (backTo pos (starEach args env)) [] = (do
      let (f, first) ← holding [ov] (getMethod ov name (do return (← importBound o env).getD true))
      callWith pos f first (backTo pos (starEach args env)) []) := by
    intro ov
    unfold methodCall calleeOf methodCallPos
    rw [hf, hl]
    rfl
  simp only [e1]
theorem one_size (v : Value) : [v].length ≤ sizeLine := by
  rw [sizeLine_eq]
  exact (by decide : 1 ≤ 16777216)
theorem kept_but {K : Frag} {h h' : Heap} {x : Addr} (X : K.In h) (hx : K.lookup x = none) (k : ∀ b o, b ≠ x → h.get? b = some o → h'.get? b = some o) : K.In h' := fun a o e =>
  k a o (fun z => by rw [z, hx] at e; cases e) (X a o e)
/-- what __init__ leaves of a fresh exception at x -/
structure InitEnd (h h' : Heap) (x C dx t1 : Addr) (v : Value) : Prop where
  keep : ∀ b o, b ≠ x → h.get? b = some o → h'.get? b = some o
  obj : h'.get? x = some { cls := .ref C, dict := some dx, data := .fields #[.ref t1, .none, .none, .none, .bool false, .none] }
  dbig : h.objs.size ≤ dx
  dne : dx ≠ x
  ns : h'.Ns1 dx (fun y => if y = "at" then some v else none)
/-- a made error -/
structure OwnMade (h h' : Heap) (e C d : Addr) (v : Value) : Prop where
  keep : ∀ b o, h.get? b = some o → h'.get? b = some o
  new : h.objs.size ≤ e
  obj : ∃ oe vs, h'.get? e = some oe ∧ oe.cls = .ref C ∧ oe.dict = some d ∧ oe.data = .fields vs ∧ vs[1]? = some .none
  dbig : h.objs.size ≤ d
  dne : d ≠ e
  ns : h'.Ns1 d (fun y => if y = "at" then some v else none)
section
variable {prog : Program} {w : World} {A : Around} {E : Value → Shared → Prop} {h : Heap} {g : Array GenState} {d : Drawn} {t : Nat} {os : OsState}
variable {nm q : Str} {C N : Addr} {bs bm : List Value} {hdct : Bool} {sn : List Str} {sub : List Value} {ab : Bool} {col : Option Bool} {dd : Option Addr} {k0 k1 k2 k3 k5 : Option Value}
/-- ValueError.__init__, bound to a fresh exception, called -/
theorem call_mw {u e t0 : Addr} {rest : List Value} {Q : Value → Shared → Prop}
    (hC : h.get? C = some (excClassObj nm q C N bs bm hdct sn sub ab col dd k0 k1 k2 k3 k5 "ValueError.__new__")) (he : h.get? e = some (excO C t0)) (hu : h.get? u = some (kxs_mw "ValueError.__init__" e)) (hrest : rest.length ≤ sizeLine)
    (hq : ∀ h' t1, (∀ b o, b ≠ e → h.get? b = some o → h'.get? b = some o) → h'.get? e = some (excO C t1) → Q .none ⟨h', g, d, t, os⟩) :
    wpAny (model prog w) A (call (.ref u) rest) Q E ⟨h, g, d, t, os⟩ := by
  refine wpAny_call (codeAny_of_tree ?_)
  show wpAny _ A.in1 (callAny (.ref u) ⟨rest, []⟩) _ _ _
  simp only [callAny]
  refine wpAny_bind (wpAny_load hu ?_)
  simp only [kxs_mw, show (Value.type "method-wrapper" == Value.type "method" || Value.type "method-wrapper" == Value.type "builtin_function_or_method" || Value.type "method-wrapper" == Value.type "method-wrapper") = true by decide, if_true]
  refine W.KFB.if_so (by decide) ?_
  refine wpAny_bind (check_bound_init F.excBase_ValueError.toExcCallFacts hC he rfl ?_)
  refine wpAny_bind (wpAny_pure (wpAny_pure ?_))
  refine ⟨plainId_quiet F.excBase_ValueError.init.plain _, codeAny_builtin F.excBase_ValueError.initEntry ?_⟩
  rw [Around.under_plainId F.excBase_ValueError.init.plain _]
  wp_walk
  refine hq _ h.objs.size (fun b o hb ho => ?_) ?_
  · rw [Heap.get?_update_other _ _ (Ne.symm hb)]
    exact Heap.get?_push_of_some _ ho
  · rw [Heap.get?_update_self _ (Heap.get?_push_of_some _ he) rfl]
    rfl
end
section
variable {prog : Program} {w : World} {A : Around} {E : Value → Shared → Prop} {R : Result → Shared → Prop} {s : Shared} {K : Frag} {mg : Str → Option Value} {x : Str} {C D fI : Addr}
theorem at_init (T : AtTxt prog K mg x C D fI) {e t0 : Addr} {v : Value} (X : K.In s.heap) (hg : s.heap.Ns mainGlobals mg) (hb : ∃ mb, s.heap.Ns builtinsNs mb ∧ ∀ x : Str, x ≠ "__name__" → mb x = bootBuiltins x) (hlim : s.heap.NoLimit) (hx : s.heap.get? e = some (excO C t0)) (hnx : K.lookup e = none) (hroom : A.depth < recursionLimit)
    (hq : ∀ h' tk dx t1, InitEnd s.heap h' e C dx t1 v → R (.ok (.ret .none)) { s with heap := h', toks := tk }) :
    codeAny (model prog w) A (.call (.ref fI) ⟨[.ref e, v], []⟩) R s := by
  obtain ⟨oc, od, doc, pm, an, cda, ct, osl, qual, cc, p1, p2, q1, q2, q3, q4, q5, q6, q7, q8, q9, q10, ho, hcd, ⟨cl, cld, csl, hcell⟩, hline, ccl, cdd, ccs, vs, file, tf, hcode, hvs, hfile⟩ := T.fn
  obtain ⟨nm, q, N, bs, bm, sn, sub, ab, col, dd, k0, k1, k2, k3, k5, hC, hbm, hal⟩ := T.cls
  have hcl : clsIn K C = some { name := nm, bases := bs, mro := .ref C :: bm, ns := N, qualname := q, hasDict := true, slotNames := sn, subclasses := sub, abstract := ab, collection := col, hasDel := false } := by unfold clsIn; rw [hC] <;> rfl
  obtain ⟨cdD, hcD⟩ := T.clsD
  refine ks_codeAny_call_defAt (binds := [("self", .ref e), ("at", v)]) hroom (X _ _ ho) rfl hlim (codeRec_of X hcd) rfl (BindsTo.of_eq (by first | rfl | with_unfolding_all rfl)) (show ∀ x ∈ iS.names, x.2 ≠ .cell by decide) (fun y hy => ?_) (fun h₁ hn k => ?_)
  · simp only [List.mem_cons, List.not_mem_nil, or_false] at hy
    rcases hy with rfl | rfl
    · show iS.names.lookup ("self" : Str) = some .local
      decide +kernel
    · show iS.names.lookup ("at" : Str) = some .local
      decide +kernel
  have hx₁ := k _ _ hx
  have X₁ : K.In h₁ := X.keeps k
  obtain ⟨mb, hb1, hb2⟩ := hb
  obtain ⟨oD, hD1, hD2⟩ : ∃ oD, h₁.get? D = some oD ∧ oD.data = .cls cdD := by
    unfold clsIn at hcD
    split at hcD
    · rename_i c d cd' sl hoD
      cases hcD
      exact ⟨_, X₁ _ _ hoD, rfl⟩
    · cases hcD
  refine ks_wpAt_execs_cons (ks_wpAt_Expr_any ?_)
  refine ks_wpAt_MethodCall ?_ (mc_eq hline (by rfl))
  refine ks_wpAt_super_base (show iS.names.lookup ("super" : Str) = some .globalImplicit by decide +kernel) (show iS.names.lookup ("__class__" : Str) = some .free by decide +kernel) (by decide +kernel) rfl (X₁ _ _ ho) rfl rfl rfl (X₁ _ _ hcode) rfl hvs hfile T.top ?_
  refine ks_loadName_global rfl (show iS.names.lookup ("super" : Str) = some .globalImplicit by decide +kernel) (loadGlobal_builtin (hg.keeps k) T.gS (hb1.keeps k) ((hb2 _ (by decide +kernel)).trans rfl) ⟨rfl, ?_⟩)
  refine wpAny_loadName_free rfl (show iS.names.lookup ("__class__" : Str) = some .free by decide +kernel) rfl ⟨_, X₁ _ _ hcell, rfl⟩ ?_
  refine wpAny_loadName_local (v := .ref e) rfl (show iS.names.lookup ("self" : Str) = some .local by decide +kernel) hn (by first | rfl | with_unfolding_all rfl | kernel_rfl) ?_
  refine ks_wpAny_isType_cls hD1 hD2 ⟨rfl, ?_⟩
  obtain ⟨hh, g, dr, tk, os⟩ := s
  refine ks_wpAny_call_super hD1 hD2 hx₁ rfl (fun c z => by cases z) (looks_mroIn X₁ T.subD) (fun h₂ e₂ k₂ => ?_)
  have X₂ : K.In h₂ := X₁.keeps k₂
  have hx₂ := k₂ _ _ hx₁
  refine kxs_getMethod kxs_ValueError (l₀ := .ref C :: bm) e₂ (looks_opaque X₂ T.any) ?_ rfl X₂ hal ?_ ?_ (by decide) ?_
  · exact fun A Q E s k q => wpAny_bind ((looks_clsIn X₂ hcl) A _ E s k (wpAny_pure q))
  · exact (show InstAt h₂ e (excO C t0) C none from ⟨hx₂, rfl, rfl, trivial⟩).type.andThen (looks_subIn X₂ T.subV)
  · intro z
    rw [z] at hnx
    rw [hnx] at hC
    cases hC
  have hu : (h₂.push (kxs_mw "ValueError.__init__" e)).get? h₂.objs.size = some (kxs_mw "ValueError.__init__" e) := Heap.get?_push_at rfl rfl
  have k₃ : ∀ b o, h₂.get? b = some o → (h₂.push (kxs_mw "ValueError.__init__" e)).get? b = some o := fun b o q => Heap.get?_push_of_some _ q
  refine kxs_callWith (i := "ValueError.__init__") (x := e) (by rfl) ?_
  refine evalArgs_plain ?_
  refine spliced_cons (wpAny_Name (wpAny_loadName_local (v := v) rfl (show iS.names.lookup ("at" : Str) = some .local by decide +kernel) ((hn.keeps k₂).keeps k₃) (by first | rfl | with_unfolding_all rfl | kernel_rfl) (spliced_nil ?_)) (by decide))
  refine ⟨hu, ?_⟩
  have hC₃ := (X₂.keeps k₃) _ _ hC
  refine call_mw hC₃ (k₃ _ _ hx₂) hu (one_size v) (fun h₄ t1 k₄ hx₄ => ?_)
  have neL : hh.objs.size ≠ e := Nat.ne_of_gt (Heap.lt_size hx)
  have X₄ : K.In h₄ := kept_but (X₂.keeps k₃) hnx k₄
  have hn₄ := ((hn.keeps k₂).keeps k₃).at (fun o q => k₄ _ _ neL q)
  refine wpAt_of_wpAny (wpAny_execs_cons (plainObj_wpAny_Assign_Attribute ?_))
  refine wpAny_Name (wpAny_loadName_local (v := v) rfl (show iS.names.lookup ("at" : Str) = some .local by decide +kernel) hn₄ (by first | rfl | with_unfolding_all rfl | kernel_rfl) ?_) (by decide)
  refine wpAny_Name (wpAny_loadName_local (v := .ref e) rfl (show iS.names.lookup ("self" : Str) = some .local by decide +kernel) hn₄ (by first | rfl | with_unfolding_all rfl | kernel_rfl) ?_) (by decide)
  refine set_plain X₄ (ox := excO C t1) (od := none) ⟨hx₄, rfl, rfl, trivial⟩ T.sa ?_
  refine exc_osa X₄ hx₄ hcl (show refsVE (.ref C :: bm) = true from hbm) rfl T.noN (fun h₅ tk₅ dx k₅ dn dne hx₅ hn₅ => ?_)
  show wpAny _ _ (execs _ _) _ _ _
  have old : ∀ b o, b ≠ e → hh.get? b = some o → h₅.get? b = some o := fun b o hb q => k₅ b o hb (k₄ b o hb (k₃ b o (k₂ b o (k b o q))))
  have big : hh.objs.size ≤ dx := Nat.le_of_lt (Nat.lt_of_lt_of_le hn₄.lt dn)
  exact wpAny_execs_nil (hq h₅ tk₅ dx t1 ⟨old, hx₅, big, dne, hn₅⟩)
/-- x(v): the error is made -/
theorem at_made (T : AtTxt prog K mg x C D fI) {v : Value} (X : K.In s.heap) (hg : s.heap.Ns mainGlobals mg) (hb : ∃ mb, s.heap.Ns builtinsNs mb ∧ ∀ x : Str, x ≠ "__name__" → mb x = bootBuiltins x) (hlim : s.heap.NoLimit) (hroom : A.depth + 1 < recursionLimit)
    (hq : ∀ h' tk e d, OwnMade s.heap h' e C d v → R (.ok (.ret (.ref e))) { s with heap := h', toks := tk }) :
    codeAny (model prog w) A (.call (.ref C) ⟨[v], []⟩) R s := by
  obtain ⟨nm, q, N, bs, bm, sn, sub, ab, col, dd, k0, k1, k2, k3, k5, hC, hbm, hal⟩ := T.cls
  obtain ⟨hp, g, dr, tk, os⟩ := s
  have k : ∀ b o, hp.get? b = some o → ((hp.push (kdv_tup [v])).push (excO C hp.objs.size)).get? b = some o := fun b o e => Heap.get?_push_of_some _ (Heap.get?_push_of_some _ e)
  have hget : ((hp.push (kdv_tup [v])).push (excO C hp.objs.size)).get? (hp.objs.size + 1) = some (excO C hp.objs.size) := by heap_get
  have hnx : K.lookup (hp.objs.size + 1) = none := by
    cases e : K.lookup (hp.objs.size + 1) with
    | none => rfl
    | some o =>
      have z : hp.get? (hp.objs.size + 1) = some o := X _ _ e
      exact absurd (Nat.lt_of_succ_lt (Heap.lt_size z)) (Nat.lt_irrefl _)
  obtain ⟨mb, hb1, hb2⟩ := hb
  refine call_own F.excBase_ValueError (fun X => refsVE_contains X bm hbm) (X _ _ hC) (looks_findIn X T.iC) (fun self => bind_fn X self T.tC) (one_size v) ?_
  refine at_init (s := ⟨(hp.push (kdv_tup [v])).push (excO C hp.objs.size), g, dr, tk, os⟩) T (X.keeps k) (hg.keeps k) ⟨mb, hb1.keeps k, hb2⟩ (hlim.keeps k) hget hnx ?_ fun h' tk' dx t1 ⟨k', hx, dn, dne, hns⟩ => ?_
  · show A.depth + 1 < recursionLimit
    exact hroom
  · have old : ∀ b o, hp.get? b = some o → h'.get? b = some o := fun b o e => k' b o (Nat.ne_of_lt (Nat.lt_succ_of_lt (Heap.lt_size e))) (k b o e)
    have z : hp.objs.size + 1 + 1 ≤ dx := by
      first
        | (simpa only [Heap.size_push] using dn)
        | exact dn
        | (have q := dn; rw [Heap.size_push, Heap.size_push] at q; exact q)
    exact ⟨rfl, hq h' tk' (hp.objs.size + 1) dx ⟨old, Nat.le_succ _, ⟨_, _, hx, rfl, rfl, rfl, rfl⟩, Nat.le_trans (Nat.le_trans (Nat.le_succ _) (Nat.le_succ _)) z, dne, hns⟩⟩
end
end AtX
end PySem

set_option Elab.async false
set_option linter.all false
set_option maxRecDepth 100000
set_option maxHeartbeats 4000000
/-! own errors with a field at: made, raised, read (L2's words) -/
namespace L2
open PySem PySem.Spec PyProof.Rows
theorem relO_at {v : V} {v' : Value} (r : RelV v v') (f : Str) : RelO (List.lookup f [(("at" : Str), v)]) (if f = "at" then some v' else none) := by
  by_cases hw : f = "at"
  · subst hw
    rw [if_pos rfl]
    have q : List.lookup ("at" : Str) [(("at" : Str), v)] = some v := by simp [List.lookup]
    rw [q]
    exact r
  · rw [if_neg hw]
    have qw : (f == ("at" : Str)) = false := by simpa using hw
    have q2 : List.lookup f [(("at" : Str), v)] = none := by simp [List.lookup, qw]
    rw [q2]
    trivial
section
variable {X : Cx} {x : Str} {C D fI : Addr}
/-- x(e) -/
def tMkAt (C : Addr) (ta : TA) : St → Hp → XK → Prop := fun σ H Q => ta σ H fun vs H1 => ∃ v, vs = [v] ∧ ∀ d, H1 d = none → Q (.ref C) (some d) (upd H1 d (.xd [(("at" : Str), v)]))
theorem pmk_at {a : Expr} {ta : TA} {p pos : Pos} {k : Nat} (T : PySem.AtX.AtTxt X.prog X.K X.mg x C D fI) (hr : Room k X.A) (ha : PA X [a] ta) (hg : Gl X x := by rfl)
    (he : starEach (a :: []) X.env = (false, eval a X.env) :: starEach [] X.env := by rfl) (hpl : (backTo pos (starEach [] X.env)).any (·.1) = false := by rfl) (hd : (x == ("__debug__" : Str)) = false := by decide) :
    PMk X (.Call (.Name x p) [a] [] pos) (tMkAt C ta) := by
  intro pins s σ H Q I h
  refine wpAny_Call_Name_kw (ld_glob I hg T.gC ?_ hd)
  refine PySem.W.callWith_K (h₀ := X.base) I.ok.mod.kin T.kC (thn (ha.run pos pins s σ H _ I h) fun us s1 hh => ?_) he hpl
  obtain ⟨vs, H1, I1, r1, v, ev, q1⟩ := hh
  subst ev
  refine ⟨I1.kIn, ?_⟩
  cases r1 with
  | cons rv rn =>
    rename_i v' us'
    cases rn
    show wpAny _ _ (call (.ref C) [v']) _ _ _
    have hlim := I1.nolimit
    have hgl := I1.mod.glob.keeps I1.bk
    obtain ⟨mb, hb1, hb2⟩ := I1.mod.blt
    have hbl := hb1.keeps I1.bk
    obtain ⟨hp, g, dr, tk, os⟩ := s1
    refine wpAny_call (PySem.AtX.at_made T I1.kIn hgl ⟨mb, hbl, hb2⟩ hlim (by have := hr.dp; omega) fun h' tk' e d M => ?_)
    show MkP X pins σ Q (.ref e) ⟨h', g, dr, tk', os⟩
    obtain ⟨oe, fv, hoe, hc, hd, hdat, h1⟩ := M.obj
    have hns := M.ns
    obtain ⟨G', g1, g2⟩ := restrict h' fun b => decide (b ≠ e)
    have gk : ∀ b, b ≠ e → G'.get? b = h'.get? b := fun b hb => g1 b (decide_eq_true hb)
    have ge : G'.get? e = none := g2 e (by simp)
    have old : ∀ b o, hp.get? b = some o → G'.get? b = some o := fun b o q => (gk b (Nat.ne_of_lt (Nat.lt_of_lt_of_le (Heap.lt_size q) M.new))).trans (M.keep b o q)
    have ob : ObjOk X.prog X.w (upd H1 d (.xd [(("at" : Str), v)])) G' d (.xd [(("at" : Str), v)]) :=
      ⟨_, hns.at (fun o q => (gk d M.dne).trans q), fun f => relO_at rv f⟩
    have J : Inv X pins σ (upd H1 d (.xd [(("at" : Str), v)])) ⟨G', g, dr, tk', os⟩ := I1.laid (t' := tk') old M.dbig ob
    refine ⟨e, oe, fv, ⟨G', g, dr, tk', os⟩, _, .ref C, some d, rfl, J, fun b o q => ?_, ge, hoe, ⟨hc, hd⟩, hdat, h1, ?_, rfl, I1.bare, raises_own T.exC T.tyC, q1 d (I1.hok.fresh M.dbig)⟩
    · by_cases hb : b = e
      · have q' : G'.get? b = some o := q
        rw [hb, ge] at q'; cases q'
      · exact (gk b hb).symm.trans q
    · rw [upd_ne (Ne.symm M.dne)]
      exact I1.hok.fresh M.new
/-- raise x(e) -/
def tRaiseAt (C : Addr) (W : WX) (ta : TA) : TS := fun _ σ H => tMkAt C ta σ H fun cls d H' => W cls d σ H'
theorem ps_raiseAt {a : Expr} {ta : TA} {W : WX} {p pos pos2 : Pos} {k : Nat} (hc : X.calm = true) (T : PySem.AtX.AtTxt X.prog X.K X.mg x C D fI) (hr : Room k X.A) (tk : Takes X W) (ha : PA X [a] ta) (hg : Gl X x := by rfl)
    (he : starEach (a :: []) X.env = (false, eval a X.env) :: starEach [] X.env := by rfl) (hpl : (backTo pos (starEach [] X.env)).any (·.1) = false := by rfl) (hd : (x == ("__debug__" : Str)) = false := by decide) :
    PS X (.Raise (some (.Call (.Name x p) [a] [] pos)) none pos2) (tRaiseAt C W ta) := ps_raise hc tk (pmk_at T hr ha hg he hpl hd)
/-- e.at, e the exception that the suite holds (at a; its class cls, its dict d) -/
def tAtOf (C : Addr) (a : Addr) (cls : Value) (d : Option Addr) (te : TE) : TE := fun σ H Q => te σ H fun x H1 => x = .ref a ∧ cls = .ref C ∧ ∃ (dd : Addr) (v : V), d = some dd ∧ H1 dd = some (.xd [(("at" : Str), v)]) ∧ Q v H1
theorem pe_atOf {a : Addr} {oe : Obj} {cls : Value} {d : Option Addr} {pn : List (Addr × Obj)} {e : Expr} {te : TE} {pos : Pos} (T : PySem.AtX.AtTxt X.prog X.K X.mg x C D fI) (hz : Zc cls d oe) (hf : ∃ vs, oe.data = .fields vs) (he : PE (X.suite a ((a, oe) :: pn)) e te)
    (hb : attributeBase e "at" X.env (eval e X.env) = eval e X.env := by rfl) :
    PE (X.suite a ((a, oe) :: pn)) (.Attribute e "at" pos) (tAtOf C a cls d te) := by
  refine ⟨fun pins s σ H Q I h => ?_⟩
  refine attr_of hb (thn (he.run pins s σ H _ I h) fun u s1 hh => ?_)
  obtain ⟨x, H1, I1, rx, ex, ec, dd, v, ed, ea, q⟩ := hh
  subst ex
  obtain rfl : u = Value.ref a := rx
  subst ec
  subst ed
  obtain ⟨ha, _⟩ := I1.pin (a, oe) (List.mem_append_left _ List.mem_cons_self)
  obtain ⟨vs, hd⟩ := hf
  have hx : ObjOk X.prog X.w H1 s1.heap dd (.xd [(("at" : Str), v)]) := I1.hok dd _ ea
  obtain ⟨mA, hns, hr⟩ := hx
  obtain ⟨od, ho, hl⟩ := lookIn_ns hns
  have l : List.lookup ("at" : Str) [(("at" : Str), v)] = some v := by simp [List.lookup]
  obtain ⟨u, hu, ru⟩ := RelO.some_of (v := v) (o := mA "at") (by rw [← l]; exact hr "at")
  have J : PySem.W.InstAt s1.heap a oe C (some od) := ⟨ha, hz.1, by unfold PySem.W.notCls; rw [hd] <;> rfl, by rw [hz.2]; exact ho⟩
  exact HandSPX.exc_get I1.kIn J T.ga T.gg T.exC (PySem.W.findObj_own T.hdC T.noN rfl (by rw [hl, hu])) (handed_of ru) ⟨v, H1, I1.tok _, ru, q⟩
end
end L2

set_option Elab.async false
set_option linter.all false
set_option maxRecDepth 100000
set_option maxHeartbeats 1000000
/-! The layer Pd, part x: statements that may raise an own error (class by name, what it keeps as data). -/
namespace Pd
open PySem PySem.Spec PyProof.Rows L2
abbrev XRes := (Fl ⊕ (Str × PyData)) × EV × Store
abbrev SMx := EV → Store → Option XRes
def AfterX (K : PySem.W.Frag) (mg : Str → Option Value) (bs : List Nat) (os : List SV) (vs : List V) (D : Ends) (W : WX) : XRes → Prop
  | (.inl fl, ρ, P) => After K bs os vs D (fl, ρ, P)
  | (.inr (x, d), ρ, P) => ∀ (C : Addr) (σ : L2.St) (v : V) (H : Hp) (a : Addr), mg x = some (.ref C) → Rel K bs ρ σ (.fz d :: os) (v :: vs) P H → H a = none → W (.ref C) (some a) σ (upd H a (.xd [(("at" : Str), v)]))
/-- the weakest reading -/
def canX (K : PySem.W.Frag) (mg : Str → Option Value) (W : WX) (m : SMx) : TS := fun D σ H => ∃ (bs : List Nat) (ρ : EV) (os : List SV) (vs : List V) (P : Store) (r : XRes), Rel K bs ρ σ os vs P H ∧ m ρ P = some r ∧ AfterX K mg bs os vs D W r
def PSx (X : Cx) (W : WX) (st : Stmt) (m : SMx) : Prop := PS X st (canX X.K X.mg W m)
def PSsx (X : Cx) (W : WX) (st : List Stmt) (m : SMx) : Prop := PSs X st (canX X.K X.mg W m)
theorem PS.imp' {X : Cx} {st : Stmt} {t u : TS} (h : PS X st t) (k : ∀ D σ H, u D σ H → t D σ H) : PS X st u := ⟨fun pins s σ H D I q => h.run pins s σ H D I (k D σ H q)⟩
theorem PSs.imp' {X : Cx} {st : List Stmt} {t u : TS} (h : PSs X st t) (k : ∀ D σ H, u D σ H → t D σ H) : PSs X st u := ⟨fun pins s σ H D I q => h.run pins s σ H D I (k D σ H q)⟩
section
variable {X : Cx} {W : WX} {pos : Pos}
/-- what raises nothing -/
def sUp (m : SM) : SMx := fun ρ P => (m ρ P).map fun (fl, ρ1, P1) => (.inl fl, ρ1, P1)
theorem psx_up {st : Stmt} {m : SM} (h : PSd X st m) : PSx X W st (sUp m) := by
  obtain ⟨t, p, q⟩ := h
  refine PS.imp' p fun D σ H ⟨bs, ρ, os, vs, P, r, R, e, k⟩ => ?_
  simp only [sUp, Option.map_eq_some_iff] at e
  obtain ⟨⟨fl, ρ1, P1⟩, e1, rfl⟩ := e
  exact q bs ρ σ os vs P H D _ R e1 k
theorem pssx_up {st : List Stmt} {m : SM} (h : PSsd X st m) : PSsx X W st (sUp m) := by
  obtain ⟨t, p, q⟩ := h
  refine PSs.imp' p fun D σ H ⟨bs, ρ, os, vs, P, r, R, e, k⟩ => ?_
  simp only [sUp, Option.map_eq_some_iff] at e
  obtain ⟨⟨fl, ρ1, P1⟩, e1, rfl⟩ := e
  exact q bs ρ σ os vs P H D _ R e1 k
theorem pssx_one {st : Stmt} {m : SMx} (h : PSx X W st m) : PSsx X W [st] m := pss_one h
def sSeqX (m n : SMx) : SMx := fun ρ P => (m ρ P).bind fun r => match r with
  | (.inl .nx, ρ1, P1) => n ρ1 P1
  | r => some r
theorem pssx_cons {st : Stmt} {rest : List Stmt} {m n : SMx} (h : PSx X W st m) (h' : PSsx X W rest n) : PSsx X W (st :: rest) (sSeqX m n) := by
  refine PSs.imp' (pss_cons h h') fun D σ H ⟨bs, ρ, os, vs, P, r, R, e, k⟩ => ?_
  simp only [sSeqX, Option.bind_eq_some_iff] at e
  obtain ⟨⟨f, ρ1, P1⟩, e1, e2⟩ := e
  refine ⟨bs, ρ, os, vs, P, _, R, e1, ?_⟩
  cases f with
  | inl f =>
    cases f with
    | nx => exact fun σ1 H1 R1 => ⟨bs, ρ1, os, vs, P1, r, R1, e2, k⟩
    | rt s => cases e2; exact k
    | bk => cases e2; exact k
    | ct => cases e2; exact k
  | inr z => cases e2; exact k
def sIfX (c : BM) (m n : SMx) : SMx := fun ρ P => (c ρ P).bind fun (b, P1) => if b = true then m ρ P1 else n ρ P1
theorem psx_if {c : Expr} {a b : List Stmt} {fc : BM} {m n : SMx} (hc : PTd X c fc) (ha : PSsx X W a m) (hb : PSsx X W b n) : PSx X W (.If c a b pos) (sIfX fc m n) := by
  obtain ⟨t0, p0, h0⟩ := hc
  refine PS.imp' (ps_if p0 ha hb) fun D σ H ⟨bs, ρ, os, vs, P, r, R, e, k⟩ => ?_
  simp only [sIfX, Option.bind_eq_some_iff] at e
  obtain ⟨⟨s1, P1⟩, e1, e2⟩ := e
  refine h0 bs ρ σ os vs P H _ s1 P1 R e1 fun H1 R1 => ?_
  simp only at e2
  cases s1 with
  | true => rw [if_pos rfl] at e2 ⊢; exact ⟨bs, ρ, os, vs, P1, r, R1, e2, k⟩
  | false => rw [if_neg Bool.false_ne_true] at e2 ⊢; exact ⟨bs, ρ, os, vs, P1, r, R1, e2, k⟩
def forGoX (g : GM) (body : SMx) : List PyData → SMx
  | [], ρ, P => some (.inl .nx, ρ, P)
  | d :: r, ρ, P => (g (.fz d) ρ P).bind fun (ρ1, P1) => (body ρ1 P1).bind fun (fl, ρ2, P2) => match fl with
    | .inl .nx => forGoX g body r ρ2 P2
    | .inl .ct => forGoX g body r ρ2 P2
    | .inl .bk => some (.inl .nx, ρ2, P2)
    | .inl (.rt s) => some (.inl (.rt s), ρ2, P2)
    | .inr z => some (.inr z, ρ2, P2)
def sForX (f : IM) (g : GM) (body : SMx) : SMx := fun ρ P => (f ρ P).bind fun (items, _, P1) => forGoX g body items ρ P1
theorem psx_for {tg iter : Expr} {body : List Stmt} {f : IM} {g : GM} {m : SMx} {ts : List Nat} (hp : PassesOwn (model X.prog X.w) X.A X.env X.xe) (hc : X.calm = true) (hi : PId X tg iter f) (hg : PGd X tg ts g) (hb : PSsx X W body m)
    (hs : ∀ x, foldedSetIterable iter X.env x = pure x := by intro _; rfl) : PSx X W (.For tg iter body [] pos) (sForX f g m) := by
  obtain ⟨wi, p0, h0⟩ := hi
  obtain ⟨t, p1, h1⟩ := hg
  refine PS.imp' (ps_for hp hc p0 p1 hb hs) fun D σ H ⟨bs, ρ, os, vs, P, r, R, e, q⟩ => ?_
  simp only [sForX, Option.bind_eq_some_iff] at e
  obtain ⟨⟨items, src, P1⟩, e0, e1⟩ := e
  refine h0 bs ρ σ os vs P H _ items src P1 R e0 fun J v H1 src R1 ok => ?_
  refine ⟨fun i n σ H => ∃ ρ P, n = items.length - i ∧ i ≤ items.length ∧ Rel X.K bs ρ σ (src :: os) (v :: vs) P H ∧ forGoX g m (items.drop i) ρ P = some r, ⟨_, ρ, P1, rfl, Nat.zero_le _, R1, by simpa using e1⟩, ?_⟩
  rintro i n σ2 H2 ⟨ρ2, P2, rfl, hle, R2, e2⟩
  obtain ⟨ok1, ok2⟩ := ok bs ρ2 σ2 os vs P2 H2 i R2
  by_cases hlt : i < items.length
  · obtain ⟨go, yl⟩ := ok1 hlt
    refine .inr ⟨go, fun σ H => ∃ ρ P, Rel X.K bs ρ σ (src :: os) (v :: vs) P H ∧ forGoX g m (items.drop (i + 1)) ρ P = some r, fun σ3 H3 ⟨ρ3, P3, R3, e3⟩ => ⟨items.length - (i + 1), by omega, ρ3, P3, rfl, hlt, R3, e3⟩, fun x H' hy => ?_⟩
    obtain ⟨d, hd, R3⟩ := yl x H' hy
    rw [List.drop_eq_getElem_cons hlt] at e2
    have ed : items[i] = d := by rw [List.getElem?_eq_getElem hlt] at hd; exact Option.some.inj hd
    rw [ed] at e2
    simp only [forGoX, Option.bind_eq_some_iff] at e2
    obtain ⟨⟨ρ4, P4⟩, e4, ⟨fl, ρ5, P5⟩, e5, e6⟩ := e2
    refine h1 bs ρ2 σ2 (src :: os) (v :: vs) P2 H' (.fz d) x _ ρ4 P4 R3 e4 fun σ4 H4 R4 _ => ?_
    refine ⟨bs, ρ4, src :: os, v :: vs, P4, (fl, ρ5, P5), R4, e5, ?_⟩
    cases fl with
    | inl fl =>
      cases fl with
      | nx => exact fun σ5 H5 R5 => ⟨ρ5, P5, R5, e6⟩
      | ct => exact fun σ5 H5 R5 => ⟨ρ5, P5, R5, e6⟩
      | bk => cases e6; exact fun σ5 H5 R5 => q σ5 H5 R5.pop
      | rt s => cases e6; exact fun σ5 w H5 R5 => q σ5 w H5 R5.pop2
    | inr z =>
      cases e6
      exact fun C σ5 w H5 a hm R5 ha => q C σ5 w H5 a hm R5.pop2 ha
  · have : i = items.length := by omega
    subst this
    rw [List.drop_length] at e2
    simp only [forGoX, Option.some.injEq] at e2
    subst e2
    exact .inl ⟨ok2 (Nat.le_refl _), q σ2 H2 R2.pop⟩
/-- raise x(e) -/
def sRaise (x : Str) (f : XM) : SMx := fun ρ P => (f ρ P).bind fun (a, P1) => match a with
  | .fz d => some (.inr (x, d), ρ, P1)
  | _ => none
theorem psx_raise {x : Str} {C D fI : Addr} {k : Nat} {e : Expr} {f : XM} {p pos2 : Pos} (hc : X.calm = true) (T : PySem.AtX.AtTxt X.prog X.K X.mg x C D fI) (hr : Room k X.A) (tk : Takes X W) (he : PEd X e f) (hg : Gl X x)
    (hs : starEach (e :: []) X.env = (false, eval e X.env) :: starEach [] X.env := by rfl) (hpl : (backTo pos (starEach [] X.env)).any (·.1) = false := by rfl) (hd : (x == ("__debug__" : Str)) = false := by decide) :
    PSx X W (.Raise (some (.Call (.Name x p) [e] [] pos)) none pos2) (sRaise x f) := by
  obtain ⟨t, pe, h1⟩ := he
  refine PS.imp' (ps_raiseAt hc T hr tk (pa_cons pe pa_nil hs) hg hs hpl hd) fun Dn σ H ⟨bs, ρ, os, vs, P, r, R, e, q⟩ => ?_
  simp only [sRaise, Option.bind_eq_some_iff] at e
  obtain ⟨⟨a, P1⟩, e1, e2⟩ := e
  refine h1 bs ρ σ os vs P H _ a P1 R e1 fun v H1 R1 => ?_
  simp only at e2
  split at e2
  · cases e2
    exact ⟨v, rfl, fun d hd => q C σ v H1 d T.gC R1 hd⟩
  · cases e2
end
end Pd

set_option Elab.async false
set_option linter.all false
set_option maxRecDepth 100000
set_option maxHeartbeats 1000000
/-! The layer Pd, part x: expressions that may raise; defs that raise; the try statement. -/
namespace Pd
open PySem PySem.Spec PyProof.Rows L2
abbrev Exn := Str × PyData
abbrev XMx := EV → Store → Option ((SV ⊕ Exn) × Store)
abbrev AMx := EV → Store → Option ((List SV ⊕ Exn) × Store)
/-- an error d of x is wished -/
def Thrown (K : PySem.W.Frag) (mg : Str → Option Value) (bs : List Nat) (ρ : EV) (os : List SV) (vs : List V) (W : WX) (z : Exn) (P : Store) : Prop :=
  ∀ (C : Addr) (σ : L2.St) (v : V) (H : Hp) (a : Addr), mg z.1 = some (.ref C) → Rel K bs ρ σ (.fz z.2 :: os) (v :: vs) P H → H a = none → W (.ref C) (some a) σ (upd H a (.xd [(("at" : Str), v)]))
def canE (K : PySem.W.Frag) (mg : Str → Option Value) (W : WX) (f : XMx) : TE := fun σ H Q => ∃ (bs : List Nat) (ρ : EV) (os : List SV) (vs : List V) (P : Store) (r : SV ⊕ Exn) (P' : Store), Rel K bs ρ σ os vs P H ∧ f ρ P = some (r, P') ∧
  (∀ s, r = .inl s → ∀ v H', Rel K bs ρ σ (s :: os) (v :: vs) P' H' → Q v H') ∧ (∀ z, r = .inr z → Thrown K mg bs ρ os vs W z P')
def canA (K : PySem.W.Frag) (mg : Str → Option Value) (W : WX) (f : AMx) : TA := fun σ H Q => ∃ (bs : List Nat) (ρ : EV) (os : List SV) (vs : List V) (P : Store) (r : List SV ⊕ Exn) (P' : Store), Rel K bs ρ σ os vs P H ∧ f ρ P = some (r, P') ∧
  (∀ l, r = .inl l → ∀ ws H', ws.length = l.length → Rel K bs ρ σ (l.reverse ++ os) (ws.reverse ++ vs) P' H' → Q ws H') ∧ (∀ z, r = .inr z → Thrown K mg bs ρ os vs W z P')
def PEx (X : Cx) (W : WX) (e : Expr) (f : XMx) : Prop := PE X e (canE X.K X.mg W f)
def PAx (X : Cx) (W : WX) (es : List Expr) (f : AMx) : Prop := PA X es (canA X.K X.mg W f)
theorem PE.imp' {X : Cx} {e : Expr} {t u : TE} (h : PE X e t) (k : ∀ σ H Q, u σ H Q → t σ H Q) : PE X e u := ⟨fun pins s σ H Q I q => h.run pins s σ H Q I (k σ H Q q)⟩
theorem PA.imp' {X : Cx} {e : List Expr} {t u : TA} (h : PA X e t) (k : ∀ σ H Q, u σ H Q → t σ H Q) : PA X e u := ⟨fun pos pins s σ H Q I q => h.run pos pins s σ H Q I (k σ H Q q)⟩
theorem RelX.popR {K : PySem.W.Frag} {bs : List Nat} {ρ : EV} {σ : L2.St} {os : List SV} {vs : List V} {P : Store} {H F : Hp} {ad : List Addr} : ∀ {l : List SV} {ws : List V}, ws.length = l.length → RelX K bs ρ σ (l ++ os) (ws ++ vs) P H F ad → RelX K bs ρ σ os vs P H F ad
  | [], [], _, R => by simpa using R
  | a :: l, w :: ws, e, R => RelX.popR (by simpa using e) (show RelX K bs ρ σ (a :: (l ++ os)) (w :: (ws ++ vs)) P H F ad by simpa using R).pop.2
theorem Thrown.up {K : PySem.W.Frag} {mg : Str → Option Value} {bs : List Nat} {ρ : EV} {os : List SV} {vs : List V} {W : WX} {z : Exn} {P : Store} {l : List SV} {ws : List V} (h : Thrown K mg bs ρ os vs W z P) (hl : ws.length = l.length) : Thrown K mg bs ρ (l ++ os) (ws ++ vs) W z P := fun C σ v H a hm R ha => h C σ v H a hm (by
  obtain ⟨F, ad, R⟩ := R
  obtain ⟨r, R1⟩ := R.pop
  exact ⟨F, ad, (R1.popR hl).push r⟩) ha
section
variable {X : Cx} {W : WX} {pos : Pos}
def xUp (f : XM) : XMx := fun ρ P => (f ρ P).map fun (s, P1) => (.inl s, P1)
def aUp (f : AM) : AMx := fun ρ P => (f ρ P).map fun (s, P1) => (.inl s, P1)
theorem pex_up {e : Expr} {f : XM} (h : PEd X e f) : PEx X W e (xUp f) := by
  obtain ⟨t, p, q⟩ := h
  refine PE.imp' p fun σ H Q ⟨bs, ρ, os, vs, P, r, P', R, e, k, _⟩ => ?_
  simp only [xUp, Option.map_eq_some_iff, Prod.mk.injEq] at e
  obtain ⟨⟨s, P1⟩, e1, rfl, rfl⟩ := e
  exact q bs ρ σ os vs P H Q _ _ R e1 (k s rfl)
theorem pax_up {e : List Expr} {f : AM} (h : PAd X e f) : PAx X W e (aUp f) := by
  obtain ⟨t, p, q⟩ := h
  refine PA.imp' p fun σ H Q ⟨bs, ρ, os, vs, P, r, P', R, e, k, _⟩ => ?_
  simp only [aUp, Option.map_eq_some_iff, Prod.mk.injEq] at e
  obtain ⟨⟨s, P1⟩, e1, rfl, rfl⟩ := e
  exact q bs ρ σ os vs P H Q _ _ R e1 (k s rfl)
def aConsX (f : XMx) (g : AMx) : AMx := fun ρ P => (f ρ P).bind fun (a, P1) => match a with
  | .inr z => some (.inr z, P1)
  | .inl a => (g ρ P1).map fun (l, P2) => match l with
    | .inr z => (.inr z, P2)
    | .inl l => (.inl (a :: l), P2)
theorem pax_cons {e : Expr} {es : List Expr} {f : XMx} {g : AMx} (h : PEx X W e f) (h' : PAx X W es g) (hs : starEach (e :: es) X.env = (false, eval e X.env) :: starEach es X.env := by rfl) : PAx X W (e :: es) (aConsX f g) := by
  refine PA.imp' (pa_cons h h' hs) fun σ H Q ⟨bs, ρ, os, vs, P, r, P', R, e, k, kx⟩ => ?_
  simp only [aConsX, Option.bind_eq_some_iff] at e
  obtain ⟨⟨a, P1⟩, e1, e2⟩ := e
  refine ⟨bs, ρ, os, vs, P, a, P1, R, e1, fun s es v H1 R1 => ?_, fun z ez => ?_⟩
  · subst es
    simp only [Option.map_eq_some_iff] at e2
    obtain ⟨⟨l, P2⟩, e3, e4⟩ := e2
    refine ⟨bs, ρ, s :: os, v :: vs, P1, l, P2, R1, e3, fun l' el ws H2 hl R2 => ?_, fun z ez => ?_⟩
    · subst el
      cases e4
      refine k (s :: l') rfl (v :: ws) H2 (by simp [hl]) ?_
      simpa using R2
    · subst ez
      cases e4
      exact (kx z rfl).up (l := [s]) (ws := [v]) rfl
  · subst ez
    cases e2
    exact kx z rfl
end
end Pd

set_option Elab.async false
set_option linter.all false
set_option maxRecDepth 100000
set_option maxHeartbeats 1000000
/-! The layer Pd, part x: tuples, calls, statements with an expression that may raise; THE RULE for a def that may raise. -/
namespace Pd
open PySem PySem.Spec PyProof.Rows L2
section
variable {X : Cx} {W : WX} {pos : Pos}
def mTupX (g : AMx) : XMx := fun ρ P => (g ρ P).bind fun (l, P1) => match l with
  | .inr z => some (.inr z, P1)
  | .inl l => (fzs l).bind fun ds => if ds.length ≤ sizeLine then some (.inl (.fz (.tuple ds)), P1) else none
theorem pex_tup {es : List Expr} {x1} {g : AMx} (h : PAx X W es g) : PEx X W (.Tuple es x1 pos) (mTupX g) := by
  refine PE.imp' (pe_tupQ h) fun σ H Q ⟨bs, ρ, os, vs, P, r, P', R, e, k, kx⟩ => ?_
  simp only [mTupX, Option.bind_eq_some_iff] at e
  obtain ⟨⟨l, P1⟩, e1, e2⟩ := e
  refine ⟨bs, ρ, os, vs, P, l, P1, R, e1, fun l' el ws H1 hl R1 => ?_, fun z ez => ?_⟩
  · subst el
    simp only [Option.bind_eq_some_iff] at e2
    obtain ⟨ds, e2, e3⟩ := e2
    split at e3
    · rename_i hz
      cases e3
      obtain ⟨F, ad, R1⟩ := R1
      obtain ⟨a, R2⟩ := R1.args hl
      have fa := fzs_some a e2
      exact ⟨by rw [fa.length]; exact hz, tupQ_rel R2 fa (k _ rfl)⟩
    · cases e3
  · subst ez
    cases e2
    exact kx z rfl
abbrev FMx := List SV → Store → Option ((SV ⊕ Exn) × Store)
/-- a def's promise, one that may raise -/
def spMX (K : PySem.W.Frag) (mg : Str → Option Value) (m : FMx) (n : Nat) : Sp := fun vs H Q E => vs.length = n ∧ ∃ (bs : List Nat) (ρ : EV) (σ : L2.St) (os : List SV) (ws : List V) (args : List SV) (P : Store) (r : SV ⊕ Exn) (P' : Store), args.length = n ∧
  Rel K bs ρ σ (args ++ os) (vs ++ ws) P H ∧ m args P = some (r, P') ∧ (∀ s, r = .inl s → ∀ v H', Rel K bs ρ σ (s :: os) (v :: ws) P' H' → Q v H') ∧
  (∀ z, r = .inr z → ∀ (C : Addr) (v : V) (H' : Hp) (a : Addr), mg z.1 = some (.ref C) → Rel K bs ρ σ (.fz z.2 :: os) (v :: ws) P' H' → H' a = none → E (.ref C) (some a) (upd H' a (.xd [(("at" : Str), v)])))
def mCallX (m : FMx) (fs : AMx) : XMx := fun ρ P => (fs ρ P).bind fun (l, P1) => match l with
  | .inr z => some (.inr z, P1)
  | .inl l => m l P1
/-- the promise, with the slots of the frame in the wish -/
theorem pex_call {x : Str} {p : Pos} {k n : Nat} {f : Addr} {fd : FuncData} {ps : List Str} {e : Expr} {es : List Expr} {m : FMx} {fs : AMx} (F : FnOk X.prog X.w X.K X.mg X.base (L2.CX X.prog X.w) k f fd ps (spMX X.K X.mg m n)) (tk : Takes X W) (hr : Room k X.A) (hg : Gl X x) (hm : X.mg x = some (.ref f)) (hk : PySem.W.keepIn X.K (.ref f) = true) (hb : Binds X.K fd ps [])
    (ha : PAx X W (e :: es) fs) (hn : ∀ ρ P l P', fs ρ P = some (.inl l, P') → l.length = n)
    (hs : starEach (e :: es) X.env = (false, eval e X.env) :: starEach es X.env := by rfl) (hpl : (backTo pos (starEach es X.env)).any (·.1) = false := by rfl) (hdb : (x == ("__debug__" : Str)) = false := by decide) : PEx X W (.Call (.Name x p) (e :: es) [] pos) (mCallX m fs) := by
  refine PE.imp' (pe_callS F hr hg hm hk hb (fun σ => passAt tk σ) ha (hdb := hdb) (he := hs) (hpl := hpl)) fun σ H Q ⟨bs, ρ, os, vs, P, r, P', R, e, q, qx⟩ => ?_
  simp only [mCallX, Option.bind_eq_some_iff] at e
  obtain ⟨⟨l, P1⟩, e1, e2⟩ := e
  refine ⟨bs, ρ, os, vs, P, l, P1, R, e1, fun l' el ws H1 hl R1 => ?_, fun z ez => ?_⟩
  · subst el
    obtain ⟨F, ad, R1⟩ := R1
    obtain ⟨ra, R2⟩ := R1.args hl
    have hln := hn _ _ _ _ e1
    exact ⟨by simp [hl, hln], bs, ρ, σ, os, vs, l', P1, r, P', hln, ⟨F, ad, R2.tops_of (ra.append R2.tops)⟩, e2, q, fun z ez C v H' a hm R' ha => qx z ez C σ v H' a hm R' ha⟩
  · subst ez
    cases e2
    exact qx z rfl
/-! ### statements -/
def sRetX (f : XMx) : SMx := fun ρ P => (f ρ P).map fun (r, P1) => match r with
  | .inl s => (.inl (.rt s), ρ, P1)
  | .inr z => (.inr z, ρ, P1)
theorem psx_ret {e : Expr} {f : XMx} (h : PEx X W e f) : PSx X W (.Return (some e) pos) (sRetX f) := by
  refine PS.imp' (ps_ret h) fun D σ H ⟨bs, ρ, os, vs, P, r, R, e, q⟩ => ?_
  simp only [sRetX, Option.map_eq_some_iff] at e
  obtain ⟨⟨s, P1⟩, e1, e2⟩ := e
  refine ⟨bs, ρ, os, vs, P, s, P1, R, e1, fun s' es v H1 R1 => ?_, fun z ez => ?_⟩
  · subst es
    subst e2
    exact q σ v H1 R1
  · subst ez
    subst e2
    exact q
def sExX (f : XMx) : SMx := fun ρ P => (f ρ P).map fun (r, P1) => match r with
  | .inl _ => (.inl .nx, ρ, P1)
  | .inr z => (.inr z, ρ, P1)
theorem psx_expr {e : Expr} {f : XMx} (h : PEx X W e f) (hs : swapsWith e none pos.line X.env = pure false := by rfl) : PSx X W (.Expr e pos) (sExX f) := by
  refine PS.imp' (ps_expr h hs) fun D σ H ⟨bs, ρ, os, vs, P, r, R, e, q⟩ => ?_
  simp only [sExX, Option.map_eq_some_iff] at e
  obtain ⟨⟨s, P1⟩, e1, e2⟩ := e
  refine ⟨bs, ρ, os, vs, P, s, P1, R, e1, fun s' es v H1 R1 => ?_, fun z ez => ?_⟩
  · subst es
    subst e2
    exact q σ H1 R1.pop
  · subst ez
    subst e2
    exact q
def sSetX (i : Nat) (f : XMx) : SMx := fun ρ P => (f ρ P).map fun (r, P1) => match r with
  | .inl s => (.inl .nx, ρ.put i s, P1)
  | .inr z => (.inr z, ρ, P1)
theorem psx_set {i : Nat} {x : Str} {e : Expr} {f : XMx} {pos' : Pos} (hN : X.N.Nodup) (hi : X.N[i]? = some x) (hx : Loc X.env.scope x) (h : PEx X W e f) (hs : swapsWith e (some (.Name x pos')) pos.line X.env = pure false := by rfl)
    (hf : X.fn x = true ∨ X.env.scope.names.lookup x = some .local := by first | exact .inl rfl | exact .inr rfl | assumption) : PSx X W (.Assign [.Name x pos'] e pos) (sSetX i f) := by
  refine PS.imp' (ps_set hN hi hx h hs hf) fun D σ H ⟨bs, ρ, os, vs, P, r, R, e, q⟩ => ?_
  simp only [sSetX, Option.map_eq_some_iff] at e
  obtain ⟨⟨s, P1⟩, e1, e2⟩ := e
  refine ⟨bs, ρ, os, vs, P, s, P1, R, e1, fun s' es v H1 R1 => ?_, fun z ez => ?_⟩
  · subst es
    subst e2
    exact q _ H1 (R1.store i)
  · subst ez
    subst e2
    exact q
end
/-! ### a def that may raise -/
def mFunX (ex : Nat → SV → Store → Option (SV × Store)) (nN : Nat) (body : SMx) : FMx := fun args P => (body { b := P.length, sl := startE nN args } P).bind fun (fl, _, P2) => match fl with
  | .inl (.rt r) => (ex P.length r P2).map fun (s, P3) => (.inl s, P3)
  | .inl .nx => (ex P.length (.fz .none) P2).map fun (s, P3) => (.inl s, P3)
  | .inr (x, d) => (ex P.length (.fz d) P2).bind fun (s, P3) => match s with
    | .fz d' => some (.inr (x, d'), P3)
    | _ => none
  | _ => none
section
variable {P : Program} {w : World} {K : PySem.W.Frag} {mg : Str → Option Value} {base : Heap}
theorem fn_mX {x qual : Str} {st : Stmt} {f : Addr} {fd : FuncData} {N ps : List Str} {k nN np : Nat} {body : SMx} {ex : Nat → SV → Store → Option (SV × Store)} (hex : ExOk ex) (F : L2.Fun K x qual st f fd) (S : FnScope N ps (defScope st)) (hN : N.length = nN) (hp : ps.length = np) (hpn : np ≤ nN)
    (hb : ∀ (cdv : Value) (A : Around) (outer : List Env) (s : Shared) (H : Hp) (E : XK), Room k (A.deeper (envOfC qual (defScope st) s.heap.objs.size f cdv)) → PSsx (cxOf (L2.CX P w) P w K mg base N qual (defScope st) f cdv A outer s H E) (fun cls d _ H => E cls d H) (defBody st) body) :
    FnOk P w K mg base (L2.CX P w) (k + 1) f fd ps (spMX K mg (mFunX ex nN body) np) := by
  refine F.okX S (fun vs H Q E h => h.1.trans hp.symm) fun cdv A outer s H vs Q E hr h => ?_
  obtain ⟨hv, bs, ρ, σ, os, ws, args, P0, r, P', ha, R, em, q, qx⟩ := h
  refine ⟨_, hb cdv A outer s H E hr, ?_⟩
  simp only [mFunX, Option.bind_eq_some_iff] at em
  obtain ⟨⟨fl, ρ2, P2⟩, e1, e2⟩ := em
  obtain ⟨F0, ad, R⟩ := R
  obtain ⟨ra, ro⟩ := SVA.split (hv.trans ha.symm) R.tops
  obtain ⟨ls, us, la, lb⟩ := R.slots.list
  have hlt := R.slotsLt
  have hto := R.topsLt
  have hbb := R.bb
  have hbl := R.bas.le
  have R1 := (R.tops_of (la.append ro)).enter
  have sl : SlR K F0 ad (startE nN args) (L2.start N vs) := by rw [← hN]; exact SVA.slots ra (by omega)
  have R2 : Rel K (P0.length :: bs) { b := P0.length, sl := startE nN args } (L2.start N vs) (ls ++ os) (us ++ ws) P0 H := ⟨F0, ad, { R1 with slots := sl, bb := R1.bb }⟩
  have out : ∀ {ρ' : EV} {σ' : L2.St} {z y : SV} {v : V} {H' : Hp} {P3 : Store}, Rel K (P0.length :: bs) ρ' σ' (z :: (ls ++ os)) (v :: (us ++ ws)) P2 H' → ex P0.length z P2 = some (y, P3) → Rel K bs ρ σ (y :: os) (v :: ws) P3 H' := by
    rintro ρ' σ' z y v H' P3 ⟨G, ad', R3⟩ ez
    obtain ⟨rz, R4⟩ := R3.pop
    obtain ⟨sa, so⟩ := SVA.split la.length R4.tops
    exact hex K bs ρ ρ' σ σ' os ws z v P2 P3 H' G ad' P0.length y (R3.tops_of (.cons rz so)) (lb G ad' sa) hlt (fun s hs => hto s (List.mem_append_right _ hs)) hbb hbl (R3.bas.le _ List.mem_cons_self) ez
  refine ⟨P0.length :: bs, _, ls ++ os, us ++ ws, P0, (fl, ρ2, P2), R2, e1, ?_⟩
  cases fl with
  | inl fl =>
    cases fl with
    | nx =>
      simp only [Option.map_eq_some_iff, Prod.mk.injEq] at e2
      obtain ⟨⟨y, P3⟩, e3, rfl, rfl⟩ := e2
      intro σ' H' R3
      obtain ⟨G, ad', R3⟩ := R3
      exact q _ rfl _ _ (out ⟨G, ad', R3.push (d := .fz .none) (show Fz K G .non .none from .non)⟩ e3)
    | rt z =>
      simp only [Option.map_eq_some_iff, Prod.mk.injEq] at e2
      obtain ⟨⟨y, P3⟩, e3, rfl, rfl⟩ := e2
      exact fun σ' v H' R3 => q _ rfl _ _ (out R3 e3)
    | bk => cases e2
    | ct => cases e2
  | inr z =>
    obtain ⟨x, d⟩ := z
    simp only [Option.bind_eq_some_iff] at e2
    obtain ⟨⟨y, P3⟩, e3, e4⟩ := e2
    intro C σ' v H' a hm R3 ha'
    cases y with
    | fz d' =>
      cases e4
      exact qx _ rfl C v H' a hm (out R3 e3) ha'
    | ptr _ => cases e4
    | lk _ _ _ => cases e4
end
end Pd

set_option Elab.async false
set_option linter.all false
set_option maxRecDepth 100000
set_option maxHeartbeats 1000000
/-! The layer Pd, part x: try: .. except x as n: return (w, n.at) -/
namespace Pd
open PySem PySem.Spec PyProof.Rows L2
section
variable {X : Cx} {pos : Pos}
/-- the clause's tuple (w, n.at), or its list -/
def sTry (g : PyData → PyData) (i : Nat) (y : Str) (m : SMx) : SM := fun ρ P => (m ρ P).bind fun (r, ρ1, P1) => match r with
  | .inl fl => some (fl, ρ1, P1)
  | .inr (y', d) => if y' = y ∧ i < ρ1.sl.length then some (.rt (.fz (g d)), ρ1, P1) else none
def gTup (w : Str) (d : PyData) : PyData := .tuple [.str w, d]
def gLst (w : Str) (d : PyData) : PyData := .list [.str w, d]
theorem psd_try_of {x y n : Str} {S C D fI : Addr} {i : Nat} {body : List Stmt} {m : SMx} {g : PyData → PyData} {np p6 pos' : Pos} {e : Expr} {ts : Addr → Value → Option Addr → TE} (hs : X.stack = X.env :: X.outer) (hf : X.env.frame = some X.env.locals) (hN : X.N.Nodup) (hi : X.N[i]? = some n) (hln : X.env.kindOf n = some .local)
    (hc : Names X x (.ref S)) (T : PySem.AtX.AtTxt X.prog X.K X.mg y C D fI) (hte : PySem.W.exmOne X.K (.ref C) (.ref S) = some true)
    (hb : ∀ (W : WX) (pn : List (Addr × Obj)) (xe : Value → Shared → Prop), Takes (X.tr pn xe) W → PassesOwn (model X.prog X.w) X.A X.env xe → PSsx (X.tr pn xe) W body m)
    (hsu : ∀ (a : Addr) (oe : Obj) (cls : Value) (d : Option Addr) (pn : List (Addr × Obj)), Zc cls d oe → (∃ vs, oe.data = .fields vs) → PE (X.suite a ((a, oe) :: pn)) e (ts a cls d))
    (hts : ∀ (a a0 : Addr) (bs : List Nat) (ρ : EV) (σ σ1 : L2.St) (os : List SV) (vs : List V) (P : Store) (H F : Hp) (ad : List Addr) (v : V) (d : PyData) (Q : VK), RelX X.K bs ρ σ os vs P (upd H a0 (.xd [(("at" : Str), v)])) F ad → Fz X.K F v d → σ1[i]? = some (some (.ref a)) →
      (∀ v' H', Rel X.K bs ρ σ (.fz (g d) :: os) (v' :: vs) P H' → Q v' H') → ts a (.ref C) (some a0) σ1 (upd H a0 (.xd [(("at" : Str), v)])) Q) :
    PSd X (.Try body [.ExceptHandler (some (.Name x np)) (some n) [.Return (some e) p6] pos'] [] [] pos) (sTry g i y m) := by
  refine ⟨_, ps_try_as (i := i) (tb := fun W => canX X.K X.mg W m) (ts := fun a cls d => tRet (ts a cls d)) (Wout := fun _ _ _ _ => False) hs hf hN hi hln hc takes0 hb (fun a oe cls d pn hz hfv => pss_one (ps_ret (hsu a oe cls d pn hz hfv))), fun bs ρ σ os vs P H Dn r R e q => ?_⟩
  simp only [sTry, Option.bind_eq_some_iff] at e
  obtain ⟨⟨r0, ρ1, P1⟩, e1, e2⟩ := e
  refine ⟨bs, ρ, os, vs, P, _, R, e1, ?_⟩
  cases r0 with
  | inl fl => cases e2; exact q
  | inr z =>
    obtain ⟨y', d⟩ := z
    simp only at e2
    split at e2
    · rename_i hy
      obtain ⟨rfl, hlen⟩ := hy
      cases e2
      intro C' σ' v H' a0 hm R' ha
      have ec : C' = C := by
        have := hm.symm.trans T.gC
        injection this with this
        injection this
      subst ec
      refine ⟨true, hte, fun _ a na => ?_, fun z => Bool.noConfusion z⟩
      obtain ⟨F, ad, R'⟩ := R'
      obtain ⟨rv, R1⟩ := R'.pop
      have hfz : Fz X.K F v d := rv
      have hl2 : i < σ'.length := by rw [R1.slots.1]; exact hlen
      refine hts a a0 bs ρ1 σ' _ os vs P1 H' _ ad v d _ (R1.lay ha) (hfz.mono (upd_le (R1.free ha))) (List.getElem?_set_self hl2) fun v' H'' R2 => q σ' v' H'' R2
    · cases e2
/-- return (w, n.at) -/
theorem psd_try_tup {x y n w : Str} {S C D fI : Addr} {i : Nat} {body : List Stmt} {m : SMx} {np p2 p3 p4 p5 p6 pos' : Pos} {j k : Nat} (hs : X.stack = X.env :: X.outer) (hf : X.env.frame = some X.env.locals) (hN : X.N.Nodup) (hi : X.N[i]? = some n) (hln : X.env.kindOf n = some .local)
    (hc : Names X x (.ref S)) (T : PySem.AtX.AtTxt X.prog X.K X.mg y C D fI) (hte : PySem.W.exmOne X.K (.ref C) (.ref S) = some true) (hdb : (n == ("__debug__" : Str)) = false) (hcd : (n == ("__classdict__" : Str)) = false)
    (hb : ∀ (W : WX) (pn : List (Addr × Obj)) (xe : Value → Shared → Prop), Takes (X.tr pn xe) W → PassesOwn (model X.prog X.w) X.A X.env xe → PSsx (X.tr pn xe) W body m) :
    PSd X (.Try body [.ExceptHandler (some (.Name x np)) (some n) [.Return (some (.Tuple [.Constant (.str w) j p2, .Attribute (.Name n p3) "at" p4] k p5)) p6] pos'] [] [] pos) (sTry (gTup w) i y m) := by
  refine psd_try_of (ts := fun a cls d => tTupQ (tCons (tC (.str w)) (tCons (tAtOf C a cls d (tVar i)) tNil))) hs hf hN hi hln hc T hte hb (fun a oe cls d pn hz hfv => ?_) (fun a a0 bs ρ σ σ1 os vs P H F ad v d Q R rv hv q => ?_)
  · exact pe_tupQ (pa_cons pe_str (pa_cons (pe_atOf T hz hfv (pe_var hi (Or.inl hln) hdb hcd)) pa_nil))
  · exact ⟨_, hv, rfl, rfl, a0, v, rfl, upd_same, (by rw [sizeLine_eq]; show 2 ≤ 16777216; decide), tupQ_rel R (.cons (.str w) (.cons rv .nil)) q⟩
end
end Pd

set_option Elab.async false
set_option linter.all false
set_option maxRecDepth 100000
set_option maxHeartbeats 1000000
/-! The layer Pd, part x: an expression that might raise and does not. -/
namespace Pd
open PySem PySem.Spec PyProof.Rows L2
section
variable {X : Cx}
def xNo (f : XMx) : XM := fun ρ P => (f ρ P).bind fun (r, P1) => match r with
  | .inl s => some (s, P1)
  | .inr _ => none
theorem ped_nx {e : Expr} {f : XMx} (h : PEx X (fun _ _ _ _ => False) e f) : PEd X e (xNo f) := by
  refine ⟨_, h, fun bs ρ σ os vs P H Q r P' R e q => ?_⟩
  simp only [xNo, Option.bind_eq_some_iff] at e
  obtain ⟨⟨r0, P1⟩, e1, e2⟩ := e
  cases r0 with
  | inl s =>
    cases e2
    exact ⟨bs, ρ, os, vs, P, _, _, R, e1, fun s es => by cases es; exact q, fun z ez => by cases ez⟩
  | inr z => cases e2
theorem aUp_len {g : AM} {n : Nat} (h : ∀ ρ P l P', g ρ P = some (l, P') → l.length = n) : ∀ ρ P l P', aUp g ρ P = some (.inl l, P') → l.length = n := fun ρ P l P' e => by
  simp only [aUp, Option.map_eq_some_iff, Prod.mk.injEq, Sum.inl.injEq] at e
  obtain ⟨⟨l2, P2⟩, e1, rfl, rfl⟩ := e
  exact h _ _ _ _ e1
end
end Pd

set_option Elab.async false
set_option linter.all false
set_option maxRecDepth 100000
set_option maxHeartbeats 1000000
/-! x, y, z = a, b, c (names of a def) -/
namespace Pd
open PySem PySem.Spec PyProof.Rows L2
section
variable {X : Cx} {pos : Pos}
def tPar3 (i j k : Nat) (ta : TA) : TS := fun D σ H => ta σ H fun vs H1 => ∃ u v w, vs = [u, v, w] ∧ D.nx (((σ.set i (some u)).set j (some v)).set k (some w)) H1
theorem ps_par3 {i j k : Nat} {x y z : Str} {a b c : Expr} {ta : TA} {px py pz pt : Pos} {kt k2 pt2} (hc : X.calm = true) (hN : X.N.Nodup) (hi : X.N[i]? = some x) (hj : X.N[j]? = some y) (hk : X.N[k]? = some z) (hij : i ≠ j) (hik : i ≠ k) (hjk : j ≠ k)
    (hx : X.env.scope.names.lookup x = some .local) (hy : X.env.scope.names.lookup y = some .local) (hz : X.env.scope.names.lookup z = some .local) (ha : PA X [a, b, c] ta)
    (hw : swappedStores [.Tuple [.Name x px, .Name y py, .Name z pz] kt pt] (.Tuple [a, b, c] k2 pt2) X.env = pure (some [x, y, z]))
    (hs : swapsWithSole [.Tuple [.Name x px, .Name y py, .Name z pz] kt pt] (.Tuple [a, b, c] k2 pt2) pos.line X.env = pure false := by rfl) :
    PS X (.Assign [.Tuple [.Name x px, .Name y py, .Name z pz] kt pt] (.Tuple [a, b, c] k2 pt2) pos) (tPar3 i j k ta) := by
  refine ⟨fun pins s σ H D I h => ?_⟩
  rw [exec_Assign_arm]
  refine wpAny_bind (wpAny_standAt ?_)
  rw [hs]
  refine wpAny_bind (wpAny_pure ?_)
  rw [if_neg (by decide)]
  refine wpAny_bind (Tuple_ (thn (ha.run _ pins s σ H _ I h) fun us s1 ⟨vs, H1, I1, r1, q1⟩ => ?_))
  obtain ⟨v0, v, w, e1, q1⟩ := q1
  subst e1
  obtain ⟨u0, u1, u2, rfl, r0, rv, rw'⟩ : ∃ u0 u1 u2, us = [u0, u1, u2] ∧ RelV v0 u0 ∧ RelV v u1 ∧ RelV w u2 := by
    cases r1 with
    | cons p q =>
      cases q with
      | cons p' q' =>
        cases q' with
        | cons p'' q'' =>
          cases q''
          exact ⟨_, _, _, rfl, p, p', p''⟩
  refine wpAny_newObj_type ?_ (by show 3 ≤ sizeLine; decide)
  have I2 : Inv X pins σ H1 { s1 with heap := s1.heap.push { cls := .type "tuple", data := .seq [u0, u1, u2].toArray } } := I1.kept (t' := s1.toks) fun b o e => Heap.get?_push_of_some _ e
  rw [hw]
  refine wpAny_bind (wpAny_pure ?_)
  show wpAny (model X.prog X.w) X.A (do rule "assign.swapped-stores"; let items ← unpackItems (.ref s1.heap.objs.size) 3 none; assignInOrder [fun v => bindName X.env z v, fun v => bindName X.env y v, fun v => bindName X.env x v] items.reverse; pure Flow.next) _ _ _
  refine wpAny_bind (wpAny_rule (wpAny_bind (unpackItems_tuple (items := #[u0, u1, u2]) (I.ok.hd hc) (IsTup.new s1.heap _) fun h' hx' => ?_)))
  have I3 := I2.kept (h' := h') (t' := s1.toks) fun b o e => hx' b o (Nat.ne_of_lt (Heap.lt_size e)) e
  show wpAny _ _ (assignInOrder [fun v => bindName X.env z v, fun v => bindName X.env y v, fun v => bindName X.env x v] [u2, u1, u0] >>= fun _ => pure Flow.next) _ _ _
  refine wpAny_bind (assignInOrder_cons (wpAny_bindName (store_ok I3 hN hk (.inl hz) rw' (fun s2 I4 => ?_) (.inr hz))))
  refine assignInOrder_cons (wpAny_bindName (store_ok I4 hN hj (.inl hy) rv (fun s3 I5 => ?_) (.inr hy)))
  refine assignInOrder_cons (wpAny_bindName (store_ok I5 hN hi (.inl hx) r0 (fun s4 I6 => assignInOrder_nil (wpAny_pure ?_)) (.inr hx)))
  have e : ((σ.set k (some w)).set j (some v)).set i (some v0) = ((σ.set i (some v0)).set j (some v)).set k (some w) := by
    rw [List.set_comm _ _ hij.symm, List.set_comm _ _ hik.symm, List.set_comm _ _ hjk.symm]
  rw [e] at I6
  exact ⟨_, H1, I6, q1⟩
def sPar3 (i j k : Nat) (g : AM) : SM := fun ρ P => (g ρ P).bind fun (l, P1) => match l with
  | [a, b, c] => some (.nx, ((ρ.put i a).put j b).put k c, P1)
  | _ => none
theorem psd_par3 {i j k : Nat} {x y z : Str} {a b c : Expr} {g : AM} {px py pz pt : Pos} {kt k2 pt2} (hc : X.calm = true) (hN : X.N.Nodup) (hi : X.N[i]? = some x) (hj : X.N[j]? = some y) (hk : X.N[k]? = some z) (hij : i ≠ j) (hik : i ≠ k) (hjk : j ≠ k)
    (hx : X.env.scope.names.lookup x = some .local) (hy : X.env.scope.names.lookup y = some .local) (hz : X.env.scope.names.lookup z = some .local) (ha : PAd X [a, b, c] g)
    (hw : swappedStores [.Tuple [.Name x px, .Name y py, .Name z pz] kt pt] (.Tuple [a, b, c] k2 pt2) X.env = pure (some [x, y, z]))
    (hs : swapsWithSole [.Tuple [.Name x px, .Name y py, .Name z pz] kt pt] (.Tuple [a, b, c] k2 pt2) pos.line X.env = pure false := by rfl) :
    PSd X (.Assign [.Tuple [.Name x px, .Name y py, .Name z pz] kt pt] (.Tuple [a, b, c] k2 pt2) pos) (sPar3 i j k g) := by
  obtain ⟨t, p, q1⟩ := ha
  refine ⟨_, ps_par3 hc hN hi hj hk hij hik hjk hx hy hz p hw hs, fun bs ρ σ os vs P H D r R e q => ?_⟩
  simp only [sPar3, Option.bind_eq_some_iff] at e
  obtain ⟨⟨l, P1⟩, e1, e2⟩ := e
  refine q1 bs ρ σ os vs P H _ l P1 R e1 fun ws H1 hl R1 => ?_
  simp only at e2
  split at e2
  · cases e2
    match ws, hl with
    | [u, v, w], _ =>
      obtain ⟨F, ad, R1⟩ := R1
      obtain ⟨ra, R2⟩ := R1.args rfl
      cases ra with
      | cons r1 ra =>
        cases ra with
        | cons r2 ra =>
          cases ra with
          | cons r3 _ => exact ⟨u, v, w, rfl, q _ H1 ⟨F, ad, ((R2.store r1 i).store r2 j).store r3 k⟩⟩
  · cases e2
end
end Pd

set_option Elab.async false
set_option linter.all false
set_option maxRecDepth 100000
set_option maxHeartbeats 1000000
/-! the facts of an own error's class, from the written part -/
namespace PySem
namespace AtX
open PySem.W PySem.Calls PyProof.Rows PySem.HandSPX
/-- an error of the class at S is what «except S» names -/
theorem exm_self {K : PySem.W.Frag} {S : Addr} (h1 : PySem.W.subIn K (.ref S) (.type "BaseException") = some true) (h2 : PySem.W.isClsIn K S = true) (h3 : PySem.W.typeIn K (.ref S) = some (.type "type")) (h4 : PySem.W.subIn K (.ref S) (.ref S) = some true) :
    PySem.W.exmOne K (.ref S) (.ref S) = some true := by
  have e1 : (PySem.W.subIn K (.ref S) (.type "BaseException") == some true) = true := by rw [h1] <;> rfl
  have e2 : ((PySem.W.clsIn K S).isSome && PySem.W.typeIn K (.ref S) == some (.type "type")) = true := by
    have h2' : (PySem.W.clsIn K S).isSome = true := h2
    rw [h2', h3] <;> rfl
  show (if (PySem.W.subIn K (.ref S) (.type "BaseException") == some true) = true then (if ((PySem.W.clsIn K S).isSome && PySem.W.typeIn K (.ref S) == some (.type "type")) = true then PySem.W.subIn K (.ref S) (.ref S) else none) else none) = some true
  rw [if_pos e1, if_pos e2]
  exact h4
theorem mk_txt {prog : Program} {K : Frag} {h : Heap} {mg : Str → Option Value} {x : Str} {C D fI cda cc : Addr} (X : K.In h) (G : h.Ns mainGlobals mg)
    {nm q qual file : Str} {N : Addr} {bs bm : List Value} {sn : List Str} {sub : List Value} {ab : Bool} {col : Option Bool} {dd od an cld cdd : Option Addr} {m0 m1 m2 m3 m5 : Option Value} {oc doc pm ct cl ccl : Value} {osl csl ccs : Array (Option Value)} {vs : Array Value} {tf : Tok}
    {p1 p2 q1 q2 q3 q4 q5 q6 q7 q8 q9 q10 : Pos}
    (aC : nsIn K mainGlobals x = some (some (.ref C)))
    (xL : K.lookup C = some (excClassObj nm q C N bs bm true sn sub ab col dd m0 m1 m2 m3 m5 "ValueError.__new__")) (rf : refsVE bm = true)
    (lF : K.lookup fI = some ⟨oc, od, .func (ksFn "__init__" qual (iA p1 p2) (iB q1 q2 q3 q4 q5 q6 q7 q8 q9 q10) iS .none .none doc pm an (.ref cda) ct cc), osl⟩) (cF : codeIn K (.ref cda) qual = true)
    (lc : K.lookup cc = some ⟨cl, cld, .cell (some (.ref D)), csl⟩)
    (ld : K.lookup cda = some ⟨ccl, cdd, .fields vs, ccs⟩) (vs2 : vs[2]? = some (.str file tf)) (fl : ((prog.main.file : Str) == file) = true) (ln : (q3.endLine == q5.line) = true)
    (sI : ks_superIn K C D "__init__" = some (some (.builtin "ValueError.__init__"))) (dD : isClsIn K D = true) (sD : mroIn K C (.ref D) = some true) (sV : subIn K (.ref C) (.type "ValueError") = some true)
    (sa : findIn K (.ref C) "__setattr__" = some (some (.builtin "object.__setattr__"))) (ga : findIn K (.ref C) "__getattribute__" = some (some (.builtin "BaseException.__getattribute__"))) (gg : findIn K (.ref C) "__getattr__" = some none) (nb : findIn K (.ref C) "at" = some none)
    (iC : findIn K (.ref C) "__init__" = some (some (.ref fI))) (tF : typeIn K (.ref fI) = some (.type "function"))
    (kC : keepIn K (.ref C) = true) (eC : subIn K (.ref C) (.type "BaseException") = some true) (tC : typeIn K (.ref C) = some (.type "type")) (hC : hasDictIn K C = true) (icC : isClsIn K C = true) (sC : subIn K (.ref C) (.ref C) = some true)
    (ny : nsIn K cStatics "thirdparty.any" = some none) (gS : nsIn K mainGlobals "super" = some none) (tp : (prog.main.scope.names.lookup ("super" : Str)).isSome = false) : AtTxt prog K mg x C D fI := by
  have hcl : clsIn K C = some { name := nm, bases := bs, mro := .ref C :: bm, ns := N, qualname := q, hasDict := true, slotNames := sn, subclasses := sub, abstract := ab, collection := col, hasDel := false } := by unfold clsIn; rw [xL] <;> rfl
  have hal : alongIn K "__init__" (((Value.ref C :: bm).dropWhile (· != .ref D)).drop 1) = some (some (.builtin "ValueError.__init__")) := by
    unfold ks_superIn at sI
    rw [hcl] at sI
    exact sI
  exact { gC := mg_of X G aC, gS := mg_none_of X G gS, cls := ⟨nm, q, N, bs, bm, sn, sub, ab, col, dd, m0, m1, m2, m3, m5, xL, rf, hal⟩, clsD := Option.isSome_iff_exists.mp dD, subD := sD, subV := sV, sa := sa, ga := ga, gg := gg, noN := nb, iC := iC, tC := tF, kC := kC, exC := eC, tyC := tC, hdC := hC, te := exm_self eC icC tC sC, any := ny, top := tp, fn := ⟨oc, od, doc, pm, an, cda, ct, osl, qual, cc, p1, p2, q1, q2, q3, q4, q5, q6, q7, q8, q9, q10, lF, cF, ⟨cl, cld, csl, lc⟩, ln, ccl, cdd, ccs, vs, file, tf, ld, vs2, fl⟩ }
end AtX
end PySem

set_option Elab.async false
set_option linter.all false
/-! simp lemmas that run the mirrors of what may raise -/
namespace Pd
open PySem PySem.Spec PyProof.Rows L2
section
variable {ρ : EV} {P : Store}
@[simp] theorem sUp_ap (m : SM) : sUp m ρ P = (m ρ P).map fun (fl, ρ1, P1) => (.inl fl, ρ1, P1) := id rfl
@[simp] theorem sSeqX_ap (m n : SMx) : sSeqX m n ρ P = (m ρ P).bind fun r => match r with
  | (.inl .nx, ρ1, P1) => n ρ1 P1
  | r => some r := id rfl
@[simp] theorem sIfX_ap (c : BM) (m n : SMx) : sIfX c m n ρ P = (c ρ P).bind fun (b, P1) => if b = true then m ρ P1 else n ρ P1 := id rfl
@[simp] theorem sForX_ap (f : IM) (g : GM) (body : SMx) : sForX f g body ρ P = (f ρ P).bind fun (items, _, P1) => forGoX g body items ρ P1 := id rfl
@[simp] theorem sRaise_ap (x : Str) (f : XM) : sRaise x f ρ P = (f ρ P).bind fun (a, P1) => match a with
  | .fz d => some (.inr (x, d), ρ, P1)
  | _ => none := id rfl
@[simp] theorem xUp_ap (f : XM) : xUp f ρ P = (f ρ P).map fun (s, P1) => (.inl s, P1) := id rfl
@[simp] theorem aUp_ap (f : AM) : aUp f ρ P = (f ρ P).map fun (s, P1) => (.inl s, P1) := id rfl
@[simp] theorem aConsX_ap (f : XMx) (g : AMx) : aConsX f g ρ P = (f ρ P).bind fun (a, P1) => match a with
  | .inr z => some (.inr z, P1)
  | .inl a => (g ρ P1).map fun (l, P2) => match l with
    | .inr z => (.inr z, P2)
    | .inl l => (.inl (a :: l), P2) := id rfl
@[simp] theorem mTupX_ap (g : AMx) : mTupX g ρ P = (g ρ P).bind fun (l, P1) => match l with
  | .inr z => some (.inr z, P1)
  | .inl l => (fzs l).bind fun ds => if ds.length ≤ sizeLine then some (.inl (.fz (.tuple ds)), P1) else none := id rfl
@[simp] theorem mCallX_ap (m : FMx) (fs : AMx) : mCallX m fs ρ P = (fs ρ P).bind fun (l, P1) => match l with
  | .inr z => some (.inr z, P1)
  | .inl l => m l P1 := id rfl
@[simp] theorem sRetX_ap (f : XMx) : sRetX f ρ P = (f ρ P).map fun (r, P1) => match r with
  | .inl s => (.inl (.rt s), ρ, P1)
  | .inr z => (.inr z, ρ, P1) := id rfl
@[simp] theorem sExX_ap (f : XMx) : sExX f ρ P = (f ρ P).map fun (r, P1) => match r with
  | .inl _ => (.inl .nx, ρ, P1)
  | .inr z => (.inr z, ρ, P1) := id rfl
@[simp] theorem sSetX_ap (i : Nat) (f : XMx) : sSetX i f ρ P = (f ρ P).map fun (r, P1) => match r with
  | .inl s => (.inl .nx, ρ.put i s, P1)
  | .inr z => (.inr z, ρ, P1) := id rfl
@[simp] theorem xNo_ap (f : XMx) : xNo f ρ P = (f ρ P).bind fun (r, P1) => match r with
  | .inl s => some (s, P1)
  | .inr _ => none := id rfl
@[simp] theorem sTry_ap (g : PyData → PyData) (i : Nat) (y : Str) (m : SMx) : sTry g i y m ρ P = (m ρ P).bind fun (r, ρ1, P1) => match r with
  | .inl fl => some (fl, ρ1, P1)
  | .inr (y', d) => if y' = y ∧ i < ρ1.sl.length then some (.rt (.fz (g d)), ρ1, P1) else none := id rfl
@[simp] theorem sPar3_ap (i j k : Nat) (g : AM) : sPar3 i j k g ρ P = (g ρ P).bind fun (l, P1) => match l with
  | [a, b, c] => some (.nx, ((ρ.put i a).put j b).put k c, P1)
  | _ => none := id rfl
theorem mFunX_ap (ex : Nat → SV → Store → Option (SV × Store)) (nN : Nat) (body : SMx) (args : List SV) : mFunX ex nN body args P = (body { b := P.length, sl := startE nN args } P).bind fun (fl, _, P2) => match fl with
  | .inl (.rt r) => (ex P.length r P2).map fun (s, P3) => (.inl s, P3)
  | .inl .nx => (ex P.length (.fz .none) P2).map fun (s, P3) => (.inl s, P3)
  | .inr (x, d) => (ex P.length (.fz d) P2).bind fun (s, P3) => match s with
    | .fz d' => some (.inr (x, d'), P3)
    | _ => none
  | _ => none := id rfl
end
end Pd

set_option Elab.async false
set_option linter.all false
set_option maxRecDepth 100000
set_option maxHeartbeats 1000000
/-! The layer Pd, part 1: lists of lists that may change. -/
namespace Pd
open PySem PySem.Spec PyProof.Rows L2
def lcGoP (g : GM) (tt : BM) (te : XM) (ρ : EV) (n : Nat) : List PyData → Store → Option Store
  | [], S => some S
  | d :: r, S => (g (.fz d) ρ S).bind fun (ρ1, S1) => (tt ρ1 S1).bind fun (b, S2) =>
    if b = true then (te ρ1 S2).bind fun (s, S3) => match S3[n]? with
      | some (.lst acc) => if acc.length < sizeLine then lcGoP g tt te ρ n r (S3.set n (.lst (acc ++ [s]))) else none
      | _ => none
    else lcGoP g tt te ρ n r S2
/-- a comprehension into a list that may change, of cells or data -/
def mLCP (own : List Nat) (f : IM) (g : GM) (tt : BM) (te : XM) : XM := fun ρ P => (f ρ P).bind fun (items, _, P1) =>
  (lcGoP g tt te { ρ.wipe own with b := P1.length } P1.length items (P1 ++ [.lst []])).map fun S => (.ptr P1.length, S)
/-- the turns of a comprehension -/
theorem lc_goP {K : PySem.W.Frag} {J : It} {items : List PyData} {src : SV} {w : V} (ok : ItOk K J items src w) {g : GM} {ts : List Nat} {tt : BM} {te : XM} {own : List Nat} {bs : List Nat} {ρ : EV} {σ : L2.St} {os : List SV} {vs : List V} {P : Store} {H1 : Hp} {S : Store} {Df : Hp → Prop} {D : Addr}
    (hts : ∀ i ∈ ts, i ∈ own)
    (R : Rel K bs ρ σ (src :: os) (w :: vs) P H1) (hD : H1 D = none) (e : lcGoP g tt te { ρ.wipe own with b := P.length } P.length items (P ++ [.lst []]) = some S)
    (q : ∀ H, Rel K (P.length :: bs) { ρ with b := P.length } σ (.ptr P.length :: src :: os) (.ref D :: w :: vs) S H → Df H) :
    ∃ W : Nat → Nat → Hp → Prop, (∃ m, W 0 m (upd H1 D (.lst []))) ∧ ∀ i m H, W i m H →
      (J.stop i H ∧ Df H) ∨ (J.go i H ∧ ∃ Nx : Hp → Prop, (∀ H', Nx H' → ∃ m', m' < m ∧ W (i + 1) m' H') ∧ ∀ x H', J.yld i H x H' → tMG K ts g x (L2.wipe σ own) H' fun σ2 H2 => L2.wipe σ2 own = L2.wipe σ own ∧ tMT K tt σ2 H2 fun b H3 =>
        if b = true then tM K te σ2 H3 fun y H4 => ∃ acc, H4 D = some (.lst acc) ∧ acc.length < sizeLine ∧ Nx (upd H4 D (.lst (acc ++ [y]))) else Nx H3) := by
  -- what the def's slots hold, on the stack
  have hls : ∃ (ls : List SV) (ws : List V), ws.length = ls.length ∧ (∀ F ad, SVA K F ad ws ls → SlR K F ad ρ.sl σ) ∧ Rel K bs ρ σ (src :: (ls ++ os)) (w :: (ws ++ vs)) P H1 := by
    obtain ⟨F, ad, R⟩ := R
    obtain ⟨ls, ws, a, b⟩ := R.slots.list
    obtain ⟨r, R1⟩ := R.pop
    exact ⟨ls, ws, a.length, b, F, ad, R.tops_of (.cons r (a.append R1.tops))⟩
  obtain ⟨ls, ws, hlen, hb, Rl⟩ := hls
  have start : ∃ ρx σx, ρx.b = P.length ∧ Rel K (P.length :: bs) ρx σx (.ptr P.length :: src :: (ls ++ os)) (.ref D :: w :: (ws ++ vs)) (P ++ [.lst []]) (upd H1 D (.lst [])) := by
    obtain ⟨F, ad, R⟩ := Rl
    exact ⟨_, _, rfl, F, ad ++ [D], R.enter.cell hD fun ad' pr => ⟨R.free hD, [], upd_same, .nil⟩⟩
  refine ⟨fun i m H => m = items.length - i ∧ i ≤ items.length ∧ ∃ T ρx σx, ρx.b = P.length ∧ Rel K (P.length :: bs) ρx σx (.ptr P.length :: src :: (ls ++ os)) (.ref D :: w :: (ws ++ vs)) T H ∧ lcGoP g tt te { ρ.wipe own with b := P.length } P.length (items.drop i) T = some S, ⟨_, rfl, Nat.zero_le _, _, start.choose, start.choose_spec.choose, start.choose_spec.choose_spec.1, start.choose_spec.choose_spec.2, by simpa using e⟩, ?_⟩
  rintro i m H ⟨rfl, hle, T, ρx, σx, hbx, RT, eT⟩
  have under : Rel K (P.length :: bs) ρx σx (src :: .ptr P.length :: (ls ++ os)) (w :: .ref D :: (ws ++ vs)) T H := by
    obtain ⟨F, ad, R⟩ := RT
    obtain ⟨r1, R1⟩ := R.pop
    obtain ⟨r2, R2⟩ := R1.pop
    exact ⟨F, ad, (R2.push r1).push r2⟩
  obtain ⟨ok1, ok2⟩ := ok _ _ _ _ _ _ _ i under
  by_cases hlt : i < items.length
  · obtain ⟨go, yl⟩ := ok1 hlt
    refine .inr ⟨go, fun H => ∃ T ρx σx, ρx.b = P.length ∧ Rel K (P.length :: bs) ρx σx (.ptr P.length :: src :: (ls ++ os)) (.ref D :: w :: (ws ++ vs)) T H ∧ lcGoP g tt te { ρ.wipe own with b := P.length } P.length (items.drop (i + 1)) T = some S, fun H' ⟨T', ρ', σ', b', R', e'⟩ => ⟨items.length - (i + 1), by omega, rfl, hlt, T', ρ', σ', b', R', e'⟩, fun x H' hy => ?_⟩
    obtain ⟨d, hd, R3⟩ := yl x H' hy
    rw [List.drop_eq_getElem_cons hlt] at eT
    have ed : items[i] = d := by rw [List.getElem?_eq_getElem hlt] at hd; exact Option.some.inj hd
    rw [ed] at eT
    simp only [lcGoP, Option.bind_eq_some_iff] at eT
    obtain ⟨⟨ρ4, P4⟩, e4, ⟨b, P5⟩, e5, e6⟩ := eT
    have R4 : Rel K (P.length :: bs) { ρ.wipe own with b := P.length } (L2.wipe σ own) (.fz d :: .ptr P.length :: src :: (ls ++ os)) (x :: .ref D :: w :: (ws ++ vs)) T H' := by
      obtain ⟨F, ad, R⟩ := R3
      obtain ⟨r0, R1⟩ := R.pop
      obtain ⟨r1, R2⟩ := R1.pop
      obtain ⟨r2, R3⟩ := R2.pop
      have sp := (SVA.split hlen R3.tops).1
      refine ⟨F, ad, { R with slots := (hb F ad sp).wipe own, tops := .cons r0 (.cons r2 (.cons r1 R3.tops)), bb := fun c hc => ?_ }⟩
      have := R.bb c hc
      show c ≤ P.length
      rw [hbx] at this; exact this
    refine ⟨_, _, _, _, _, _, ρ4, P4, R4, e4, fun σ4 H4 R5 k4 => ⟨wipe_keeps hts k4, _, _, _, _, _, b, P5, R5, e5, fun H5 R6 => ?_⟩⟩
    simp only at e6
    have hb4 : ∀ {bs : List Nat} {os : List SV} {vs : List V} {P' : Store} {H : Hp}, Rel K (P.length :: bs) ρ4 σ4 os vs P' H → P.length ≤ ρ4.b := fun ⟨F, ad, R⟩ => R.bb _ List.mem_cons_self
    cases b with
    | true =>
      rw [if_pos rfl] at e6 ⊢
      simp only [Option.bind_eq_some_iff] at e6
      obtain ⟨⟨s, P6⟩, e7, e8⟩ := e6
      refine ⟨_, _, _, _, _, s, P6, R6, e7, fun y H6 R7 => ?_⟩
      simp only at e8
      split at e8
      · rename_i acc hacc
        split at e8
        · rename_i hz
          obtain ⟨F, ad, R7⟩ := R7
          obtain ⟨ry, R8⟩ := R7.pop
          obtain ⟨rD, R9⟩ := R8.pop
          obtain ⟨a, ha, ea, hc⟩ := R8.at rD hacc
          cases ea
          obtain ⟨hF, xs, hx, tx⟩ := hc
          refine ⟨xs, hx, by rw [tx.length]; exact hz, P6.set P.length (.lst (acc ++ [s])), { ρ4 with b := P.length }, σ4, rfl, ⟨F, ad, ?_⟩, e8⟩
          have hbb : ∀ c ∈ P.length :: bs, c ≤ P.length := fun c hc => by
            rcases List.mem_cons.mp hc with rfl | hc
            · exact Nat.le_refl _
            · obtain ⟨F0, ad0, R0⟩ := R
              exact R0.bas.le c hc
          have R8' : RelX K (P.length :: bs) { ρ4 with b := P.length } σ4 (.ptr P.length :: src :: (ls ++ os)) (.ref D :: w :: (ws ++ vs)) P6 _ F ad := { R8 with slots := R8.slots, bb := hbb }
          have R10 := R8'.put (c := .lst (acc ++ [s])) hacc ha hF ⟨hF, _, upd_same, tx.append (.cons ry .nil)⟩ (fun j hj => .inr (Nat.le_refl _))
          refine { R10 with slots := R10.slots, bb := fun c hc => ?_ }
          rcases List.mem_cons.mp hc with rfl | hc
          · exact Nat.le_refl _
          · obtain ⟨F0, ad0, R0⟩ := R
            exact R0.bas.le c hc
        · cases e8
      · cases e8
    | false =>
      rw [if_neg Bool.false_ne_true] at e6 ⊢
      refine ⟨P5, { ρ4 with b := P.length }, σ4, rfl, ?_, e6⟩
      obtain ⟨F, ad, R6⟩ := R6
      refine ⟨F, ad, { R6 with slots := R6.slots, bb := fun c hc => ?_ }⟩
      rcases List.mem_cons.mp hc with rfl | hc
      · exact Nat.le_refl _
      · obtain ⟨F0, ad0, R0⟩ := R
        exact R0.bas.le c hc
  · have : i = items.length := by omega
    subst this
    rw [List.drop_length] at eT
    simp only [lcGoP, Option.some.injEq] at eT
    subst eT
    refine .inl ⟨ok2 (Nat.le_refl _), q H ?_⟩
    obtain ⟨F, ad, RX⟩ := RT
    obtain ⟨r1, R1⟩ := RX.pop
    obtain ⟨r2, R2⟩ := R1.pop
    obtain ⟨sp, so⟩ := SVA.split hlen R2.tops
    refine ⟨F, ad, { RX with slots := hb F ad sp, tops := .cons r1 (.cons r2 so), bb := fun c hc => ?_ }⟩
    have := RX.bb c hc
    show c ≤ P.length
    rw [hbx] at this; exact this


section
variable {X : Cx} {pos : Pos}
theorem lcP_d {f : IM} {g : GM} {tt : BM} {te : XM} {ts own : List Nat} {wi : TI} (hts : ∀ i ∈ ts, i ∈ own)
    (h0 : ∀ (bs : List Nat) (ρ : EV) (σ : L2.St) (os : List SV) (vs : List V) (P : Store) (H : Hp) (R : It → Hp → Prop) (items : List PyData) (src : SV) (P' : Store), Rel X.K bs ρ σ os vs P H → f ρ P = some (items, src, P') →
      (∀ J v H' sr, Rel X.K bs ρ σ (sr :: os) (v :: vs) P' H' → ItOk X.K J items sr v → R J H') → wi σ H R)
    (bs : List Nat) (ρ : EV) (σ : L2.St) (os : List SV) (vs : List V) (P : Store) (H : Hp) (Q : VK) (r : SV) (P' : Store) (R : Rel X.K bs ρ σ os vs P H) (e : mLCP own f g tt te ρ P = some (r, P'))
    (q : ∀ v H', Rel X.K bs ρ σ (r :: os) (v :: vs) P' H' → Q v H') : tLc wi (tMG X.K ts g) (tMT X.K tt) (tM X.K te) own σ H Q := by
  simp only [mLCP, Option.bind_eq_some_iff, Option.map_eq_some_iff, Prod.mk.injEq] at e
  obtain ⟨⟨items, src, P1⟩, e0, S, e1, rfl, rfl⟩ := e
  refine h0 bs ρ σ os vs P H _ items src P1 R e0 fun J w H1 src R1 ok => fun D hD => ?_
  refine lc_goP (Df := fun H => Q (.ref D) H) ok hts R1 hD e1 fun H2 R2 => ?_
  obtain ⟨F, ad, R2⟩ := R2
  obtain ⟨F1, ad1, R1⟩ := R1
  obtain ⟨rD, R3⟩ := R2.pop
  obtain ⟨_, R4⟩ := R3.pop
  refine q _ _ ⟨F, ad, { R4.push rD with slots := R4.slots, bas := ⟨fun c hc => R4.bas.le c (List.mem_cons_of_mem _ hc), fun c hc => R4.bas.low c (List.mem_cons_of_mem _ hc)⟩, bb := fun c hc => R1.bb c hc }⟩
theorem ped_lcP {elt tg iter : Expr} {ifs : List Expr} {scope : Scope} {own : List (Str × Nat)} {f : IM} {g : GM} {tt : BM} {te : XM} {ts : List Nat} (hc : X.calm = true) (hN : X.N.Nodup) (hi : PId X tg iter f) (ok : BlkOk X.N X.env.scope scope own)
    (hg : ∀ (s : Shared) (H : Hp) (C : Addr) (cl : List (Str × Addr)) (fp : List Addr), PGd (X.blk s H scope (compEnvC scope cl C X.env) fp) tg ts g) (ht : ∀ (s : Shared) (H : Hp) (C : Addr) (cl : List (Str × Addr)) (fp : List Addr), PTsd (X.blk s H scope (compEnvC scope cl C X.env) fp) ifs tt)
    (he : ∀ (s : Shared) (H : Hp) (C : Addr) (cl : List (Str × Addr)) (fp : List Addr), PEd (X.blk s H scope (compEnvC scope cl C X.env) fp) elt te) (hts : ∀ i ∈ ts, i ∈ own.map (·.2) := by decide) (hs : ∀ x, foldedSetIterable iter X.env x = pure x := by intro _; rfl) :
    PEd X (.ListComp elt [⟨tg, iter, ifs, 0⟩] scope pos) (mLCP (own.map (·.2)) f g tt te) := by
  obtain ⟨wi, p0, h0⟩ := hi
  exact ⟨_, pe_lc (g := tMG X.K ts g) (tt := tMT X.K tt) (te := tM X.K te) hc hN p0 ok (fun s H C cl fp => (hg s H C cl fp).canon) (fun s H C cl fp => (ht s H C cl fp).canon) (fun s H C cl fp => (he s H C cl fp).canon) hs, lcP_d hts h0⟩
theorem psd_setLcP {i : Nat} {y : Str} {py : Pos} {elt tg iter : Expr} {ifs : List Expr} {scope : Scope} {own : List (Str × Nat)} {spos : Pos} {f : IM} {g : GM} {tt : BM} {te : XM} {ts : List Nat} (hc : X.calm = true) (hN : X.N.Nodup) (hy : X.N[i]? = some y) (hyl : X.env.scope.names.lookup y = some .local)
    (hsw : swapsWith (.ListComp elt [⟨tg, iter, ifs, 0⟩] scope pos) (some (.Name y py)) spos.line X.env = pure true) (hi : PId X tg iter f) (ok : BlkOk X.N X.env.scope scope own)
    (hg : ∀ (s : Shared) (H : Hp) (C : Addr) (cl : List (Str × Addr)) (fp : List Addr), PGd (X.blk s H scope (compEnvC scope cl C X.env) fp) tg ts g) (ht : ∀ (s : Shared) (H : Hp) (C : Addr) (cl : List (Str × Addr)) (fp : List Addr), PTsd (X.blk s H scope (compEnvC scope cl C X.env) fp) ifs tt)
    (he : ∀ (s : Shared) (H : Hp) (C : Addr) (cl : List (Str × Addr)) (fp : List Addr), PEd (X.blk s H scope (compEnvC scope cl C X.env) fp) elt te) (hts : ∀ i ∈ ts, i ∈ own.map (·.2) := by decide) (hs : ∀ x, foldedSetIterable iter X.env x = pure x := by intro _; rfl) :
    PSd X (.Assign [.Name y py] (.ListComp elt [⟨tg, iter, ifs, 0⟩] scope pos) spos) (sSet i (mLCP (own.map (·.2)) f g tt te)) := by
  obtain ⟨wi, p0, h0⟩ := hi
  refine ⟨_, ps_setLc (g := tMG X.K ts g) (tt := tMT X.K tt) (te := tM X.K te) hc hN hy hyl hsw p0 ok (fun s H C cl fp => (hg s H C cl fp).canon) (fun s H C cl fp => (ht s H C cl fp).canon) (fun s H C cl fp => (he s H C cl fp).canon) hs, fun bs ρ σ os vs P H D r R e q => ?_⟩
  simp only [sSet, Option.map_eq_some_iff] at e
  obtain ⟨⟨s, P1⟩, e1, rfl⟩ := e
  exact lcP_d hts h0 bs ρ σ os vs P H _ s P1 R e1 fun v H1 R1 => q _ H1 (R1.store i)
/-- xs[i], xs a list that may change: what stands there, a cell or data -/
def mSubP (f1 f2 : XM) : XM := fun ρ P => (f1 ρ P).bind fun (a, P1) => (f2 ρ P1).bind fun (b, P2) => match a, b with
  | .ptr k, .fz (.int i) => match P2[k]? with
    | some (.lst l) => (L2.atI l i).map fun s => (s, P2)
    | _ => none
  | _, _ => none
theorem SVA.atI {K : PySem.W.Frag} {F : Hp} {ad : List Addr} {vs : List V} {ds : List SV} {i : Int} {d : SV} (h : SVA K F ad vs ds) (e : L2.atI ds i = some d) : ∃ v, L2.atI vs i = some v ∧ SVR K F ad v d := by
  unfold L2.atI at e ⊢
  rw [h.length]
  cases hn : ixN ds.length i with
  | none => rw [hn] at e; cases e
  | some j =>
    rw [hn] at e
    exact h.get e
theorem ped_subP {a b : Expr} {f1 f2 : XM} (ha : PEd X a f1) (hb : PEd X b f2) (hs : PlainIx b) : PEd X (.Subscript a b pos) (mSubP f1 f2) := by
  obtain ⟨t1, p1, h1⟩ := ha
  obtain ⟨t2, p2, h2⟩ := hb
  refine ⟨_, pe_ix ix_list p1 p2 hs, fun bs ρ σ os vs P H Q r P' R e q => ?_⟩
  simp only [mSubP, Option.bind_eq_some_iff] at e
  obtain ⟨⟨s1, P1⟩, e1, ⟨s2, P2⟩, e2, e3⟩ := e
  refine h1 bs ρ σ os vs P H _ s1 P1 R e1 fun x H1 R1 => ?_
  refine h2 bs ρ σ _ _ P1 H1 _ s2 P2 R1 e2 fun y H2 R2 => ?_
  simp only at e3
  split at e3
  · rename_i k i
    split at e3
    · rename_i l hk
      simp only [Option.map_eq_some_iff, Prod.mk.injEq] at e3
      obtain ⟨s, e4, rfl, rfl⟩ := e3
      obtain ⟨F, ad, R2⟩ := R2
      obtain ⟨r2, R3⟩ := R2.pop
      obtain ⟨r1, R4⟩ := R3.pop
      obtain ⟨a, ha, rfl, hc⟩ := R4.at r1 hk
      obtain ⟨hF, xs, hx, tx⟩ := hc
      cases r2
      obtain ⟨v, hv, rv⟩ := tx.atI e4
      exact ⟨a, xs, i, v, rfl, rfl, .inl (.inl hx), hv, q _ _ ⟨F, ad, R4.push rv⟩⟩
    · cases e3
  · cases e3
/-- xs * n, a new list that may change -/
def mRepC (f1 f2 : XM) : XM := fun ρ P => (f1 ρ P).bind fun (a, P1) => (f2 ρ P1).bind fun (b, P2) => match a, b with
  | .ptr k, .fz (.int n) => match P2[k]? with
    | some (.lst l) => if -(2 ^ 63) ≤ n ∧ n < 2 ^ 63 ∧ l.length * n.toNat ≤ sizeLine ∧ (fzs l).isSome = true then some (.ptr P2.length, P2 ++ [.lst (List.replicate n.toNat l).flatten]) else none
    | _ => none
  | _, _ => none
theorem SVA.rep {K : PySem.W.Frag} {F : Hp} {ad : List Addr} {vs : List V} {ds : List SV} (h : SVA K F ad vs ds) : ∀ n : Nat, SVA K F ad (List.replicate n vs).flatten (List.replicate n ds).flatten
  | 0 => .nil
  | n + 1 => by
    simp only [List.replicate_succ, List.flatten_cons]
    exact h.append (h.rep n)
theorem ped_repC {a b : Expr} {f1 f2 : XM} (ha : PEd X a f1) (hb : PEd X b f2) : PEd X (.BinOp a .Mult b pos) (mRepC f1 f2) := by
  obtain ⟨t1, p1, h1⟩ := ha
  obtain ⟨t2, p2, h2⟩ := hb
  refine ⟨_, pe_op op_rep p1 p2, fun bs ρ σ os vs P H Q r P' R e q => ?_⟩
  simp only [mRepC, Option.bind_eq_some_iff] at e
  obtain ⟨⟨s1, P1⟩, e1, ⟨s2, P2⟩, e2, e3⟩ := e
  refine h1 bs ρ σ os vs P H _ s1 P1 R e1 fun x H1 R1 => ?_
  refine h2 bs ρ σ _ _ P1 H1 _ s2 P2 R1 e2 fun y H2 R2 => ?_
  simp only at e3
  split at e3
  · rename_i k n
    split at e3
    · rename_i l hk
      split at e3
      · rename_i hz
        cases e3
        obtain ⟨F, ad, R2⟩ := R2
        obtain ⟨r2, R3⟩ := R2.pop
        obtain ⟨r1, R4⟩ := R3.pop
        obtain ⟨a, ha, rfl, hc⟩ := R4.at r1 hk
        obtain ⟨hF, xs, hx, tx⟩ := hc
        cases r2
        refine ⟨a, n, xs, rfl, rfl, hx, hz.1, hz.2.1, by rw [tx.length]; exact hz.2.2.1, fun p hp => ?_⟩
        refine q _ _ ⟨F, _, R4.cell hp fun ad' pr => ⟨R4.free hp, _, upd_same, (tx.mono (.refl _) pr).rep _⟩⟩
      · cases e3
    · cases e3
  · cases e3
/-- xs + ys, a new list that may change -/
def mAddC (f1 f2 : XM) : XM := fun ρ P => (f1 ρ P).bind fun (a, P1) => (f2 ρ P1).bind fun (b, P2) => (flat P2 a).bind fun d => (flat P2 b).bind fun e => match d, e with
  | .list xs, .list ys => if xs.length + ys.length ≤ sizeLine then some (.ptr P2.length, P2 ++ [.lst ((xs ++ ys).map .fz)]) else none
  | _, _ => none
theorem ped_addC {a b : Expr} {f1 f2 : XM} (ha : PEd X a f1) (hb : PEd X b f2) : PEd X (.BinOp a .Add b pos) (mAddC f1 f2) := by
  obtain ⟨t1, p1, h1⟩ := ha
  obtain ⟨t2, p2, h2⟩ := hb
  refine ⟨_, pe_op op_catR p1 p2, fun bs ρ σ os vs P H Q r P' R e q => ?_⟩
  simp only [mAddC, Option.bind_eq_some_iff] at e
  obtain ⟨⟨s1, P1⟩, e1, ⟨s2, P2⟩, e2, d1, e3, d2, e4, e5⟩ := e
  refine h1 bs ρ σ os vs P H _ s1 P1 R e1 fun x H1 R1 => ?_
  refine h2 bs ρ σ _ _ P1 H1 _ s2 P2 R1 e2 fun y H2 R2 => ?_
  simp only at e3 e4 e5
  obtain ⟨F, ad, R2⟩ := R2
  obtain ⟨r2, R3⟩ := R2.pop
  obtain ⟨r1, R4⟩ := R3.pop
  have v1 := R4.view r1 e3
  have v2 := R4.view r2 e4
  split at e5
  · rename_i xs ys
    split at e5
    · rename_i hl
      cases e5
      obtain ⟨a, us, rfl, ha, ta⟩ := v1.lists R4.sub
      obtain ⟨b, ws, rfl, hb, tb⟩ := v2.lists R4.sub
      refine ⟨a, b, us, ws, rfl, rfl, ha, hb, by rw [ta.length, tb.length]; exact hl, fun p n => ?_⟩
      refine q _ _ ⟨F, _, R4.cell (c := .lst _) n fun ad' pr => ⟨R4.free n, us ++ ws, upd_same, ?_⟩⟩
      rw [List.map_append]
      exact ta.sva.append tb.sva
    · cases e5
  · cases e5
section
variable {ρ : EV} {P : Store}
@[simp] theorem mAddC_ap (f1 f2 : XM) : mAddC f1 f2 ρ P = (f1 ρ P).bind fun (a, P1) => (f2 ρ P1).bind fun (b, P2) => (flat P2 a).bind fun d => (flat P2 b).bind fun e => match d, e with
  | .list xs, .list ys => if xs.length + ys.length ≤ sizeLine then some (.ptr P2.length, P2 ++ [.lst ((xs ++ ys).map .fz)]) else none
  | _, _ => none := id rfl
@[simp] theorem mSubP_ap (f1 f2 : XM) : mSubP f1 f2 ρ P = (f1 ρ P).bind fun (a, P1) => (f2 ρ P1).bind fun (b, P2) => match a, b with
  | .ptr k, .fz (.int i) => match P2[k]? with
    | some (.lst l) => (L2.atI l i).map fun s => (s, P2)
    | _ => none
  | _, _ => none := id rfl
end
end
end Pd

set_option Elab.async false
set_option linter.all false
set_option maxRecDepth 100000
/-! The layer Pd, part 2: steps of mirrors, one by one (no dsimp: the kernel then never runs a mirror). -/
namespace Pd
open PySem PySem.Spec PyProof.Rows L2
section
variable {ρ ρ1 : EV} {P P1 : Store} {s : SV} {fl : Fl}
theorem st_fun {ex : Nat → SV → Store → Option (SV × Store)} {nN : Nat} {body : SM} {args : List SV} (h : body { b := P.length, sl := startE nN args } P = some (.rt s, ρ1, P1)) : mFun ex nN body args P = ex P.length s P1 := by rw [mFun_ap, h]; rfl
theorem st_funN {ex : Nat → SV → Store → Option (SV × Store)} {nN : Nat} {body : SM} {args : List SV} (h : body { b := P.length, sl := startE nN args } P = some (.nx, ρ1, P1)) : mFun ex nN body args P = ex P.length (.fz .none) P1 := by rw [mFun_ap, h]; rfl
theorem st_seq {m n : SM} (h : m ρ P = some (.nx, ρ1, P1)) : sSeq m n ρ P = n ρ1 P1 := by rw [sSeq_ap, h]; rfl
theorem st_seqR {m n : SM} (h : m ρ P = some (.rt s, ρ1, P1)) : sSeq m n ρ P = some (.rt s, ρ1, P1) := by rw [sSeq_ap, h]; rfl
theorem st_set {i : Nat} {f : XM} (h : f ρ P = some (s, P1)) : sSet i f ρ P = some (.nx, ρ.put i s, P1) := by rw [sSet_ap, h]; rfl
theorem st_ex {f : XM} (h : f ρ P = some (s, P1)) : sEx f ρ P = some (.nx, ρ, P1) := by rw [sEx_ap, h]; rfl
theorem st_ret {f : XM} (h : f ρ P = some (s, P1)) : sRet f ρ P = some (.rt s, ρ, P1) := by rw [sRet_ap, h]; rfl
theorem st_for {f : IM} {g : GM} {body : SM} {items : List PyData} {src : SV} (h : f ρ P = some (items, src, P1)) : sFor f g body ρ P = forGo g body items ρ P1 := by rw [sFor_ap, h]; rfl
theorem st_ifT {c : BM} {m n : SM} (h : c ρ P = some (true, P1)) : sIf c m n ρ P = m ρ P1 := by rw [sIf_ap, h]; rfl
theorem st_ifF {c : BM} {m n : SM} (h : c ρ P = some (false, P1)) : sIf c m n ρ P = n ρ P1 := by rw [sIf_ap, h]; rfl
theorem st_callF {F : FM} {g : AM} {l : List SV} (h : g ρ P = some (l, P1)) : mCallF F g ρ P = F l P1 := by rw [mCallF_ap, h]; rfl
theorem st_call {F : List PyData → Option PyData} {g : AM} {l : List SV} {ds : List PyData} {z : PyData} (h : g ρ P = some (l, P1)) (hd : flats P1 l = some ds) (hz : F ds = some z) : mCall F g ρ P = some (.fz z, P1) := by
  simp only [mCall_ap, h, Option.bind_some, hd, hz, Option.map_some]
theorem st_forC {g : GM} {body : SM} {d : PyData} {r : List PyData} {ρ2 : EV} {P2 : Store} (hg : g (.fz d) ρ P = some (ρ1, P1)) (hb : body ρ1 P1 = some (.nx, ρ2, P2)) : forGo g body (d :: r) ρ P = forGo g body r ρ2 P2 := by
  simp only [forGo, hg, Option.bind_some, hb]
theorem st_forCt {g : GM} {body : SM} {d : PyData} {r : List PyData} {ρ2 : EV} {P2 : Store} (hg : g (.fz d) ρ P = some (ρ1, P1)) (hb : body ρ1 P1 = some (.ct, ρ2, P2)) : forGo g body (d :: r) ρ P = forGo g body r ρ2 P2 := by
  simp only [forGo, hg, Option.bind_some, hb]
theorem st_forR {g : GM} {body : SM} {d : PyData} {r : List PyData} {ρ2 : EV} {P2 : Store} (hg : g (.fz d) ρ P = some (ρ1, P1)) (hb : body ρ1 P1 = some (.rt s, ρ2, P2)) : forGo g body (d :: r) ρ P = some (.rt s, ρ2, P2) := by
  simp only [forGo, hg, Option.bind_some, hb]
theorem st_forB {g : GM} {body : SM} {d : PyData} {r : List PyData} {ρ2 : EV} {P2 : Store} (hg : g (.fz d) ρ P = some (ρ1, P1)) (hb : body ρ1 P1 = some (.bk, ρ2, P2)) : forGo g body (d :: r) ρ P = some (.nx, ρ2, P2) := by
  simp only [forGo, hg, Option.bind_some, hb]
theorem st_forN {g : GM} {body : SM} : forGo g body [] ρ P = some (.nx, ρ, P) := by simp only [forGo]
theorem st_callX {m : FMx} {g : AMx} {l : List SV} (h : g ρ P = some (.inl l, P1)) : mCallX m g ρ P = m l P1 := by rw [mCallX_ap, h]; rfl
theorem st_no {f : XMx} (h : f ρ P = some (.inl s, P1)) : xNo f ρ P = some (s, P1) := by rw [xNo_ap, h]; rfl
theorem st_aUp {f : AM} {l : List SV} (h : f ρ P = some (l, P1)) : aUp f ρ P = some (.inl l, P1) := by rw [aUp_ap, h]; rfl
theorem st_and {c d : BM} (h : c ρ P = some (true, P1)) : mAndB c d ρ P = d ρ P1 := by rw [mAndB_ap, h]; rfl
theorem st_andF {c d : BM} (h : c ρ P = some (false, P1)) : mAndB c d ρ P = some (false, P1) := by rw [mAndB_ap, h]; rfl
theorem st_or {c d : BM} (h : c ρ P = some (false, P1)) : mOrB c d ρ P = d ρ P1 := by rw [mOrB_ap, h]; rfl
theorem st_orT {c d : BM} (h : c ρ P = some (true, P1)) : mOrB c d ρ P = some (true, P1) := by rw [mOrB_ap, h]; rfl
theorem st_not {c : BM} {b : Bool} (h : c ρ P = some (b, P1)) : mNotB c ρ P = some (!b, P1) := by rw [mNotB_ap, h]; rfl
theorem st_tb {f : XM} {b : Bool} (h : f ρ P = some (.fz (.bool b), P1)) : mTB f ρ P = some (b, P1) := by rw [mTB_ap, h]; rfl
theorem st_bin {g : PyData → PyData → Option PyData} {f1 f2 : XM} {P2 : Store} {d e z : PyData} (h1 : f1 ρ P = some (.fz d, P1)) (h2 : f2 ρ P1 = some (.fz e, P2)) (h : g d e = some z) : mBin g f1 f2 ρ P = some (.fz z, P2) := by
  rw [mBin_ap, h1, Option.bind_some]
  simp only [h2, Option.bind_some, flat_fz, h, Option.map_some]
theorem st_sub {f1 f2 : XM} {P2 : Store} {a r : SV} {e : PyData} (h1 : f1 ρ P = some (a, P1)) (h2 : f2 ρ P1 = some (.fz e, P2)) (h : subOf P2 a e = some r) : mSub f1 f2 ρ P = some (r, P2) := by
  rw [mSub_ap, h1, Option.bind_some]
  simp only [h2, Option.bind_some, flat_fz, h, Option.map_some]
/-- a while loop's turns -/
theorem st_whF {c : BM} {body : SM} {n : Nat} (h : c ρ P = some (false, P1)) : whGo c body (n + 1) ρ P = some (.nx, ρ, P1) := by
  simp only [whGo, h, Option.bind_some, Bool.false_eq_true, if_false]
theorem st_whT {c : BM} {body : SM} {n : Nat} {ρ2 : EV} {P2 : Store} (h : c ρ P = some (true, P1)) (hb : body ρ P1 = some (.nx, ρ2, P2)) : whGo c body (n + 1) ρ P = whGo c body n ρ2 P2 := by
  simp only [whGo, h, Option.bind_some, if_true, hb]
/-! goals W, step by step -/
theorem W_seq {m n : SM} {Q : Fl × EV × Store → Prop} (h : W (m ρ P) fun r => r.1 = .nx ∧ W (n r.2.1 r.2.2) Q) : W (sSeq m n ρ P) Q := by
  obtain ⟨⟨fl, ρ1, P1⟩, e, h1, h2⟩ := h
  simp only at h1; subst h1
  rw [st_seq e]; exact h2
theorem W_seqR {m n : SM} {Q : Fl × EV × Store → Prop} (h : W (m ρ P) fun r => (r.1 = .nx ∧ W (n r.2.1 r.2.2) Q) ∨ (∃ s, r.1 = .rt s ∧ Q r)) : W (sSeq m n ρ P) Q := by
  obtain ⟨⟨fl, ρ1, P1⟩, e, ⟨h1, h2⟩ | ⟨s, h1, h2⟩⟩ := h
  · simp only at h1; subst h1
    rw [st_seq e]; exact h2
  · simp only at h1; subst h1
    exact W.eq (st_seqR e) h2
theorem W_seqE {m n : SM} {Q : Fl × EV × Store → Prop} (h : m ρ P = some (.nx, ρ1, P1)) (q : W (n ρ1 P1) Q) : W (sSeq m n ρ P) Q := by rw [st_seq h]; exact q
theorem W_set {i : Nat} {f : XM} {Q : Fl × EV × Store → Prop} (h : W (f ρ P) fun r => Q (.nx, ρ.put i r.1, r.2)) : W (sSet i f ρ P) Q := by
  obtain ⟨⟨s, P1⟩, e, h⟩ := h
  exact W.eq (st_set e) h
theorem W_ret {f : XM} {Q : Fl × EV × Store → Prop} (h : W (f ρ P) fun r => Q (.rt r.1, ρ, r.2)) : W (sRet f ρ P) Q := by
  obtain ⟨⟨s, P1⟩, e, h⟩ := h
  exact W.eq (st_ret e) h
theorem W_callF {F : FM} {g : AM} {l : List SV} {Q : SV × Store → Prop} (h : g ρ P = some (l, P1)) (q : W (F l P1) Q) : W (mCallF F g ρ P) Q := by rw [st_callF h]; exact q
theorem W_ifT {c : BM} {m n : SM} {Q : Fl × EV × Store → Prop} (h : c ρ P = some (true, P1)) (q : W (m ρ P1) Q) : W (sIf c m n ρ P) Q := by rw [st_ifT h]; exact q
theorem W_ifF {c : BM} {m n : SM} {Q : Fl × EV × Store → Prop} (h : c ρ P = some (false, P1)) (q : W (n ρ P1) Q) : W (sIf c m n ρ P) Q := by rw [st_ifF h]; exact q
end
end Pd

set_option Elab.async false
set_option linter.all false
set_option maxRecDepth 100000
set_option maxHeartbeats 1000000
/-! The layer Pd, part 3: <, >, <=, >= of alike data (rows, lists). -/
namespace Pd
open PySem PySem.Spec PyProof.Rows L2
open PySem.W (alike dataLt)
/-- alike data that may be put in order: (which, of the two) -/
def rOrdD (K : PySem.W.Frag) (g : PyData → PyData → Bool) : R2 := fun x y H Q => ∃ d e, Dp K H x d ∧ Dp K H y e ∧ SeqAt.shaped d = true ∧ SeqAt.shaped e = true ∧ alike d e = true ∧ d ≠ .none ∧ Q (.bl (g d e)) H
theorem shaped_deep {d : PyData} (h : SeqAt.shaped d = true) : d.depth ≤ 64 := by
  simp only [SeqAt.shaped, Bool.and_eq_true, decide_eq_true_eq] at h
  omega
section
variable {X : Cx}
theorem op_ltD (hu : X.A.units + 65 < cLine) : OpR X (compareOp .Lt) (rOrdD X.K fun d e => dataLt d e) := by
  intro pins s σ H x y v u Q I rx ry h
  obtain ⟨d, e, hd, he, sd, se, al, ne, q⟩ := h
  obtain ⟨as, r1⟩ := Dp.reads I d x v hd rx
  obtain ⟨bs, r2⟩ := Dp.reads I e y u he ry
  have := shaped_deep sd
  exact PySem.W.lt_data r1 r2 al ne (by omega) ⟨.bl _, H, I, rfl, q⟩
theorem op_gtD (hu : X.A.units + 65 < cLine) : OpR X (compareOp .Gt) (rOrdD X.K fun d e => dataLt e d) := by
  intro pins s σ H x y v u Q I rx ry h
  obtain ⟨d, e, hd, he, sd, se, al, ne, q⟩ := h
  obtain ⟨as, r1⟩ := Dp.reads I d x v hd rx
  obtain ⟨bs, r2⟩ := Dp.reads I e y u he ry
  have := shaped_deep sd
  exact PySem.W.gt_data r1 r2 al ne (by omega) ⟨.bl _, H, I, rfl, q⟩
theorem op_leD (hu : X.A.units + 65 < cLine) : OpR X (compareOp .LtE) (rOrdD X.K fun d e => !dataLt e d) := by
  intro pins s σ H x y v u Q I rx ry h
  obtain ⟨d, e, hd, he, sd, se, al, ne, q⟩ := h
  obtain ⟨as, r1⟩ := Dp.reads I d x v hd rx
  obtain ⟨bs, r2⟩ := Dp.reads I e y u he ry
  have := shaped_deep sd
  exact PySem.W.le_data r1 r2 al ne (by omega) ⟨.bl _, H, I, rfl, q⟩
theorem op_geD (hu : X.A.units + 65 < cLine) : OpR X (compareOp .GtE) (rOrdD X.K fun d e => !dataLt d e) := by
  intro pins s σ H x y v u Q I rx ry h
  obtain ⟨d, e, hd, he, sd, se, al, ne, q⟩ := h
  obtain ⟨as, r1⟩ := Dp.reads I d x v hd rx
  obtain ⟨bs, r2⟩ := Dp.reads I e y u he ry
  have := shaped_deep sd
  exact PySem.W.ge_data r1 r2 al ne (by omega) ⟨.bl _, H, I, rfl, q⟩
def dOrd (g : PyData → PyData → Bool) : PyData → PyData → Option PyData := fun d e => if SeqAt.shaped d = true ∧ SeqAt.shaped e = true ∧ alike d e = true ∧ isNon d = false then some (.bool (g d e)) else none
theorem opd_ord {f : Value → Value → Sem Value} {g : PyData → PyData → Bool} (h : OpR X f (rOrdD X.K g)) : OpD X f (dOrd g) := by
  refine ⟨_, h, fun F H x y d e z Q s vx vy eq q => ?_⟩
  unfold dOrd at eq
  split at eq
  · rename_i h
    cases eq
    refine ⟨d, e, vx.dp s (shaped_lay h.1), vy.dp s (shaped_lay h.2.1), h.1, h.2.1, h.2.2.1, fun n => ?_, q _ _ _ .refl (.bl _)⟩
    have := h.2.2.2
    rw [n] at this; cases this
  · cases eq
def dLtG : PyData → PyData → Option PyData := fun d e => (dLt d e).or (dOrd (fun d e => dataLt d e) d e)
theorem opd_ltG (hu : X.A.units + 65 < cLine) : OpD X (compareOp .Lt) dLtG := opd_lt.or (opd_ord (op_ltD hu))
def dGtG : PyData → PyData → Option PyData := fun d e => (dGt d e).or (dOrd (fun d e => dataLt e d) d e)
theorem opd_gtG (hu : X.A.units + 65 < cLine) : OpD X (compareOp .Gt) dGtG := opd_gt.or (opd_ord (op_gtD hu))
def dLeG : PyData → PyData → Option PyData := fun d e => (dLe d e).or (dOrd (fun d e => !dataLt e d) d e)
theorem opd_leG (hu : X.A.units + 65 < cLine) : OpD X (compareOp .LtE) dLeG := opd_le.or (opd_ord (op_leD hu))
def dGeG : PyData → PyData → Option PyData := fun d e => (dGe d e).or (dOrd (fun d e => !dataLt d e) d e)
theorem opd_geG (hu : X.A.units + 65 < cLine) : OpD X (compareOp .GtE) dGeG := opd_ge.or (opd_ord (op_geD hu))
end
@[simp] theorem dLtG_int (i j : Int) : dLtG (.int i) (.int j) = some (.bool (decide (i < j))) := by simp [dLtG]
@[simp] theorem dGtG_int (i j : Int) : dGtG (.int i) (.int j) = some (.bool (decide (j < i))) := by simp [dGtG]
@[simp] theorem dLeG_int (i j : Int) : dLeG (.int i) (.int j) = some (.bool (decide (i ≤ j))) := by simp [dLeG]
@[simp] theorem dGeG_int (i j : Int) : dGeG (.int i) (.int j) = some (.bool (decide (j ≤ i))) := by simp [dGeG]
@[simp] theorem dLtG_str (x y : Str) : dLtG (.str x) (.str y) = some (.bool (decide (x.cps.toList < y.cps.toList))) := by simp [dLtG]
@[simp] theorem dLeG_str (x y : Str) : dLeG (.str x) (.str y) = some (.bool (!decide (y.cps.toList < x.cps.toList))) := by simp [dLeG]
end Pd

set_option Elab.async false
set_option linter.all false
set_option maxRecDepth 100000
set_option maxHeartbeats 4000000
namespace NS
open PySem PySem.Spec PyProof.Rows L2 Pd
/-! ### the text: routesrest_k22_edits_done_and_undone -/
def topS (i : Nat) : Stmt := PySem.Challenge.pw_routesrest_k22_edits_done_and_undone.main.body.getD i (.Pass ⟨0, 0, 0, 0⟩)
abbrev s__law_applied : Stmt := topS 17
abbrev n__law_applied : List Str := ["lines", "edit", "found", "at", "place", "gone", "new"]
theorem sc__law_applied : FnScope n__law_applied ["lines", "edit"] (defScope s__law_applied) := ⟨rfl, rfl, rfl, by decide +kernel, rfl, by decide +kernel, by decide +kernel⟩
abbrev s__law_copy : Stmt := topS 14
abbrev n__law_copy : List Str := ["thing", "found", "key", "part"]
theorem sc__law_copy : FnScope n__law_copy ["thing"] (defScope s__law_copy) := ⟨rfl, rfl, rfl, by decide +kernel, rfl, by decide +kernel, by decide +kernel⟩
abbrev s__law_draw : Stmt := topS 12
abbrev n__law_draw : List Str := ["draws", "limit", "cell", "value"]
theorem sc__law_draw : FnScope n__law_draw ["draws", "limit"] (defScope s__law_draw) := ⟨rfl, rfl, rfl, by decide +kernel, rfl, by decide +kernel, by decide +kernel⟩
abbrev s__law_draws : Stmt := topS 11
abbrev n__law_draws : List Str := ["script"]
theorem sc__law_draws : FnScope n__law_draws ["script"] (defScope s__law_draws) := ⟨rfl, rfl, rfl, by decide +kernel, rfl, by decide +kernel, by decide +kernel⟩
abbrev s__law_edit : Stmt := topS 16
abbrev n__law_edit : List Str := ["draws", "lines", "found", "at", "gone", "new", "k"]
theorem sc__law_edit : FnScope n__law_edit ["draws", "lines"] (defScope s__law_edit) := ⟨rfl, rfl, rfl, by decide +kernel, rfl, by decide +kernel, by decide +kernel⟩
abbrev s__law_edit_of : Stmt := topS 21
abbrev n__law_edit_of : List Str := ["lines", "other", "pairs", "found", "i", "j", "a", "b"]
theorem sc__law_edit_of : FnScope n__law_edit_of ["lines", "other", "pairs"] (defScope s__law_edit_of) := ⟨rfl, rfl, rfl, by decide +kernel, rfl, by decide +kernel, by decide +kernel⟩
abbrev s__law_lists : Stmt := topS 19
abbrev n__law_lists : List Str := ["many", "found", "k", "one"]
theorem sc__law_lists : FnScope n__law_lists ["many"] (defScope s__law_lists) := ⟨rfl, rfl, rfl, by decide +kernel, rfl, by decide +kernel, by decide +kernel⟩
abbrev s__law_kept : Stmt := topS 20
abbrev n__law_kept : List Str := ["lines", "other", "best", "one", "two", "pairs", "k"]
theorem sc__law_kept : FnScope n__law_kept ["lines", "other"] (defScope s__law_kept) := ⟨rfl, rfl, rfl, by decide +kernel, rfl, by decide +kernel, by decide +kernel⟩
abbrev s__law_lines_of : Stmt := topS 15
abbrev n__law_lines_of : List Str := ["draws", "many", "k"]
theorem sc__law_lines_of : FnScope n__law_lines_of ["draws", "many"] (defScope s__law_lines_of) := ⟨rfl, rfl, rfl, by decide +kernel, rfl, by decide +kernel, by decide +kernel⟩
abbrev s__law_same : Stmt := topS 13
abbrev n__law_same : List Str := ["x", "due", "right", "at", "key"]
theorem sc__law_same : FnScope n__law_same ["x", "due"] (defScope s__law_same) := ⟨rfl, rfl, rfl, by decide +kernel, rfl, by decide +kernel, by decide +kernel⟩
abbrev s_is_number : Stmt := topS 4
abbrev n_is_number : List Str := ["thing"]
theorem sc_is_number : FnScope n_is_number ["thing"] (defScope s_is_number) := ⟨rfl, rfl, rfl, by decide +kernel, rfl, by decide +kernel, by decide +kernel⟩
abbrev s_check_edit : Stmt := topS 5
abbrev n_check_edit : List Str := ["edit", "many", "k", "stroke", "line"]
theorem sc_check_edit : FnScope n_check_edit ["edit", "many"] (defScope s_check_edit) := ⟨rfl, rfl, rfl, by decide +kernel, rfl, by decide +kernel, by decide +kernel⟩
abbrev s__law_told : Stmt := topS 18
abbrev n__law_told : List Str := ["edit", "many", "e"]
theorem sc__law_told : FnScope n__law_told ["edit", "many"] (defScope s__law_told) := ⟨rfl, rfl, rfl, by decide +kernel, rfl, by decide +kernel, by decide +kernel⟩
abbrev s_applied : Stmt := topS 6
abbrev n_applied : List Str := ["lines", "edit", "found", "at", "place", "gone", "new"]
theorem sc_applied : FnScope n_applied ["lines", "edit"] (defScope s_applied) := ⟨rfl, rfl, rfl, by decide +kernel, rfl, by decide +kernel, by decide +kernel⟩
abbrev s_kept_pairs : Stmt := topS 8
abbrev n_kept_pairs : List Str := ["lines", "other", "many", "more", "long", "i", "j", "found", "k", "_"]
theorem sc_kept_pairs : FnScope n_kept_pairs ["lines", "other"] (defScope s_kept_pairs) := ⟨rfl, rfl, rfl, by decide +kernel, rfl, by decide +kernel, by decide +kernel⟩
abbrev s_edit_of : Stmt := topS 9
abbrev n_edit_of : List Str := ["lines", "other", "found", "i", "j", "a", "b"]
theorem sc_edit_of : FnScope n_edit_of ["lines", "other"] (defScope s_edit_of) := ⟨rfl, rfl, rfl, by decide +kernel, rfl, by decide +kernel, by decide +kernel⟩
abbrev s_undone : Stmt := topS 7
abbrev n_undone : List Str := ["lines", "edit", "found", "moved", "place", "gone", "new"]
theorem sc_undone : FnScope n_undone ["lines", "edit"] (defScope s_undone) := ⟨rfl, rfl, rfl, by decide +kernel, rfl, by decide +kernel, by decide +kernel⟩
abbrev s_law : Stmt := topS 22
abbrev n_law : List Str := ["script", "draws", "turn", "lines", "edit", "due", "given", "back", "at", "odd", "last", "close", "one", "other", "pairs"]
theorem sc_law : FnScope n_law ["script"] (defScope s_law) := ⟨rfl, rfl, rfl, by decide +kernel, rfl, by decide +kernel, by decide +kernel⟩
structure Txt (P : Program) (K : PySem.W.Frag) (mg : Str → Option Value) where
  a__law_applied : Addr
  d__law_applied : FuncData
  F__law_applied : L2.Fun K "_law_applied" "_law_applied" s__law_applied a__law_applied d__law_applied
  m__law_applied : mg "_law_applied" = some (.ref a__law_applied)
  b__law_applied : Binds K d__law_applied ["lines", "edit"] []
  a__law_copy : Addr
  d__law_copy : FuncData
  F__law_copy : L2.Fun K "_law_copy" "_law_copy" s__law_copy a__law_copy d__law_copy
  m__law_copy : mg "_law_copy" = some (.ref a__law_copy)
  b__law_copy : Binds K d__law_copy ["thing"] []
  a__law_draw : Addr
  d__law_draw : FuncData
  F__law_draw : L2.Fun K "_law_draw" "_law_draw" s__law_draw a__law_draw d__law_draw
  m__law_draw : mg "_law_draw" = some (.ref a__law_draw)
  b__law_draw : Binds K d__law_draw ["draws", "limit"] []
  a__law_draws : Addr
  d__law_draws : FuncData
  F__law_draws : L2.Fun K "_law_draws" "_law_draws" s__law_draws a__law_draws d__law_draws
  m__law_draws : mg "_law_draws" = some (.ref a__law_draws)
  b__law_draws : Binds K d__law_draws ["script"] []
  a__law_edit : Addr
  d__law_edit : FuncData
  F__law_edit : L2.Fun K "_law_edit" "_law_edit" s__law_edit a__law_edit d__law_edit
  m__law_edit : mg "_law_edit" = some (.ref a__law_edit)
  b__law_edit : Binds K d__law_edit ["draws", "lines"] []
  a__law_edit_of : Addr
  d__law_edit_of : FuncData
  F__law_edit_of : L2.Fun K "_law_edit_of" "_law_edit_of" s__law_edit_of a__law_edit_of d__law_edit_of
  m__law_edit_of : mg "_law_edit_of" = some (.ref a__law_edit_of)
  b__law_edit_of : Binds K d__law_edit_of ["lines", "other", "pairs"] []
  a__law_lists : Addr
  d__law_lists : FuncData
  F__law_lists : L2.Fun K "_law_lists" "_law_lists" s__law_lists a__law_lists d__law_lists
  m__law_lists : mg "_law_lists" = some (.ref a__law_lists)
  b__law_lists : Binds K d__law_lists ["many"] []
  a__law_kept : Addr
  d__law_kept : FuncData
  F__law_kept : L2.Fun K "_law_kept" "_law_kept" s__law_kept a__law_kept d__law_kept
  m__law_kept : mg "_law_kept" = some (.ref a__law_kept)
  b__law_kept : Binds K d__law_kept ["lines", "other"] []
  a__law_lines_of : Addr
  d__law_lines_of : FuncData
  F__law_lines_of : L2.Fun K "_law_lines_of" "_law_lines_of" s__law_lines_of a__law_lines_of d__law_lines_of
  m__law_lines_of : mg "_law_lines_of" = some (.ref a__law_lines_of)
  b__law_lines_of : Binds K d__law_lines_of ["draws", "many"] []
  a__law_same : Addr
  d__law_same : FuncData
  F__law_same : L2.Fun K "_law_same" "_law_same" s__law_same a__law_same d__law_same
  m__law_same : mg "_law_same" = some (.ref a__law_same)
  b__law_same : Binds K d__law_same ["x", "due"] []
  a_is_number : Addr
  d_is_number : FuncData
  F_is_number : L2.Fun K "is_number" "is_number" s_is_number a_is_number d_is_number
  m_is_number : mg "is_number" = some (.ref a_is_number)
  b_is_number : Binds K d_is_number ["thing"] []
  a_check_edit : Addr
  d_check_edit : FuncData
  F_check_edit : L2.Fun K "check_edit" "check_edit" s_check_edit a_check_edit d_check_edit
  m_check_edit : mg "check_edit" = some (.ref a_check_edit)
  b_check_edit : Binds K d_check_edit ["edit", "many"] []
  a__law_told : Addr
  d__law_told : FuncData
  F__law_told : L2.Fun K "_law_told" "_law_told" s__law_told a__law_told d__law_told
  m__law_told : mg "_law_told" = some (.ref a__law_told)
  b__law_told : Binds K d__law_told ["edit", "many"] []
  a_applied : Addr
  d_applied : FuncData
  F_applied : L2.Fun K "applied" "applied" s_applied a_applied d_applied
  m_applied : mg "applied" = some (.ref a_applied)
  b_applied : Binds K d_applied ["lines", "edit"] []
  a_kept_pairs : Addr
  d_kept_pairs : FuncData
  F_kept_pairs : L2.Fun K "kept_pairs" "kept_pairs" s_kept_pairs a_kept_pairs d_kept_pairs
  m_kept_pairs : mg "kept_pairs" = some (.ref a_kept_pairs)
  b_kept_pairs : Binds K d_kept_pairs ["lines", "other"] []
  a_edit_of : Addr
  d_edit_of : FuncData
  F_edit_of : L2.Fun K "edit_of" "edit_of" s_edit_of a_edit_of d_edit_of
  m_edit_of : mg "edit_of" = some (.ref a_edit_of)
  b_edit_of : Binds K d_edit_of ["lines", "other"] []
  a_undone : Addr
  d_undone : FuncData
  F_undone : L2.Fun K "undone" "undone" s_undone a_undone d_undone
  m_undone : mg "undone" = some (.ref a_undone)
  b_undone : Binds K d_undone ["lines", "edit"] []
  a_law : Addr
  d_law : FuncData
  F_law : L2.Fun K "law" "law" s_law a_law d_law
  m_law : mg "law" = some (.ref a_law)
  b_law : Binds K d_law ["script"] []
  C_Wrong : Addr
  D_Wrong : Addr
  i_Wrong : Addr
  x_Wrong : PySem.AtX.AtTxt P K mg "Wrong" C_Wrong D_Wrong i_Wrong
  z_all : mg "all" = none
  z_any : mg "any" = none
  z_bool : mg "bool" = none
  z_dict : mg "dict" = none
  z_int : mg "int" = none
  z_isinstance : mg "isinstance" = none
  z_len : mg "len" = none
  z_list : mg "list" = none
  z_max : mg "max" = none
  z_min : mg "min" = none
  z_range : mg "range" = none
  z_str : mg "str" = none
  z_tuple : mg "tuple" = none
section
variable {P : Program} {w : World} {K : PySem.W.Frag} {mg : Str → Option Value} {base : Heap}
def b__law_applied : SM := (sSeq (sSet 2 (mLstC aNil))
  (sSeq (sFor (iRange (aCons (mBin dAdd (mCall gLenA (aCons (mVar 0) aNil)) (mC (.int 1))) aNil)) (gNm 3) (sSeq (sFor (iAny (mVar 1)) (gTu 3 (gsCons (gNm 4) (gsCons (gNm 5) (gsCons (gNm 6) gsNil)))) (sSet 2 (mAddC (mVar 2) (mIfE (mTB (mBin dEq (mVar 4) (mVar 3))) (mCall gListA (aCons (mVar 6) aNil)) (mLst aNil)))))
  (sIf (mAndB (mTB (mBin dLt (mVar 3) (mCall gLenA (aCons (mVar 0) aNil)))) (mNotB (mTB (mCall gAny (aCons (mLC [4, 5, 6] (iAny (mVar 1)) (gTu 3 (gsCons (gNm 4) (gsCons (gNm 5) (gsCons (gNm 6) gsNil)))) bYes (mChain dLe dLt (mVar 4) (mVar 3) (mBin dAdd (mVar 4) (mVar 5)))) aNil))))) (sEx (mApp (mVar 2) (mSub (mVar 0) (mVar 3)))) sNx)))
  (sRet (mVar 2))))
def m__law_applied : FM := mFun exitZ 7 b__law_applied
theorem ok__law_applied (T : Txt P K mg)  : FnOk P w K mg base CX0 1 T.a__law_applied T.d__law_applied ["lines", "edit"] (spM K m__law_applied 2) := by
  refine fn_m (k := 0) (N := n__law_applied) exitZ_ok T.F__law_applied sc__law_applied rfl rfl (by decide) fun cdv A outer s H E hr => ?_
  have hu := hu65 hr
  unfold b__law_applied
  exact (pssd_cons (psd_set (i := 2) sc__law_applied.nd rfl (by first | exact .inl rfl | exact .inr rfl) (ped_lstC pad_nil))
    (pssd_cons (psd_for PassesOwn.never rfl (pid_range1 (by rfl) T.z_range (ped_bin opd_add (ped_callB calld_lenA (by rfl) T.z_len (by decide +kernel) (pad_cons (ped_var 0) pad_nil)) ped_int)) (pgd_name (i := 3) sc__law_applied.nd rfl (by first | exact .inl rfl | exact .inr rfl)) (pssd_cons (psd_for PassesOwn.never rfl (pid_any (ped_var 1)) (pgd_tup rfl (pgsd_cons (pgd_name (i := 4) sc__law_applied.nd rfl (by first | exact .inl rfl | exact .inr rfl)) (pgsd_cons (pgd_name (i := 5) sc__law_applied.nd rfl (by first | exact .inl rfl | exact .inr rfl)) (pgsd_cons (pgd_name (i := 6) sc__law_applied.nd rfl (by first | exact .inl rfl | exact .inr rfl)) pgsd_nil)))) (pssd_one (psd_set (i := 2) sc__law_applied.nd rfl (by first | exact .inl rfl | exact .inr rfl) (ped_addC (ped_var 2) (ped_if (ptd_cmp (opd_eq hu) (ped_var 4) (ped_var 3) (nomark _)) (ped_callT (calld_listA rfl) (by rfl) T.z_list (by decide +kernel) (pad_cons (ped_var 6) pad_nil)) (ped_lst pad_nil))))))
    (pssd_one (psd_if (PWd.pt (pwd_and (ptd_cmp opd_lt (ped_var 3) (ped_callB calld_lenA (by rfl) T.z_len (by decide +kernel) (pad_cons (ped_var 0) pad_nil)) (nomark _)) (pwd_and1 (ptd_not (ptd_val (ped_callB (calld_any rfl) (by rfl) T.z_any (by decide +kernel) (pad_cons (ped_lc rfl sc__law_applied.nd (own := [("place", 4), ("gone", 5), ("new", 6)]) (pid_any (ped_var 1)) (blkOk_by (own := [("place", 4), ("gone", 5), ("new", 6)]) (N := n__law_applied) (sc := defScope s__law_applied) (by decide +kernel)) (fun _ _ _ _ _ => (pgd_tup rfl (pgsd_cons (pgd_name (i := 4) sc__law_applied.nd rfl (by first | exact .inl rfl | exact .inr rfl)) (pgsd_cons (pgd_name (i := 5) sc__law_applied.nd rfl (by first | exact .inl rfl | exact .inr rfl)) (pgsd_cons (pgd_name (i := 6) sc__law_applied.nd rfl (by first | exact .inl rfl | exact .inr rfl)) pgsd_nil))))) (fun _ _ _ _ _ => ptsd_nil) (fun _ _ _ _ _ => (ped_chain opd_le opd_lt (ped_var 4) (ped_var 3) (ped_bin opd_add (ped_var 4) (ped_var 5))))) pad_nil))))))) (pssd_one (psd_expr (ped_append (ped_var 2) (ped_sub hu (ped_var 0) (ped_var 3) (fun _ _ => rfl))))) pssd_nil))))
    (pssd_one (psd_ret (ped_var 2)))))
def b__law_copy (self : FM) : SM := (sSeq (sIf (mTB (mIs (inst .list) (mVar 0))) (sRet (mLC [3] (iAny (mVar 0)) (gNm 3) bYes (mCallF self (aCons (mVar 3) aNil)))) sNx)
  (sSeq (sIf (mTB (mIs (inst .tuple) (mVar 0))) (sRet (mCall gTuple (aCons (mLC [3] (iAny (mVar 0)) (gNm 3) bYes (mCallF self (aCons (mVar 3) aNil))) aNil))) sNx)
  (sSeq (sIf (mTB (mIs (inst .dict) (mVar 0))) (sSeq (sSet 1 mDNewK)
  (sSeq (sFor (iAny (mVar 0)) (gNm 2) (sDPut (mVar 1) (mVar 2) (mCallF self (aCons (mSub (mVar 0) (mVar 2)) aNil))))
  (sRet (mVar 1)))) sNx)
  (sRet (mVar 0)))))
def m__law_copy : Nat → FM
  | 0 => fun _ _ => none
  | n + 1 => mFun exitZ 4 (b__law_copy (m__law_copy n))
theorem ok__law_copy (T : Txt P K mg)  : ∀ n : Nat, FnOk P w K mg base CX0 (0 + n) T.a__law_copy T.d__law_copy ["thing"] (spM K (m__law_copy n) 1)
  | 0 => fn_none fun _ _ => rfl
  | n + 1 => by
    have ih := ok__law_copy T  n
    refine fn_m (k := 0 + n) (N := n__law_copy) exitZ_ok T.F__law_copy sc__law_copy rfl rfl (by decide) fun cdv A outer s H E hr => ?_
    have hu := hu65 hr
    unfold b__law_copy
    exact (pssd_cons (psd_if (ptd_val (ped_isi (T := .list) (by rfl) T.z_isinstance (by rfl) T.z_list (by decide +kernel) (ped_var 0))) (pssd_one (psd_ret (ped_lc rfl sc__law_copy.nd (own := [("part", 3)]) (pid_any (ped_var 0)) (blkOk_by (own := [("part", 3)]) (N := n__law_copy) (sc := defScope s__law_copy) (by decide +kernel)) (fun _ _ _ _ _ => (pgd_name (i := 3) sc__law_copy.nd rfl (by first | exact .inl rfl | exact .inr rfl))) (fun _ _ _ _ _ => ptsd_nil) (fun _ _ _ _ _ => (ped_call ih hr (by rfl) T.m__law_copy T.F__law_copy.kp T.b__law_copy (pad_cons (ped_var 3) pad_nil) (alen_cons alen_nil)))))) pssd_nil)
    (pssd_cons (psd_if (ptd_val (ped_isi (T := .tuple) (by rfl) T.z_isinstance (by rfl) T.z_tuple (by decide +kernel) (ped_var 0))) (pssd_one (psd_ret (ped_callT calld_tuple (by rfl) T.z_tuple (by decide +kernel) (pad_cons (ped_lc rfl sc__law_copy.nd (own := [("part", 3)]) (pid_any (ped_var 0)) (blkOk_by (own := [("part", 3)]) (N := n__law_copy) (sc := defScope s__law_copy) (by decide +kernel)) (fun _ _ _ _ _ => (pgd_name (i := 3) sc__law_copy.nd rfl (by first | exact .inl rfl | exact .inr rfl))) (fun _ _ _ _ _ => ptsd_nil) (fun _ _ _ _ _ => (ped_call ih hr (by rfl) T.m__law_copy T.F__law_copy.kp T.b__law_copy (pad_cons (ped_var 3) pad_nil) (alen_cons alen_nil)))) pad_nil)))) pssd_nil)
    (pssd_cons (psd_if (ptd_val (ped_isi (T := .dict) (by rfl) T.z_isinstance (by rfl) T.z_dict (by decide +kernel) (ped_var 0))) (pssd_cons (psd_set (i := 1) sc__law_copy.nd rfl (by first | exact .inl rfl | exact .inr rfl) ped_dnewK)
    (pssd_cons (psd_for PassesOwn.never rfl (pid_any (ped_var 0)) (pgd_name (i := 2) sc__law_copy.nd rfl (by first | exact .inl rfl | exact .inr rfl)) (pssd_one (psd_dput hu (ped_var 1) (ped_var 2) (ped_call ih hr (by rfl) T.m__law_copy T.F__law_copy.kp T.b__law_copy (pad_cons (ped_sub hu (ped_var 0) (ped_var 2) (fun _ _ => rfl)) pad_nil) (alen_cons alen_nil)))))
    (pssd_one (psd_ret (ped_var 1))))) pssd_nil)
    (pssd_one (psd_ret (ped_var 0))))))
def b__law_draw : SM := (sSeq (sIf (mAndB (mTB (mBin dEq (mSub (mVar 0) (mC (.int 2))) (mC (.int 0)))) (mTB (mBin dLt (mSub (mVar 0) (mC (.int 1))) (mCall gLenA (aCons (mSub (mVar 0) (mC (.int 0))) aNil))))) (sSeq (sSet 2 (mSub (mSub (mVar 0) (mC (.int 0))) (mSub (mVar 0) (mC (.int 1)))))
  (sSeq (sAsg (mBin dAdd (mSub (mVar 0) (mC (.int 1))) (mC (.int 1))) (gIx (mVar 0) (mC (.int 1))))
  (sSeq (sIf (mTB (mBin dGe (mVar 2) (mBin dPow (mC (.int 10)) (mC (.int 18))))) (sAsg (mVar 2) (gIx (mVar 0) (mC (.int 2)))) sNx)
  (sAsg (mBin dMod (mCall gInt (aCons (mBin dAdd (mBin dAdd (mBin dMulI (mSub (mVar 0) (mC (.int 3))) (mC (.int 48271))) (mVar 2)) (mC (.int 13))) aNil)) (mC (.int 2147483647))) (gIx (mVar 0) (mC (.int 3))))))) sNx)
  (sSeq (sIf (mTB (mBin dGt (mSub (mVar 0) (mC (.int 2))) (mC (.int 0)))) (sSeq (sSet 3 (mBin dMod (mCall gInt (aCons (mSub (mVar 0) (mC (.int 2))) aNil)) (mVar 1)))
  (sSeq (sAsg (mBin dDiv (mSub (mVar 0) (mC (.int 2))) (mVar 1)) (gIx (mVar 0) (mC (.int 2))))
  (sRet (mVar 3)))) sNx)
  (sSeq (sAsg (mBin dMod (mCall gInt (aCons (mBin dAdd (mBin dMulI (mSub (mVar 0) (mC (.int 3))) (mC (.int 69621))) (mC (.int 7))) aNil)) (mC (.int 2147483629))) (gIx (mVar 0) (mC (.int 3))))
  (sRet (mBin dMod (mCall gInt (aCons (mBin dDiv (mSub (mVar 0) (mC (.int 3))) (mC (.int 11))) aNil)) (mVar 1))))))
def m__law_draw : FM := mFun exitZ 4 b__law_draw
theorem ok__law_draw (T : Txt P K mg)  : FnOk P w K mg base CX0 1 T.a__law_draw T.d__law_draw ["draws", "limit"] (spM K m__law_draw 2) := by
  refine fn_m (k := 0) (N := n__law_draw) exitZ_ok T.F__law_draw sc__law_draw rfl rfl (by decide) fun cdv A outer s H E hr => ?_
  have hu := hu65 hr
  unfold b__law_draw
  exact (pssd_cons (psd_if (PWd.pt (pwd_and (ptd_cmp (opd_eq hu) (ped_sub hu (ped_var 0) ped_int (fun _ _ => rfl)) ped_int (nomark _)) (pwd_and1 (ptd_cmp opd_lt (ped_sub hu (ped_var 0) ped_int (fun _ _ => rfl)) (ped_callB calld_lenA (by rfl) T.z_len (by decide +kernel) (pad_cons (ped_sub hu (ped_var 0) ped_int (fun _ _ => rfl)) pad_nil)) (nomark _))))) (pssd_cons (psd_set (i := 2) sc__law_draw.nd rfl (by first | exact .inl rfl | exact .inr rfl) (ped_sub hu (ped_sub hu (ped_var 0) ped_int (fun _ _ => rfl)) (ped_sub hu (ped_var 0) ped_int (fun _ _ => rfl)) (fun _ _ => rfl)))
    (pssd_cons (psd_asg (ped_bin opd_add (ped_sub hu (ped_var 0) ped_int (fun _ _ => rfl)) ped_int) (pgd_ix (ped_var 0) ped_int))
    (pssd_cons (psd_if (ptd_cmp opd_ge (ped_var 2) (ped_bin opd_pow ped_int ped_int) (nomark _)) (pssd_one (psd_asg (ped_var 2) (pgd_ix (ped_var 0) ped_int))) pssd_nil)
    (pssd_one (psd_asg (ped_bin opd_mod (ped_callT calld_int (by rfl) T.z_int (by decide +kernel) (pad_cons (ped_bin opd_add (ped_bin opd_add (ped_bin opd_mulI (ped_sub hu (ped_var 0) ped_int (fun _ _ => rfl)) ped_int) (ped_var 2)) ped_int) pad_nil)) ped_int) (pgd_ix (ped_var 0) ped_int)))))) pssd_nil)
    (pssd_cons (psd_if (ptd_cmp opd_gt (ped_sub hu (ped_var 0) ped_int (fun _ _ => rfl)) ped_int (nomark _)) (pssd_cons (psd_set (i := 3) sc__law_draw.nd rfl (by first | exact .inl rfl | exact .inr rfl) (ped_bin opd_mod (ped_callT calld_int (by rfl) T.z_int (by decide +kernel) (pad_cons (ped_sub hu (ped_var 0) ped_int (fun _ _ => rfl)) pad_nil)) (ped_var 1)))
    (pssd_cons (psd_asg (ped_bin opd_div (ped_sub hu (ped_var 0) ped_int (fun _ _ => rfl)) (ped_var 1)) (pgd_ix (ped_var 0) ped_int))
    (pssd_one (psd_ret (ped_var 3))))) pssd_nil)
    (pssd_cons (psd_asg (ped_bin opd_mod (ped_callT calld_int (by rfl) T.z_int (by decide +kernel) (pad_cons (ped_bin opd_add (ped_bin opd_mulI (ped_sub hu (ped_var 0) ped_int (fun _ _ => rfl)) ped_int) ped_int) pad_nil)) ped_int) (pgd_ix (ped_var 0) ped_int))
    (pssd_one (psd_ret (ped_bin opd_mod (ped_callT calld_int (by rfl) T.z_int (by decide +kernel) (pad_cons (ped_bin opd_div (ped_sub hu (ped_var 0) ped_int (fun _ _ => rfl)) ped_int) pad_nil)) (ped_var 1)))))))
def b__law_draws : SM := (sRet (mLstC (aCons (mCall gListA (aCons (mVar 0) aNil)) (aCons (mC (.int 0)) (aCons (mC (.int 0)) (aCons (mC (.int 1)) aNil))))))
def m__law_draws : FM := mFun exitC 1 b__law_draws
theorem ok__law_draws (T : Txt P K mg)  : FnOk P w K mg base CX0 1 T.a__law_draws T.d__law_draws ["script"] (spM K m__law_draws 1) := by
  refine fn_m (k := 0) (N := n__law_draws) exitC_ok T.F__law_draws sc__law_draws rfl rfl (by decide) fun cdv A outer s H E hr => ?_
  have hu := hu65 hr
  unfold b__law_draws
  exact (pssd_one (psd_ret (ped_lstC (pad_cons (ped_callT (calld_listA rfl) (by rfl) T.z_list (by decide +kernel) (pad_cons (ped_var 0) pad_nil)) (pad_cons ped_int (pad_cons ped_int (pad_cons ped_int pad_nil)))))))
def b__law_edit : SM := (sSeq (sPar 2 3 (aCons (mLstC aNil) (aCons (mC (.int 0)) aNil)))
  (sSeq (whGo (mTB (mBin dLe (mVar 3) (mCall gLenA (aCons (mVar 1) aNil)))) (sSeq (sSet 4 (mSub (mLst (aCons (mC (.int 0)) (aCons (mC (.int 0)) (aCons (mC (.int 1)) (aCons (mC (.int 2)) aNil))))) (mCallF m__law_draw (aCons (mVar 0) (aCons (mC (.int 4)) aNil)))))
  (sSeq (sSet 4 (mCall gMin2 (aCons (mVar 4) (aCons (mBin dSub (mCall gLenA (aCons (mVar 1) aNil)) (mVar 3)) aNil))))
  (sSeq (sSet 5 (mCall gTuple (aCons (mLC [6] (iRange (aCons (mCallF m__law_draw (aCons (mVar 0) (aCons (mC (.int 3)) aNil))) aNil)) (gNm 6) bYes (mSub (mLst (aCons (mC (.str "a")) (aCons (mC (.str "n")) (aCons (mC (.str "")) (aCons (mC (.str "x y")) aNil))))) (mCallF m__law_draw (aCons (mVar 0) (aCons (mC (.int 4)) aNil))))) aNil)))
  (sSeq (sIf (mAndB (mTB (mBin dEq (mCallF m__law_draw (aCons (mVar 0) (aCons (mC (.int 2)) aNil))) (mC (.int 0)))) (mOrB (mTB (mBin dGt (mVar 4) (mC (.int 0)))) (mTB (mBin dGt (mCall gLenA (aCons (mVar 5) aNil)) (mC (.int 0)))))) (sSeq (sEx (mApp (mVar 2) (mTup (aCons (mVar 3) (aCons (mVar 4) (aCons (mVar 5) aNil))))))
  (sSet 3 (mBin dAdd (mVar 3) (mVar 4)))) sNx)
  (sSet 3 (mBin dAdd (mBin dAdd (mVar 3) (mC (.int 1))) (mCallF m__law_draw (aCons (mVar 0) (aCons (mC (.int 2)) aNil))))))))) 100000)
  (sRet (mCall gTuple (aCons (mVar 2) aNil)))))
def m__law_edit : FM := mFun exitZ 7 b__law_edit
theorem ok__law_edit (T : Txt P K mg) (G__law_draw : FnOk P w K mg base CX0 1 T.a__law_draw T.d__law_draw ["draws", "limit"] (spM K m__law_draw 2)) : FnOk P w K mg base CX0 2 T.a__law_edit T.d__law_edit ["draws", "lines"] (spM K m__law_edit 2) := by
  refine fn_m (k := 1) (N := n__law_edit) exitZ_ok T.F__law_edit sc__law_edit rfl rfl (by decide) fun cdv A outer s H E hr => ?_
  have hu := hu65 hr
  unfold b__law_edit
  exact (pssd_cons (psd_par (i := 2) (j := 3) rfl sc__law_edit.nd rfl rfl (by decide) rfl rfl (pad_cons (ped_lstC pad_nil) (pad_cons ped_int pad_nil)) (by rfl))
    (pssd_cons (psd_while 100000 PassesOwn.never (ptd_cmp opd_le (ped_var 3) (ped_callB calld_lenA (by rfl) T.z_len (by decide +kernel) (pad_cons (ped_var 1) pad_nil)) (nomark _)) (pssd_cons (psd_set (i := 4) sc__law_edit.nd rfl (by first | exact .inl rfl | exact .inr rfl) (ped_sub hu (ped_lst (pad_cons ped_int (pad_cons ped_int (pad_cons ped_int (pad_cons ped_int pad_nil))))) (ped_call G__law_draw (hr.mono (by omega)) (by rfl) T.m__law_draw T.F__law_draw.kp T.b__law_draw (pad_cons (ped_var 0) (pad_cons ped_int pad_nil)) (alen_cons (alen_cons alen_nil))) (fun _ _ => rfl)))
    (pssd_cons (psd_set (i := 4) sc__law_edit.nd rfl (by first | exact .inl rfl | exact .inr rfl) (ped_callB (calld_min2 rfl) (by rfl) T.z_min (by decide +kernel) (pad_cons (ped_var 4) (pad_cons (ped_bin opd_sub (ped_callB calld_lenA (by rfl) T.z_len (by decide +kernel) (pad_cons (ped_var 1) pad_nil)) (ped_var 3)) pad_nil))))
    (pssd_cons (psd_set (i := 5) sc__law_edit.nd rfl (by first | exact .inl rfl | exact .inr rfl) (ped_callT calld_tuple (by rfl) T.z_tuple (by decide +kernel) (pad_cons (ped_lc rfl sc__law_edit.nd (own := [("k", 6)]) (pid_range1 (by rfl) T.z_range (ped_call G__law_draw (hr.mono (by omega)) (by rfl) T.m__law_draw T.F__law_draw.kp T.b__law_draw (pad_cons (ped_var 0) (pad_cons ped_int pad_nil)) (alen_cons (alen_cons alen_nil)))) (blkOk_by (own := [("k", 6)]) (N := n__law_edit) (sc := defScope s__law_edit) (by decide +kernel)) (fun _ _ _ _ _ => (pgd_name (i := 6) sc__law_edit.nd rfl (by first | exact .inl rfl | exact .inr rfl))) (fun _ _ _ _ _ => ptsd_nil) (fun _ _ _ _ _ => (ped_sub hu (ped_lst (pad_cons ped_str (pad_cons ped_str (pad_cons ped_str (pad_cons ped_str pad_nil))))) (ped_call G__law_draw (hr.mono (by omega)) (by rfl) T.m__law_draw T.F__law_draw.kp T.b__law_draw (pad_cons (ped_var 0) (pad_cons ped_int pad_nil)) (alen_cons (alen_cons alen_nil))) (fun _ _ => rfl)))) pad_nil)))
    (pssd_cons (psd_if (PWd.pt (pwd_and (ptd_cmp (opd_eq hu) (ped_call G__law_draw (hr.mono (by omega)) (by rfl) T.m__law_draw T.F__law_draw.kp T.b__law_draw (pad_cons (ped_var 0) (pad_cons ped_int pad_nil)) (alen_cons (alen_cons alen_nil))) ped_int (nomark _)) (pwd_and1 (PWd.pt (pwd_or (ptd_cmp opd_gt (ped_var 4) ped_int (nomark _)) (pwd_or1 (ptd_cmp opd_gt (ped_callB calld_lenA (by rfl) T.z_len (by decide +kernel) (pad_cons (ped_var 5) pad_nil)) ped_int (nomark _)))))))) (pssd_cons (psd_expr (ped_append (ped_var 2) (ped_tup (pad_cons (ped_var 3) (pad_cons (ped_var 4) (pad_cons (ped_var 5) pad_nil))))))
    (pssd_one (psd_set (i := 3) sc__law_edit.nd rfl (by first | exact .inl rfl | exact .inr rfl) (ped_bin opd_add (ped_var 3) (ped_var 4))))) pssd_nil)
    (pssd_one (psd_set (i := 3) sc__law_edit.nd rfl (by first | exact .inl rfl | exact .inr rfl) (ped_bin opd_add (ped_bin opd_add (ped_var 3) ped_int) (ped_call G__law_draw (hr.mono (by omega)) (by rfl) T.m__law_draw T.F__law_draw.kp T.b__law_draw (pad_cons (ped_var 0) (pad_cons ped_int pad_nil)) (alen_cons (alen_cons alen_nil)))))))))))
    (pssd_one (psd_ret (ped_callT calld_tuple (by rfl) T.z_tuple (by decide +kernel) (pad_cons (ped_var 2) pad_nil))))))
def b__law_edit_of : SM := (sSeq (sPar3 3 4 5 (aCons (mLstC aNil) (aCons (mC (.int 0)) (aCons (mC (.int 0)) aNil))))
  (sSeq (sFor (iAny (mBin dAdd (mVar 2) (mLst (aCons (mTup (aCons (mCall gLenA (aCons (mVar 0) aNil)) (aCons (mCall gLenA (aCons (mVar 1) aNil)) aNil))) aNil)))) (gTu 2 (gsCons (gNm 6) (gsCons (gNm 7) gsNil))) (sSeq (sIf (mTB (mBin dNe (mTup (aCons (mVar 6) (aCons (mVar 7) aNil))) (mTup (aCons (mVar 4) (aCons (mVar 5) aNil))))) (sEx (mApp (mVar 3) (mTup (aCons (mVar 4) (aCons (mBin dSub (mVar 6) (mVar 4)) (aCons (mCall gTuple (aCons (mSl (mVar 1) (oSome (mVar 5)) (oSome (mVar 7))) aNil)) aNil)))))) sNx)
  (sPar 4 5 (aCons (mBin dAdd (mVar 6) (mC (.int 1))) (aCons (mBin dAdd (mVar 7) (mC (.int 1))) aNil)))))
  (sRet (mCall gTuple (aCons (mVar 3) aNil)))))
def m__law_edit_of : FM := mFun exitZ 8 b__law_edit_of
theorem ok__law_edit_of (T : Txt P K mg)  : FnOk P w K mg base CX0 1 T.a__law_edit_of T.d__law_edit_of ["lines", "other", "pairs"] (spM K m__law_edit_of 3) := by
  refine fn_m (k := 0) (N := n__law_edit_of) exitZ_ok T.F__law_edit_of sc__law_edit_of rfl rfl (by decide) fun cdv A outer s H E hr => ?_
  have hu := hu65 hr
  unfold b__law_edit_of
  exact (pssd_cons (psd_par3 (i := 3) (j := 4) (k := 5) rfl sc__law_edit_of.nd rfl rfl rfl (by decide) (by decide) (by decide) rfl rfl rfl (pad_cons (ped_lstC pad_nil) (pad_cons ped_int (pad_cons ped_int pad_nil))) (by rfl))
    (pssd_cons (psd_for PassesOwn.never rfl (pid_any (ped_bin opd_add (ped_var 2) (ped_lst (pad_cons (ped_tup (pad_cons (ped_callB calld_lenA (by rfl) T.z_len (by decide +kernel) (pad_cons (ped_var 0) pad_nil)) (pad_cons (ped_callB calld_lenA (by rfl) T.z_len (by decide +kernel) (pad_cons (ped_var 1) pad_nil)) pad_nil))) pad_nil)))) (pgd_tup rfl (pgsd_cons (pgd_name (i := 6) sc__law_edit_of.nd rfl (by first | exact .inl rfl | exact .inr rfl)) (pgsd_cons (pgd_name (i := 7) sc__law_edit_of.nd rfl (by first | exact .inl rfl | exact .inr rfl)) pgsd_nil))) (pssd_cons (psd_if (ptd_cmp (opd_ne hu) (ped_tup (pad_cons (ped_var 6) (pad_cons (ped_var 7) pad_nil))) (ped_tup (pad_cons (ped_var 4) (pad_cons (ped_var 5) pad_nil))) (nomark _)) (pssd_one (psd_expr (ped_append (ped_var 3) (ped_tup (pad_cons (ped_var 4) (pad_cons (ped_bin opd_sub (ped_var 6) (ped_var 4)) (pad_cons (ped_callT calld_tuple (by rfl) T.z_tuple (by decide +kernel) (pad_cons (ped_sl (ped_var 1) (pod_some (ped_var 5)) (pod_some (ped_var 7))) pad_nil)) pad_nil))))))) pssd_nil)
    (pssd_one (psd_par (i := 4) (j := 5) rfl sc__law_edit_of.nd rfl rfl (by decide) rfl rfl (pad_cons (ped_bin opd_add (ped_var 6) ped_int) (pad_cons (ped_bin opd_add (ped_var 7) ped_int) pad_nil)) (by rfl)))))
    (pssd_one (psd_ret (ped_callT calld_tuple (by rfl) T.z_tuple (by decide +kernel) (pad_cons (ped_var 3) pad_nil))))))
def b__law_lists : SM := (sSeq (sSet 1 (mLst (aCons (mLst aNil) aNil)))
  (sSeq (sFor (iRange (aCons (mVar 0) aNil)) (gNm 2) (sSet 1 (mBin dAdd (mVar 1) (mLC [3] (iAny (mVar 1)) (gNm 3) bYes (mBin dAdd (mVar 3) (mLst (aCons (mVar 2) aNil)))))))
  (sRet (mVar 1))))
def m__law_lists : FM := mFun exitZ 4 b__law_lists
theorem ok__law_lists (T : Txt P K mg)  : FnOk P w K mg base CX0 1 T.a__law_lists T.d__law_lists ["many"] (spM K m__law_lists 1) := by
  refine fn_m (k := 0) (N := n__law_lists) exitZ_ok T.F__law_lists sc__law_lists rfl rfl (by decide) fun cdv A outer s H E hr => ?_
  have hu := hu65 hr
  unfold b__law_lists
  exact (pssd_cons (psd_set (i := 1) sc__law_lists.nd rfl (by first | exact .inl rfl | exact .inr rfl) (ped_lst (pad_cons (ped_lst pad_nil) pad_nil)))
    (pssd_cons (psd_for PassesOwn.never rfl (pid_range1 (by rfl) T.z_range (ped_var 0)) (pgd_name (i := 2) sc__law_lists.nd rfl (by first | exact .inl rfl | exact .inr rfl)) (pssd_one (psd_set (i := 1) sc__law_lists.nd rfl (by first | exact .inl rfl | exact .inr rfl) (ped_bin opd_add (ped_var 1) (ped_lc rfl sc__law_lists.nd (own := [("one", 3)]) (pid_any (ped_var 1)) (blkOk_by (own := [("one", 3)]) (N := n__law_lists) (sc := defScope s__law_lists) (by decide +kernel)) (fun _ _ _ _ _ => (pgd_name (i := 3) sc__law_lists.nd rfl (by first | exact .inl rfl | exact .inr rfl))) (fun _ _ _ _ _ => ptsd_nil) (fun _ _ _ _ _ => (ped_bin opd_add (ped_var 3) (ped_lst (pad_cons (ped_var 2) pad_nil)))))))))
    (pssd_one (psd_ret (ped_var 1)))))
def b__law_kept : SM := (sSeq (sSet 2 (mLst aNil))
  (sSeq (sFor (iAny (mCallF m__law_lists (aCons (mCall gLenA (aCons (mVar 0) aNil)) aNil))) (gNm 3) (sFor (iAny (mCallF m__law_lists (aCons (mCall gLenA (aCons (mVar 1) aNil)) aNil))) (gNm 4) (sIf (mAndB (mTB (mBin dEq (mCall gLenA (aCons (mVar 3) aNil)) (mCall gLenA (aCons (mVar 4) aNil)))) (mTB (mBin dEq (mLC [6] (iAny (mVar 3)) (gNm 6) bYes (mSub (mVar 0) (mVar 6))) (mLC [6] (iAny (mVar 4)) (gNm 6) bYes (mSub (mVar 1) (mVar 6)))))) (sSeq (sSet 5 (mLC [6] (iRange (aCons (mCall gLenA (aCons (mVar 3) aNil)) aNil)) (gNm 6) bYes (mTup (aCons (mSub (mVar 3) (mVar 6)) (aCons (mSub (mVar 4) (mVar 6)) aNil)))))
  (sIf (mOrB (mTB (mBin dGtG (mCall gLenA (aCons (mVar 5) aNil)) (mCall gLenA (aCons (mVar 2) aNil)))) (mAndB (mTB (mBin dEq (mCall gLenA (aCons (mVar 5) aNil)) (mCall gLenA (aCons (mVar 2) aNil)))) (mTB (mBin dLtG (mVar 5) (mVar 2))))) (sSet 2 (mVar 5)) sNx)) sNx)))
  (sRet (mVar 2))))
def m__law_kept : FM := mFun exitZ 7 b__law_kept
theorem ok__law_kept (T : Txt P K mg) (G__law_lists : FnOk P w K mg base CX0 1 T.a__law_lists T.d__law_lists ["many"] (spM K m__law_lists 1)) : FnOk P w K mg base CX0 2 T.a__law_kept T.d__law_kept ["lines", "other"] (spM K m__law_kept 2) := by
  refine fn_m (k := 1) (N := n__law_kept) exitZ_ok T.F__law_kept sc__law_kept rfl rfl (by decide) fun cdv A outer s H E hr => ?_
  have hu := hu65 hr
  unfold b__law_kept
  exact (pssd_cons (psd_set (i := 2) sc__law_kept.nd rfl (by first | exact .inl rfl | exact .inr rfl) (ped_lst pad_nil))
    (pssd_cons (psd_for PassesOwn.never rfl (pid_any (ped_call G__law_lists (hr.mono (by omega)) (by rfl) T.m__law_lists T.F__law_lists.kp T.b__law_lists (pad_cons (ped_callB calld_lenA (by rfl) T.z_len (by decide +kernel) (pad_cons (ped_var 0) pad_nil)) pad_nil) (alen_cons alen_nil))) (pgd_name (i := 3) sc__law_kept.nd rfl (by first | exact .inl rfl | exact .inr rfl)) (pssd_one (psd_for PassesOwn.never rfl (pid_any (ped_call G__law_lists (hr.mono (by omega)) (by rfl) T.m__law_lists T.F__law_lists.kp T.b__law_lists (pad_cons (ped_callB calld_lenA (by rfl) T.z_len (by decide +kernel) (pad_cons (ped_var 1) pad_nil)) pad_nil) (alen_cons alen_nil))) (pgd_name (i := 4) sc__law_kept.nd rfl (by first | exact .inl rfl | exact .inr rfl)) (pssd_one (psd_if (PWd.pt (pwd_and (ptd_cmp (opd_eq hu) (ped_callB calld_lenA (by rfl) T.z_len (by decide +kernel) (pad_cons (ped_var 3) pad_nil)) (ped_callB calld_lenA (by rfl) T.z_len (by decide +kernel) (pad_cons (ped_var 4) pad_nil)) (nomark _)) (pwd_and1 (ptd_cmp (opd_eq hu) (ped_lc rfl sc__law_kept.nd (own := [("k", 6)]) (pid_any (ped_var 3)) (blkOk_by (own := [("k", 6)]) (N := n__law_kept) (sc := defScope s__law_kept) (by decide +kernel)) (fun _ _ _ _ _ => (pgd_name (i := 6) sc__law_kept.nd rfl (by first | exact .inl rfl | exact .inr rfl))) (fun _ _ _ _ _ => ptsd_nil) (fun _ _ _ _ _ => (ped_sub hu (ped_var 0) (ped_var 6) (fun _ _ => rfl)))) (ped_lc rfl sc__law_kept.nd (own := [("k", 6)]) (pid_any (ped_var 4)) (blkOk_by (own := [("k", 6)]) (N := n__law_kept) (sc := defScope s__law_kept) (by decide +kernel)) (fun _ _ _ _ _ => (pgd_name (i := 6) sc__law_kept.nd rfl (by first | exact .inl rfl | exact .inr rfl))) (fun _ _ _ _ _ => ptsd_nil) (fun _ _ _ _ _ => (ped_sub hu (ped_var 1) (ped_var 6) (fun _ _ => rfl)))) (nomark _))))) (pssd_cons (psd_setLc (i := 5) rfl sc__law_kept.nd rfl rfl (sw_true rfl rfl rfl (by decide +kernel)) (own := [("k", 6)]) (pid_range1 (by rfl) T.z_range (ped_callB calld_lenA (by rfl) T.z_len (by decide +kernel) (pad_cons (ped_var 3) pad_nil))) (blkOk_by (own := [("k", 6)]) (N := n__law_kept) (sc := defScope s__law_kept) (by decide +kernel)) (fun _ _ _ _ _ => (pgd_name (i := 6) sc__law_kept.nd rfl (by first | exact .inl rfl | exact .inr rfl))) (fun _ _ _ _ _ => ptsd_nil) (fun _ _ _ _ _ => (ped_tup (pad_cons (ped_sub hu (ped_var 3) (ped_var 6) (fun _ _ => rfl)) (pad_cons (ped_sub hu (ped_var 4) (ped_var 6) (fun _ _ => rfl)) pad_nil)))))
    (pssd_one (psd_if (PWd.pt (pwd_or (ptd_cmp (opd_gtG hu) (ped_callB calld_lenA (by rfl) T.z_len (by decide +kernel) (pad_cons (ped_var 5) pad_nil)) (ped_callB calld_lenA (by rfl) T.z_len (by decide +kernel) (pad_cons (ped_var 2) pad_nil)) (nomark _)) (pwd_or1 (PWd.pt (pwd_and (ptd_cmp (opd_eq hu) (ped_callB calld_lenA (by rfl) T.z_len (by decide +kernel) (pad_cons (ped_var 5) pad_nil)) (ped_callB calld_lenA (by rfl) T.z_len (by decide +kernel) (pad_cons (ped_var 2) pad_nil)) (nomark _)) (pwd_and1 (ptd_cmp (opd_ltG hu) (ped_var 5) (ped_var 2) (nomark _)))))))) (pssd_one (psd_set (i := 2) sc__law_kept.nd rfl (by first | exact .inl rfl | exact .inr rfl) (ped_var 5))) pssd_nil))) pssd_nil)))))
    (pssd_one (psd_ret (ped_var 2)))))
def b__law_lines_of : SM := (sRet (mLC [2] (iRange (aCons (mCallF m__law_draw (aCons (mVar 0) (aCons (mBin dAdd (mVar 1) (mC (.int 1))) aNil))) aNil)) (gNm 2) bYes (mSub (mLst (aCons (mC (.str "a")) (aCons (mC (.str "b")) (aCons (mC (.str "c")) (aCons (mC (.str "")) (aCons (mC (.str "x y")) aNil)))))) (mCallF m__law_draw (aCons (mVar 0) (aCons (mC (.int 5)) aNil))))))
def m__law_lines_of : FM := mFun exitZ 3 b__law_lines_of
theorem ok__law_lines_of (T : Txt P K mg) (G__law_draw : FnOk P w K mg base CX0 1 T.a__law_draw T.d__law_draw ["draws", "limit"] (spM K m__law_draw 2)) : FnOk P w K mg base CX0 2 T.a__law_lines_of T.d__law_lines_of ["draws", "many"] (spM K m__law_lines_of 2) := by
  refine fn_m (k := 1) (N := n__law_lines_of) exitZ_ok T.F__law_lines_of sc__law_lines_of rfl rfl (by decide) fun cdv A outer s H E hr => ?_
  have hu := hu65 hr
  unfold b__law_lines_of
  exact (pssd_one (psd_ret (ped_lc rfl sc__law_lines_of.nd (own := [("k", 2)]) (pid_range1 (by rfl) T.z_range (ped_call G__law_draw (hr.mono (by omega)) (by rfl) T.m__law_draw T.F__law_draw.kp T.b__law_draw (pad_cons (ped_var 0) (pad_cons (ped_bin opd_add (ped_var 1) ped_int) pad_nil)) (alen_cons (alen_cons alen_nil)))) (blkOk_by (own := [("k", 2)]) (N := n__law_lines_of) (sc := defScope s__law_lines_of) (by decide +kernel)) (fun _ _ _ _ _ => (pgd_name (i := 2) sc__law_lines_of.nd rfl (by first | exact .inl rfl | exact .inr rfl))) (fun _ _ _ _ _ => ptsd_nil) (fun _ _ _ _ _ => (ped_sub hu (ped_lst (pad_cons ped_str (pad_cons ped_str (pad_cons ped_str (pad_cons ped_str (pad_cons ped_str pad_nil)))))) (ped_call G__law_draw (hr.mono (by omega)) (by rfl) T.m__law_draw T.F__law_draw.kp T.b__law_draw (pad_cons (ped_var 0) (pad_cons ped_int pad_nil)) (alen_cons (alen_cons alen_nil))) (fun _ _ => rfl))))))
def b__law_same (self : FM) : SM := (sSeq (sIf (mTB (mBin (dIs false) (mVar 1) (mC .none))) (sRet (mBin (dIs false) (mVar 0) (mC .none))) sNx)
  (sSeq (sIf (mTB (mIs (inst .bool) (mVar 1))) (sRet (mAndV (mIs (inst .bool) (mVar 0)) (mBin dEq (mVar 0) (mVar 1)))) sNx)
  (sSeq (sIf (mTB (mIs (inst .int) (mVar 1))) (sRet (mAndV (mIs (inst .int) (mVar 0)) (mAndV (mNotV (mIs (inst .bool) (mVar 0))) (mBin dEq (mVar 0) (mVar 1))))) sNx)
  (sSeq (sIf (mTB (mIs (inst .str) (mVar 1))) (sRet (mAndV (mIs (inst .str) (mVar 0)) (mBin dEq (mVar 0) (mVar 1)))) sNx)
  (sSeq (sIf (mTB (mIs (inst .dict) (mVar 1))) (sSeq (sIf (mOrB (mNotB (mTB (mIs (inst .dict) (mVar 0)))) (mOrB (mTB (mBin dNe (mCall gLenA (aCons (mVar 0) aNil)) (mCall gLenA (aCons (mVar 1) aNil)))) (mNotB (mTB (mCall gAll (aCons (mLC [4] (iAny (mVar 1)) (gNm 4) bYes (mIn false (mVar 4) (mVar 0))) aNil)))))) (sRet (mC (.bool false))) sNx)
  (sRet (mCall gAll (aCons (mLC [4] (iAny (mVar 1)) (gNm 4) bYes (mCallF self (aCons (mSub (mVar 0) (mVar 4)) (aCons (mSub (mVar 1) (mVar 4)) aNil)))) aNil)))) sNx)
  (sSeq (sIf (mTB (mIs (inst .list) (mVar 1))) (sSet 2 (mIs (inst .list) (mVar 0))) (sSet 2 (mIs (inst .tuple) (mVar 0))))
  (sRet (mAndV (mVar 2) (mAndV (mBin dEq (mCall gLenA (aCons (mVar 0) aNil)) (mCall gLenA (aCons (mVar 1) aNil))) (mCall gAll (aCons (mLC [3] (iRange (aCons (mCall gLenA (aCons (mVar 1) aNil)) aNil)) (gNm 3) bYes (mCallF self (aCons (mSub (mVar 0) (mVar 3)) (aCons (mSub (mVar 1) (mVar 3)) aNil)))) aNil)))))))))))
def m__law_same : Nat → FM
  | 0 => fun _ _ => none
  | n + 1 => mFun exitZ 5 (b__law_same (m__law_same n))
theorem ok__law_same (T : Txt P K mg)  : ∀ n : Nat, FnOk P w K mg base CX0 (0 + n) T.a__law_same T.d__law_same ["x", "due"] (spM K (m__law_same n) 2)
  | 0 => fn_none fun _ _ => rfl
  | n + 1 => by
    have ih := ok__law_same T  n
    refine fn_m (k := 0 + n) (N := n__law_same) exitZ_ok T.F__law_same sc__law_same rfl rfl (by decide) fun cdv A outer s H E hr => ?_
    have hu := hu65 hr
    unfold b__law_same
    exact (pssd_cons (psd_if (ptd_cmp opd_is (ped_var 1) ped_non (nomark _)) (pssd_one (psd_ret (ped_cmp opd_is (ped_var 0) ped_non (nomark _)))) pssd_nil)
    (pssd_cons (psd_if (ptd_val (ped_isi (T := .bool) (by rfl) T.z_isinstance (by rfl) T.z_bool (by decide +kernel) (ped_var 1))) (pssd_one (psd_ret (ped_and (ped_isi (T := .bool) (by rfl) T.z_isinstance (by rfl) T.z_bool (by decide +kernel) (ped_var 0)) (ped_one (ped_cmp (opd_eq hu) (ped_var 0) (ped_var 1) (nomark _)))))) pssd_nil)
    (pssd_cons (psd_if (ptd_val (ped_isi (T := .int) (by rfl) T.z_isinstance (by rfl) T.z_int (by decide +kernel) (ped_var 1))) (pssd_one (psd_ret (ped_and (ped_isi (T := .int) (by rfl) T.z_isinstance (by rfl) T.z_int (by decide +kernel) (ped_var 0)) (ped_and (ped_not (ped_isi (T := .bool) (by rfl) T.z_isinstance (by rfl) T.z_bool (by decide +kernel) (ped_var 0))) (ped_one (ped_cmp (opd_eq hu) (ped_var 0) (ped_var 1) (nomark _))))))) pssd_nil)
    (pssd_cons (psd_if (ptd_val (ped_isi (T := .str) (by rfl) T.z_isinstance (by rfl) T.z_str (by decide +kernel) (ped_var 1))) (pssd_one (psd_ret (ped_and (ped_isi (T := .str) (by rfl) T.z_isinstance (by rfl) T.z_str (by decide +kernel) (ped_var 0)) (ped_one (ped_cmp (opd_eq hu) (ped_var 0) (ped_var 1) (nomark _)))))) pssd_nil)
    (pssd_cons (psd_if (ptd_val (ped_isi (T := .dict) (by rfl) T.z_isinstance (by rfl) T.z_dict (by decide +kernel) (ped_var 1))) (pssd_cons (psd_if (PWd.pt (pwd_or (ptd_not (ptd_val (ped_isi (T := .dict) (by rfl) T.z_isinstance (by rfl) T.z_dict (by decide +kernel) (ped_var 0)))) (pwd_or (ptd_cmp (opd_ne hu) (ped_callB calld_lenA (by rfl) T.z_len (by decide +kernel) (pad_cons (ped_var 0) pad_nil)) (ped_callB calld_lenA (by rfl) T.z_len (by decide +kernel) (pad_cons (ped_var 1) pad_nil)) (nomark _)) (pwd_or1 (ptd_not (ptd_val (ped_callB (calld_all rfl) (by rfl) T.z_all (by decide +kernel) (pad_cons (ped_lc rfl sc__law_same.nd (own := [("key", 4)]) (pid_any (ped_var 1)) (blkOk_by (own := [("key", 4)]) (N := n__law_same) (sc := defScope s__law_same) (by decide +kernel)) (fun _ _ _ _ _ => (pgd_name (i := 4) sc__law_same.nd rfl (by first | exact .inl rfl | exact .inr rfl))) (fun _ _ _ _ _ => ptsd_nil) (fun _ _ _ _ _ => (ped_in hu (ped_var 4) (ped_var 0)))) pad_nil)))))))) (pssd_one (psd_ret ped_bl)) pssd_nil)
    (pssd_one (psd_ret (ped_callB (calld_all rfl) (by rfl) T.z_all (by decide +kernel) (pad_cons (ped_lc rfl sc__law_same.nd (own := [("key", 4)]) (pid_any (ped_var 1)) (blkOk_by (own := [("key", 4)]) (N := n__law_same) (sc := defScope s__law_same) (by decide +kernel)) (fun _ _ _ _ _ => (pgd_name (i := 4) sc__law_same.nd rfl (by first | exact .inl rfl | exact .inr rfl))) (fun _ _ _ _ _ => ptsd_nil) (fun _ _ _ _ _ => (ped_call ih hr (by rfl) T.m__law_same T.F__law_same.kp T.b__law_same (pad_cons (ped_sub hu (ped_var 0) (ped_var 4) (fun _ _ => rfl)) (pad_cons (ped_sub hu (ped_var 1) (ped_var 4) (fun _ _ => rfl)) pad_nil)) (alen_cons (alen_cons alen_nil))))) pad_nil))))) pssd_nil)
    (pssd_cons (psd_if (ptd_val (ped_isi (T := .list) (by rfl) T.z_isinstance (by rfl) T.z_list (by decide +kernel) (ped_var 1))) (pssd_one (psd_set (i := 2) sc__law_same.nd rfl (by first | exact .inl rfl | exact .inr rfl) (ped_isi (T := .list) (by rfl) T.z_isinstance (by rfl) T.z_list (by decide +kernel) (ped_var 0)))) (pssd_one (psd_set (i := 2) sc__law_same.nd rfl (by first | exact .inl rfl | exact .inr rfl) (ped_isi (T := .tuple) (by rfl) T.z_isinstance (by rfl) T.z_tuple (by decide +kernel) (ped_var 0)))))
    (pssd_one (psd_ret (ped_and (ped_var 2) (ped_and (ped_cmp (opd_eq hu) (ped_callB calld_lenA (by rfl) T.z_len (by decide +kernel) (pad_cons (ped_var 0) pad_nil)) (ped_callB calld_lenA (by rfl) T.z_len (by decide +kernel) (pad_cons (ped_var 1) pad_nil)) (nomark _)) (ped_one (ped_callB (calld_all rfl) (by rfl) T.z_all (by decide +kernel) (pad_cons (ped_lc rfl sc__law_same.nd (own := [("at", 3)]) (pid_range1 (by rfl) T.z_range (ped_callB calld_lenA (by rfl) T.z_len (by decide +kernel) (pad_cons (ped_var 1) pad_nil))) (blkOk_by (own := [("at", 3)]) (N := n__law_same) (sc := defScope s__law_same) (by decide +kernel)) (fun _ _ _ _ _ => (pgd_name (i := 3) sc__law_same.nd rfl (by first | exact .inl rfl | exact .inr rfl))) (fun _ _ _ _ _ => ptsd_nil) (fun _ _ _ _ _ => (ped_call ih hr (by rfl) T.m__law_same T.F__law_same.kp T.b__law_same (pad_cons (ped_sub hu (ped_var 0) (ped_var 3) (fun _ _ => rfl)) (pad_cons (ped_sub hu (ped_var 1) (ped_var 3) (fun _ _ => rfl)) pad_nil)) (alen_cons (alen_cons alen_nil))))) pad_nil)))))))))))))
def b_is_number : SM := (sRet (mAndV (mIs (inst .int) (mVar 0)) (mAndV (mNotV (mIs (inst .bool) (mVar 0))) (mBin dGe (mVar 0) (mC (.int 0))))))
def m_is_number : FM := mFun exitZ 1 b_is_number
theorem ok_is_number (T : Txt P K mg)  : FnOk P w K mg base CX0 1 T.a_is_number T.d_is_number ["thing"] (spM K m_is_number 1) := by
  refine fn_m (k := 0) (N := n_is_number) exitZ_ok T.F_is_number sc_is_number rfl rfl (by decide) fun cdv A outer s H E hr => ?_
  have hu := hu65 hr
  unfold b_is_number
  exact (pssd_one (psd_ret (ped_and (ped_isi (T := .int) (by rfl) T.z_isinstance (by rfl) T.z_int (by decide +kernel) (ped_var 0)) (ped_and (ped_not (ped_isi (T := .bool) (by rfl) T.z_isinstance (by rfl) T.z_bool (by decide +kernel) (ped_var 0))) (ped_one (ped_cmp opd_ge (ped_var 0) ped_int (nomark _)))))))
def b_check_edit : SMx := (sSeqX (sIfX (mNotB (mTB (mIs (inst .tuple) (mVar 0)))) (sRaise "Wrong" (mUn dNeg (mC (.int 1)))) (sUp sNx))
  (sForX (iRange (aCons (mCall gLenA (aCons (mVar 0) aNil)) aNil)) (gNm 2) (sSeqX (sUp (sSet 3 (mSub (mVar 0) (mVar 2))))
  (sSeqX (sIfX (mOrB (mNotB (mTB (mIs (inst .tuple) (mVar 3)))) (mOrB (mTB (mBin dNe (mCall gLenA (aCons (mVar 3) aNil)) (mC (.int 3)))) (mOrB (mNotB (mTB (mCallF m_is_number (aCons (mSub (mVar 3) (mC (.int 0))) aNil)))) (mNotB (mTB (mCallF m_is_number (aCons (mSub (mVar 3) (mC (.int 1))) aNil))))))) (sRaise "Wrong" (mVar 2)) (sUp sNx))
  (sSeqX (sIfX (mNotB (mTB (mIs (inst .tuple) (mSub (mVar 3) (mC (.int 2)))))) (sRaise "Wrong" (mVar 2)) (sUp sNx))
  (sSeqX (sIfX (mNotB (mTB (mCall gAll (aCons (mLC [4] (iAny (mSub (mVar 3) (mC (.int 2)))) (gNm 4) bYes (mAndV (mIs (inst .str) (mVar 4)) (mIn true (mC (.str "\n")) (mVar 4)))) aNil)))) (sRaise "Wrong" (mVar 2)) (sUp sNx))
  (sSeqX (sIfX (mOrB (mTB (mBin dGt (mBin dAdd (mSub (mVar 3) (mC (.int 0))) (mSub (mVar 3) (mC (.int 1)))) (mVar 1))) (mAndB (mTB (mBin dEq (mSub (mVar 3) (mC (.int 1))) (mC (.int 0)))) (mTB (mBin dEq (mCall gLenA (aCons (mSub (mVar 3) (mC (.int 2))) aNil)) (mC (.int 0)))))) (sRaise "Wrong" (mVar 2)) (sUp sNx))
  (sIfX (mAndB (mTB (mBin dGt (mVar 2) (mC (.int 0)))) (mTB (mBin dLe (mSub (mVar 3) (mC (.int 0))) (mBin dAdd (mSub (mSub (mVar 0) (mBin dSub (mVar 2) (mC (.int 1)))) (mC (.int 0))) (mSub (mSub (mVar 0) (mBin dSub (mVar 2) (mC (.int 1)))) (mC (.int 1))))))) (sRaise "Wrong" (mVar 2)) (sUp sNx)))))))))
def m_check_edit : FMx := mFunX exitZ 5 b_check_edit
theorem ok_check_edit (T : Txt P K mg) (G_is_number : FnOk P w K mg base CX0 1 T.a_is_number T.d_is_number ["thing"] (spM K m_is_number 1)) : FnOk P w K mg base (L2.CX P w) 2 T.a_check_edit T.d_check_edit ["edit", "many"] (spMX K mg m_check_edit 2) := by
  refine fn_mX (k := 1) (N := n_check_edit) exitZ_ok T.F_check_edit sc_check_edit rfl rfl (by decide) fun cdv A outer s H E hr => ?_
  have hu := hu65 hr
  unfold b_check_edit
  exact (pssx_cons (psx_if (ptd_not (ptd_val (ped_isi (T := .tuple) (by rfl) T.z_isinstance (by rfl) T.z_tuple (by decide +kernel) (ped_var 0)))) (pssx_one (psx_raise rfl T.x_Wrong hr (takes_of rfl rfl rfl rfl) (ped_neg ped_int) rfl)) (pssx_up pssd_nil))
    (pssx_one (psx_for (passes_of rfl) rfl (pid_range1 (by rfl) T.z_range (ped_callB calld_lenA (by rfl) T.z_len (by decide +kernel) (pad_cons (ped_var 0) pad_nil))) (pgd_name (i := 2) sc_check_edit.nd rfl (by first | exact .inl rfl | exact .inr rfl)) (pssx_cons (psx_up (psd_set (i := 3) sc_check_edit.nd rfl (by first | exact .inl rfl | exact .inr rfl) (ped_sub hu (ped_var 0) (ped_var 2) (fun _ _ => rfl))))
    (pssx_cons (psx_if (PWd.pt (pwd_or (ptd_not (ptd_val (ped_isi (T := .tuple) (by rfl) T.z_isinstance (by rfl) T.z_tuple (by decide +kernel) (ped_var 3)))) (pwd_or (ptd_cmp (opd_ne hu) (ped_callB calld_lenA (by rfl) T.z_len (by decide +kernel) (pad_cons (ped_var 3) pad_nil)) ped_int (nomark _)) (pwd_or (ptd_not (ptd_val (ped_call G_is_number (hr.mono (by omega)) (by rfl) T.m_is_number T.F_is_number.kp T.b_is_number (pad_cons (ped_sub hu (ped_var 3) ped_int (fun _ _ => rfl)) pad_nil) (alen_cons alen_nil)))) (pwd_or1 (ptd_not (ptd_val (ped_call G_is_number (hr.mono (by omega)) (by rfl) T.m_is_number T.F_is_number.kp T.b_is_number (pad_cons (ped_sub hu (ped_var 3) ped_int (fun _ _ => rfl)) pad_nil) (alen_cons alen_nil))))))))) (pssx_one (psx_raise rfl T.x_Wrong hr (takes_of rfl rfl rfl rfl) (ped_var 2) rfl)) (pssx_up pssd_nil))
    (pssx_cons (psx_if (ptd_not (ptd_val (ped_isi (T := .tuple) (by rfl) T.z_isinstance (by rfl) T.z_tuple (by decide +kernel) (ped_sub hu (ped_var 3) ped_int (fun _ _ => rfl))))) (pssx_one (psx_raise rfl T.x_Wrong hr (takes_of rfl rfl rfl rfl) (ped_var 2) rfl)) (pssx_up pssd_nil))
    (pssx_cons (psx_if (ptd_not (ptd_val (ped_callB (calld_all rfl) (by rfl) T.z_all (by decide +kernel) (pad_cons (ped_lc rfl sc_check_edit.nd (own := [("line", 4)]) (pid_any (ped_sub hu (ped_var 3) ped_int (fun _ _ => rfl))) (blkOk_by (own := [("line", 4)]) (N := n_check_edit) (sc := defScope s_check_edit) (by decide +kernel)) (fun _ _ _ _ _ => (pgd_name (i := 4) sc_check_edit.nd rfl (by first | exact .inl rfl | exact .inr rfl))) (fun _ _ _ _ _ => ptsd_nil) (fun _ _ _ _ _ => (ped_and (ped_isi (T := .str) (by rfl) T.z_isinstance (by rfl) T.z_str (by decide +kernel) (ped_var 4)) (ped_one (ped_notin hu ped_str (ped_var 4)))))) pad_nil)))) (pssx_one (psx_raise rfl T.x_Wrong hr (takes_of rfl rfl rfl rfl) (ped_var 2) rfl)) (pssx_up pssd_nil))
    (pssx_cons (psx_if (PWd.pt (pwd_or (ptd_cmp opd_gt (ped_bin opd_add (ped_sub hu (ped_var 3) ped_int (fun _ _ => rfl)) (ped_sub hu (ped_var 3) ped_int (fun _ _ => rfl))) (ped_var 1) (nomark _)) (pwd_or1 (PWd.pt (pwd_and (ptd_cmp (opd_eq hu) (ped_sub hu (ped_var 3) ped_int (fun _ _ => rfl)) ped_int (nomark _)) (pwd_and1 (ptd_cmp (opd_eq hu) (ped_callB calld_lenA (by rfl) T.z_len (by decide +kernel) (pad_cons (ped_sub hu (ped_var 3) ped_int (fun _ _ => rfl)) pad_nil)) ped_int (nomark _)))))))) (pssx_one (psx_raise rfl T.x_Wrong hr (takes_of rfl rfl rfl rfl) (ped_var 2) rfl)) (pssx_up pssd_nil))
    (pssx_one (psx_if (PWd.pt (pwd_and (ptd_cmp opd_gt (ped_var 2) ped_int (nomark _)) (pwd_and1 (ptd_cmp opd_le (ped_sub hu (ped_var 3) ped_int (fun _ _ => rfl)) (ped_bin opd_add (ped_sub hu (ped_sub hu (ped_var 0) (ped_bin opd_sub (ped_var 2) ped_int) (fun _ _ => rfl)) ped_int (fun _ _ => rfl)) (ped_sub hu (ped_sub hu (ped_var 0) (ped_bin opd_sub (ped_var 2) ped_int) (fun _ _ => rfl)) ped_int (fun _ _ => rfl))) (nomark _))))) (pssx_one (psx_raise rfl T.x_Wrong hr (takes_of rfl rfl rfl rfl) (ped_var 2) rfl)) (pssx_up pssd_nil)))))))))))
def b__law_told : SM := (sTry (gTup "wrong") 2 "Wrong" (sRetX (mTupX (aConsX (xUp (mC (.str "told"))) (aConsX (mCallX m_check_edit (aUp (aCons (mVar 0) (aCons (mVar 1) aNil)))) (aUp aNil))))))
def m__law_told : FM := mFun exitZ 3 b__law_told
theorem ok__law_told (T : Txt P K mg) (G_check_edit : FnOk P w K mg base (L2.CX P w) 2 T.a_check_edit T.d_check_edit ["edit", "many"] (spMX K mg m_check_edit 2)) : FnOk P w K mg base CX0 3 T.a__law_told T.d__law_told ["edit", "many"] (spM K m__law_told 2) := by
  refine fn_m (k := 2) (N := n__law_told) exitZ_ok T.F__law_told sc__law_told rfl rfl (by decide) fun cdv A outer s H E hr => ?_
  have hu := hu65 hr
  unfold b__law_told
  exact (pssd_one (psd_try_tup (i := 2) rfl rfl sc__law_told.nd rfl (by rfl) ⟨rfl, by decide, Or.inl T.x_Wrong.gC⟩ T.x_Wrong T.x_Wrong.te (by decide) (by decide) (fun W pn xe tk ho => (pssx_one (psx_ret (pex_tup (pax_cons (pex_up ped_str) (pax_cons (pex_call G_check_edit tk (hr.mono (by omega)) (by rfl) T.m_check_edit T.F_check_edit.kp T.b_check_edit (pax_up (pad_cons (ped_var 0) (pad_cons (ped_var 1) pad_nil))) (aUp_len (alen_cons (alen_cons alen_nil)))) (pax_up pad_nil)))))))))
def b_applied : SM := (sSeq (sEx (xNo (mCallX m_check_edit (aUp (aCons (mVar 1) (aCons (mCall gLenA (aCons (mVar 0) aNil)) aNil))))))
  (sSeq (sSet 2 (mLst aNil))
  (sSeq (sSet 3 (mC (.int 0)))
  (sSeq (sFor (iAny (mVar 1)) (gTu 3 (gsCons (gNm 4) (gsCons (gNm 5) (gsCons (gNm 6) gsNil)))) (sSeq (sSet 2 (mBin dAdd (mBin dAdd (mVar 2) (mCall gListA (aCons (mSl (mVar 0) (oSome (mVar 3)) (oSome (mVar 4))) aNil))) (mCall gListA (aCons (mVar 6) aNil))))
  (sSet 3 (mBin dAdd (mVar 4) (mVar 5)))))
  (sRet (mBin dAdd (mVar 2) (mCall gListA (aCons (mSl (mVar 0) (oSome (mVar 3)) oNone) aNil))))))))
def m_applied : FM := mFun exitZ 7 b_applied
theorem ok_applied (T : Txt P K mg) (G_check_edit : FnOk P w K mg base (L2.CX P w) 2 T.a_check_edit T.d_check_edit ["edit", "many"] (spMX K mg m_check_edit 2)) : FnOk P w K mg base CX0 3 T.a_applied T.d_applied ["lines", "edit"] (spM K m_applied 2) := by
  refine fn_m (k := 2) (N := n_applied) exitZ_ok T.F_applied sc_applied rfl rfl (by decide) fun cdv A outer s H E hr => ?_
  have hu := hu65 hr
  unfold b_applied
  exact (pssd_cons (psd_expr (ped_nx (pex_call G_check_edit takes0 (hr.mono (by omega)) (by rfl) T.m_check_edit T.F_check_edit.kp T.b_check_edit (pax_up (pad_cons (ped_var 1) (pad_cons (ped_callB calld_lenA (by rfl) T.z_len (by decide +kernel) (pad_cons (ped_var 0) pad_nil)) pad_nil))) (aUp_len (alen_cons (alen_cons alen_nil))))))
    (pssd_cons (psd_set (i := 2) sc_applied.nd rfl (by first | exact .inl rfl | exact .inr rfl) (ped_lst pad_nil))
    (pssd_cons (psd_set (i := 3) sc_applied.nd rfl (by first | exact .inl rfl | exact .inr rfl) ped_int)
    (pssd_cons (psd_for PassesOwn.never rfl (pid_any (ped_var 1)) (pgd_tup rfl (pgsd_cons (pgd_name (i := 4) sc_applied.nd rfl (by first | exact .inl rfl | exact .inr rfl)) (pgsd_cons (pgd_name (i := 5) sc_applied.nd rfl (by first | exact .inl rfl | exact .inr rfl)) (pgsd_cons (pgd_name (i := 6) sc_applied.nd rfl (by first | exact .inl rfl | exact .inr rfl)) pgsd_nil)))) (pssd_cons (psd_set (i := 2) sc_applied.nd rfl (by first | exact .inl rfl | exact .inr rfl) (ped_bin opd_add (ped_bin opd_add (ped_var 2) (ped_callT (calld_listA rfl) (by rfl) T.z_list (by decide +kernel) (pad_cons (ped_sl (ped_var 0) (pod_some (ped_var 3)) (pod_some (ped_var 4))) pad_nil))) (ped_callT (calld_listA rfl) (by rfl) T.z_list (by decide +kernel) (pad_cons (ped_var 6) pad_nil))))
    (pssd_one (psd_set (i := 3) sc_applied.nd rfl (by first | exact .inl rfl | exact .inr rfl) (ped_bin opd_add (ped_var 4) (ped_var 5))))))
    (pssd_one (psd_ret (ped_bin opd_add (ped_var 2) (ped_callT (calld_listA rfl) (by rfl) T.z_list (by decide +kernel) (pad_cons (ped_sl (ped_var 0) (pod_some (ped_var 3)) pod_none) pad_nil)))))))))
def b_kept_pairs : SM := (sSeq (sAsg (mTup (aCons (mCall gLenA (aCons (mVar 0) aNil)) (aCons (mCall gLenA (aCons (mVar 1) aNil)) aNil))) (gTu 2 (gsCons (gNm 2) (gsCons (gNm 3) gsNil))))
  (sSeq (sSet 4 (mLCP [9] (iRange (aCons (mBin dAdd (mVar 2) (mC (.int 1))) aNil)) (gNm 9) bYes (mRepC (mLstC (aCons (mC (.int 0)) aNil)) (mBin dAdd (mVar 3) (mC (.int 1))))))
  (sSeq (sFor (iRange3 (aCons (mBin dSub (mVar 2) (mC (.int 1))) (aCons (mUn dNeg (mC (.int 1))) (aCons (mUn dNeg (mC (.int 1))) aNil)))) (gNm 5) (sFor (iRange3 (aCons (mBin dSub (mVar 3) (mC (.int 1))) (aCons (mUn dNeg (mC (.int 1))) (aCons (mUn dNeg (mC (.int 1))) aNil)))) (gNm 6) (sIf (mTB (mBin dEq (mSub (mVar 0) (mVar 5)) (mSub (mVar 1) (mVar 6)))) (sAsg (mBin dAdd (mSub (mSubP (mVar 4) (mBin dAdd (mVar 5) (mC (.int 1)))) (mBin dAdd (mVar 6) (mC (.int 1)))) (mC (.int 1))) (gIx (mSubP (mVar 4) (mVar 5)) (mVar 6))) (sAsg (mCall gMax2 (aCons (mSub (mSubP (mVar 4) (mBin dAdd (mVar 5) (mC (.int 1)))) (mVar 6)) (aCons (mSub (mSubP (mVar 4) (mVar 5)) (mBin dAdd (mVar 6) (mC (.int 1)))) aNil))) (gIx (mSubP (mVar 4) (mVar 5)) (mVar 6))))))
  (sSeq (sSet 7 (mLstC aNil))
  (sSeq (sAsg (mTup (aCons (mC (.int 0)) (aCons (mC (.int 0)) aNil))) (gTu 2 (gsCons (gNm 5) (gsCons (gNm 6) gsNil))))
  (sSeq (whGo (mTB (mBin dGt (mSub (mSubP (mVar 4) (mVar 5)) (mVar 6)) (mC (.int 0)))) (sSeq (sFor (iRange (aCons (mVar 6) (aCons (mVar 3) aNil))) (gNm 8) (sIf (mAndB (mTB (mBin dEq (mSub (mVar 0) (mVar 5)) (mSub (mVar 1) (mVar 8)))) (mTB (mBin dEq (mBin dAdd (mSub (mSubP (mVar 4) (mBin dAdd (mVar 5) (mC (.int 1)))) (mBin dAdd (mVar 8) (mC (.int 1)))) (mC (.int 1))) (mSub (mSubP (mVar 4) (mVar 5)) (mVar 6))))) (sSeq (sEx (mApp (mVar 7) (mTup (aCons (mVar 5) (aCons (mVar 8) aNil)))))
  (sSeq (sSet 6 (mBin dAdd (mVar 8) (mC (.int 1))))
  sBk)) sNx))
  (sAug 5 (dI fun i j => some (.int (i + j))) (mC (.int 1)))) 100000)
  (sRet (mVar 7))))))))
def m_kept_pairs : FM := mFun exitZ 10 b_kept_pairs
theorem ok_kept_pairs (T : Txt P K mg)  : FnOk P w K mg base CX0 1 T.a_kept_pairs T.d_kept_pairs ["lines", "other"] (spM K m_kept_pairs 2) := by
  refine fn_m (k := 0) (N := n_kept_pairs) exitZ_ok T.F_kept_pairs sc_kept_pairs rfl rfl (by decide) fun cdv A outer s H E hr => ?_
  have hu := hu65 hr
  unfold b_kept_pairs
  exact (pssd_cons (psd_asg (ped_tup (pad_cons (ped_callB calld_lenA (by rfl) T.z_len (by decide +kernel) (pad_cons (ped_var 0) pad_nil)) (pad_cons (ped_callB calld_lenA (by rfl) T.z_len (by decide +kernel) (pad_cons (ped_var 1) pad_nil)) pad_nil))) (pgd_tup rfl (pgsd_cons (pgd_name (i := 2) sc_kept_pairs.nd rfl (by first | exact .inl rfl | exact .inr rfl)) (pgsd_cons (pgd_name (i := 3) sc_kept_pairs.nd rfl (by first | exact .inl rfl | exact .inr rfl)) pgsd_nil))))
    (pssd_cons (psd_setLcP (i := 4) rfl sc_kept_pairs.nd rfl rfl (sw_true rfl rfl rfl (by decide +kernel)) (own := [("_", 9)]) (pid_range1 (by rfl) T.z_range (ped_bin opd_add (ped_var 2) ped_int)) (blkOk_by (own := [("_", 9)]) (N := n_kept_pairs) (sc := defScope s_kept_pairs) (by decide +kernel)) (fun _ _ _ _ _ => (pgd_name (i := 9) sc_kept_pairs.nd rfl (by first | exact .inl rfl | exact .inr rfl))) (fun _ _ _ _ _ => ptsd_nil) (fun _ _ _ _ _ => (ped_repC (ped_lstC (pad_cons ped_int pad_nil)) (ped_bin opd_add (ped_var 3) ped_int))))
    (pssd_cons (psd_for PassesOwn.never rfl (pid_range3 (by rfl) T.z_range (ped_bin opd_sub (ped_var 2) ped_int) (ped_neg ped_int) (ped_neg ped_int)) (pgd_name (i := 5) sc_kept_pairs.nd rfl (by first | exact .inl rfl | exact .inr rfl)) (pssd_one (psd_for PassesOwn.never rfl (pid_range3 (by rfl) T.z_range (ped_bin opd_sub (ped_var 3) ped_int) (ped_neg ped_int) (ped_neg ped_int)) (pgd_name (i := 6) sc_kept_pairs.nd rfl (by first | exact .inl rfl | exact .inr rfl)) (pssd_one (psd_if (ptd_cmp (opd_eq hu) (ped_sub hu (ped_var 0) (ped_var 5) (fun _ _ => rfl)) (ped_sub hu (ped_var 1) (ped_var 6) (fun _ _ => rfl)) (nomark _)) (pssd_one (psd_asg (ped_bin opd_add (ped_sub hu (ped_subP (ped_var 4) (ped_bin opd_add (ped_var 5) ped_int) (fun _ _ => rfl)) (ped_bin opd_add (ped_var 6) ped_int) (fun _ _ => rfl)) ped_int) (pgd_ix (ped_subP (ped_var 4) (ped_var 5) (fun _ _ => rfl)) (ped_var 6)))) (pssd_one (psd_asg (ped_callB (calld_max2 rfl) (by rfl) T.z_max (by decide +kernel) (pad_cons (ped_sub hu (ped_subP (ped_var 4) (ped_bin opd_add (ped_var 5) ped_int) (fun _ _ => rfl)) (ped_var 6) (fun _ _ => rfl)) (pad_cons (ped_sub hu (ped_subP (ped_var 4) (ped_var 5) (fun _ _ => rfl)) (ped_bin opd_add (ped_var 6) ped_int) (fun _ _ => rfl)) pad_nil))) (pgd_ix (ped_subP (ped_var 4) (ped_var 5) (fun _ _ => rfl)) (ped_var 6)))))))))
    (pssd_cons (psd_set (i := 7) sc_kept_pairs.nd rfl (by first | exact .inl rfl | exact .inr rfl) (ped_lstC pad_nil))
    (pssd_cons (psd_asg (ped_tup (pad_cons ped_int (pad_cons ped_int pad_nil))) (pgd_tup rfl (pgsd_cons (pgd_name (i := 5) sc_kept_pairs.nd rfl (by first | exact .inl rfl | exact .inr rfl)) (pgsd_cons (pgd_name (i := 6) sc_kept_pairs.nd rfl (by first | exact .inl rfl | exact .inr rfl)) pgsd_nil))))
    (pssd_cons (psd_while 100000 PassesOwn.never (ptd_cmp opd_gt (ped_sub hu (ped_subP (ped_var 4) (ped_var 5) (fun _ _ => rfl)) (ped_var 6) (fun _ _ => rfl)) ped_int (nomark _)) (pssd_cons (psd_for PassesOwn.never rfl (pid_range2 (by rfl) T.z_range (ped_var 6) (ped_var 3)) (pgd_name (i := 8) sc_kept_pairs.nd rfl (by first | exact .inl rfl | exact .inr rfl)) (pssd_one (psd_if (PWd.pt (pwd_and (ptd_cmp (opd_eq hu) (ped_sub hu (ped_var 0) (ped_var 5) (fun _ _ => rfl)) (ped_sub hu (ped_var 1) (ped_var 8) (fun _ _ => rfl)) (nomark _)) (pwd_and1 (ptd_cmp (opd_eq hu) (ped_bin opd_add (ped_sub hu (ped_subP (ped_var 4) (ped_bin opd_add (ped_var 5) ped_int) (fun _ _ => rfl)) (ped_bin opd_add (ped_var 8) ped_int) (fun _ _ => rfl)) ped_int) (ped_sub hu (ped_subP (ped_var 4) (ped_var 5) (fun _ _ => rfl)) (ped_var 6) (fun _ _ => rfl)) (nomark _))))) (pssd_cons (psd_expr (ped_append (ped_var 7) (ped_tup (pad_cons (ped_var 5) (pad_cons (ped_var 8) pad_nil)))))
    (pssd_cons (psd_set (i := 6) sc_kept_pairs.nd rfl (by first | exact .inl rfl | exact .inr rfl) (ped_bin opd_add (ped_var 8) ped_int))
    (pssd_one psd_break))) pssd_nil)))
    (pssd_one (psd_augI (i := 5) sc_kept_pairs.nd rfl (by first | exact .inl rfl | exact .inr rfl) ped_int ip_add))))
    (pssd_one (psd_ret (ped_var 7)))))))))
def b_edit_of : SM := (sSeq (sSet 2 (mLstC aNil))
  (sSeq (sAsg (mTup (aCons (mC (.int 0)) (aCons (mC (.int 0)) aNil))) (gTu 2 (gsCons (gNm 3) (gsCons (gNm 4) gsNil))))
  (sSeq (sFor (iAny (mBin dAdd (mCallF m_kept_pairs (aCons (mVar 0) (aCons (mVar 1) aNil))) (mLst (aCons (mTup (aCons (mCall gLenA (aCons (mVar 0) aNil)) (aCons (mCall gLenA (aCons (mVar 1) aNil)) aNil))) aNil)))) (gTu 2 (gsCons (gNm 5) (gsCons (gNm 6) gsNil))) (sSeq (sIf (mOrB (mTB (mBin dGt (mVar 5) (mVar 3))) (mTB (mBin dGt (mVar 6) (mVar 4)))) (sEx (mApp (mVar 2) (mTup (aCons (mVar 3) (aCons (mBin dSub (mVar 5) (mVar 3)) (aCons (mCall gTuple (aCons (mSl (mVar 1) (oSome (mVar 4)) (oSome (mVar 6))) aNil)) aNil)))))) sNx)
  (sPar 3 4 (aCons (mBin dAdd (mVar 5) (mC (.int 1))) (aCons (mBin dAdd (mVar 6) (mC (.int 1))) aNil)))))
  (sRet (mCall gTuple (aCons (mVar 2) aNil))))))
def m_edit_of : FM := mFun exitZ 7 b_edit_of
theorem ok_edit_of (T : Txt P K mg) (G_kept_pairs : FnOk P w K mg base CX0 1 T.a_kept_pairs T.d_kept_pairs ["lines", "other"] (spM K m_kept_pairs 2)) : FnOk P w K mg base CX0 2 T.a_edit_of T.d_edit_of ["lines", "other"] (spM K m_edit_of 2) := by
  refine fn_m (k := 1) (N := n_edit_of) exitZ_ok T.F_edit_of sc_edit_of rfl rfl (by decide) fun cdv A outer s H E hr => ?_
  have hu := hu65 hr
  unfold b_edit_of
  exact (pssd_cons (psd_set (i := 2) sc_edit_of.nd rfl (by first | exact .inl rfl | exact .inr rfl) (ped_lstC pad_nil))
    (pssd_cons (psd_asg (ped_tup (pad_cons ped_int (pad_cons ped_int pad_nil))) (pgd_tup rfl (pgsd_cons (pgd_name (i := 3) sc_edit_of.nd rfl (by first | exact .inl rfl | exact .inr rfl)) (pgsd_cons (pgd_name (i := 4) sc_edit_of.nd rfl (by first | exact .inl rfl | exact .inr rfl)) pgsd_nil))))
    (pssd_cons (psd_for PassesOwn.never rfl (pid_any (ped_bin opd_add (ped_call G_kept_pairs (hr.mono (by omega)) (by rfl) T.m_kept_pairs T.F_kept_pairs.kp T.b_kept_pairs (pad_cons (ped_var 0) (pad_cons (ped_var 1) pad_nil)) (alen_cons (alen_cons alen_nil))) (ped_lst (pad_cons (ped_tup (pad_cons (ped_callB calld_lenA (by rfl) T.z_len (by decide +kernel) (pad_cons (ped_var 0) pad_nil)) (pad_cons (ped_callB calld_lenA (by rfl) T.z_len (by decide +kernel) (pad_cons (ped_var 1) pad_nil)) pad_nil))) pad_nil)))) (pgd_tup rfl (pgsd_cons (pgd_name (i := 5) sc_edit_of.nd rfl (by first | exact .inl rfl | exact .inr rfl)) (pgsd_cons (pgd_name (i := 6) sc_edit_of.nd rfl (by first | exact .inl rfl | exact .inr rfl)) pgsd_nil))) (pssd_cons (psd_if (PWd.pt (pwd_or (ptd_cmp opd_gt (ped_var 5) (ped_var 3) (nomark _)) (pwd_or1 (ptd_cmp opd_gt (ped_var 6) (ped_var 4) (nomark _))))) (pssd_one (psd_expr (ped_append (ped_var 2) (ped_tup (pad_cons (ped_var 3) (pad_cons (ped_bin opd_sub (ped_var 5) (ped_var 3)) (pad_cons (ped_callT calld_tuple (by rfl) T.z_tuple (by decide +kernel) (pad_cons (ped_sl (ped_var 1) (pod_some (ped_var 4)) (pod_some (ped_var 6))) pad_nil)) pad_nil))))))) pssd_nil)
    (pssd_one (psd_par (i := 3) (j := 4) rfl sc_edit_of.nd rfl rfl (by decide) rfl rfl (pad_cons (ped_bin opd_add (ped_var 5) ped_int) (pad_cons (ped_bin opd_add (ped_var 6) ped_int) pad_nil)) (by rfl)))))
    (pssd_one (psd_ret (ped_callT calld_tuple (by rfl) T.z_tuple (by decide +kernel) (pad_cons (ped_var 2) pad_nil)))))))
def b_undone : SM := (sSeq (sEx (xNo (mCallX m_check_edit (aUp (aCons (mVar 1) (aCons (mCall gLenA (aCons (mVar 0) aNil)) aNil))))))
  (sSeq (sSet 2 (mLstC aNil))
  (sSeq (sSet 3 (mC (.int 0)))
  (sSeq (sFor (iAny (mVar 1)) (gTu 3 (gsCons (gNm 4) (gsCons (gNm 5) (gsCons (gNm 6) gsNil)))) (sSeq (sEx (mApp (mVar 2) (mTup (aCons (mBin dAdd (mVar 4) (mVar 3)) (aCons (mCall gLenA (aCons (mVar 6) aNil)) (aCons (mCall gTuple (aCons (mSl (mVar 0) (oSome (mVar 4)) (oSome (mBin dAdd (mVar 4) (mVar 5)))) aNil)) aNil))))))
  (sAug 3 (dI fun i j => some (.int (i + j))) (mBin dSub (mCall gLenA (aCons (mVar 6) aNil)) (mVar 5)))))
  (sRet (mCall gTuple (aCons (mVar 2) aNil)))))))
def m_undone : FM := mFun exitZ 7 b_undone
theorem ok_undone (T : Txt P K mg) (G_check_edit : FnOk P w K mg base (L2.CX P w) 2 T.a_check_edit T.d_check_edit ["edit", "many"] (spMX K mg m_check_edit 2)) : FnOk P w K mg base CX0 3 T.a_undone T.d_undone ["lines", "edit"] (spM K m_undone 2) := by
  refine fn_m (k := 2) (N := n_undone) exitZ_ok T.F_undone sc_undone rfl rfl (by decide) fun cdv A outer s H E hr => ?_
  have hu := hu65 hr
  unfold b_undone
  exact (pssd_cons (psd_expr (ped_nx (pex_call G_check_edit takes0 (hr.mono (by omega)) (by rfl) T.m_check_edit T.F_check_edit.kp T.b_check_edit (pax_up (pad_cons (ped_var 1) (pad_cons (ped_callB calld_lenA (by rfl) T.z_len (by decide +kernel) (pad_cons (ped_var 0) pad_nil)) pad_nil))) (aUp_len (alen_cons (alen_cons alen_nil))))))
    (pssd_cons (psd_set (i := 2) sc_undone.nd rfl (by first | exact .inl rfl | exact .inr rfl) (ped_lstC pad_nil))
    (pssd_cons (psd_set (i := 3) sc_undone.nd rfl (by first | exact .inl rfl | exact .inr rfl) ped_int)
    (pssd_cons (psd_for PassesOwn.never rfl (pid_any (ped_var 1)) (pgd_tup rfl (pgsd_cons (pgd_name (i := 4) sc_undone.nd rfl (by first | exact .inl rfl | exact .inr rfl)) (pgsd_cons (pgd_name (i := 5) sc_undone.nd rfl (by first | exact .inl rfl | exact .inr rfl)) (pgsd_cons (pgd_name (i := 6) sc_undone.nd rfl (by first | exact .inl rfl | exact .inr rfl)) pgsd_nil)))) (pssd_cons (psd_expr (ped_append (ped_var 2) (ped_tup (pad_cons (ped_bin opd_add (ped_var 4) (ped_var 3)) (pad_cons (ped_callB calld_lenA (by rfl) T.z_len (by decide +kernel) (pad_cons (ped_var 6) pad_nil)) (pad_cons (ped_callT calld_tuple (by rfl) T.z_tuple (by decide +kernel) (pad_cons (ped_sl (ped_var 0) (pod_some (ped_var 4)) (pod_some (ped_bin opd_add (ped_var 4) (ped_var 5)))) pad_nil)) pad_nil))))))
    (pssd_one (psd_augI (i := 3) sc_undone.nd rfl (by first | exact .inl rfl | exact .inr rfl) (ped_bin opd_sub (ped_callB calld_lenA (by rfl) T.z_len (by decide +kernel) (pad_cons (ped_var 6) pad_nil)) (ped_var 5)) ip_add))))
    (pssd_one (psd_ret (ped_callT calld_tuple (by rfl) T.z_tuple (by decide +kernel) (pad_cons (ped_var 2) pad_nil))))))))
def b_law : SM := (sSeq (sSet 1 (mCallF m__law_draws (aCons (mVar 0) aNil)))
  (sSeq (sFor (iRange (aCons (mC (.int 5)) aNil)) (gNm 2) (sSeq (sSet 3 (mCallF m__law_lines_of (aCons (mVar 1) (aCons (mC (.int 7)) aNil))))
  (sSeq (sSet 4 (mCallF m__law_edit (aCons (mVar 1) (aCons (mVar 3) aNil))))
  (sSeq (sSet 5 (mCallF m__law_applied (aCons (mVar 3) (aCons (mVar 4) aNil))))
  (sSeq (sSet 6 (mCallF (m__law_copy 40) (aCons (mLst (aCons (mVar 3) (aCons (mVar 4) aNil))) aNil)))
  (sSeq (sIf (mNotB (mTB (mCallF (m__law_same 40) (aCons (mLst (aCons (mCallF m_applied (aCons (mSub (mVar 6) (mC (.int 0))) (aCons (mSub (mVar 6) (mC (.int 1))) aNil))) (aCons (mCallF m__law_told (aCons (mSub (mVar 6) (mC (.int 1))) (aCons (mCall gLenA (aCons (mVar 3) aNil)) aNil))) (aCons (mVar 6) aNil)))) (aCons (mLst (aCons (mVar 5) (aCons (mTup (aCons (mC (.str "told")) (aCons (mC .none) aNil))) (aCons (mLst (aCons (mVar 3) (aCons (mVar 4) aNil))) aNil)))) aNil))))) (sRet (mC (.bool false))) sNx)
  (sSeq (sSet 7 (mCallF m_undone (aCons (mSub (mVar 6) (mC (.int 0))) (aCons (mSub (mVar 6) (mC (.int 1))) aNil))))
  (sSeq (sIf (mNotB (mTB (mCallF (m__law_same 40) (aCons (mLst (aCons (mCallF m__law_told (aCons (mVar 7) (aCons (mCall gLenA (aCons (mVar 5) aNil)) aNil))) (aCons (mCallF m_applied (aCons (mCall gListA (aCons (mVar 5) aNil)) (aCons (mVar 7) aNil))) (aCons (mCallF m_undone (aCons (mCall gListA (aCons (mVar 5) aNil)) (aCons (mVar 7) aNil))) aNil)))) (aCons (mLst (aCons (mTup (aCons (mC (.str "told")) (aCons (mC .none) aNil))) (aCons (mVar 3) (aCons (mVar 4) aNil)))) aNil))))) (sRet (mC (.bool false))) sNx)
  (sSeq (sSet 8 (mCallF m__law_draw (aCons (mVar 1) (aCons (mBin dAdd (mCall gLenA (aCons (mVar 4) aNil)) (mC (.int 1))) aNil))))
  (sSeq (sSet 9 (mLst (aCons (mC .none) (aCons (mTup (aCons (mC (.int 0)) (aCons (mC (.int 0)) (aCons (mTup aNil) aNil)))) (aCons (mTup (aCons (mC (.int 0)) (aCons (mC (.int 1)) aNil))) (aCons (mTup (aCons (mUn dNeg (mC (.int 1))) (aCons (mC (.int 0)) (aCons (mTup (aCons (mC (.str "a")) aNil)) aNil)))) (aCons (mTup (aCons (mCall gLenA (aCons (mVar 3) aNil)) (aCons (mC (.int 1)) (aCons (mTup aNil) aNil)))) (aCons (mTup (aCons (mBin dAdd (mCall gLenA (aCons (mVar 3) aNil)) (mC (.int 1))) (aCons (mC (.int 0)) (aCons (mTup (aCons (mC (.str "a")) aNil)) aNil)))) (aCons (mTup (aCons (mC (.int 0)) (aCons (mC (.int 0)) (aCons (mLst (aCons (mC (.str "a")) aNil)) aNil)))) aNil)))))))))
  (sSeq (sSet 9 (mSub (mBin dAdd (mVar 9) (mLst (aCons (mTup (aCons (mC (.int 0)) (aCons (mC (.int 0)) (aCons (mTup (aCons (mC (.str "a\n")) aNil)) aNil)))) (aCons (mTup (aCons (mC (.int 0)) (aCons (mC (.int 0)) (aCons (mTup (aCons (mC .none) aNil)) aNil)))) (aCons (mTup (aCons (mC (.bool true)) (aCons (mC (.int 0)) (aCons (mTup (aCons (mC (.str "a")) aNil)) aNil)))) (aCons (mTup (aCons (mC (.int 0)) (aCons (mC .none) (aCons (mTup (aCons (mC (.str "a")) aNil)) aNil)))) aNil)))))) (mCallF m__law_draw (aCons (mVar 1) (aCons (mC (.int 11)) aNil)))))
  (sSeq (sIf (mNotB (mTB (mCallF (m__law_same 40) (aCons (mCallF m__law_told (aCons (mBin dAdd (mBin dAdd (mSl (mVar 4) oNone (oSome (mVar 8))) (mTup (aCons (mVar 9) aNil))) (mSl (mVar 4) (oSome (mVar 8)) oNone)) (aCons (mCall gLenA (aCons (mVar 3) aNil)) aNil))) (aCons (mTup (aCons (mC (.str "wrong")) (aCons (mVar 8) aNil))) aNil))))) (sRet (mC (.bool false))) sNx)
  (sSeq (sIf (mTB (mBin dGt (mCall gLenA (aCons (mVar 4) aNil)) (mC (.int 0)))) (sSeq (sSet 10 (mSub (mVar 4) (mUn dNeg (mC (.int 1)))))
  (sSeq (sSet 11 (mTup (aCons (mBin dAdd (mSub (mVar 10) (mC (.int 0))) (mSub (mVar 10) (mC (.int 1)))) (aCons (mC (.int 0)) (aCons (mTup (aCons (mC (.str "z")) aNil)) aNil)))))
  (sIf (mOrB (mNotB (mTB (mCallF (m__law_same 40) (aCons (mCallF m__law_told (aCons (mBin dAdd (mVar 4) (mTup (aCons (mVar 11) aNil))) (aCons (mCall gLenA (aCons (mVar 3) aNil)) aNil))) (aCons (mTup (aCons (mC (.str "wrong")) (aCons (mCall gLenA (aCons (mVar 4) aNil)) aNil))) aNil))))) (mNotB (mTB (mCallF (m__law_same 40) (aCons (mCallF m__law_told (aCons (mCall gListA (aCons (mVar 4) aNil)) (aCons (mCall gLenA (aCons (mVar 3) aNil)) aNil))) (aCons (mTup (aCons (mC (.str "wrong")) (aCons (mUn dNeg (mC (.int 1))) aNil))) aNil)))))) (sRet (mC (.bool false))) sNx))) sNx)
  (sSeq (sPar 12 13 (aCons (mCallF m__law_lines_of (aCons (mVar 1) (aCons (mC (.int 5)) aNil))) (aCons (mCallF m__law_lines_of (aCons (mVar 1) (aCons (mC (.int 5)) aNil))) aNil)))
  (sSeq (sSet 14 (mCallF m__law_kept (aCons (mVar 12) (aCons (mVar 13) aNil))))
  (sSeq (sSet 6 (mCallF (m__law_copy 40) (aCons (mLst (aCons (mVar 12) (aCons (mVar 13) aNil))) aNil)))
  (sSeq (sSet 5 (mCallF m__law_edit_of (aCons (mVar 12) (aCons (mVar 13) (aCons (mVar 14) aNil)))))
  (sSeq (sIf (mNotB (mTB (mCallF (m__law_same 40) (aCons (mLst (aCons (mCallF m_kept_pairs (aCons (mSub (mVar 6) (mC (.int 0))) (aCons (mSub (mVar 6) (mC (.int 1))) aNil))) (aCons (mCallF m_edit_of (aCons (mSub (mVar 6) (mC (.int 0))) (aCons (mSub (mVar 6) (mC (.int 1))) aNil))) (aCons (mVar 6) aNil)))) (aCons (mLst (aCons (mVar 14) (aCons (mVar 5) (aCons (mLst (aCons (mVar 12) (aCons (mVar 13) aNil))) aNil)))) aNil))))) (sRet (mC (.bool false))) sNx)
  (sIf (mNotB (mTB (mCallF (m__law_same 40) (aCons (mCallF m__law_applied (aCons (mVar 12) (aCons (mVar 5) aNil))) (aCons (mVar 13) aNil))))) (sRet (mC (.bool false))) sNx)))))))))))))))))))
  (sRet (mCallF (m__law_same 40) (aCons (mLst (aCons (mCallF m_edit_of (aCons (mLst (aCons (mC (.str "a")) (aCons (mC (.str "b")) aNil))) (aCons (mLst (aCons (mC (.str "a")) (aCons (mC (.str "b")) aNil))) aNil))) (aCons (mCallF m_edit_of (aCons (mLst aNil) (aCons (mLst (aCons (mC (.str "x")) aNil)) aNil))) (aCons (mCallF m_edit_of (aCons (mLst (aCons (mC (.str "x")) aNil)) (aCons (mLst aNil) aNil))) aNil)))) (aCons (mLst (aCons (mTup aNil) (aCons (mTup (aCons (mTup (aCons (mC (.int 0)) (aCons (mC (.int 0)) (aCons (mTup (aCons (mC (.str "x")) aNil)) aNil)))) aNil)) (aCons (mTup (aCons (mTup (aCons (mC (.int 0)) (aCons (mC (.int 1)) (aCons (mTup aNil) aNil)))) aNil)) aNil)))) aNil))))))
def m_law : FM := mFun exitZ 15 b_law
theorem ok_law (T : Txt P K mg) (G__law_applied : FnOk P w K mg base CX0 1 T.a__law_applied T.d__law_applied ["lines", "edit"] (spM K m__law_applied 2)) (G__law_copy : FnOk P w K mg base CX0 40 T.a__law_copy T.d__law_copy ["thing"] (spM K (m__law_copy 40) 1)) (G__law_draw : FnOk P w K mg base CX0 1 T.a__law_draw T.d__law_draw ["draws", "limit"] (spM K m__law_draw 2)) (G__law_draws : FnOk P w K mg base CX0 1 T.a__law_draws T.d__law_draws ["script"] (spM K m__law_draws 1)) (G__law_edit : FnOk P w K mg base CX0 2 T.a__law_edit T.d__law_edit ["draws", "lines"] (spM K m__law_edit 2)) (G__law_edit_of : FnOk P w K mg base CX0 1 T.a__law_edit_of T.d__law_edit_of ["lines", "other", "pairs"] (spM K m__law_edit_of 3)) (G__law_kept : FnOk P w K mg base CX0 2 T.a__law_kept T.d__law_kept ["lines", "other"] (spM K m__law_kept 2)) (G__law_lines_of : FnOk P w K mg base CX0 2 T.a__law_lines_of T.d__law_lines_of ["draws", "many"] (spM K m__law_lines_of 2)) (G__law_same : FnOk P w K mg base CX0 40 T.a__law_same T.d__law_same ["x", "due"] (spM K (m__law_same 40) 2)) (G__law_told : FnOk P w K mg base CX0 3 T.a__law_told T.d__law_told ["edit", "many"] (spM K m__law_told 2)) (G_applied : FnOk P w K mg base CX0 3 T.a_applied T.d_applied ["lines", "edit"] (spM K m_applied 2)) (G_edit_of : FnOk P w K mg base CX0 2 T.a_edit_of T.d_edit_of ["lines", "other"] (spM K m_edit_of 2)) (G_kept_pairs : FnOk P w K mg base CX0 1 T.a_kept_pairs T.d_kept_pairs ["lines", "other"] (spM K m_kept_pairs 2)) (G_undone : FnOk P w K mg base CX0 3 T.a_undone T.d_undone ["lines", "edit"] (spM K m_undone 2)) : FnOk P w K mg base CX0 41 T.a_law T.d_law ["script"] (spM K m_law 1) := by
  refine fn_m (k := 40) (N := n_law) exitZ_ok T.F_law sc_law rfl rfl (by decide) fun cdv A outer s H E hr => ?_
  have hu := hu65 hr
  unfold b_law
  exact (pssd_cons (psd_set (i := 1) sc_law.nd rfl (by first | exact .inl rfl | exact .inr rfl) (ped_call G__law_draws (hr.mono (by omega)) (by rfl) T.m__law_draws T.F__law_draws.kp T.b__law_draws (pad_cons (ped_var 0) pad_nil) (alen_cons alen_nil)))
    (pssd_cons (psd_for PassesOwn.never rfl (pid_range1 (by rfl) T.z_range ped_int) (pgd_name (i := 2) sc_law.nd rfl (by first | exact .inl rfl | exact .inr rfl)) (pssd_cons (psd_set (i := 3) sc_law.nd rfl (by first | exact .inl rfl | exact .inr rfl) (ped_call G__law_lines_of (hr.mono (by omega)) (by rfl) T.m__law_lines_of T.F__law_lines_of.kp T.b__law_lines_of (pad_cons (ped_var 1) (pad_cons ped_int pad_nil)) (alen_cons (alen_cons alen_nil))))
    (pssd_cons (psd_set (i := 4) sc_law.nd rfl (by first | exact .inl rfl | exact .inr rfl) (ped_call G__law_edit (hr.mono (by omega)) (by rfl) T.m__law_edit T.F__law_edit.kp T.b__law_edit (pad_cons (ped_var 1) (pad_cons (ped_var 3) pad_nil)) (alen_cons (alen_cons alen_nil))))
    (pssd_cons (psd_set (i := 5) sc_law.nd rfl (by first | exact .inl rfl | exact .inr rfl) (ped_call G__law_applied (hr.mono (by omega)) (by rfl) T.m__law_applied T.F__law_applied.kp T.b__law_applied (pad_cons (ped_var 3) (pad_cons (ped_var 4) pad_nil)) (alen_cons (alen_cons alen_nil))))
    (pssd_cons (psd_set (i := 6) sc_law.nd rfl (by first | exact .inl rfl | exact .inr rfl) (ped_call G__law_copy (hr.mono (by omega)) (by rfl) T.m__law_copy T.F__law_copy.kp T.b__law_copy (pad_cons (ped_lst (pad_cons (ped_var 3) (pad_cons (ped_var 4) pad_nil))) pad_nil) (alen_cons alen_nil)))
    (pssd_cons (psd_if (ptd_not (ptd_val (ped_call G__law_same (hr.mono (by omega)) (by rfl) T.m__law_same T.F__law_same.kp T.b__law_same (pad_cons (ped_lst (pad_cons (ped_call G_applied (hr.mono (by omega)) (by rfl) T.m_applied T.F_applied.kp T.b_applied (pad_cons (ped_sub hu (ped_var 6) ped_int (fun _ _ => rfl)) (pad_cons (ped_sub hu (ped_var 6) ped_int (fun _ _ => rfl)) pad_nil)) (alen_cons (alen_cons alen_nil))) (pad_cons (ped_call G__law_told (hr.mono (by omega)) (by rfl) T.m__law_told T.F__law_told.kp T.b__law_told (pad_cons (ped_sub hu (ped_var 6) ped_int (fun _ _ => rfl)) (pad_cons (ped_callB calld_lenA (by rfl) T.z_len (by decide +kernel) (pad_cons (ped_var 3) pad_nil)) pad_nil)) (alen_cons (alen_cons alen_nil))) (pad_cons (ped_var 6) pad_nil)))) (pad_cons (ped_lst (pad_cons (ped_var 5) (pad_cons (ped_tup (pad_cons ped_str (pad_cons ped_non pad_nil))) (pad_cons (ped_lst (pad_cons (ped_var 3) (pad_cons (ped_var 4) pad_nil))) pad_nil)))) pad_nil)) (alen_cons (alen_cons alen_nil))))) (pssd_one (psd_ret ped_bl)) pssd_nil)
    (pssd_cons (psd_set (i := 7) sc_law.nd rfl (by first | exact .inl rfl | exact .inr rfl) (ped_call G_undone (hr.mono (by omega)) (by rfl) T.m_undone T.F_undone.kp T.b_undone (pad_cons (ped_sub hu (ped_var 6) ped_int (fun _ _ => rfl)) (pad_cons (ped_sub hu (ped_var 6) ped_int (fun _ _ => rfl)) pad_nil)) (alen_cons (alen_cons alen_nil))))
    (pssd_cons (psd_if (ptd_not (ptd_val (ped_call G__law_same (hr.mono (by omega)) (by rfl) T.m__law_same T.F__law_same.kp T.b__law_same (pad_cons (ped_lst (pad_cons (ped_call G__law_told (hr.mono (by omega)) (by rfl) T.m__law_told T.F__law_told.kp T.b__law_told (pad_cons (ped_var 7) (pad_cons (ped_callB calld_lenA (by rfl) T.z_len (by decide +kernel) (pad_cons (ped_var 5) pad_nil)) pad_nil)) (alen_cons (alen_cons alen_nil))) (pad_cons (ped_call G_applied (hr.mono (by omega)) (by rfl) T.m_applied T.F_applied.kp T.b_applied (pad_cons (ped_callT (calld_listA rfl) (by rfl) T.z_list (by decide +kernel) (pad_cons (ped_var 5) pad_nil)) (pad_cons (ped_var 7) pad_nil)) (alen_cons (alen_cons alen_nil))) (pad_cons (ped_call G_undone (hr.mono (by omega)) (by rfl) T.m_undone T.F_undone.kp T.b_undone (pad_cons (ped_callT (calld_listA rfl) (by rfl) T.z_list (by decide +kernel) (pad_cons (ped_var 5) pad_nil)) (pad_cons (ped_var 7) pad_nil)) (alen_cons (alen_cons alen_nil))) pad_nil)))) (pad_cons (ped_lst (pad_cons (ped_tup (pad_cons ped_str (pad_cons ped_non pad_nil))) (pad_cons (ped_var 3) (pad_cons (ped_var 4) pad_nil)))) pad_nil)) (alen_cons (alen_cons alen_nil))))) (pssd_one (psd_ret ped_bl)) pssd_nil)
    (pssd_cons (psd_set (i := 8) sc_law.nd rfl (by first | exact .inl rfl | exact .inr rfl) (ped_call G__law_draw (hr.mono (by omega)) (by rfl) T.m__law_draw T.F__law_draw.kp T.b__law_draw (pad_cons (ped_var 1) (pad_cons (ped_bin opd_add (ped_callB calld_lenA (by rfl) T.z_len (by decide +kernel) (pad_cons (ped_var 4) pad_nil)) ped_int) pad_nil)) (alen_cons (alen_cons alen_nil))))
    (pssd_cons (psd_set (i := 9) sc_law.nd rfl (by first | exact .inl rfl | exact .inr rfl) (ped_lst (pad_cons ped_non (pad_cons (ped_tup (pad_cons ped_int (pad_cons ped_int (pad_cons (ped_tup pad_nil) pad_nil)))) (pad_cons (ped_tup (pad_cons ped_int (pad_cons ped_int pad_nil))) (pad_cons (ped_tup (pad_cons (ped_neg ped_int) (pad_cons ped_int (pad_cons (ped_tup (pad_cons ped_str pad_nil)) pad_nil)))) (pad_cons (ped_tup (pad_cons (ped_callB calld_lenA (by rfl) T.z_len (by decide +kernel) (pad_cons (ped_var 3) pad_nil)) (pad_cons ped_int (pad_cons (ped_tup pad_nil) pad_nil)))) (pad_cons (ped_tup (pad_cons (ped_bin opd_add (ped_callB calld_lenA (by rfl) T.z_len (by decide +kernel) (pad_cons (ped_var 3) pad_nil)) ped_int) (pad_cons ped_int (pad_cons (ped_tup (pad_cons ped_str pad_nil)) pad_nil)))) (pad_cons (ped_tup (pad_cons ped_int (pad_cons ped_int (pad_cons (ped_lst (pad_cons ped_str pad_nil)) pad_nil)))) pad_nil)))))))))
    (pssd_cons (psd_set (i := 9) sc_law.nd rfl (by first | exact .inl rfl | exact .inr rfl) (ped_sub hu (ped_bin opd_add (ped_var 9) (ped_lst (pad_cons (ped_tup (pad_cons ped_int (pad_cons ped_int (pad_cons (ped_tup (pad_cons ped_str pad_nil)) pad_nil)))) (pad_cons (ped_tup (pad_cons ped_int (pad_cons ped_int (pad_cons (ped_tup (pad_cons ped_non pad_nil)) pad_nil)))) (pad_cons (ped_tup (pad_cons ped_bl (pad_cons ped_int (pad_cons (ped_tup (pad_cons ped_str pad_nil)) pad_nil)))) (pad_cons (ped_tup (pad_cons ped_int (pad_cons ped_non (pad_cons (ped_tup (pad_cons ped_str pad_nil)) pad_nil)))) pad_nil)))))) (ped_call G__law_draw (hr.mono (by omega)) (by rfl) T.m__law_draw T.F__law_draw.kp T.b__law_draw (pad_cons (ped_var 1) (pad_cons ped_int pad_nil)) (alen_cons (alen_cons alen_nil))) (fun _ _ => rfl)))
    (pssd_cons (psd_if (ptd_not (ptd_val (ped_call G__law_same (hr.mono (by omega)) (by rfl) T.m__law_same T.F__law_same.kp T.b__law_same (pad_cons (ped_call G__law_told (hr.mono (by omega)) (by rfl) T.m__law_told T.F__law_told.kp T.b__law_told (pad_cons (ped_bin opd_add (ped_bin opd_add (ped_sl (ped_var 4) pod_none (pod_some (ped_var 8))) (ped_tup (pad_cons (ped_var 9) pad_nil))) (ped_sl (ped_var 4) (pod_some (ped_var 8)) pod_none)) (pad_cons (ped_callB calld_lenA (by rfl) T.z_len (by decide +kernel) (pad_cons (ped_var 3) pad_nil)) pad_nil)) (alen_cons (alen_cons alen_nil))) (pad_cons (ped_tup (pad_cons ped_str (pad_cons (ped_var 8) pad_nil))) pad_nil)) (alen_cons (alen_cons alen_nil))))) (pssd_one (psd_ret ped_bl)) pssd_nil)
    (pssd_cons (psd_if (ptd_cmp opd_gt (ped_callB calld_lenA (by rfl) T.z_len (by decide +kernel) (pad_cons (ped_var 4) pad_nil)) ped_int (nomark _)) (pssd_cons (psd_set (i := 10) sc_law.nd rfl (by first | exact .inl rfl | exact .inr rfl) (ped_sub hu (ped_var 4) (ped_neg ped_int) (fun _ _ => rfl)))
    (pssd_cons (psd_set (i := 11) sc_law.nd rfl (by first | exact .inl rfl | exact .inr rfl) (ped_tup (pad_cons (ped_bin opd_add (ped_sub hu (ped_var 10) ped_int (fun _ _ => rfl)) (ped_sub hu (ped_var 10) ped_int (fun _ _ => rfl))) (pad_cons ped_int (pad_cons (ped_tup (pad_cons ped_str pad_nil)) pad_nil)))))
    (pssd_one (psd_if (PWd.pt (pwd_or (ptd_not (ptd_val (ped_call G__law_same (hr.mono (by omega)) (by rfl) T.m__law_same T.F__law_same.kp T.b__law_same (pad_cons (ped_call G__law_told (hr.mono (by omega)) (by rfl) T.m__law_told T.F__law_told.kp T.b__law_told (pad_cons (ped_bin opd_add (ped_var 4) (ped_tup (pad_cons (ped_var 11) pad_nil))) (pad_cons (ped_callB calld_lenA (by rfl) T.z_len (by decide +kernel) (pad_cons (ped_var 3) pad_nil)) pad_nil)) (alen_cons (alen_cons alen_nil))) (pad_cons (ped_tup (pad_cons ped_str (pad_cons (ped_callB calld_lenA (by rfl) T.z_len (by decide +kernel) (pad_cons (ped_var 4) pad_nil)) pad_nil))) pad_nil)) (alen_cons (alen_cons alen_nil))))) (pwd_or1 (ptd_not (ptd_val (ped_call G__law_same (hr.mono (by omega)) (by rfl) T.m__law_same T.F__law_same.kp T.b__law_same (pad_cons (ped_call G__law_told (hr.mono (by omega)) (by rfl) T.m__law_told T.F__law_told.kp T.b__law_told (pad_cons (ped_callT (calld_listA rfl) (by rfl) T.z_list (by decide +kernel) (pad_cons (ped_var 4) pad_nil)) (pad_cons (ped_callB calld_lenA (by rfl) T.z_len (by decide +kernel) (pad_cons (ped_var 3) pad_nil)) pad_nil)) (alen_cons (alen_cons alen_nil))) (pad_cons (ped_tup (pad_cons ped_str (pad_cons (ped_neg ped_int) pad_nil))) pad_nil)) (alen_cons (alen_cons alen_nil)))))))) (pssd_one (psd_ret ped_bl)) pssd_nil)))) pssd_nil)
    (pssd_cons (psd_par (i := 12) (j := 13) rfl sc_law.nd rfl rfl (by decide) rfl rfl (pad_cons (ped_call G__law_lines_of (hr.mono (by omega)) (by rfl) T.m__law_lines_of T.F__law_lines_of.kp T.b__law_lines_of (pad_cons (ped_var 1) (pad_cons ped_int pad_nil)) (alen_cons (alen_cons alen_nil))) (pad_cons (ped_call G__law_lines_of (hr.mono (by omega)) (by rfl) T.m__law_lines_of T.F__law_lines_of.kp T.b__law_lines_of (pad_cons (ped_var 1) (pad_cons ped_int pad_nil)) (alen_cons (alen_cons alen_nil))) pad_nil)) (by rfl))
    (pssd_cons (psd_set (i := 14) sc_law.nd rfl (by first | exact .inl rfl | exact .inr rfl) (ped_call G__law_kept (hr.mono (by omega)) (by rfl) T.m__law_kept T.F__law_kept.kp T.b__law_kept (pad_cons (ped_var 12) (pad_cons (ped_var 13) pad_nil)) (alen_cons (alen_cons alen_nil))))
    (pssd_cons (psd_set (i := 6) sc_law.nd rfl (by first | exact .inl rfl | exact .inr rfl) (ped_call G__law_copy (hr.mono (by omega)) (by rfl) T.m__law_copy T.F__law_copy.kp T.b__law_copy (pad_cons (ped_lst (pad_cons (ped_var 12) (pad_cons (ped_var 13) pad_nil))) pad_nil) (alen_cons alen_nil)))
    (pssd_cons (psd_set (i := 5) sc_law.nd rfl (by first | exact .inl rfl | exact .inr rfl) (ped_call G__law_edit_of (hr.mono (by omega)) (by rfl) T.m__law_edit_of T.F__law_edit_of.kp T.b__law_edit_of (pad_cons (ped_var 12) (pad_cons (ped_var 13) (pad_cons (ped_var 14) pad_nil))) (alen_cons (alen_cons (alen_cons alen_nil)))))
    (pssd_cons (psd_if (ptd_not (ptd_val (ped_call G__law_same (hr.mono (by omega)) (by rfl) T.m__law_same T.F__law_same.kp T.b__law_same (pad_cons (ped_lst (pad_cons (ped_call G_kept_pairs (hr.mono (by omega)) (by rfl) T.m_kept_pairs T.F_kept_pairs.kp T.b_kept_pairs (pad_cons (ped_sub hu (ped_var 6) ped_int (fun _ _ => rfl)) (pad_cons (ped_sub hu (ped_var 6) ped_int (fun _ _ => rfl)) pad_nil)) (alen_cons (alen_cons alen_nil))) (pad_cons (ped_call G_edit_of (hr.mono (by omega)) (by rfl) T.m_edit_of T.F_edit_of.kp T.b_edit_of (pad_cons (ped_sub hu (ped_var 6) ped_int (fun _ _ => rfl)) (pad_cons (ped_sub hu (ped_var 6) ped_int (fun _ _ => rfl)) pad_nil)) (alen_cons (alen_cons alen_nil))) (pad_cons (ped_var 6) pad_nil)))) (pad_cons (ped_lst (pad_cons (ped_var 14) (pad_cons (ped_var 5) (pad_cons (ped_lst (pad_cons (ped_var 12) (pad_cons (ped_var 13) pad_nil))) pad_nil)))) pad_nil)) (alen_cons (alen_cons alen_nil))))) (pssd_one (psd_ret ped_bl)) pssd_nil)
    (pssd_one (psd_if (ptd_not (ptd_val (ped_call G__law_same (hr.mono (by omega)) (by rfl) T.m__law_same T.F__law_same.kp T.b__law_same (pad_cons (ped_call G__law_applied (hr.mono (by omega)) (by rfl) T.m__law_applied T.F__law_applied.kp T.b__law_applied (pad_cons (ped_var 12) (pad_cons (ped_var 5) pad_nil)) (alen_cons (alen_cons alen_nil))) (pad_cons (ped_var 13) pad_nil)) (alen_cons (alen_cons alen_nil))))) (pssd_one (psd_ret ped_bl)) pssd_nil))))))))))))))))))))
    (pssd_one (psd_ret (ped_call G__law_same (hr.mono (by omega)) (by rfl) T.m__law_same T.F__law_same.kp T.b__law_same (pad_cons (ped_lst (pad_cons (ped_call G_edit_of (hr.mono (by omega)) (by rfl) T.m_edit_of T.F_edit_of.kp T.b_edit_of (pad_cons (ped_lst (pad_cons ped_str (pad_cons ped_str pad_nil))) (pad_cons (ped_lst (pad_cons ped_str (pad_cons ped_str pad_nil))) pad_nil)) (alen_cons (alen_cons alen_nil))) (pad_cons (ped_call G_edit_of (hr.mono (by omega)) (by rfl) T.m_edit_of T.F_edit_of.kp T.b_edit_of (pad_cons (ped_lst pad_nil) (pad_cons (ped_lst (pad_cons ped_str pad_nil)) pad_nil)) (alen_cons (alen_cons alen_nil))) (pad_cons (ped_call G_edit_of (hr.mono (by omega)) (by rfl) T.m_edit_of T.F_edit_of.kp T.b_edit_of (pad_cons (ped_lst (pad_cons ped_str pad_nil)) (pad_cons (ped_lst pad_nil) pad_nil)) (alen_cons (alen_cons alen_nil))) pad_nil)))) (pad_cons (ped_lst (pad_cons (ped_tup pad_nil) (pad_cons (ped_tup (pad_cons (ped_tup (pad_cons ped_int (pad_cons ped_int (pad_cons (ped_tup (pad_cons ped_str pad_nil)) pad_nil)))) pad_nil)) (pad_cons (ped_tup (pad_cons (ped_tup (pad_cons ped_int (pad_cons ped_int (pad_cons (ped_tup pad_nil) pad_nil)))) pad_nil)) pad_nil)))) pad_nil)) (alen_cons (alen_cons alen_nil)))))))
end
end NS

set_option maxHeartbeats 2000000
set_option linter.all false
set_option maxRecDepth 10000
namespace NS
open PySem Pd L2
abbrev drC (xs : List Int) (i : Nat) (a b : Int) : Cell := .lst [.fz (.list (xs.map .int)), .fz (.int i), .fz (.int a), .fz (.int b)]
def drL (xs : List Int) (i : Int) (a b : Int) : List PyData := [.list (xs.map .int), .int i, .int a, .int b]
theorem sub_dr {P : Store} {k : Nat} {xs : List Int} {i a b : Int} (h : P[k]? = some (.lst [.fz (.list (xs.map .int)), .fz (.int i), .fz (.int a), .fz (.int b)])) (j : Int) : subOf P (.ptr k) (.int j) = (atI (drL xs i a b) j).map .fz := subOf_cell h rfl j
theorem sub_set {P : Store} {k : Nat} {xs : List Int} {i a b : Int} (h : k < P.length) (j : Int) : subOf (P.set k (.lst [.fz (.list (xs.map .int)), .fz (.int i), .fz (.int a), .fz (.int b)])) (.ptr k) (.int j) = (atI (drL xs i a b) j).map .fz := sub_dr (by simp [h]) j
theorem cMul_c (i : Int) (j : Int) (h : -(2 ^ 64) < j ∧ j < 2 ^ 64) : cMul i j = true := by simp [cMul]; omega
theorem dDiv_ok (i j : Int) (h : 0 < j) (h2 : j < 1073741824) : dDiv (.int i) (.int j) = some (.int (i.fdiv j)) := by
  have : cDiv i j = true := by simp [cDiv]; omega
  simp [this]
theorem dMod_ok (i j : Int) (h : 0 < j) : dMod (.int i) (.int j) = some (.int (i.fmod j)) := by
  have : decide (j ≠ 0) = true := by simp; omega
  simp only [dMod_int, this, if_true]
def dH : SM := (sIf (mAndB (mTB (mBin dEq (mSub (mVar 0) (mC (.int 2))) (mC (.int 0)))) (mTB (mBin dLt (mSub (mVar 0) (mC (.int 1))) (mCall gLenA (aCons (mSub (mVar 0) (mC (.int 0))) aNil))))) (sSeq (sSet 2 (mSub (mSub (mVar 0) (mC (.int 0))) (mSub (mVar 0) (mC (.int 1)))))
  (sSeq (sAsg (mBin dAdd (mSub (mVar 0) (mC (.int 1))) (mC (.int 1))) (gIx (mVar 0) (mC (.int 1))))
  (sSeq (sIf (mTB (mBin dGe (mVar 2) (mBin dPow (mC (.int 10)) (mC (.int 18))))) (sAsg (mVar 2) (gIx (mVar 0) (mC (.int 2)))) sNx)
  (sAsg (mBin dMod (mCall gInt (aCons (mBin dAdd (mBin dAdd (mBin dMulI (mSub (mVar 0) (mC (.int 3))) (mC (.int 48271))) (mVar 2)) (mC (.int 13))) aNil)) (mC (.int 2147483647))) (gIx (mVar 0) (mC (.int 3))))))) sNx)
def dT : SM := (sSeq (sIf (mTB (mBin dGt (mSub (mVar 0) (mC (.int 2))) (mC (.int 0)))) (sSeq (sSet 3 (mBin dMod (mCall gInt (aCons (mSub (mVar 0) (mC (.int 2))) aNil)) (mVar 1)))
  (sSeq (sAsg (mBin dDiv (mSub (mVar 0) (mC (.int 2))) (mVar 1)) (gIx (mVar 0) (mC (.int 2))))
  (sRet (mVar 3)))) sNx)
  (sSeq (sAsg (mBin dMod (mCall gInt (aCons (mBin dAdd (mBin dMulI (mSub (mVar 0) (mC (.int 3))) (mC (.int 69621))) (mC (.int 7))) aNil)) (mC (.int 2147483629))) (gIx (mVar 0) (mC (.int 3))))
  (sRet (mBin dMod (mCall gInt (aCons (mBin dDiv (mSub (mVar 0) (mC (.int 3))) (mC (.int 11))) aNil)) (mVar 1)))))
theorem t_draw (xs : List Int) (i : Nat) (a b lim : Int) (h0 : 0 < lim) (h1 : lim < 1073741824) :
    ∃ v i' a' b', 0 ≤ v ∧ v < lim ∧ ∀ (P : Store) (k : Nat), P[k]? = some (drC xs i a b) → m__law_draw [.ptr k, .fz (.int lim)] P = some (.fz (.int v), P.set k (drC xs i' a' b')) := by
  have hlt : ∀ (P : Store) (k : Nat), P[k]? = some (drC xs i a b) → k < P.length := fun P k hk => by
    rcases Nat.lt_or_ge k P.length with h | h
    · exact h
    · rw [List.getElem?_eq_none h] at hk; cases hk
  have hk2 : ∀ (P : Store) (k : Nat) (hk : P[k]? = some (drC xs i a b)), P[k]'(hlt P k hk) = drC xs i a b := fun P k hk => by rw [List.getElem?_eq_getElem (hlt P k hk)] at hk; exact Option.some.inj hk
  have tk : ∀ (P : Store) (k : Nat) c, (P.set k c).take P.length = P.set k c := fun P k c => List.take_of_length_le (by simp)
  have tail : ∀ i a b, ∃ v i' a' b', 0 ≤ v ∧ v < lim ∧ ∀ (P : Store) (k : Nat) (hl : k < P.length) c, (dT ⟨P.length, [some (.ptr k), some (.fz (.int lim)), c, none]⟩ (P.set k (drC xs i a b))).bind (fun (fl, _, P2) => match fl with
    | .rt r => exitZ P.length r P2
    | .nx => exitZ P.length (.fz .none) P2
    | _ => none) = some (.fz (.int v), P.set k (drC xs i' a' b')) := by
    intro i a b
    by_cases ha : 0 < a
    · refine ⟨a.fmod lim, i, a.fdiv lim, b, Int.fmod_nonneg_of_pos _ h0, Int.fmod_lt_of_pos _ h0, fun P k hl c => ?_⟩
      simp [dT, sub_set hl, drL, ha, dDiv_ok _ _ h0 h1, dMod_ok _ _ h0, -dDiv_int, -dMod_int, hl, tk]
    · refine ⟨(((b * 69621 + 7).fmod 2147483629).fdiv 11).fmod lim, i, a, (b * 69621 + 7).fmod 2147483629, Int.fmod_nonneg_of_pos _ h0, Int.fmod_lt_of_pos _ h0, fun P k hl c => ?_⟩
      simp [dT, sub_set hl, drL, ha, dDiv_ok, dMod_ok, h0, -dDiv_int, -dMod_int, hl, cMul_c, tk]
  have hP : ∀ (P : Store) (k : Nat) (hk : P[k]? = some (drC xs i a b)), P = P.set k (drC xs i a b) := by
    intro P k hk
    apply List.ext_getElem?
    intro j
    rw [List.getElem?_set]
    by_cases hj : k = j
    · subst hj; simp [hk2 P k hk, hlt P k hk]
    · simp [hj]
  have head : ∃ c i' a' b', ∀ (P : Store) (k : Nat) (hk : P[k]? = some (drC xs i a b)), dH ⟨P.length, [some (.ptr k), some (.fz (.int lim)), none, none]⟩ P = some (.nx, ⟨P.length, [some (.ptr k), some (.fz (.int lim)), c, none]⟩, P.set k (drC xs i' a' b')) := by
    by_cases ha : a = 0
    · subst ha
      by_cases hi : (i : Int) < xs.length
      · have hi' : i < xs.length := by omega
        obtain ⟨cell, hcell⟩ : ∃ cell, xs[i]? = some cell := ⟨_, List.getElem?_eq_getElem hi'⟩
        have hcell2 : xs[i] = cell := by rw [List.getElem?_eq_getElem hi'] at hcell; exact Option.some.inj hcell
        have hp : dPow (.int 10) (.int 18) = some (.int 1000000000000000000) := by rfl
        by_cases hcc : 1000000000000000000 ≤ cell
        · refine ⟨some (.fz (.int cell)), i + 1, cell, (b * 48271 + cell + 13).fmod 2147483647, fun P k hk => ?_⟩
          have hl := hlt P k hk
          have hk3 := hk2 P k hk
          simp [dH, sub_dr hk, sub_set hl, drL, hi', hcell, hcell2, hk, hk3, hl, hcc, hp, dMod_ok, -dMod_int, cMul_c]
          try rfl
        · refine ⟨some (.fz (.int cell)), i + 1, 0, (b * 48271 + cell + 13).fmod 2147483647, fun P k hk => ?_⟩
          have hl := hlt P k hk
          have hk3 := hk2 P k hk
          simp [dH, sub_dr hk, sub_set hl, drL, hi', hcell, hcell2, hk, hk3, hl, hcc, hp, dMod_ok, -dMod_int, cMul_c]
          try rfl
      · refine ⟨none, i, 0, b, fun P k hk => ?_⟩
        have hi' : ¬ i < xs.length := by omega
        simp [dH, sub_dr hk, drL, hi', hk, hlt P k hk, hi, ← hP P k hk]
    · refine ⟨none, i, a, b, fun P k hk => ?_⟩
      simp [dH, sub_dr hk, drL, hk, hlt P k hk, ha, ← hP P k hk]
  obtain ⟨c, i2, a2, b2, eH⟩ := head
  obtain ⟨v, i', a', b', v0, v1, e⟩ := tail i2 a2 b2
  refine ⟨v, i', a', b', v0, v1, fun P k hk => ?_⟩
  have hb : b__law_draw = sSeq dH dT := rfl
  simp only [m__law_draw, mFun_ap, hb, sSeq_ap]
  show (((dH ⟨P.length, [some (.ptr k), some (.fz (.int lim)), none, none]⟩ P).bind _).bind _) = _
  rw [eH P k hk]
  exact e P k (hlt P k hk) c
/-- the state of the draws -/
structure Dr where
  xs : List Int
  i : Nat
  a : Int
  b : Int
def Dr.cell (c : Dr) : Cell := drC c.xs c.i c.a c.b
theorem dr_next (c : Dr) (lim : Int) (h0 : 0 < lim) (h1 : lim < 1073741824) : ∃ (v : Int) (c' : Dr), 0 ≤ v ∧ v < lim ∧ ∀ (R : Store), m__law_draw [.ptr 0, .fz (.int lim)] (c.cell :: R) = some (.fz (.int v), c'.cell :: R) := by
  obtain ⟨v, i, a, b, v0, v1, e⟩ := t_draw c.xs c.i c.a c.b lim h0 h1
  exact ⟨v, ⟨c.xs, i, a, b⟩, v0, v1, fun R => e (c.cell :: R) 0 rfl⟩
end NS

set_option maxHeartbeats 2000000
set_option linter.all false
set_option maxRecDepth 10000
namespace NS
open PySem Pd L2
theorem okL {n : Nat} {ds : List PyData} (h : okD n (.list ds) = true) : ds.length ≤ 4000 ∧ ∃ k, n = k + 1 ∧ ∀ d ∈ ds, okD k d = true := by
  cases n with
  | zero => simp [okD] at h
  | succ n =>
    simp only [okD, Bool.and_eq_true, decide_eq_true_eq, List.all_eq_true] at h
    exact ⟨h.1, n, rfl, h.2⟩
theorem okT' {n : Nat} {ds : List PyData} (h : okD n (.tuple ds) = true) : ds.length ≤ 4000 ∧ ∃ k, n = k + 1 ∧ ∀ d ∈ ds, okD k d = true := by
  cases n with
  | zero => simp [okD] at h
  | succ n =>
    simp only [okD, Bool.and_eq_true, decide_eq_true_eq, List.all_eq_true] at h
    exact ⟨h.1, n, rfl, h.2⟩
theorem t_copy : ∀ (fuel n : Nat) (d : PyData), okD n d = true → n < fuel → ∀ P, m__law_copy fuel [.fz d] P = some (.fz d, P) := by
  intro fuel
  induction fuel with
  | zero => intro n d _ h; omega
  | succ fuel ih =>
    intro n d h hf P
    simp only [m__law_copy, mFun_ap, b__law_copy]
    cases d with
    | list ds =>
      obtain ⟨hl, k, rfl, hi⟩ := okL h
      have e5 : mLC [3] (iAny (mVar 0)) (gNm 3) bYes (mCallF (m__law_copy fuel) (aCons (mVar 3) aNil)) ⟨P.length, [some (.fz (.list ds)), none, none, none]⟩ P = some (.fz (.list (ds.map fun d => d)), P) := by
        refine mLC_map (items := ds) (src := .fz (.list ds)) _ (by simp) (Nat.le_trans hl (by decide)) fun d hd S => ?_
        refine ⟨_, rfl, ?_⟩
        simp [EV.wipe, ih k d (hi d hd) (by omega)]
      rw [List.map_id'] at e5
      simp [startE, inst, e5]
    | tuple ds =>
      obtain ⟨hl, k, rfl, hi⟩ := okT' h
      have e5 : mLC [3] (iAny (mVar 0)) (gNm 3) bYes (mCallF (m__law_copy fuel) (aCons (mVar 3) aNil)) ⟨P.length, [some (.fz (.tuple ds)), none, none, none]⟩ P = some (.fz (.list (ds.map fun d => d)), P) := by
        refine mLC_map (items := ds) (src := .fz (.tuple ds)) _ (by simp) (Nat.le_trans hl (by decide)) fun d hd S => ?_
        refine ⟨_, rfl, ?_⟩
        simp [EV.wipe, ih k d (hi d hd) (by omega)]
      rw [List.map_id'] at e5
      simp [startE, inst, e5]
    | dict kvs => cases n <;> simp [okD] at h
    | _ => simp [startE, inst]
end NS

set_option maxHeartbeats 2000000
set_option linter.all false
set_option maxRecDepth 10000
namespace NS
open PySem Pd L2
theorem rg2 (n : Nat) (hn : n ≤ 4000) : -(2 ^ 62) ≤ (n : Int) ∧ (n : Int) < 2 ^ 62 := by
  have h1 : (0 : Int) ≤ n := Int.natCast_nonneg n
  have h2 : (n : Int) ≤ 4000 := by omega
  exact ⟨Int.le_trans (by decide) h1, Int.lt_of_le_of_lt h2 (by decide)⟩
def rgF (P1 : Store) (l : List SV) : Option (List PyData × SV × Store) := match l with
  | [.fz (.int j)] => if -(2 ^ 62) ≤ j ∧ j < 2 ^ 62 then some (rangeD 0 j.toNat, .fz .none, P1) else none
  | [.fz (.int i), .fz (.int j)] => if -(2 ^ 62) ≤ i ∧ i < 2 ^ 62 ∧ -(2 ^ 62) ≤ j ∧ j < 2 ^ 62 then some (rangeD i (j - i).toNat, .fz .none, P1) else none
  | _ => none
theorem iR (g : AM) (ρ : EV) (P : Store) : iRange g ρ P = (g ρ P).bind fun x => rgF x.2 x.1 := rfl
theorem rgF1 (P1 : Store) (j : Int) : rgF P1 [.fz (.int j)] = if -(2 ^ 62) ≤ j ∧ j < 2 ^ 62 then some (rangeD 0 j.toNat, .fz .none, P1) else none := rfl
theorem rgF2 (P1 : Store) (j : Int) (h : -(2 ^ 62) ≤ j ∧ j < 2 ^ 62) : rgF P1 [.fz (.int j)] = some (rangeD 0 j.toNat, .fz .none, P1) := by
  rw [rgF1]; exact if_pos h
theorem iRange_nat {g : AM} {ρ : EV} {P P1 : Store} {n : Nat} (hg : g ρ P = some ([.fz (.int n)], P1)) (hn : n ≤ 4000) : iRange g ρ P = some (rangeD 0 n, .fz .none, P1) := by
  rw [iR, hg, Option.bind_some]
  show rgF P1 [.fz (.int n)] = _
  rw [rgF2 P1 n (rg2 n hn), Int.toNat_natCast]
/-- the law's right rule -/
theorem dEq_bool (a b : Bool) : dEq (.bool a) (.bool b) = some (.bool (decide (a = b))) := by cases a <;> cases b <;> rfl
theorem gAll_true {α : Type} (l : List α) : gAll [.list (l.map fun _ => .bool true)] = some (.bool true) := by
  rw [gAll_map (fun _ => true) l]
  have : l.all (fun _ => true) = true := by rw [List.all_eq_true]; intro _ _; rfl
  rw [this]
def bS (self : FM) : XM := mLC [3] (iRange (aCons (mCall gLenA (aCons (mVar 1) aNil)) aNil)) (gNm 3) bYes (mCallF self (aCons (mSub (mVar 0) (mVar 3)) (aCons (mSub (mVar 1) (mVar 3)) aNil)))
def bD (self : FM) : SM := (sSeq (sIf (mOrB (mNotB (mTB (mIs (inst .dict) (mVar 0)))) (mOrB (mTB (mBin dNe (mCall gLenA (aCons (mVar 0) aNil)) (mCall gLenA (aCons (mVar 1) aNil)))) (mNotB (mTB (mCall gAll (aCons (mLC [4] (iAny (mVar 1)) (gNm 4) bYes (mIn false (mVar 4) (mVar 0))) aNil)))))) (sRet (mC (.bool false))) sNx)
  (sRet (mCall gAll (aCons (mLC [4] (iAny (mVar 1)) (gNm 4) bYes (mCallF self (aCons (mSub (mVar 0) (mVar 4)) (aCons (mSub (mVar 1) (mVar 4)) aNil)))) aNil))))
theorem b_same (self : FM) : b__law_same self = (sSeq (sIf (mTB (mBin (dIs false) (mVar 1) (mC .none))) (sRet (mBin (dIs false) (mVar 0) (mC .none))) sNx)
  (sSeq (sIf (mTB (mIs (inst .bool) (mVar 1))) (sRet (mAndV (mIs (inst .bool) (mVar 0)) (mBin dEq (mVar 0) (mVar 1)))) sNx)
  (sSeq (sIf (mTB (mIs (inst .int) (mVar 1))) (sRet (mAndV (mIs (inst .int) (mVar 0)) (mAndV (mNotV (mIs (inst .bool) (mVar 0))) (mBin dEq (mVar 0) (mVar 1))))) sNx)
  (sSeq (sIf (mTB (mIs (inst .str) (mVar 1))) (sRet (mAndV (mIs (inst .str) (mVar 0)) (mBin dEq (mVar 0) (mVar 1)))) sNx)
  (sSeq (sIf (mTB (mIs (inst .dict) (mVar 1))) (bD self) sNx)
  (sSeq (sIf (mTB (mIs (inst .list) (mVar 1))) (sSet 2 (mIs (inst .list) (mVar 0))) (sSet 2 (mIs (inst .tuple) (mVar 0))))
  (sRet (mAndV (mVar 2) (mAndV (mBin dEq (mCall gLenA (aCons (mVar 0) aNil)) (mCall gLenA (aCons (mVar 1) aNil))) (mCall gAll (aCons (bS self) aNil))))))))))) := rfl
theorem same_seq (self : FM) (x : PyData) (ds : List PyData) (hx : x = .list ds ∨ x = .tuple ds) (hl : ds.length ≤ 4000) (hs : ∀ d ∈ ds, ∀ P : Store, self [.fz d, .fz d] P = some (.fz (.bool true), P)) (P : Store) :
    bS self ⟨P.length, [some (.fz x), some (.fz x), some (.fz (.bool true)), none, none]⟩ P = some (.fz (.list ((rangeD 0 ds.length).map fun _ => .bool true)), P) := by
  have hg : gLenA [x] = some (.int ds.length) := by rcases hx with rfl | rfl <;> rfl
  have hsub : ∀ (S : Store) (i : Nat), subOf S (.fz x) (.int i) = (ds[i]?).map .fz := by
    intro S i
    rcases hx with rfl | rfl <;> simp
  refine mLC_map (fun _ => .bool true) (iRange_nat (n := ds.length) (by simp [hg]) hl) (by rw [rangeD_len]; exact Nat.le_trans hl (by decide)) fun d hd S => ?_
  simp only [rangeD, List.mem_map, List.mem_range] at hd
  obtain ⟨i, hi, rfl⟩ := hd
  refine ⟨_, rfl, ?_⟩
  have h1 := hs ds[i] (List.getElem_mem hi)
  simp [EV.wipe, hsub, hi, h1]
theorem same_fin (M : XM) (x : PyData) (n : Nat) (K : List PyData) (P : Store) (hg : gLenA [x] = some (.int n)) (h6 : gAll [.list K] = some (.bool true)) (e5 : M ⟨P.length, [some (.fz x), some (.fz x), some (.fz (.bool true)), none, none]⟩ P = some (.fz (.list K), P)) :
    (sRet (mAndV (mVar 2) (mAndV (mBin dEq (mCall gLenA (aCons (mVar 0) aNil)) (mCall gLenA (aCons (mVar 1) aNil))) (mCall gAll (aCons M aNil))))) ⟨P.length, [some (.fz x), some (.fz x), some (.fz (.bool true)), none, none]⟩ P = some (.rt (.fz (.bool true)), ⟨P.length, [some (.fz x), some (.fz x), some (.fz (.bool true)), none, none]⟩, P) := by
  simp [e5, h6, hg]
theorem t_same : ∀ (fuel n : Nat) (d : PyData), okD n d = true → n < fuel → ∀ P, m__law_same fuel [.fz d, .fz d] P = some (.fz (.bool true), P) := by
  intro fuel
  induction fuel with
  | zero => intro n d _ h; omega
  | succ fuel ih =>
    intro n d h hf P
    simp only [m__law_same, mFun_ap, b_same]
    cases d with
    | none => simp [startE, inst, Pd.isNon]
    | bool b => simp [startE, inst, Pd.isNon, dEq_bool]
    | int i => simp [startE, inst, Pd.isNon]
    | str x => simp [startE, inst, Pd.isNon]
    | list ds =>
      obtain ⟨hl, k, rfl, hi⟩ := okL h
      have e5 := same_seq (m__law_same fuel) (.list ds) ds (.inl rfl) hl (fun d hd P => ih k d (hi d hd) (by omega) P) P
      have e8 := same_fin _ (.list ds) ds.length _ P rfl (gAll_true _) e5
      clear e5
      simp only [sSeq_ap, startE, List.map_cons, List.map_nil, List.length_cons, List.length_nil, List.replicate, Nat.reduceAdd, Nat.reduceSub, List.cons_append, List.nil_append]
      simp [inst, Pd.isNon, e8, -sRet_ap]
    | tuple ds =>
      obtain ⟨hl, k, rfl, hi⟩ := okT' h
      have e5 := same_seq (m__law_same fuel) (.tuple ds) ds (.inr rfl) hl (fun d hd P => ih k d (hi d hd) (by omega) P) P
      have e8 := same_fin _ (.tuple ds) ds.length _ P rfl (gAll_true _) e5
      clear e5
      simp only [sSeq_ap, startE, List.map_cons, List.map_nil, List.length_cons, List.length_nil, List.replicate, Nat.reduceAdd, Nat.reduceSub, List.cons_append, List.nil_append]
      simp [inst, Pd.isNon, e8, -sRet_ap]
    | dict kvs => cases n <;> simp [okD] at h
end NS

set_option maxHeartbeats 1000000
set_option linter.all false
set_option maxRecDepth 10000
namespace NS
open PySem Pd L2
/-! k22: drawn lines -/
theorem sp_draw (c : Dr) (lim : Int) (h0 : 0 < lim) (h1 : lim < 1073741824) (R : Store) : W (m__law_draw [.ptr 0, .fz (.int lim)] (c.cell :: R)) fun r => ∃ (v : Int) (c' : Dr), 0 ≤ v ∧ v < lim ∧ r = (.fz (.int v), c'.cell :: R) := by
  obtain ⟨v, c', v0, v1, e⟩ := dr_next c lim h0 h1
  exact W.eq (e R) ⟨v, c', v0, v1, rfl⟩
def alpha : List Str := ["a", "b", "c", "", "x y"]
theorem sp_lines (c : Dr) (m : Nat) (hm : m ≤ 50) (R : Store) : W (m__law_lines_of [.ptr 0, .fz (.int m)] (c.cell :: R)) fun r => ∃ (ls : List Str) (c' : Dr), ls.length ≤ m ∧ (∀ x ∈ ls, x ∈ alpha) ∧ r = (.fz (.list (ls.map .str)), c'.cell :: R) := by
  refine W_fun ?_
  obtain ⟨_, e, v, c1, v0, v1, rfl⟩ := sp_draw c (m + 1) (by omega) (by omega) R
  obtain ⟨n, rfl⟩ := Int.eq_ofNat_of_zero_le v0
  have hr : iRange (aCons (mCallF m__law_draw (aCons (mVar 0) (aCons (mBin dAdd (mVar 1) (mC (.int 1))) aNil))) aNil) ⟨(c.cell :: R).length, [some (.ptr 0), some (.fz (.int m)), none]⟩ (c.cell :: R) = some (rangeD 0 n, .fz .none, c1.cell :: R) := by
    refine iRange_nat ?_ (by omega)
    simp [e]
  rw [b__law_lines_of, show startE 3 [SV.ptr 0, .fz (.int m)] = [some (.ptr 0), some (.fz (.int m)), none] from rfl, sRet_ap, W_map]
  refine (W_lc (fun i acc S => ∃ (ls : List Str) (c' : Dr), ls.length = i ∧ (∀ x ∈ ls, x ∈ alpha) ∧ acc = ls.map .str ∧ S = c'.cell :: R) (Q := fun r => ∃ (ls : List Str) (c' : Dr), ls.length ≤ m ∧ (∀ x ∈ ls, x ∈ alpha) ∧ r = (.fz (.list (ls.map .str)), c'.cell :: R)) hr (by rw [rangeD_len]; exact Nat.le_trans (show n ≤ 100 by omega) (by decide)) ⟨[], c1, rfl, by simp, rfl, rfl⟩ ?_ ?_).mono ?_
  · rintro i d acc S hd ⟨ls, c2, hi, hps, rfl, rfl⟩ hS
    rw [gNm_ap, W_some]
    simp [EV.wipe]
    refine (sp_draw c2 5 (by decide) (by decide) _).mono ?_
    rintro _ ⟨j, c3, j0, j1, rfl⟩
    obtain ⟨k, rfl⟩ := Int.eq_ofNat_of_zero_le j0
    have hk : k < alpha.length := by show k < 5; omega
    have hx : ∃ x : Str, x ∈ alpha ∧ ([PyData.str "a", .str "b", .str "c", .str "", .str "x y"] : List PyData)[k]? = some (.str x) := by
      have e2 : ([PyData.str "a", .str "b", .str "c", .str "", .str "x y"] : List PyData) = alpha.map .str := rfl
      exact ⟨alpha[k], List.getElem_mem hk, by rw [e2, List.getElem?_map, List.getElem?_eq_getElem hk]; rfl⟩
    obtain ⟨x, hx, ex⟩ := hx
    have es : ∀ S : Store, subOf S (SV.fz (.list [.str "a", .str "b", .str "c", .str "", .str "x y"])) (.int (k : Nat)) = some (.fz (.str x)) := by
      intro S
      rw [subOf_lst]
      rw [atI_nat', ex]
      rfl
    simp only [flat_fz, Option.bind_some, es, Option.map_some, W_some]
    refine ⟨.str x, c3.cell :: R, by simp, by simp, ls ++ [x], c3, by simp [hi], ?_, by simp, rfl⟩
    intro z hz
    rcases List.mem_append.mp hz with hz | hz
    · exact hps z hz
    · simp at hz; subst hz; exact hx
  · rintro acc S ⟨ls, c2, hi, hps, rfl, rfl⟩ _ _
    rw [rangeD_len] at hi
    exact ⟨ls, c2, by omega, hps, rfl⟩
  · rintro _ ⟨ls, c2, hl, hps, rfl⟩
    simp
    exact ⟨ls, hl, hps, rfl, c2, rfl⟩
end NS

set_option maxHeartbeats 1000000
set_option linter.all false
set_option maxRecDepth 10000
namespace NS
open PySem Pd L2
/-! k22: numbers -/
def numD : PyData → Bool
  | .int i => decide (0 ≤ i)
  | _ => false
theorem t_isnum (d : PyData) (P : Store) : m_is_number [.fz d] P = some (.fz (.bool (numD d)), P) := by
  simp only [m_is_number, mFun_ap, b_is_number]
  cases d <;> simp [startE, inst, numD]
/-- the lines that are drawn anywhere -/
def lineS : List Str := ["a", "b", "c", "", "x y", "n", "z"]
theorem occ_nl : ∀ x ∈ lineS, (Builtin.Str.occurrences x "\n" 0 x.length 1).isEmpty = true := by decide +kernel
theorem in_nl (P : Store) : ∀ x ∈ lineS, inOf P (.str "\n") (.fz (.str x)) = some false := by
  intro x hx
  have e : dInS false (.str "\n") (.str x) = some (.bool false) := by
    show some (PyData.bool (false != !(Builtin.Str.occurrences x "\n" 0 x.length 1).isEmpty)) = _
    rw [occ_nl x hx]
    rfl
  show (match dictOf P (.fz (.str x)) with
    | some D => (dlook D (.str "\n")).map Option.isSome
    | none => (flat P (.fz (.str x))).bind fun d => match dInS false (.str "\n") d with
      | some (.bool b) => some b
      | _ => none) = _
  show (match dInS false (.str "\n") (.str x) with
      | some (.bool b) => some b
      | _ => none) = _
  rw [e]
/-- of lines: each a text without a new line -/
theorem lc_lines (new : List Str) (h : ∀ x ∈ new, x ∈ lineS) (hl : new.length ≤ 4000) (p g : PyData) (n : Nat) (s0 s1 s2 s4 : Option SV) (P : Store) :
    mLC [4] (iAny (mSub (mVar 3) (mC (.int 2)))) (gNm 4) bYes (mAndV (mIs (inst .str) (mVar 4)) (mIn true (mC (.str "\n")) (mVar 4))) ⟨n, [s0, s1, s2, some (.fz (.tuple [p, g, .tuple (new.map .str)])), s4]⟩ P = some (.fz (.list ((new.map PyData.str).map fun _ => .bool true)), P) := by
  refine mLC_map (items := new.map .str) (src := .fz (.tuple (new.map .str))) (fun _ => .bool true) (by simp) (by rw [List.length_map]; exact Nat.le_trans hl (by decide)) fun d hd S => ?_
  obtain ⟨x, hx, rfl⟩ := List.mem_map.mp hd
  refine ⟨_, rfl, ?_⟩
  simp [EV.wipe, in_nl S x (h x hx), inst]
end NS

set_option maxHeartbeats 2000000
set_option linter.all false
set_option maxRecDepth 10000
namespace NS
open PySem Pd L2
/-! k22: check_edit, a right stroke -/
def bL : XM := mLC [4] (iAny (mSub (mVar 3) (mC (.int 2)))) (gNm 4) bYes (mAndV (mIs (inst .str) (mVar 4)) (mIn true (mC (.str "\n")) (mVar 4)))
def bT : SMx := (sSeqX (sUp (sSet 3 (mSub (mVar 0) (mVar 2))))
  (sSeqX (sIfX (mOrB (mNotB (mTB (mIs (inst .tuple) (mVar 3)))) (mOrB (mTB (mBin dNe (mCall gLenA (aCons (mVar 3) aNil)) (mC (.int 3)))) (mOrB (mNotB (mTB (mCallF m_is_number (aCons (mSub (mVar 3) (mC (.int 0))) aNil)))) (mNotB (mTB (mCallF m_is_number (aCons (mSub (mVar 3) (mC (.int 1))) aNil))))))) (sRaise "Wrong" (mVar 2)) (sUp sNx))
  (sSeqX (sIfX (mNotB (mTB (mIs (inst .tuple) (mSub (mVar 3) (mC (.int 2)))))) (sRaise "Wrong" (mVar 2)) (sUp sNx))
  (sSeqX (sIfX (mNotB (mTB (mCall gAll (aCons bL aNil)))) (sRaise "Wrong" (mVar 2)) (sUp sNx))
  (sSeqX (sIfX (mOrB (mTB (mBin dGt (mBin dAdd (mSub (mVar 3) (mC (.int 0))) (mSub (mVar 3) (mC (.int 1)))) (mVar 1))) (mAndB (mTB (mBin dEq (mSub (mVar 3) (mC (.int 1))) (mC (.int 0)))) (mTB (mBin dEq (mCall gLenA (aCons (mSub (mVar 3) (mC (.int 2))) aNil)) (mC (.int 0)))))) (sRaise "Wrong" (mVar 2)) (sUp sNx))
  (sIfX (mAndB (mTB (mBin dGt (mVar 2) (mC (.int 0)))) (mTB (mBin dLe (mSub (mVar 3) (mC (.int 0))) (mBin dAdd (mSub (mSub (mVar 0) (mBin dSub (mVar 2) (mC (.int 1)))) (mC (.int 0))) (mSub (mSub (mVar 0) (mBin dSub (mVar 2) (mC (.int 1)))) (mC (.int 1))))))) (sRaise "Wrong" (mVar 2)) (sUp sNx)))))))
theorem b_check_eq : b_check_edit = (sSeqX (sIfX (mNotB (mTB (mIs (inst .tuple) (mVar 0)))) (sRaise "Wrong" (mUn dNeg (mC (.int 1)))) (sUp sNx))
  (sForX (iRange (aCons (mCall gLenA (aCons (mVar 0) aNil)) aNil)) (gNm 2) bT)) := rfl
def stkD (p g : Int) (new : List Str) : PyData := .tuple [.int p, .int g, .tuple (new.map .str)]
theorem turn_first (es : List PyData) (p g many : Int) (new : List Str) (hp0 : 0 ≤ p) (hg0 : 0 ≤ g) (he : es[0]? = some (stkD p g new)) (h : ∀ x ∈ new, x ∈ lineS) (hl : new.length ≤ 4000) (hm : p + g ≤ many) (hd : g ≠ 0 ∨ new ≠ []) (n : Nat) (s3 s4 : Option SV) (P : Store) :
    bT ⟨n, [some (.fz (.tuple es)), some (.fz (.int many)), some (.fz (.int 0)), s3, s4]⟩ P = some (.inl .nx, ⟨n, [some (.fz (.tuple es)), some (.fz (.int many)), some (.fz (.int 0)), some (.fz (stkD p g new)), s4]⟩, P) := by
  have e5 := lc_lines new h hl (.int p) (.int g) n (some (.fz (.tuple es))) (some (.fz (.int many))) (some (.fz (.int 0))) s4 P
  have e6 := gAll_true (new.map PyData.str)
  generalize hK : (new.map PyData.str).map (fun _ => PyData.bool true) = L at e5 e6
  have e7 : bL ⟨n, [some (.fz (.tuple es)), some (.fz (.int many)), some (.fz (.int 0)), some (.fz (.tuple [.int p, .int g, .tuple (new.map .str)])), s4]⟩ P = some (.fz (.list L), P) := e5
  unfold bT
  have g3 : gLenA [PyData.tuple [.int p, .int g, .tuple (new.map .str)]] = some (.int 3) := rfl
  have c1 : ¬ (many < p + g) := by omega
  have g2 : gLenA [PyData.tuple (new.map .str)] = some (.int (new.length : Nat)) := by
    have : gLenA [PyData.tuple (new.map .str)] = some (.int ((new.map PyData.str).length : Nat)) := rfl
    rw [this, List.length_map]
  by_cases hg : g = 0
  · subst hg
    have hn : ¬ new = [] := by simpa using hd
    have c2 : ¬ (many < p) := by omega
    simp [he, e7, e6, g3, g2, inst, t_isnum, numD, stkD, c1, c2, hn, hp0]
  · simp [he, e7, e6, g3, g2, inst, t_isnum, numD, stkD, c1, hg, hp0, hg0]
end NS

set_option maxHeartbeats 2000000
set_option linter.all false
set_option maxRecDepth 10000
namespace NS
open PySem Pd L2
theorem turn_next (es : List PyData) (p g many : Int) (new : List Str) (hp0 : 0 ≤ p) (hg0 : 0 ≤ g) (k : Nat) (p0 g0 : Int) (new0 : List Str) (h0 : es[k]? = some (stkD p0 g0 new0)) (hlt : p0 + g0 < p) (he : es[k + 1]? = some (stkD p g new)) (h : ∀ x ∈ new, x ∈ lineS) (hl : new.length ≤ 4000) (hm : p + g ≤ many) (hd : g ≠ 0 ∨ new ≠ []) (n : Nat) (s3 s4 : Option SV) (P : Store) :
    bT ⟨n, [some (.fz (.tuple es)), some (.fz (.int many)), some (.fz (.int ((k : Int) + 1))), s3, s4]⟩ P = some (.inl .nx, ⟨n, [some (.fz (.tuple es)), some (.fz (.int many)), some (.fz (.int ((k : Int) + 1))), some (.fz (stkD p g new)), s4]⟩, P) := by
  have e5 := lc_lines new h hl (.int p) (.int g) n (some (.fz (.tuple es))) (some (.fz (.int many))) (some (.fz (.int ((k : Int) + 1)))) s4 P
  have e6 := gAll_true (new.map PyData.str)
  generalize hK : (new.map PyData.str).map (fun _ => PyData.bool true) = L at e5 e6
  have e7 : bL ⟨n, [some (.fz (.tuple es)), some (.fz (.int many)), some (.fz (.int ((k : Int) + 1))), some (.fz (.tuple [.int p, .int g, .tuple (new.map .str)])), s4]⟩ P = some (.fz (.list L), P) := e5
  unfold bT
  have g3 : gLenA [PyData.tuple [.int p, .int g, .tuple (new.map .str)]] = some (.int 3) := rfl
  have a1 : atI es ((k : Int) + 1) = some (stkD p g new) := by
    have := atI_nat' es (k + 1)
    rw [he] at this
    exact this
  have a0 : atI es (k : Int) = some (stkD p0 g0 new0) := by rw [atI_nat', h0]
  have c3 : (0 : Int) < k + 1 := by omega
  have c4 : ¬ (p ≤ p0 + g0) := by omega
  simp only [stkD] at a0 a1
  have c1 : ¬ (many < p + g) := by omega
  have g2 : gLenA [PyData.tuple (new.map .str)] = some (.int (new.length : Nat)) := by
    have : gLenA [PyData.tuple (new.map .str)] = some (.int ((new.map PyData.str).length : Nat)) := rfl
    rw [this, List.length_map]
  by_cases hg : g = 0
  · subst hg
    have hn : ¬ new = [] := by simpa using hd
    have c2 : ¬ (many < p) := by omega
    simp [a0, a1, c3, c4, e7, e6, g3, g2, inst, t_isnum, numD, stkD, c1, c2, hn, hp0]
  · simp [a0, a1, c3, c4, e7, e6, g3, g2, inst, t_isnum, numD, stkD, c1, hg, hp0, hg0]
end NS

set_option maxHeartbeats 2000000
set_option linter.all false
set_option maxRecDepth 10000
namespace NS
open PySem Pd L2
/-! k22: check_edit on right edits, and on odd strokes -/
structure Stk where
  p : Nat
  g : Nat
  new : List Str
def Stk.d (s : Stk) : PyData := stkD s.p s.g s.new
structure StkOk (n lo : Nat) (s : Stk) : Prop where
  lo : lo ≤ s.p
  hi : s.p + s.g ≤ n
  does : s.g ≠ 0 ∨ s.new ≠ []
  ln : ∀ x ∈ s.new, x ∈ lineS
  sz : s.new.length ≤ 50
def Right (n : Nat) : Nat → List Stk → Prop
  | _, [] => True
  | lo, s :: r => StkOk n lo s ∧ Right n (s.p + s.g + 1) r
theorem rangeD_succ (i : Int) (n : Nat) : rangeD i (n + 1) = .int i :: rangeD (i + 1) n := by
  simp only [rangeD, List.range_succ_eq_map, List.map_cons, List.map_map, Function.comp_def]
  refine congr (congrArg _ ?_) ?_
  · simp
  · refine List.map_congr_left fun a _ => ?_
    congr 1; omega
theorem rangeD_split (i : Int) : ∀ (m r : Nat), rangeD i (m + r) = rangeD i m ++ rangeD (i + m) r := by
  intro m r
  simp only [rangeD, List.range_add, List.map_append, List.map_map, Function.comp_def]
  congr 1
  refine List.map_congr_left fun a _ => ?_
  congr 1; simp; omega
theorem goX_cons {k : Int} {r : List PyData} {n : Nat} {es : List PyData} {many : Int} {s2 s3 s4 : Option SV} {P : Store} {ρ2 : EV} (h : bT ⟨n, [some (.fz (.tuple es)), some (.fz (.int many)), some (.fz (.int k)), s3, s4]⟩ P = some (.inl .nx, ρ2, P)) :
    forGoX (gNm 2) bT (.int k :: r) ⟨n, [some (.fz (.tuple es)), some (.fz (.int many)), s2, s3, s4]⟩ P = forGoX (gNm 2) bT r ρ2 P := by
  show ((gNm 2 (.fz (.int k)) ⟨n, [some (.fz (.tuple es)), some (.fz (.int many)), s2, s3, s4]⟩ P).bind _) = _
  rw [gNm_ap, Option.bind_some]
  simp only [put_ap, List.set]
  rw [h]; rfl
theorem goX_wrong {k : Int} {r : List PyData} {n : Nat} {es : List PyData} {many : Int} {s2 s3 s4 : Option SV} {P : Store} {x : Exn} {ρ2 : EV} (h : bT ⟨n, [some (.fz (.tuple es)), some (.fz (.int many)), some (.fz (.int k)), s3, s4]⟩ P = some (.inr x, ρ2, P)) :
    forGoX (gNm 2) bT (.int k :: r) ⟨n, [some (.fz (.tuple es)), some (.fz (.int many)), s2, s3, s4]⟩ P = some (.inr x, ρ2, P) := by
  show ((gNm 2 (.fz (.int k)) ⟨n, [some (.fz (.tuple es)), some (.fz (.int many)), s2, s3, s4]⟩ P).bind _) = _
  rw [gNm_ap, Option.bind_some]
  simp only [put_ap, List.set]
  rw [h]; rfl
theorem chk_go (es : List PyData) (many n : Nat) (rest : List PyData) (P : Store) : ∀ (E : List Stk) (k lo : Nat), Right many lo E → (∀ j s, E[j]? = some s → es[k + j]? = some s.d) → (k = 0 ∨ ∃ k0 p0 g0 new0, k = k0 + 1 ∧ es[k0]? = some (stkD p0 g0 new0) ∧ p0 + g0 < (lo : Int)) → ∀ s2 s3 s4, ∃ s2' s3', forGoX (gNm 2) bT (rangeD k E.length ++ rest) ⟨n, [some (.fz (.tuple es)), some (.fz (.int many)), s2, s3, s4]⟩ P = forGoX (gNm 2) bT rest ⟨n, [some (.fz (.tuple es)), some (.fz (.int many)), s2', s3', s4]⟩ P := by
  intro E
  induction E with
  | nil => intro k lo _ _ _ s2 s3 s4; exact ⟨s2, s3, rfl⟩
  | cons s r ih =>
    intro k lo hR he hk s2 s3 s4
    obtain ⟨h1, h2⟩ := hR
    have e0 : es[k]? = some (stkD s.p s.g s.new) := he 0 s rfl
    have hsz : s.new.length ≤ 4000 := by have := h1.sz; omega
    have hhi : (s.p : Int) + s.g ≤ many := by have := h1.hi; omega
    have hdoes : (s.g : Int) ≠ 0 ∨ s.new ≠ [] := by rcases h1.does with h | h; exact .inl (by omega); exact .inr h
    have turn : bT ⟨n, [some (.fz (.tuple es)), some (.fz (.int many)), some (.fz (.int k)), s3, s4]⟩ P = some (.inl .nx, ⟨n, [some (.fz (.tuple es)), some (.fz (.int many)), some (.fz (.int k)), some (.fz (stkD s.p s.g s.new)), s4]⟩, P) := by
      rcases hk with rfl | ⟨k0, p0, g0, new0, rfl, e1, hlt⟩
      · exact turn_first es s.p s.g many s.new (by omega) (by omega) e0 h1.ln hsz hhi hdoes n s3 s4 P
      · exact turn_next es s.p s.g many s.new (by omega) (by omega) k0 p0 g0 new0 e1 (by have := h1.lo; omega) e0 h1.ln hsz hhi hdoes n s3 s4 P
    obtain ⟨s2', s3', e⟩ := ih (k + 1) (s.p + s.g + 1) h2 (fun j s' hj => by have := he (j + 1) s' (by simpa using hj); rw [show k + 1 + j = k + (j + 1) by omega]; exact this) (.inr ⟨k, s.p, s.g, s.new, rfl, e0, by omega⟩) (some (.fz (.int k))) (some (.fz (stkD s.p s.g s.new))) s4
    refine ⟨s2', s3', ?_⟩
    rw [← e, List.length_cons, rangeD_succ, List.cons_append, goX_cons turn]
    rfl
theorem check_body (es : List PyData) (many : Int) (hl : es.length ≤ 4000) (P : Store) : b_check_edit ⟨P.length, [some (.fz (.tuple es)), some (.fz (.int many)), none, none, none]⟩ P = forGoX (gNm 2) bT (rangeD 0 es.length) ⟨P.length, [some (.fz (.tuple es)), some (.fz (.int many)), none, none, none]⟩ P := by
  have e1 : iRange (aCons (mCall gLenA (aCons (mVar 0) aNil)) aNil) ⟨P.length, [some (.fz (.tuple es)), some (.fz (.int many)), none, none, none]⟩ P = some (rangeD 0 es.length, .fz .none, P) := iRange_nat (by simp) hl
  have e2 : (sIfX (mNotB (mTB (mIs (inst .tuple) (mVar 0)))) (sRaise "Wrong" (mUn dNeg (mC (.int 1)))) (sUp sNx)) ⟨P.length, [some (.fz (.tuple es)), some (.fz (.int many)), none, none, none]⟩ P = some (.inl .nx, ⟨P.length, [some (.fz (.tuple es)), some (.fz (.int many)), none, none, none]⟩, P) := by
    simp [inst]
  rw [b_check_eq, sSeqX_ap, e2, Option.bind_some]
  show (sForX _ _ _) _ _ = _
  rw [sForX_ap, e1, Option.bind_some]
def edD (E : List Stk) : PyData := .tuple (E.map Stk.d)
theorem Right.sub {n : Nat} : ∀ {E : List Stk} {lo : Nat}, Right n lo E → ∀ s ∈ E, lo ≤ s.p ∧ s.p + s.g ≤ n
  | [], _, _, s, h => by cases h
  | t :: r, lo, h, s, hs => by
    rcases List.mem_cons.mp hs with rfl | hs
    · exact ⟨h.1.lo, h.1.hi⟩
    · have := Right.sub h.2 s hs
      have := h.1.lo
      omega
theorem Right.len {n : Nat} : ∀ {E : List Stk} {lo : Nat}, Right n lo E → E.length + lo ≤ n + 1 ∨ E = []
  | [], _, _ => .inr rfl
  | t :: r, lo, h => by
    left
    have h1 := h.1.lo
    have h2 := h.1.hi
    rcases Right.len h.2 with h3 | rfl
    · simp; omega
    · simp; omega
theorem t_check (E : List Stk) (many : Nat) (hm : many ≤ 50) (h : Right many 0 E) (P : Store) : m_check_edit [.fz (edD E), .fz (.int many)] P = some (.inl (.fz .none), P) := by
  have hl : E.length ≤ 100 := by rcases h.len with h | rfl; omega; simp
  obtain ⟨s2, s3, e⟩ := chk_go (E.map Stk.d) many P.length [] P E 0 0 h (fun j s hj => by simp [hj]) (.inl rfl) none none none
  simp only [m_check_edit, mFunX_ap]
  show ((b_check_edit ⟨P.length, [some (.fz (.tuple (E.map Stk.d))), some (.fz (.int many)), none, none, none]⟩ P).bind _) = _
  rw [check_body _ _ (by simp; omega), List.length_map]
  rw [List.append_nil] at e
  rw [show ((0 : Nat) : Int) = 0 from rfl] at e
  rw [e]
  simp [forGoX]
/-- a stroke that is none -/
def Odd (many : Nat) (d : PyData) : Prop := ∀ (es : List PyData) (k n : Nat) (s3 s4 : Option SV) (P : Store), es[k]? = some d → ∃ ρ, bT ⟨n, [some (.fz (.tuple es)), some (.fz (.int many)), some (.fz (.int k)), s3, s4]⟩ P = some (.inr ("Wrong", .int k), ρ, P)
theorem t_odd (E : List Stk) (many : Nat) (hm : many ≤ 50) (h : Right many 0 E) (d : PyData) (hd : Odd many d) (r : List PyData) (hr : r.length ≤ 1000) (P : Store) : m_check_edit [.fz (.tuple (E.map Stk.d ++ d :: r)), .fz (.int many)] P = some (.inr ("Wrong", .int E.length), P) := by
  have hl : E.length ≤ 100 := by rcases h.len with h | rfl; omega; simp
  obtain ⟨s2, s3, e⟩ := chk_go (E.map Stk.d ++ d :: r) many P.length (rangeD (0 + (E.length : Nat)) (r.length + 1)) P E 0 0 h (fun j s hj => by
    have hj2 : j < (E.map Stk.d).length := by rw [List.length_map]; exact (List.getElem?_eq_some_iff.mp hj).1
    rw [Nat.zero_add, List.getElem?_append_left hj2, List.getElem?_map, hj]; rfl) (.inl rfl) none none none
  simp only [m_check_edit, mFunX_ap]
  show ((b_check_edit ⟨P.length, [some (.fz (.tuple (E.map Stk.d ++ d :: r))), some (.fz (.int many)), none, none, none]⟩ P).bind _) = _
  rw [check_body _ _ (by simp; omega)]
  rw [show (E.map Stk.d ++ d :: r).length = E.length + (r.length + 1) by simp, rangeD_split]
  rw [show ((0 : Nat) : Int) = 0 from rfl] at e
  rw [e, rangeD_succ, Int.zero_add]
  obtain ⟨ρ, e2⟩ := hd (E.map Stk.d ++ d :: r) E.length P.length s3 none P (by simp)
  rw [goX_wrong e2]
  simp
end NS

set_option maxHeartbeats 2000000
set_option linter.all false
set_option maxRecDepth 10000
namespace NS
open PySem Pd L2
/-! k22: odd strokes, told -/
theorem odd_none (many : Nat) : Odd many .none := by
  intro es k n s3 s4 P he
  exact ⟨_, by unfold bT; simp [he, inst]; rfl⟩
theorem odd_empty (many : Nat) : Odd many (.tuple [.int 0, .int 0, .tuple []]) := by
  intro es k n s3 s4 P he
  have e5 := lc_lines [] (by simp) (by simp) (.int 0) (.int 0) n (some (.fz (.tuple es))) (some (.fz (.int many))) (some (.fz (.int k))) s4 P
  have e7 : bL ⟨n, [some (.fz (.tuple es)), some (.fz (.int many)), some (.fz (.int k)), some (.fz (.tuple [.int 0, .int 0, .tuple []])), s4]⟩ P = some (.fz (.list []), P) := e5
  have e6 : gAll [.list []] = some (.bool true) := rfl
  have c1 : ¬ ((many : Int) < 0) := by omega
  exact ⟨_, by unfold bT; simp [he, inst, t_isnum, numD, e7, e6, c1]; rfl⟩
theorem odd_short (many : Nat) : Odd many (.tuple [.int 0, .int 1]) := by
  intro es k n s3 s4 P he
  exact ⟨_, by unfold bT; simp [he, inst]; rfl⟩
theorem odd_neg (many : Nat) (x : PyData) : Odd many (.tuple [.int (-1), .int 0, x]) := by
  intro es k n s3 s4 P he
  exact ⟨_, by unfold bT; simp [he, inst, t_isnum, numD]; rfl⟩
theorem odd_far (many : Nat) (new : List Str) (h : ∀ x ∈ new, x ∈ lineS) (hl : new.length ≤ 4000) (p g : Nat) (hp : many < p + g) : Odd many (.tuple [.int p, .int g, .tuple (new.map .str)]) := by
  intro es k n s3 s4 P he
  have e5 := lc_lines new h hl (.int p) (.int g) n (some (.fz (.tuple es))) (some (.fz (.int many))) (some (.fz (.int k))) s4 P
  have e6 := gAll_true (new.map PyData.str)
  generalize hK : (new.map PyData.str).map (fun _ => PyData.bool true) = L at e5 e6
  have e7 : bL ⟨n, [some (.fz (.tuple es)), some (.fz (.int many)), some (.fz (.int k)), some (.fz (.tuple [.int p, .int g, .tuple (new.map .str)])), s4]⟩ P = some (.fz (.list L), P) := e5
  have c1 : ((many : Int) < p + g) := by omega
  exact ⟨_, by unfold bT; simp [he, inst, t_isnum, numD, e7, e6, c1]; rfl⟩
theorem odd_list (many : Nat) (x : List PyData) : Odd many (.tuple [.int 0, .int 0, .list x]) := by
  intro es k n s3 s4 P he
  exact ⟨_, by unfold bT; simp [he, inst, t_isnum, numD]; rfl⟩
theorem occ_bad : (Builtin.Str.occurrences "a\n" "\n" 0 ("a\n" : Str).length 1).isEmpty = false := by decide +kernel
theorem in_bad (P : Store) : inOf P (.str "\n") (.fz (.str "a\n")) = some true := by
  have e : dInS false (.str "\n") (.str "a\n") = some (.bool true) := by
    show some (PyData.bool (false != !(Builtin.Str.occurrences "a\n" "\n" 0 ("a\n" : Str).length 1).isEmpty)) = _
    rw [occ_bad]
    rfl
  show (match dictOf P (.fz (.str "a\n")) with
    | some D => (dlook D (.str "\n")).map Option.isSome
    | none => (flat P (.fz (.str "a\n"))).bind fun d => match dInS false (.str "\n") d with
      | some (.bool b) => some b
      | _ => none) = _
  show (match dInS false (.str "\n") (.str "a\n") with
      | some (.bool b) => some b
      | _ => none) = _
  rw [e]
theorem odd_line1 (many : Nat) : Odd many (.tuple [.int 0, .int 0, .tuple [.str "a\n"]]) := by
  intro es k n s3 s4 P he
  have e5 : bL ⟨n, [some (.fz (.tuple es)), some (.fz (.int many)), some (.fz (.int k)), some (.fz (.tuple [.int 0, .int 0, .tuple [.str "a\n"]])), s4]⟩ P = some (.fz (.list ([PyData.str "a\n"].map fun _ => .bool false)), P) := by
    refine mLC_map (items := [.str "a\n"]) (src := .fz (.tuple [.str "a\n"])) (fun _ => .bool false) (by simp) (by decide) fun d hd S => ?_
    rw [List.mem_singleton] at hd; subst hd
    refine ⟨_, rfl, ?_⟩
    simp [EV.wipe, in_bad, inst]
  have e6 : gAll [.list ([PyData.str "a\n"].map fun _ => PyData.bool false)] = some (.bool false) := rfl
  exact ⟨_, by unfold bT; simp [he, inst, t_isnum, numD, e5, e6, -List.map_cons]; rfl⟩
theorem odd_line2 (many : Nat) : Odd many (.tuple [.int 0, .int 0, .tuple [.none]]) := by
  intro es k n s3 s4 P he
  have e5 : bL ⟨n, [some (.fz (.tuple es)), some (.fz (.int many)), some (.fz (.int k)), some (.fz (.tuple [.int 0, .int 0, .tuple [.none]])), s4]⟩ P = some (.fz (.list ([PyData.none].map fun _ => .bool false)), P) := by
    refine mLC_map (items := [.none]) (src := .fz (.tuple [.none])) (fun _ => .bool false) (by simp) (by decide) fun d hd S => ?_
    rw [List.mem_singleton] at hd; subst hd
    refine ⟨_, rfl, ?_⟩
    simp [EV.wipe, inst]
  have e6 : gAll [.list ([PyData.none].map fun _ => PyData.bool false)] = some (.bool false) := rfl
  exact ⟨_, by unfold bT; simp [he, inst, t_isnum, numD, e5, e6, -List.map_cons]; rfl⟩
theorem odd_true (many : Nat) (g x : PyData) : Odd many (.tuple [.bool true, g, x]) := by
  intro es k n s3 s4 P he
  exact ⟨_, by unfold bT; simp [he, inst, t_isnum, numD]; rfl⟩
theorem odd_gone (many : Nat) (x : PyData) : Odd many (.tuple [.int 0, .none, x]) := by
  intro es k n s3 s4 P he
  exact ⟨_, by unfold bT; simp [he, inst, t_isnum, numD]; rfl⟩
end NS

set_option maxHeartbeats 2000000
set_option linter.all false
set_option maxRecDepth 10000
namespace NS
open PySem Pd L2
/-! k22: a stroke too close, told -/
theorem turn_close (es : List PyData) (p g many : Int) (new : List Str) (hp0 : 0 ≤ p) (hg0 : 0 ≤ g) (k : Nat) (p0 g0 : Int) (new0 : List Str) (h0 : es[k]? = some (stkD p0 g0 new0)) (hlt : p ≤ p0 + g0) (he : es[k + 1]? = some (stkD p g new)) (h : ∀ x ∈ new, x ∈ lineS) (hl : new.length ≤ 4000) (hm : p + g ≤ many) (hd : g ≠ 0 ∨ new ≠ []) (n : Nat) (s3 s4 : Option SV) (P : Store) :
    ∃ ρ, bT ⟨n, [some (.fz (.tuple es)), some (.fz (.int many)), some (.fz (.int ((k : Int) + 1))), s3, s4]⟩ P = some (.inr ("Wrong", .int ((k : Int) + 1)), ρ, P) := by
  have e5 := lc_lines new h hl (.int p) (.int g) n (some (.fz (.tuple es))) (some (.fz (.int many))) (some (.fz (.int ((k : Int) + 1)))) s4 P
  have e6 := gAll_true (new.map PyData.str)
  generalize hK : (new.map PyData.str).map (fun _ => PyData.bool true) = L at e5 e6
  have e7 : bL ⟨n, [some (.fz (.tuple es)), some (.fz (.int many)), some (.fz (.int ((k : Int) + 1))), some (.fz (.tuple [.int p, .int g, .tuple (new.map .str)])), s4]⟩ P = some (.fz (.list L), P) := e5
  unfold bT
  have g3 : gLenA [PyData.tuple [.int p, .int g, .tuple (new.map .str)]] = some (.int 3) := rfl
  have a1 : atI es ((k : Int) + 1) = some (stkD p g new) := by
    have := atI_nat' es (k + 1)
    rw [he] at this
    exact this
  have a0 : atI es (k : Int) = some (stkD p0 g0 new0) := by rw [atI_nat', h0]
  have c3 : (0 : Int) < k + 1 := by omega
  have c4 : (p ≤ p0 + g0) := by omega
  simp only [stkD] at a0 a1
  have c1 : ¬ (many < p + g) := by omega
  have g2 : gLenA [PyData.tuple (new.map .str)] = some (.int (new.length : Nat)) := by
    have : gLenA [PyData.tuple (new.map .str)] = some (.int ((new.map PyData.str).length : Nat)) := rfl
    rw [this, List.length_map]
  by_cases hg : g = 0
  · subst hg
    have hn : ¬ new = [] := by simpa using hd
    have c2 : ¬ (many < p) := by omega
    exact ⟨_, by simp [a0, a1, c3, c4, e7, e6, g3, g2, inst, t_isnum, numD, stkD, c1, c2, hn, hp0]; rfl⟩
  · exact ⟨_, by simp [a0, a1, c3, c4, e7, e6, g3, g2, inst, t_isnum, numD, stkD, c1, hg, hp0, hg0]; rfl⟩
theorem t_close (E : List Stk) (s : Stk) (many : Nat) (hm : many ≤ 50) (h : Right many 0 (E ++ [s])) (P : Store) : m_check_edit [.fz (.tuple ((E ++ [s]).map Stk.d ++ [stkD (s.p + s.g) 0 ["z"]])), .fz (.int many)] P = some (.inr ("Wrong", .int (E.length + 1)), P) := by
  have hl : (E ++ [s]).length ≤ 100 := by rcases h.len with h | h; omega; simp at h
  have hs := h.sub s (by simp)
  obtain ⟨s2, s3, e⟩ := chk_go ((E ++ [s]).map Stk.d ++ [stkD (s.p + s.g) 0 ["z"]]) many P.length (rangeD (0 + ((E ++ [s]).length : Nat)) (0 + 1)) P (E ++ [s]) 0 0 h (fun j t hj => by
    have hj2 : j < ((E ++ [s]).map Stk.d).length := by rw [List.length_map]; exact (List.getElem?_eq_some_iff.mp hj).1
    rw [Nat.zero_add, List.getElem?_append_left hj2, List.getElem?_map, hj]; rfl) (.inl rfl) none none none
  simp only [m_check_edit, mFunX_ap]
  show ((b_check_edit ⟨P.length, [some (.fz (.tuple ((E ++ [s]).map Stk.d ++ [stkD (s.p + s.g) 0 ["z"]]))), some (.fz (.int many)), none, none, none]⟩ P).bind _) = _
  rw [check_body _ _ (by simp at hl ⊢; omega)]
  rw [show ((E ++ [s]).map Stk.d ++ [stkD (s.p + s.g) 0 ["z"]]).length = (E ++ [s]).length + (0 + 1) by simp, rangeD_split]
  rw [show ((0 : Nat) : Int) = 0 from rfl] at e
  rw [e, rangeD_succ, Int.zero_add]
  have hL : (((E ++ [s]).length : Nat) : Int) = (E.length : Int) + 1 := by simp
  rw [hL]
  obtain ⟨ρ, e2⟩ := turn_close ((E ++ [s]).map Stk.d ++ [stkD (s.p + s.g) 0 ["z"]]) (s.p + s.g) 0 many ["z"] (by omega) (by omega) E.length s.p s.g s.new (by simp; rfl) (by omega) (by
    rw [List.getElem?_append_right (by simp)]; simp) (by simp [lineS]) (by simp) (by omega) (.inr (by simp)) P.length s3 none P
  rw [goX_wrong e2]
  simp
theorem t_list (ds : List PyData) (many : Int) (P : Store) : m_check_edit [.fz (.list ds), .fz (.int many)] P = some (.inr ("Wrong", .int (-1)), P) := by
  simp only [m_check_edit, mFunX_ap, b_check_eq]
  have hn : dNeg (.int 1) = some (.int (-1)) := rfl
  simp [startE, inst, hn]
theorem told_ok (d : PyData) (many : Int) (P : Store) (h : m_check_edit [.fz d, .fz (.int many)] P = some (.inl (.fz .none), P)) : m__law_told [.fz d, .fz (.int many)] P = some (.fz (.tuple [.str "told", .none]), P) := by
  simp only [m__law_told, mFun_ap, b__law_told]
  simp [startE, h]
theorem told_bad (d : PyData) (many : Int) (P : Store) (x : PyData) (h : m_check_edit [.fz d, .fz (.int many)] P = some (.inr ("Wrong", x), P)) : m__law_told [.fz d, .fz (.int many)] P = some (.fz (.tuple [.str "wrong", x]), P) := by
  simp only [m__law_told, mFun_ap, b__law_told]
  simp [startE, h, Pd.gTup]
end NS

set_option maxHeartbeats 2000000
set_option linter.all false
set_option maxRecDepth 10000
namespace NS
open PySem Pd L2
/-! k22: applied, undone -/
@[simp] theorem dSl_lst (ds : List PyData) (a b : Option Int) : dSl (.list ds) a b = some (.list (cutL ds a b)) := rfl
theorem cut_two (ds : List PyData) (a b : Nat) (h : a ≤ ds.length) (hb : b ≤ ds.length) : cutL ds (some (a : Int)) (some (b : Int)) = (ds.take b).drop a := by
  simp [cutL, HT.sIx_nat, Nat.min_eq_left h, Nat.min_eq_left hb, List.drop_take]
theorem cut_drop (ds : List PyData) (a : Nat) (h : a ≤ ds.length) : cutL ds (some (a : Int)) none = ds.drop a := by
  simp [cutL, HT.sIx_none, HT.sIx_nat, Nat.min_eq_left h]
  exact List.take_of_length_le (by simp)
def front {α : Type} (m : Str → α) (ls : List α) : Nat → List Stk → List α
  | _, [] => []
  | at', s :: r => (ls.take s.p).drop at' ++ s.new.map m ++ front m ls (s.p + s.g) r
def fin : Nat → List Stk → Nat
  | a, [] => a
  | _, s :: r => fin (s.p + s.g) r
def app (ls : List Str) (a : Nat) (E : List Stk) : List Str := front id ls a E ++ ls.drop (fin a E)
theorem front_map (ls : List Str) : ∀ (E : List Stk) (a : Nat), front PyData.str (ls.map PyData.str) a E = (front id ls a E).map PyData.str
  | [], _ => rfl
  | s :: r, a => by simp [front, front_map ls r]
theorem app_map (ls : List Str) (E : List Stk) (a : Nat) : front PyData.str (ls.map PyData.str) a E ++ (ls.map PyData.str).drop (fin a E) = (app ls a E).map PyData.str := by
  rw [front_map, app, List.map_append, List.map_drop]
theorem Right.mono {n lo lo' : Nat} (hl : lo' ≤ lo) : ∀ {E : List Stk}, Right n lo E → Right n lo' E
  | [], _ => True.intro
  | s :: r, h => ⟨{ h.1 with lo := Nat.le_trans hl h.1.lo }, h.2⟩
theorem Right.fin_le {n : Nat} : ∀ {E : List Stk} {a : Nat}, Right n a E → a ≤ n → fin a E ≤ n
  | [], _, _, h => h
  | s :: r, a, h, _ => (h.2.mono (Nat.le_succ _)).fin_le h.1.hi
theorem front_len {α : Type} (m : Str → α) (ls : List α) (hl : ls.length ≤ 50) {n : Nat} : ∀ (E : List Stk) (a : Nat), Right n a E → (front m ls a E).length ≤ 100 * E.length
  | [], _, _ => by simp [front]
  | s :: r, a, h => by
    have h1 := h.1.sz
    have h2 := front_len m ls hl r (s.p + s.g) (h.2.mono (Nat.le_succ _))
    simp only [front, List.length_append, List.length_drop, List.length_take, List.length_map, List.length_cons]
    omega
theorem sz_k : (100000 : Nat) ≤ sizeLine := by decide
def bA : SM := (sSeq (sSet 2 (mBin dAdd (mBin dAdd (mVar 2) (mCall gListA (aCons (mSl (mVar 0) (oSome (mVar 3)) (oSome (mVar 4))) aNil))) (mCall gListA (aCons (mVar 6) aNil))))
  (sSet 3 (mBin dAdd (mVar 4) (mVar 5))))
def g3 : GM := gTu 3 (gsCons (gNm 4) (gsCons (gNm 5) (gsCons (gNm 6) gsNil)))
theorem app_go (L : List PyData) (hl : L.length ≤ 50) (n : Nat) (P : Store) (ed : SV) : ∀ (E : List Stk) (a : Nat) (acc : List PyData) (s4 s5 s6 : Option SV), Right L.length a E → a ≤ L.length → acc.length + 100 * E.length ≤ 50000 →
    ∃ t4 t5 t6, forGo g3 bA (E.map Stk.d) ⟨n, [some (.fz (.list L)), some ed, some (.fz (.list acc)), some (.fz (.int a)), s4, s5, s6]⟩ P = some (.nx, ⟨n, [some (.fz (.list L)), some ed, some (.fz (.list (acc ++ front PyData.str L a E))), some (.fz (.int (fin a E))), t4, t5, t6]⟩, P) := by
  intro E
  induction E with
  | nil => intro a acc s4 s5 s6 _ _ _; exact ⟨s4, s5, s6, by simp [forGo, front, fin]⟩
  | cons s r ih =>
    intro a acc s4 s5 s6 hR ha hn
    obtain ⟨h1, h2⟩ := hR
    have hp : s.p ≤ L.length := by have := h1.hi; omega
    have c1 := cut_two L a s.p ha hp
    have hsz := h1.sz
    simp only [List.length_cons] at hn
    have d1 := dAdd_lst acc ((L.take s.p).drop a) (Nat.le_trans (by simp only [List.length_drop, List.length_take]; omega) sz_k)
    have d2 := dAdd_lst (acc ++ (L.take s.p).drop a) (s.new.map .str) (Nat.le_trans (by simp only [List.length_map, List.length_append, List.length_drop, List.length_take]; omega) sz_k)
    obtain ⟨t4, t5, t6, e⟩ := ih (s.p + s.g) (acc ++ (L.take s.p).drop a ++ s.new.map .str) (some (.fz (.int s.p))) (some (.fz (.int s.g))) (some (.fz (.tuple (s.new.map .str)))) (h2.mono (Nat.le_succ _)) h1.hi (by simp only [List.length_append, List.length_drop, List.length_take, List.length_map]; omega)
    refine ⟨t4, t5, t6, ?_⟩
    have es : (((s.p + s.g : Nat)) : Int) = (s.p : Int) + s.g := by omega
    rw [es] at e
    simp only [front, fin]
    rw [← List.append_assoc, ← List.append_assoc]
    rw [← e, List.map_cons]
    show ((g3 (.fz s.d) _ P).bind _) = _
    simp [g3, Stk.d, stkD, bA, c1, d1, d2]
theorem b_app_eq : b_applied = (sSeq (sEx (xNo (mCallX m_check_edit (aUp (aCons (mVar 1) (aCons (mCall gLenA (aCons (mVar 0) aNil)) aNil))))))
  (sSeq (sSet 2 (mLst aNil))
  (sSeq (sSet 3 (mC (.int 0)))
  (sSeq (sFor (iAny (mVar 1)) g3 bA)
  (sRet (mBin dAdd (mVar 2) (mCall gListA (aCons (mSl (mVar 0) (oSome (mVar 3)) oNone) aNil)))))))) := rfl
theorem t_applied (ls : List Str) (hl : ls.length ≤ 50) (E : List Stk) (h : Right ls.length 0 E) (P : Store) : m_applied [.fz (.list (ls.map .str)), .fz (edD E)] P = some (.fz (.list ((app ls 0 E).map .str)), P) := by
  have hE : E.length ≤ 51 := by rcases h.len with h | rfl; omega; simp
  have ec := t_check E ls.length hl h P
  obtain ⟨t4, t5, t6, e⟩ := app_go (ls.map .str) (by simpa using hl) P.length P (.fz (edD E)) E 0 [] none none none (by simpa using h) (Nat.zero_le _) (by simp; omega)
  have hf := h.fin_le (Nat.zero_le _)
  have c1 := cut_drop (ls.map .str) (fin 0 E) (by simpa using hf)
  have fl := front_len PyData.str (ls.map PyData.str) (by simpa using hl) E 0 h
  have d1 := dAdd_lst (front PyData.str (ls.map PyData.str) 0 E) ((ls.map PyData.str).drop (fin 0 E)) (Nat.le_trans (by simp only [List.length_drop, List.length_map]; omega) sz_k)
  rw [app_map] at d1
  rw [show ((0 : Nat) : Int) = 0 from rfl, List.nil_append] at e
  have e1 : (sEx (xNo (mCallX m_check_edit (aUp (aCons (mVar 1) (aCons (mCall gLenA (aCons (mVar 0) aNil)) aNil)))))) ⟨P.length, [some (.fz (.list (ls.map .str))), some (.fz (edD E)), none, none, none, none, none]⟩ P = some (.nx, ⟨P.length, [some (.fz (.list (ls.map .str))), some (.fz (edD E)), none, none, none, none, none]⟩, P) := by
    refine st_ex (s := .fz .none) (st_no ((st_callX (l := [.fz (edD E), .fz (.int (ls.length : Nat))]) (P1 := P) (st_aUp ?_)).trans ec))
    simp
  refine (st_fun (ρ1 := ⟨P.length, [some (.fz (.list (ls.map .str))), some (.fz (edD E)), some (.fz (.list (front PyData.str (ls.map PyData.str) 0 E))), some (.fz (.int (fin 0 E))), t4, t5, t6]⟩) (s := .fz (.list ((app ls 0 E).map .str))) (P1 := P) ?_).trans (by simp)
  rw [b_app_eq]
  refine (st_seq e1).trans ?_
  refine (st_seq (st_set (s := .fz (.list [])) (P1 := P) (by simp))).trans ?_
  refine (st_seq (st_set (s := .fz (.int 0)) (P1 := P) (by simp))).trans ?_
  refine (st_seq ((st_for (items := E.map Stk.d) (src := .fz (edD E)) (P1 := P) (by simp [edD])).trans e)).trans ?_
  refine st_ret ?_
  simp [c1, d1]
end NS

set_option maxHeartbeats 2000000
set_option linter.all false
set_option maxRecDepth 10000
namespace NS
open PySem Pd L2
/-! k22: undone -/
theorem cell_at {P : Store} {c : Cell} : (P ++ [c])[P.length]? = some c := by simp
theorem cell_set {P : Store} {c d : Cell} : (P ++ [c]).set P.length d = P ++ [d] := by
  rw [List.set_append_right _ _ (Nat.le_refl _)]; simp
def undo (ls : List Str) : Nat → Nat → List Stk → List Stk
  | _, _, [] => []
  | a, b, s :: r => ⟨b + (s.p - a), s.new.length, (ls.take (s.p + s.g)).drop s.p⟩ :: undo ls (s.p + s.g) (b + (s.p - a) + s.new.length) r
def bU : SM := (sSeq (sEx (mApp (mVar 2) (mTup (aCons (mBin dAdd (mVar 4) (mVar 3)) (aCons (mCall gLenA (aCons (mVar 6) aNil)) (aCons (mCall gTuple (aCons (mSl (mVar 0) (oSome (mVar 4)) (oSome (mBin dAdd (mVar 4) (mVar 5)))) aNil)) aNil))))))
  (sAug 3 (dI fun i j => some (.int (i + j))) (mBin dSub (mCall gLenA (aCons (mVar 6) aNil)) (mVar 5))))
theorem b_undo_eq : b_undone = (sSeq (sEx (xNo (mCallX m_check_edit (aUp (aCons (mVar 1) (aCons (mCall gLenA (aCons (mVar 0) aNil)) aNil))))))
  (sSeq (sSet 2 (mLstC aNil))
  (sSeq (sSet 3 (mC (.int 0)))
  (sSeq (sFor (iAny (mVar 1)) g3 bU)
  (sRet (mCall gTuple (aCons (mVar 2) aNil))))))) := rfl
@[simp] theorem sAug_fz {ρ : EV} {P : Store} {i : Nat} {d : PyData} {g : PyData → PyData → Option PyData} {f : XM} (h : ρ.sl[i]? = some (some (.fz d))) : sAug i g f ρ P = (f ρ P).bind fun (a, P1) => (flat P1 a).bind fun e => (g d e).map fun z => (.nx, ρ.put i (.fz z), P1) := by
  unfold sAug; rw [h]
theorem undo_go (ls : List Str) (hl : ls.length ≤ 50) (P : Store) (ed : SV) : ∀ (E : List Stk) (a b : Nat) (m : Int) (acc : List PyData) (s4 s5 s6 : Option SV), Right ls.length a E → m = (b : Int) - a → acc.length + E.length ≤ 5000 →
    ∃ m' t4 t5 t6, forGo g3 bU (E.map Stk.d) ⟨P.length, [some (.fz (.list (ls.map .str))), some ed, some (.ptr P.length), some (.fz (.int m)), s4, s5, s6]⟩ (P ++ [.lst (acc.map .fz)]) = some (.nx, ⟨P.length, [some (.fz (.list (ls.map .str))), some ed, some (.ptr P.length), some (.fz (.int m')), t4, t5, t6]⟩, P ++ [.lst ((acc ++ (undo ls a b E).map Stk.d).map .fz)]) := by
  intro E
  induction E with
  | nil => intro a b m acc s4 s5 s6 _ _ _; exact ⟨m, s4, s5, s6, by simp [forGo, undo]⟩
  | cons s r ih =>
    intro a b m acc s4 s5 s6 hR hm hn
    obtain ⟨h1, h2⟩ := hR
    have hlo := h1.lo
    have hhi := h1.hi
    simp only [List.length_cons] at hn
    obtain ⟨m', t4, t5, t6, e⟩ := ih (s.p + s.g) (b + (s.p - a) + s.new.length) (m + (s.new.length - s.g)) (acc ++ [Stk.d ⟨b + (s.p - a), s.new.length, (ls.take (s.p + s.g)).drop s.p⟩]) (some (.fz (.int s.p))) (some (.fz (.int s.g))) (some (.fz (.tuple (s.new.map .str)))) (h2.mono (Nat.le_succ _)) (by omega) (by simp; omega)
    refine ⟨m', t4, t5, t6, ?_⟩
    have c1 := cut_two (ls.map .str) s.p (s.p + s.g) (by simp; omega) (by simpa using hhi)
    rw [← List.map_take, ← List.map_drop] at c1
    have e1 : (s.p : Int) + m = ((b + (s.p - a) : Nat) : Int) := by omega
    have es : (((s.p + s.g : Nat)) : Int) = (s.p : Int) + s.g := by omega
    rw [es] at c1
    have sz : acc.length < sizeLine := Nat.lt_of_lt_of_le (show acc.length < 100000 by omega) sz_k
    have eA : (mApp (mVar 2) (mTup (aCons (mBin dAdd (mVar 4) (mVar 3)) (aCons (mCall gLenA (aCons (mVar 6) aNil)) (aCons (mCall gTuple (aCons (mSl (mVar 0) (oSome (mVar 4)) (oSome (mBin dAdd (mVar 4) (mVar 5)))) aNil)) aNil))))) ⟨P.length, [some (.fz (.list (ls.map .str))), some ed, some (.ptr P.length), some (.fz (.int m)), some (.fz (.int s.p)), some (.fz (.int s.g)), some (.fz (.tuple (s.new.map .str)))]⟩ (P ++ [.lst (acc.map .fz)]) = some (.fz .none, P ++ [.lst ((acc ++ [Stk.d ⟨b + (s.p - a), s.new.length, (ls.take (s.p + s.g)).drop s.p⟩]).map .fz)]) := by
      have e1' : (s.p : Int) + m = (b : Int) + ((s.p - a : Nat) : Int) := by omega
      simp [-List.map_drop, -List.map_take, c1, e1', sz, Stk.d, stkD]
    have eB : bU ⟨P.length, [some (.fz (.list (ls.map .str))), some ed, some (.ptr P.length), some (.fz (.int m)), some (.fz (.int s.p)), some (.fz (.int s.g)), some (.fz (.tuple (s.new.map .str)))]⟩ (P ++ [.lst (acc.map .fz)]) = some (.nx, ⟨P.length, [some (.fz (.list (ls.map .str))), some ed, some (.ptr P.length), some (.fz (.int (m + (s.new.length - s.g)))), some (.fz (.int s.p)), some (.fz (.int s.g)), some (.fz (.tuple (s.new.map .str)))]⟩, P ++ [.lst ((acc ++ [Stk.d ⟨b + (s.p - a), s.new.length, (ls.take (s.p + s.g)).drop s.p⟩]).map .fz)]) := by
      refine (st_seq (st_ex eA)).trans ?_
      rw [sAug_fz rfl]
      simp [dI]
    refine (st_forC (ρ1 := ⟨P.length, [some (.fz (.list (ls.map .str))), some ed, some (.ptr P.length), some (.fz (.int m)), some (.fz (.int s.p)), some (.fz (.int s.g)), some (.fz (.tuple (s.new.map .str)))]⟩) (by simp [g3, Stk.d, stkD]) eB).trans ?_
    rw [e]
    simp [undo]
theorem t_undone (ls : List Str) (hl : ls.length ≤ 50) (E : List Stk) (h : Right ls.length 0 E) (P : Store) : m_undone [.fz (.list (ls.map .str)), .fz (edD E)] P = some (.fz (edD (undo ls 0 0 E)), P) := by
  have hE : E.length ≤ 51 := by rcases h.len with h | rfl; omega; simp
  have ec := t_check E ls.length hl h P
  obtain ⟨m', t4, t5, t6, e⟩ := undo_go ls hl P (.fz (edD E)) E 0 0 0 [] none none none h rfl (by simp; omega)
  have e1 : (sEx (xNo (mCallX m_check_edit (aUp (aCons (mVar 1) (aCons (mCall gLenA (aCons (mVar 0) aNil)) aNil)))))) ⟨P.length, [some (.fz (.list (ls.map .str))), some (.fz (edD E)), none, none, none, none, none]⟩ P = some (.nx, ⟨P.length, [some (.fz (.list (ls.map .str))), some (.fz (edD E)), none, none, none, none, none]⟩, P) := by
    refine st_ex (s := .fz .none) (st_no ((st_callX (l := [.fz (edD E), .fz (.int (ls.length : Nat))]) (P1 := P) (st_aUp ?_)).trans ec))
    simp
  rw [List.nil_append] at e
  refine (st_fun (ρ1 := ⟨P.length, [some (.fz (.list (ls.map .str))), some (.fz (edD E)), some (.ptr P.length), some (.fz (.int m')), t4, t5, t6]⟩) (s := .fz (edD (undo ls 0 0 E))) (P1 := P ++ [.lst (((undo ls 0 0 E).map Stk.d).map .fz)]) ?_).trans (by simp)
  rw [b_undo_eq]
  refine (st_seq e1).trans ?_
  refine (st_seq (st_set (s := .ptr P.length) (P1 := P ++ [.lst []]) (by simp))).trans ?_
  refine (st_seq (st_set (s := .fz (.int 0)) (P1 := P ++ [.lst []]) (by simp))).trans ?_
  refine (st_seq ((st_for (items := E.map Stk.d) (src := .fz (edD E)) (P1 := P ++ [.lst []]) (by simp [edD])).trans e)).trans ?_
  refine st_ret ?_
  simp [flat, fzs_map, edD, -List.map_map]
end NS

set_option maxHeartbeats 2000000
set_option linter.all false
set_option maxRecDepth 10000
namespace NS
open PySem Pd L2
/-! k22: the plain laws of applied and undone -/
theorem app_cons (ls : List Str) (a : Nat) (s : Stk) (r : List Stk) : app ls a (s :: r) = (ls.take s.p).drop a ++ (s.new ++ app ls (s.p + s.g) r) := by
  simp [app, front, fin]
theorem app_nil (ls : List Str) (a : Nat) : app ls a [] = ls.drop a := rfl
/-- the lines of an edit are lines -/
def Lns (ls : List Str) : Prop := (∀ x ∈ ls, x ∈ lineS) ∧ ls.length ≤ 50
theorem app_len {ls : List Str} {n : Nat} (hn : n = ls.length) : ∀ {E : List Stk} {a : Nat}, Right n a E → a ≤ n → ∃ k : Nat, (app ls a E).length = k ∧ fin a E ≤ n := by
  intro E a h ha
  exact ⟨_, rfl, h.fin_le ha⟩
theorem take_drop_len {α : Type} (l : List α) (a b : Nat) (hb : b ≤ l.length) : ((l.take b).drop a).length = b - a := by
  simp; omega
theorem undo_right (ls : List Str) (hL : Lns ls) : ∀ (E : List Stk) (a b : Nat) (pre : List Str), Right ls.length a E → a ≤ ls.length → pre.length = b →
    Right (pre ++ app ls a E).length b (undo ls a b E) ∧ app (pre ++ app ls a E) b (undo ls a b E) = ls.drop a ∧ undo (pre ++ app ls a E) b a (undo ls a b E) = E := by
  intro E
  induction E with
  | nil =>
    intro a b pre _ ha hp
    subst hp
    simp [undo, Right, app_nil]
  | cons s r ih =>
    intro a b pre h ha hp
    obtain ⟨h1, h2⟩ := h
    have hlo := h1.lo
    have hhi := h1.hi
    have l1 := take_drop_len ls a s.p (by omega)
    have eD : pre ++ app ls a (s :: r) = (pre ++ (ls.take s.p).drop a ++ s.new) ++ app ls (s.p + s.g) r := by rw [app_cons]; simp
    obtain ⟨i1, i2, i3⟩ := ih (s.p + s.g) (b + (s.p - a) + s.new.length) (pre ++ (ls.take s.p).drop a ++ s.new) (h2.mono (Nat.le_succ _)) hhi (by simp only [List.length_append, l1]; omega)
    rw [← eD] at i1 i2 i3
    have lD : (pre ++ app ls a (s :: r)).length = b + (s.p - a) + s.new.length + (app ls (s.p + s.g) r).length := by
      rw [eD]; simp only [List.length_append, l1]; omega
    have hd : (pre ++ app ls a (s :: r)).take (b + (s.p - a)) = pre ++ (ls.take s.p).drop a := by
      rw [eD, List.append_assoc, List.append_assoc, ← List.append_assoc]
      rw [List.take_append_of_le_length (by simp only [List.length_append, l1]; omega)]
      rw [List.take_of_length_le (by simp only [List.length_append, l1]; omega)]
    have hd2 : (pre ++ app ls a (s :: r)).take (b + (s.p - a) + s.new.length) = pre ++ (ls.take s.p).drop a ++ s.new := by
      rw [eD]
      rw [List.take_append_of_le_length (by simp only [List.length_append, l1]; omega)]
      rw [List.take_of_length_le (by simp only [List.length_append, l1]; omega)]
    have g1 : ((ls.take (s.p + s.g)).drop s.p).length = s.g := by rw [take_drop_len _ _ _ hhi]; omega
    refine ⟨?_, ?_, ?_⟩
    · refine ⟨⟨by show b ≤ b + (s.p - a); omega, by show b + (s.p - a) + s.new.length ≤ _; rw [lD]; omega, ?_, ?_, ?_⟩, ?_⟩
      · by_cases hg : s.new = []
        · rcases h1.does with h | h
          · right
            intro he
            have he : (ls.take (s.p + s.g)).drop s.p = [] := he
            rw [he] at g1; simp at g1; omega
          · exact absurd hg h
        · left
          show s.new.length ≠ 0
          intro z; exact hg (List.length_eq_zero_iff.mp z)
      · intro x hx
        exact hL.1 x (List.mem_of_mem_take (List.mem_of_mem_drop hx))
      · show ((ls.take (s.p + s.g)).drop s.p).length ≤ 50
        rw [g1]; have := hL.2; omega
      · show Right _ (b + (s.p - a) + s.new.length + 1) (undo ls (s.p + s.g) (b + (s.p - a) + s.new.length) r)
        -- strictly behind: the next stroke stands further on
        cases r with
        | nil => exact True.intro
        | cons t r' =>
          have ht := h2.1.lo
          refine ⟨{ i1.1 with lo := ?_ }, i1.2⟩
          show b + (s.p - a) + s.new.length + 1 ≤ b + (s.p - a) + s.new.length + (t.p - (s.p + s.g))
          omega
    · rw [undo, app_cons]
      show ((pre ++ app ls a (s :: r)).take (b + (s.p - a))).drop b ++ ((ls.take (s.p + s.g)).drop s.p ++ app (pre ++ app ls a (s :: r)) (b + (s.p - a) + s.new.length) (undo ls (s.p + s.g) (b + (s.p - a) + s.new.length) r)) = _
      rw [i2, hd, List.drop_append_of_le_length (by omega), List.drop_of_length_le (by omega), List.nil_append]
      have e1 : ls.drop s.p = (ls.take (s.p + s.g)).drop s.p ++ ls.drop (s.p + s.g) := by
        conv => lhs; rw [← List.take_append_drop (s.p + s.g) ls]
        rw [List.drop_append_of_le_length (by simp; omega)]
      rw [← e1]
      conv => rhs; rw [← List.take_append_drop s.p ls]
      rw [List.drop_append_of_le_length (by simp; omega)]
    · rw [undo, undo]
      have e0 : (⟨a + (b + (s.p - a) - b), ((ls.take (s.p + s.g)).drop s.p).length, ((pre ++ app ls a (s :: r)).take (b + (s.p - a) + s.new.length)).drop (b + (s.p - a))⟩ : Stk) = s := by
        have q1 : a + (b + (s.p - a) - b) = s.p := by omega
        rw [q1, g1, hd2, List.drop_append_of_le_length (by simp only [List.length_append, l1]; omega), List.drop_of_length_le (by simp only [List.length_append, l1]; omega), List.nil_append]
      have q2 : a + (b + (s.p - a) - b) + ((ls.take (s.p + s.g)).drop s.p).length = s.p + s.g := by rw [g1]; omega
      simp only [e0, q2]
      show s :: undo (pre ++ app ls a (s :: r)) (b + (s.p - a) + s.new.length) (s.p + s.g) (undo ls (s.p + s.g) (b + (s.p - a) + s.new.length) r) = s :: r
      rw [i3]
end NS

set_option maxHeartbeats 2000000
set_option linter.all false
set_option maxRecDepth 10000
namespace NS
open PySem Pd L2
/-! k22: a drawn edit -/
def bG : SM := (sSeq (sSet 4 (mSub (mLst (aCons (mC (.int 0)) (aCons (mC (.int 0)) (aCons (mC (.int 1)) (aCons (mC (.int 2)) aNil))))) (mCallF m__law_draw (aCons (mVar 0) (aCons (mC (.int 4)) aNil)))))
  (sSeq (sSet 4 (mCall gMin2 (aCons (mVar 4) (aCons (mBin dSub (mCall gLenA (aCons (mVar 1) aNil)) (mVar 3)) aNil))))
  (sSeq (sSet 5 (mCall gTuple (aCons (mLC [6] (iRange (aCons (mCallF m__law_draw (aCons (mVar 0) (aCons (mC (.int 3)) aNil))) aNil)) (gNm 6) bYes (mSub (mLst (aCons (mC (.str "a")) (aCons (mC (.str "n")) (aCons (mC (.str "")) (aCons (mC (.str "x y")) aNil))))) (mCallF m__law_draw (aCons (mVar 0) (aCons (mC (.int 4)) aNil))))) aNil)))
  (sSeq (sIf (mAndB (mTB (mBin dEq (mCallF m__law_draw (aCons (mVar 0) (aCons (mC (.int 2)) aNil))) (mC (.int 0)))) (mOrB (mTB (mBin dGt (mVar 4) (mC (.int 0)))) (mTB (mBin dGt (mCall gLenA (aCons (mVar 5) aNil)) (mC (.int 0)))))) (sSeq (sEx (mApp (mVar 2) (mTup (aCons (mVar 3) (aCons (mVar 4) (aCons (mVar 5) aNil))))))
  (sSet 3 (mBin dAdd (mVar 3) (mVar 4)))) sNx)
  (sSet 3 (mBin dAdd (mBin dAdd (mVar 3) (mC (.int 1))) (mCallF m__law_draw (aCons (mVar 0) (aCons (mC (.int 2)) aNil)))))))))
theorem b_edit_eq : b__law_edit = (sSeq (sPar 2 3 (aCons (mLstC aNil) (aCons (mC (.int 0)) aNil)))
  (sSeq (whGo (mTB (mBin dLe (mVar 3) (mCall gLenA (aCons (mVar 1) aNil)))) bG 100000)
  (sRet (mCall gTuple (aCons (mVar 2) aNil))))) := rfl
def alphaN : List Str := ["a", "n", "", "x y"]
/-- new lines of a stroke -/
theorem sp_new (c : Dr) (R : Store) (ρ : EV) (h0 : ρ.sl[0]? = some (some (.ptr 0))) : W (mLC [6] (iRange (aCons (mCallF m__law_draw (aCons (mVar 0) (aCons (mC (.int 3)) aNil))) aNil)) (gNm 6) bYes (mSub (mLst (aCons (mC (.str "a")) (aCons (mC (.str "n")) (aCons (mC (.str "")) (aCons (mC (.str "x y")) aNil))))) (mCallF m__law_draw (aCons (mVar 0) (aCons (mC (.int 4)) aNil)))) ρ (c.cell :: R)) fun r => ∃ (ls : List Str) (c' : Dr), ls.length ≤ 2 ∧ (∀ x ∈ ls, x ∈ alphaN) ∧ r = (.fz (.list (ls.map .str)), c'.cell :: R) := by
  obtain ⟨b, sl⟩ := ρ
  simp only at h0
  obtain ⟨_, e, v, c1, v0, v1, rfl⟩ := sp_draw c 3 (by omega) (by omega) R
  obtain ⟨n, rfl⟩ := Int.eq_ofNat_of_zero_le v0
  have hr : iRange (aCons (mCallF m__law_draw (aCons (mVar 0) (aCons (mC (.int 3)) aNil))) aNil) ⟨b, sl⟩ (c.cell :: R) = some (rangeD 0 n, .fz .none, c1.cell :: R) := by
    refine iRange_nat ?_ (by omega)
    simp [h0, e]
  refine W_lc (fun i acc S => ∃ (ls : List Str) (c' : Dr), ls.length = i ∧ (∀ x ∈ ls, x ∈ alphaN) ∧ acc = ls.map .str ∧ S = c'.cell :: R) hr (by rw [rangeD_len]; exact Nat.le_trans (show n ≤ 100 by omega) (by decide)) ⟨[], c1, rfl, by simp, rfl, rfl⟩ ?_ ?_
  · rintro i d acc S hd ⟨ls, c2, hi, hps, rfl, rfl⟩ hS
    rw [gNm_ap, W_some]
    have h06 : ∀ b', (((EV.wipe ⟨b', sl⟩ [6]).sl.set 6 (some (.fz d)))[0]?) = some (some (.ptr 0)) := by
      intro b'; simp [EV.wipe, h0]
    simp only [EV.put, bYes_ap, W_some, if_true, mSub_ap, mLst_ap, aCons_ap, aNil_ap, mC_ap, Option.bind_some, Option.map_some, fzs_cons, fzs_nil, List.length_cons, List.length_nil]
    rw [if_pos (by decide)]
    simp only [W_bind, W_some, Option.bind_some, Option.map_some, mCallF_ap, aCons_ap, aNil_ap, mC_ap, mVar_ap, h06, Option.join_some]
    refine (sp_draw c2 4 (by decide) (by decide) _).mono ?_
    rintro _ ⟨j, c3, j0, j1, rfl⟩
    obtain ⟨k, rfl⟩ := Int.eq_ofNat_of_zero_le j0
    have hk : k < alphaN.length := by show k < 4; omega
    have hx : ∃ x : Str, x ∈ alphaN ∧ ([PyData.str "a", .str "n", .str "", .str "x y"] : List PyData)[k]? = some (.str x) := by
      have e2 : ([PyData.str "a", .str "n", .str "", .str "x y"] : List PyData) = alphaN.map .str := rfl
      exact ⟨alphaN[k], List.getElem_mem hk, by rw [e2, List.getElem?_map, List.getElem?_eq_getElem hk]; rfl⟩
    obtain ⟨x, hx, ex⟩ := hx
    have es : ∀ S : Store, subOf S (SV.fz (.list [.str "a", .str "n", .str "", .str "x y"])) (.int (k : Nat)) = some (.fz (.str x)) := by
      intro S
      rw [subOf_lst]
      rw [atI_nat', ex]
      rfl
    simp only [flat_fz, Option.bind_some, es, Option.map_some, W_some]
    refine ⟨.str x, c3.cell :: R, by simp, by simp, ls ++ [x], c3, by simp [hi], ?_, by simp, rfl⟩
    intro z hz
    rcases List.mem_append.mp hz with hz | hz
    · exact hps z hz
    · simp at hz; subst hz; exact hx
  · rintro acc S ⟨ls, c2, hi, hps, rfl, rfl⟩ _ _
    rw [rangeD_len] at hi
    exact ⟨ls, c2, by omega, hps, rfl⟩
end NS

set_option maxHeartbeats 2000000
set_option linter.all false
set_option maxRecDepth 10000
namespace NS
open PySem Pd L2
/-! k22: a drawn edit is right -/
def PreE (n : Nat) (E : List Stk) (a : Nat) : Prop := ∀ F, Right n a F → Right n 0 (E ++ F)
theorem PreE.skip {n : Nat} {E : List Stk} {a a' : Nat} (h : PreE n E a) (l : a ≤ a') : PreE n E a' := fun F hF => h F (hF.mono l)
theorem PreE.more {n : Nat} {E : List Stk} {a : Nat} (h : PreE n E a) {s : Stk} (hs : StkOk n a s) : PreE n (E ++ [s]) (s.p + s.g + 1) := fun F hF => by
  have := h (s :: F) ⟨hs, hF⟩
  simpa using this
theorem PreE.right {n : Nat} {E : List Stk} {a : Nat} (h : PreE n E a) : Right n 0 E := by
  have := h [] True.intro
  simpa using this
theorem alphaN_line : ∀ x ∈ alphaN, x ∈ lineS := by decide +kernel
def eStore (c : Dr) (R : Store) (E : List Stk) : Store := c.cell :: (R ++ [.lst ((E.map Stk.d).map .fz)])
def eEnv (R : Store) (ls : List Str) (a : Nat) (s4 s5 s6 : Option SV) : EV := ⟨R.length + 1, [some (.ptr 0), some (.fz (.list (ls.map .str))), some (.ptr (R.length + 1)), some (.fz (.int a)), s4, s5, s6]⟩
theorem e_app {c : Dr} {R : Store} {E : List Stk} {s : Stk} (h : E.length < 1000) : (mApp (mVar 2) (mTup (aCons (mVar 3) (aCons (mVar 4) (aCons (mVar 5) aNil))))) (eEnv R ls s.p (some (.fz (.int s.g))) (some (.fz (.tuple (s.new.map .str)))) s6) (eStore c R E) = some (.fz .none, eStore c R (E ++ [s])) := by
  have sz : E.length < sizeLine := Nat.lt_of_lt_of_le (show E.length < 100000 by omega) sz_k
  simp [eEnv, eStore, sz, Stk.d, stkD]
theorem draw_at {c c' : Dr} {R : Store} {lim v : Int} {ρ : EV} (h0 : ρ.sl[0]? = some (some (.ptr 0))) (e : m__law_draw [.ptr 0, .fz (.int lim)] (c.cell :: R) = some (.fz (.int v), c'.cell :: R)) : mCallF m__law_draw (aCons (mVar 0) (aCons (mC (.int lim)) aNil)) ρ (c.cell :: R) = some (.fz (.int v), c'.cell :: R) := by
  obtain ⟨b, sl⟩ := ρ
  refine (st_callF (l := [.ptr 0, .fz (.int lim)]) (P1 := c.cell :: R) ?_).trans e
  simp only at h0
  simp [h0]
theorem sub4 (k : Nat) (hk : k < 4) : ∃ g : Nat, g ≤ 2 ∧ ∀ S : Store, subOf S (SV.fz (.list [.int 0, .int 0, .int 1, .int 2])) (.int (k : Nat)) = some (.fz (.int g)) := by
  have : ∃ g : Nat, g ≤ 2 ∧ ([PyData.int 0, .int 0, .int 1, .int 2] : List PyData)[k]? = some (.int g) := by
    have : k = 0 ∨ k = 1 ∨ k = 2 ∨ k = 3 := by omega
    rcases this with rfl | rfl | rfl | rfl
    · exact ⟨0, by omega, rfl⟩
    · exact ⟨0, by omega, rfl⟩
    · exact ⟨1, by omega, rfl⟩
    · exact ⟨2, by omega, rfl⟩
  obtain ⟨g, h, eg⟩ := this
  exact ⟨g, h, fun S => by rw [subOf_lst, atI_nat', eg]; rfl⟩
theorem turn1 {ρ : EV} {S S' : Store} {k g : Nat} (e : mCallF m__law_draw (aCons (mVar 0) (aCons (mC (.int 4)) aNil)) ρ S = some (.fz (.int (k : Nat)), S')) (es : ∀ S : Store, subOf S (SV.fz (.list [.int 0, .int 0, .int 1, .int 2])) (.int (k : Nat)) = some (.fz (.int g))) :
    mSub (mLst (aCons (mC (.int 0)) (aCons (mC (.int 0)) (aCons (mC (.int 1)) (aCons (mC (.int 2)) aNil))))) (mCallF m__law_draw (aCons (mVar 0) (aCons (mC (.int 4)) aNil))) ρ S = some (.fz (.int g), S') := by
  refine st_sub (a := .fz (.list [.int 0, .int 0, .int 1, .int 2])) (P1 := S) ?_ e (es _)
  simp
theorem min_ex (g n a : Nat) (ha : a ≤ n) : ∃ g2 : Nat, g2 ≤ n - a ∧ gMin2 [.int (g : Nat), .int ((n : Int) - a)] = some (.int (g2 : Nat)) := by
  unfold gMin2
  by_cases h : ((n : Int) - a) < (g : Int)
  · exact ⟨n - a, Nat.le_refl _, by simp only [if_pos h]; congr 2; omega⟩
  · exact ⟨g, by omega, by simp only [if_neg h]⟩
/-- what may follow a turn -/
def TurnQ (R : Store) (ls : List Str) (a : Nat) (r : Fl × EV × Store) : Prop := ∃ (E' : List Stk) (a' : Nat) (c' : Dr) (t4 t5 t6 : Option SV), a < a' ∧ E'.length ≤ a' ∧ PreE ls.length E' a' ∧ (∀ s ∈ E', s.new.length ≤ 2) ∧ r = (.nx, eEnv R ls a' t4 t5 t6, eStore c' R E')
theorem turn_tail (R : Store) (ls : List Str) (a : Nat) (E' : List Stk) (b : Nat) (hE' : E'.length ≤ b + 1) (hb : a ≤ b) (hp' : PreE ls.length E' (b + 1)) (h2 : ∀ s ∈ E', s.new.length ≤ 2) (t4 t5 t6 : Option SV) (c3 : Dr) : W ((sSet 3 (mBin dAdd (mBin dAdd (mVar 3) (mC (.int 1))) (mCallF m__law_draw (aCons (mVar 0) (aCons (mC (.int 2)) aNil))))) (eEnv R ls b t4 t5 t6) (eStore c3 R E')) (TurnQ R ls a) := by
  obtain ⟨_, e, v, c4, v0, v1, rfl⟩ := sp_draw c3 2 (by decide) (by decide) (R ++ [.lst ((E'.map Stk.d).map .fz)])
  obtain ⟨w, rfl⟩ := Int.eq_ofNat_of_zero_le v0
  have e2 := draw_at (ρ := eEnv R ls b t4 t5 t6) rfl e
  refine W.eq (st_set (s := .fz (.int ((b + 1 + w : Nat) : Int))) (P1 := eStore c4 R E') ?_) ⟨E', b + 1 + w, c4, t4, t5, t6, by omega, by omega, hp'.skip (by omega), h2, rfl⟩
  have e3 : mBin dAdd (mVar 3) (mC (.int 1)) (eEnv R ls b t4 t5 t6) (eStore c3 R E') = some (.fz (.int ((b : Int) + 1)), eStore c3 R E') := by simp [eEnv]
  refine st_bin e3 e2 ?_
  simp
theorem sp_turn (c : Dr) (R : Store) (ls : List Str) (hl : ls.length ≤ 50) (E : List Stk) (a : Nat) (hE : E.length ≤ a) (hp : PreE ls.length E a) (h2 : ∀ s ∈ E, s.new.length ≤ 2) (ha : a ≤ ls.length) (s4 s5 s6 : Option SV) :
    W (bG (eEnv R ls a s4 s5 s6) (eStore c R E)) (TurnQ R ls a) := by
  -- how many go
  obtain ⟨_, e1, v, c1, v0, v1, rfl⟩ := sp_draw c 4 (by decide) (by decide) (R ++ [.lst ((E.map Stk.d).map .fz)])
  obtain ⟨k, rfl⟩ := Int.eq_ofNat_of_zero_le v0
  obtain ⟨g, hg2, es⟩ := sub4 k (by omega)
  have t1 := turn1 (draw_at (ρ := eEnv R ls a s4 s5 s6) rfl e1) es
  obtain ⟨g2, hg, em⟩ := min_ex g ls.length a ha
  have t2 : mCall gMin2 (aCons (mVar 4) (aCons (mBin dSub (mCall gLenA (aCons (mVar 1) aNil)) (mVar 3)) aNil)) (eEnv R ls a (some (.fz (.int g))) s5 s6) (eStore c1 R E) = some (.fz (.int g2), eStore c1 R E) := by
    simp [eEnv, em]
  -- the new lines
  obtain ⟨_, e3, new, c2, hn2, hnew, rfl⟩ := sp_new c1 (R ++ [.lst ((E.map Stk.d).map .fz)]) (eEnv R ls a (some (.fz (.int g2))) s5 s6) rfl
  have hs : ∀ (hd : g2 ≠ 0 ∨ new ≠ []), StkOk ls.length a ⟨a, g2, new⟩ := fun hd => ⟨Nat.le_refl _, by show a + g2 ≤ ls.length; omega, hd, fun x hx => alphaN_line x (hnew x hx), by show new.length ≤ 50; omega⟩
  have t3 := st_call (F := gTuple) (g := aCons (mLC [6] (iRange (aCons (mCallF m__law_draw (aCons (mVar 0) (aCons (mC (.int 3)) aNil))) aNil)) (gNm 6) bYes (mSub (mLst (aCons (mC (.str "a")) (aCons (mC (.str "n")) (aCons (mC (.str "")) (aCons (mC (.str "x y")) aNil))))) (mCallF m__law_draw (aCons (mVar 0) (aCons (mC (.int 4)) aNil))))) aNil) (ρ := eEnv R ls a (some (.fz (.int g2))) s5 s6) (P := c1.cell :: (R ++ [.lst ((E.map Stk.d).map .fz)])) (l := [.fz (.list (new.map .str))]) (ds := [.list (new.map .str)]) (z := .tuple (new.map .str)) (P1 := c2.cell :: (R ++ [.lst ((E.map Stk.d).map .fz)])) (by rw [aCons_ap, e3]; rfl) rfl rfl
  -- put, or not
  obtain ⟨_, e4, v, c3, v0, v1, rfl⟩ := sp_draw c2 2 (by decide) (by decide) (R ++ [.lst ((E.map Stk.d).map .fz)])
  have e5 := draw_at (ρ := eEnv R ls a (some (.fz (.int g2))) (some (.fz (.tuple (new.map .str)))) s6) rfl e4
  have e6 : mTB (mBin dEq (mCallF m__law_draw (aCons (mVar 0) (aCons (mC (.int 2)) aNil))) (mC (.int 0))) (eEnv R ls a (some (.fz (.int g2))) (some (.fz (.tuple (new.map .str)))) s6) (eStore c2 R E) = some (decide (v = 0), eStore c3 R E) := by
    exact st_tb (st_bin e5 (mC_ap _) (dEq_int _ _))
  refine W_seqE (st_set t1) (W_seqE (st_set t2) (W_seqE (st_set t3) ?_))
  show W (sSeq _ _ (eEnv R ls a (some (.fz (.int g2))) (some (.fz (.tuple (new.map .str)))) s6) (eStore c2 R E)) _
  by_cases hv : v = 0 ∧ (g2 ≠ 0 ∨ new ≠ [])
  · obtain ⟨rfl, hd⟩ := hv
    have ec : (mOrB (mTB (mBin dGt (mVar 4) (mC (.int 0)))) (mTB (mBin dGt (mCall gLenA (aCons (mVar 5) aNil)) (mC (.int 0))))) (eEnv R ls a (some (.fz (.int g2))) (some (.fz (.tuple (new.map .str)))) s6) (eStore c3 R E) = some (true, eStore c3 R E) := by
      by_cases hg : 0 < g2
      · have hg' : (0 : Int) < g2 := by omega
        exact st_orT (st_tb (st_bin (d := .int g2) (e := .int 0) (P1 := eStore c3 R E) (P2 := eStore c3 R E) (by simp [eEnv]) (by simp) (by simp [hg])))
      · have hg' : ¬ (0 : Int) < g2 := by omega
        have hn : new ≠ [] := by rcases hd with h | h; omega; exact h
        have hn' : (0 : Int) < (new.length : Nat) := by
          have := List.length_pos_iff.mpr hn
          omega
        refine (st_or (st_tb (st_bin (d := .int g2) (e := .int 0) (z := .bool false) (P1 := eStore c3 R E) (P2 := eStore c3 R E) (by simp [eEnv]) (by simp) (by simp [show g2 = 0 by omega])))).trans ?_
        exact st_tb (st_bin (d := .int new.length) (e := .int 0) (P1 := eStore c3 R E) (P2 := eStore c3 R E) (by simp [eEnv]) (by simp) (by simp [List.length_pos_iff.mpr hn]))
    have ea := e_app (ls := ls) (c := c3) (R := R) (E := E) (s := ⟨a, g2, new⟩) (s6 := s6) (by have := hl; omega)
    have ei : (mAndB (mTB (mBin dEq (mCallF m__law_draw (aCons (mVar 0) (aCons (mC (.int 2)) aNil))) (mC (.int 0)))) (mOrB (mTB (mBin dGt (mVar 4) (mC (.int 0)))) (mTB (mBin dGt (mCall gLenA (aCons (mVar 5) aNil)) (mC (.int 0)))))) (eEnv R ls a (some (.fz (.int g2))) (some (.fz (.tuple (new.map .str)))) s6) (eStore c2 R E) = some (true, eStore c3 R E) := by
      exact (st_and (P1 := eStore c3 R E) (e6.trans (by rw [decide_eq_true (rfl : (0 : Int) = 0)]))).trans ec
    have eset : (sSet 3 (mBin dAdd (mVar 3) (mVar 4))) (eEnv R ls a (some (.fz (.int g2))) (some (.fz (.tuple (new.map .str)))) s6) (eStore c3 R (E ++ [⟨a, g2, new⟩])) = some (.nx, eEnv R ls (a + g2) (some (.fz (.int g2))) (some (.fz (.tuple (new.map .str)))) s6, eStore c3 R (E ++ [⟨a, g2, new⟩])) := by
      refine (st_set (s := .fz (.int ((a + g2 : Nat) : Int))) (P1 := eStore c3 R (E ++ [⟨a, g2, new⟩])) ?_).trans rfl
      simp [eEnv]
    refine W_seqE ((st_ifT ei).trans ((st_seq (st_ex ea)).trans eset)) ?_
    have hh := turn_tail R ls a (E ++ [⟨a, g2, new⟩]) (a + g2) (by simp; omega) (by omega) (hp.more (hs hd)) (fun s hs' => by
      rcases List.mem_append.mp hs' with z | z
      · exact h2 s z
      · simp at z; subst z; exact hn2) (some (.fz (.int g2))) (some (.fz (.tuple (new.map .str)))) s6 c3
    exact hh
  · have ei : (mAndB (mTB (mBin dEq (mCallF m__law_draw (aCons (mVar 0) (aCons (mC (.int 2)) aNil))) (mC (.int 0)))) (mOrB (mTB (mBin dGt (mVar 4) (mC (.int 0)))) (mTB (mBin dGt (mCall gLenA (aCons (mVar 5) aNil)) (mC (.int 0)))))) (eEnv R ls a (some (.fz (.int g2))) (some (.fz (.tuple (new.map .str)))) s6) (eStore c2 R E) = some (false, eStore c3 R E) := by
      by_cases hv0 : v = 0
      · subst hv0
        have hg0 : g2 = 0 := Classical.byContradiction fun z => hv ⟨rfl, .inl z⟩
        have hn0 : new = [] := Classical.byContradiction fun z => hv ⟨rfl, .inr z⟩
        subst hg0; subst hn0
        refine (st_and (P1 := eStore c3 R E) (e6.trans (by rw [decide_eq_true (rfl : (0 : Int) = 0)]))).trans ?_
        refine (st_or (st_tb (st_bin (d := .int 0) (e := .int 0) (z := .bool false) (P1 := eStore c3 R E) (P2 := eStore c3 R E) (by simp [eEnv]) (by simp) (by simp)))).trans ?_
        exact st_tb (st_bin (d := .int 0) (e := .int 0) (z := .bool false) (P1 := eStore c3 R E) (P2 := eStore c3 R E) (by simp [eEnv]) (by simp) (by simp))
      · exact st_andF (e6.trans (by rw [decide_eq_false hv0]))
    refine W_seqE (st_ifF ei) ?_
    have hh := turn_tail R ls a E a (by omega) (by omega) (hp.skip (by omega)) h2 (some (.fz (.int g2))) (some (.fz (.tuple (new.map .str)))) s6 c3
    exact hh
end NS

set_option maxHeartbeats 1000000
set_option linter.all false
set_option maxRecDepth 10000
namespace NS
open PySem Pd L2
/-! k22: the drawn edit, whole -/
theorem sp_edit (c : Dr) (ls : List Str) (hl : ls.length ≤ 50) (R : Store) : W (m__law_edit [.ptr 0, .fz (.list (ls.map .str))] (c.cell :: R)) fun r => ∃ (E : List Stk) (c' : Dr), Right ls.length 0 E ∧ (∀ s ∈ E, s.new.length ≤ 2) ∧ r = (.fz (edD E), c'.cell :: R) := by
  have loop : W (whGo (mTB (mBin dLe (mVar 3) (mCall gLenA (aCons (mVar 1) aNil)))) bG 100000 (eEnv R ls 0 none none none) (eStore c R [])) fun r => ∃ (E : List Stk) (a : Nat) (c' : Dr) (t4 t5 t6 : Option SV), Right ls.length 0 E ∧ (∀ s ∈ E, s.new.length ≤ 2) ∧ r = (.nx, eEnv R ls a t4 t5 t6, eStore c' R E) := by
    refine W_while (fun k ρ P => ∃ (E : List Stk) (a : Nat) (c' : Dr) (t4 t5 t6 : Option SV), k = (ls.length + 1) - a ∧ E.length ≤ a ∧ PreE ls.length E a ∧ (∀ s ∈ E, s.new.length ≤ 2) ∧ ρ = eEnv R ls a t4 t5 t6 ∧ P = eStore c' R E) ?_ (k := ls.length + 1) ⟨[], 0, c, none, none, none, by omega, by simp, fun F h => h, by simp, rfl, rfl⟩ (by omega)
    rintro k _ _ ⟨E, a, c1, t4, t5, t6, rfl, hE, hp, hn, rfl, rfl⟩
    have hc : (mTB (mBin dLe (mVar 3) (mCall gLenA (aCons (mVar 1) aNil)))) (eEnv R ls a t4 t5 t6) (eStore c1 R E) = some (decide ((a : Int) ≤ (ls.length : Nat)), eStore c1 R E) := by
      refine st_tb (st_bin (d := .int a) (e := .int (ls.length : Nat)) (P1 := eStore c1 R E) (P2 := eStore c1 R E) (by simp [eEnv]) (by simp [eEnv]) (by simp))
    refine W.eq hc ?_
    by_cases h : a ≤ ls.length
    · have h' : (a : Int) ≤ (ls.length : Nat) := by omega
      simp only [h', decide_true, if_true]
      refine (sp_turn c1 R ls hl E a hE hp hn h t4 t5 t6).mono ?_
      rintro _ ⟨E2, a2, c2, u4, u5, u6, ha, hE2, hp2, hn2, rfl⟩
      exact ⟨(ls.length + 1) - a2, by omega, E2, a2, c2, u4, u5, u6, rfl, hE2, hp2, hn2, rfl, rfl⟩
    · have h' : ¬ (a : Int) ≤ (ls.length : Nat) := by omega
      simp only [h', decide_false, Bool.false_eq_true, if_false]
      exact ⟨E, a, c1, t4, t5, t6, hp.right, hn, rfl⟩
  obtain ⟨_, e, E, a, c', t4, t5, t6, hR, hn, rfl⟩ := loop
  have ef : m__law_edit [.ptr 0, .fz (.list (ls.map .str))] (c.cell :: R) = some (.fz (edD E), c'.cell :: R) := by
    refine (st_fun (s := .fz (edD E)) (ρ1 := eEnv R ls a t4 t5 t6) (P1 := eStore c' R E) ?_).trans ?_
    · rw [b_edit_eq]
      refine (st_seq (ρ1 := eEnv R ls 0 none none none) (P1 := eStore c R []) ?_).trans ((st_seq e).trans (st_ret ?_))
      · simp [startE, eEnv, eStore]
      · simp [eEnv, eStore, flat, edD, fzs_map, -List.map_map]
    · simp [eStore, edD]
  exact W.eq ef ⟨E, c', hR, hn, rfl⟩
end NS

set_option maxHeartbeats 1000000
set_option linter.all false
set_option maxRecDepth 10000
namespace NS
open PySem Pd L2
/-! k22: the law's applied, plain -/
def insE (E : List Stk) (k : Nat) : List Str := E.flatMap fun s => if s.p = k then s.new else []
def covE (E : List Stk) (k : Nat) : Bool := E.any fun s => decide (s.p ≤ k ∧ k < s.p + s.g)
def stay (ls : List Str) (E : List Stk) (k : Nat) : List Str := if covE E k = true then [] else (ls[k]?).toList
def piece (ls : List Str) (E : List Stk) (k : Nat) : List Str := insE E k ++ stay ls E k
theorem Right.lo_of {n : Nat} : ∀ {E : List Stk} {a : Nat}, Right n a E → ∀ s ∈ E, a ≤ s.p := fun h s hs => (h.sub s hs).1
theorem insE_none {E : List Stk} {k : Nat} (h : ∀ s ∈ E, s.p ≠ k) : insE E k = [] := by
  unfold insE
  rw [List.flatMap_eq_nil_iff]
  intro s hs
  rw [if_neg (h s hs)]
theorem covE_none {E : List Stk} {k : Nat} (h : ∀ s ∈ E, k < s.p) : covE E k = false := by
  unfold covE
  rw [List.any_eq_false]
  intro s hs
  have := h s hs
  simp; omega
theorem piece_before {ls : List Str} {E : List Stk} {k : Nat} (h : ∀ s ∈ E, k < s.p) : piece ls E k = (ls[k]?).toList := by
  rw [piece, insE_none (fun s hs => by have := h s hs; omega), stay, covE_none h]
  simp
theorem flat_before (ls : List Str) (E : List Stk) : ∀ (m a : Nat), (∀ s ∈ E, a + m ≤ s.p) → a + m ≤ ls.length → (List.range' a m).flatMap (piece ls E) = (ls.take (a + m)).drop a
  | 0, a, _, _ => by simp
  | m + 1, a, h, hl => by
    rw [List.range'_succ, List.flatMap_cons, flat_before ls E m (a + 1) (fun s hs => by have := h s hs; omega) (by omega), piece_before fun s hs => by have := h s hs; omega]
    have e : (ls.take (a + (m + 1))).drop a = ls[a] :: (ls.take (a + (m + 1))).drop (a + 1) := by
      rw [List.drop_eq_getElem_cons (by simp; omega)]
      simp
    rw [e, List.getElem?_eq_getElem (by omega), show a + 1 + m = a + (m + 1) by omega]
    rfl
theorem flat_same {ls : List Str} {E F : List Stk} : ∀ (m a : Nat), (∀ k, a ≤ k → piece ls E k = piece ls F k) → (List.range' a m).flatMap (piece ls E) = (List.range' a m).flatMap (piece ls F)
  | 0, a, _ => by simp
  | m + 1, a, h => by
    rw [List.range'_succ, List.flatMap_cons, List.flatMap_cons, h a (Nat.le_refl _), flat_same m (a + 1) fun k hk => h k (by omega)]
theorem flat_none {ls : List Str} {E : List Stk} : ∀ (m a : Nat), (∀ k, a ≤ k → k < a + m → piece ls E k = []) → (List.range' a m).flatMap (piece ls E) = []
  | 0, a, _ => by simp
  | m + 1, a, h => by
    rw [List.range'_succ, List.flatMap_cons, h a (Nat.le_refl _) (by omega), flat_none m (a + 1) fun k hk hk2 => h k (by omega) (by omega)]
    rfl
theorem pieces_app (ls : List Str) : ∀ (E : List Stk) (a : Nat), Right ls.length a E → a ≤ ls.length → (List.range' a (ls.length + 1 - a)).flatMap (piece ls E) = app ls a E
  | [], a, _, ha => by
    have := flat_before ls [] (ls.length - a) a (by simp) (by omega)
    rw [show ls.length + 1 - a = (ls.length - a) + 1 by omega, List.range'_concat, List.flatMap_append, this, app_nil]
    rw [show a + (ls.length - a) = ls.length by omega, List.take_length]
    simp [piece, insE, stay, covE]
    omega
  | s :: r, a, h, ha => by
    have hlo := h.1.lo
    have hhi := h.1.hi
    have ih := pieces_app ls r (s.p + s.g) (h.2.mono (Nat.le_succ _)) hhi
    have hr : ∀ t ∈ r, s.p + s.g + 1 ≤ t.p := fun t ht => h.2.lo_of t ht
    have b1 := flat_before ls (s :: r) (s.p - a) a (fun t ht => by
      rcases List.mem_cons.mp ht with rfl | ht
      · omega
      · have := hr t ht; omega) (by omega)
    have sp1 : List.range' a (ls.length + 1 - a) = List.range' a (s.p - a) ++ List.range' s.p (ls.length + 1 - s.p) := by
      have := List.range'_append_1 (s := a) (m := s.p - a) (n := ls.length + 1 - s.p)
      rw [show a + (s.p - a) = s.p by omega, show s.p - a + (ls.length + 1 - s.p) = ls.length + 1 - a by omega] at this
      exact this.symm
    rw [sp1, List.flatMap_append, b1, app_cons, show a + (s.p - a) = s.p by omega]
    congr 1
    rw [← ih]
    have hins : insE (s :: r) s.p = s.new := by
      show (if s.p = s.p then s.new else []) ++ insE r s.p = s.new
      rw [if_pos rfl, insE_none (fun t ht => by have := hr t ht; omega), List.append_nil]
    have hcov : ∀ k, s.p + s.g ≤ k → covE (s :: r) k = covE r k := by
      intro k hk
      show (decide (s.p ≤ k ∧ k < s.p + s.g) || covE r k) = covE r k
      rw [decide_eq_false (by omega), Bool.false_or]
    have hbeh : ∀ k, s.p + s.g ≤ k → k ≠ s.p → piece ls (s :: r) k = piece ls r k := by
      intro k hk hne
      have e1 : insE (s :: r) k = insE r k := by
        show (if s.p = k then s.new else []) ++ insE r k = _
        rw [if_neg (by omega), List.nil_append]
      rw [piece, piece, stay, stay, e1, hcov k hk]
    by_cases hg : s.g = 0
    · simp only [hg, Nat.add_zero] at hcov hbeh ⊢
      rw [show ls.length + 1 - s.p = (ls.length - s.p) + 1 by omega, List.range'_succ, List.flatMap_cons, List.flatMap_cons]
      have e1 : piece ls (s :: r) s.p = s.new ++ piece ls r s.p := by
        rw [piece, piece, hins, stay, stay, hcov s.p (Nat.le_refl _), insE_none (fun t ht => by have := hr t ht; omega), List.nil_append]
      rw [e1, List.append_assoc, flat_same _ _ fun k hk => hbeh k (by omega) (by omega)]
    · have sp2 : List.range' s.p (ls.length + 1 - s.p) = s.p :: (List.range' (s.p + 1) (s.g - 1) ++ List.range' (s.p + s.g) (ls.length + 1 - (s.p + s.g))) := by
        rw [show ls.length + 1 - s.p = (ls.length - s.p) + 1 by omega, List.range'_succ]
        congr 1
        have := List.range'_append_1 (s := s.p + 1) (m := s.g - 1) (n := ls.length + 1 - (s.p + s.g))
        rw [show s.p + 1 + (s.g - 1) = s.p + s.g by omega, show s.g - 1 + (ls.length + 1 - (s.p + s.g)) = ls.length - s.p by omega] at this
        exact this.symm
      have hc : ∀ k, s.p ≤ k → k < s.p + s.g → covE (s :: r) k = true := by
        intro k h1 h2
        show (decide (s.p ≤ k ∧ k < s.p + s.g) || covE r k) = true
        rw [decide_eq_true ⟨h1, h2⟩, Bool.true_or]
      have e1 : piece ls (s :: r) s.p = s.new := by
        rw [piece, hins, stay, hc s.p (Nat.le_refl _) (by omega)]
        simp
      rw [sp2, List.flatMap_cons, List.flatMap_append, e1, flat_none (s.g - 1) (s.p + 1) (fun k h1 h2 => by
        rw [piece, stay, hc k (by omega) (by omega), insE_none]
        · simp
        · intro t ht
          rcases List.mem_cons.mp ht with rfl | ht
          · omega
          · have := hr t ht; omega), List.nil_append]
      rw [flat_same _ _ fun k hk => hbeh k hk (by omega)]
theorem law_app (ls : List Str) (E : List Stk) (h : Right ls.length 0 E) : (List.range (ls.length + 1)).flatMap (piece ls E) = app ls 0 E := by
  have := pieces_app ls E 0 h (Nat.zero_le _)
  rw [Nat.sub_zero] at this
  rw [List.range_eq_range']
  exact this
end NS

set_option maxHeartbeats 1000000
set_option linter.all false
set_option maxRecDepth 10000
namespace NS
open PySem Pd L2
/-! k22: the law's applied, run -/
structure Fnd (P S : Store) (k : Nat) (acc : List Str) : Prop where
  tk : S.take P.length = P
  le : P.length ≤ k
  at' : S[k]? = some (.lst ((acc.map PyData.str).map .fz))
theorem Fnd.lt {P S : Store} {k : Nat} {acc : List Str} (h : Fnd P S k acc) : k < S.length := (List.getElem?_eq_some_iff.mp h.at').1
theorem Fnd.flat {P S : Store} {k : Nat} {acc : List Str} (h : Fnd P S k acc) : flat S (.ptr k) = some (.list (acc.map .str)) := by
  rw [flat_cell h.at', dat_lst, fzs_map]; rfl
theorem Fnd.new {P S : Store} {k : Nat} {acc : List Str} (h : Fnd P S k acc) (acc' : List Str) : Fnd P (S ++ [.lst ((acc'.map PyData.str).map .fz)]) S.length acc' := by
  have hl := h.lt
  have := h.le
  refine ⟨?_, by omega, by simp⟩
  rw [List.take_append_of_le_length (by omega)]; exact h.tk
theorem Fnd.push {P S : Store} {k : Nat} {acc : List Str} (h : Fnd P S k acc) (x : Str) : Fnd P (S.set k (.lst (((acc.map PyData.str).map .fz) ++ [.fz (.str x)]))) k (acc ++ [x]) := by
  refine ⟨?_, h.le, ?_⟩
  · rw [List.take_set_of_le h.le]; exact h.tk
  · rw [List.getElem?_set_self h.lt]; simp
def bI : SM := sSet 2 (mAddC (mVar 2) (mIfE (mTB (mBin dEq (mVar 4) (mVar 3))) (mCall gListA (aCons (mVar 6) aNil)) (mLst aNil)))
def iEnv (n : Nat) (ls : List Str) (E : List Stk) (k a : Nat) (s4 s5 s6 : Option SV) : EV := ⟨n, [some (.fz (.list (ls.map .str))), some (.fz (edD E)), some (.ptr k), some (.fz (.int a)), s4, s5, s6]⟩
theorem ins_go (ls : List Str) (E0 : List Stk) (n a : Nat) (P : Store) : ∀ (E : List Stk) (S : Store) (k : Nat) (acc : List Str) (s4 s5 s6 : Option SV), Fnd P S k acc → (∀ s ∈ E, s.new.length ≤ 50) → acc.length + 50 * E.length ≤ 50000 →
    ∃ S' k' t4 t5 t6, Fnd P S' k' (acc ++ insE E a) ∧ forGo g3 bI (E.map Stk.d) (iEnv n ls E0 k a s4 s5 s6) S = some (.nx, iEnv n ls E0 k' a t4 t5 t6, S') := by
  intro E
  induction E with
  | nil => intro S k acc s4 s5 s6 h _ _; exact ⟨S, k, s4, s5, s6, by simpa [insE] using h, by simp [forGo]⟩
  | cons s r ih =>
    intro S k acc s4 s5 s6 h hn hsz
    simp only [List.length_cons] at hsz
    have hs := hn s List.mem_cons_self
    have e1 : ∃ new : List Str, new = (if s.p = a then s.new else []) ∧ mIfE (mTB (mBin dEq (mVar 4) (mVar 3))) (mCall gListA (aCons (mVar 6) aNil)) (mLst aNil) (iEnv n ls E0 k a (some (.fz (.int s.p))) (some (.fz (.int s.g))) (some (.fz (.tuple (s.new.map .str))))) S = some (.fz (.list (new.map .str)), S) := by
      by_cases hp : s.p = a
      · exact ⟨s.new, by rw [if_pos hp], by simp [iEnv, hp]⟩
      · have hp' : ¬ (s.p : Int) = a := by omega
        exact ⟨[], by rw [if_neg hp], by simp [iEnv, hp']⟩
    obtain ⟨new, hnew, e1⟩ := e1
    have hl : new.length ≤ 50 := by rw [hnew]; split <;> simp [hs]
    have e2 : mAddC (mVar 2) (mIfE (mTB (mBin dEq (mVar 4) (mVar 3))) (mCall gListA (aCons (mVar 6) aNil)) (mLst aNil)) (iEnv n ls E0 k a (some (.fz (.int s.p))) (some (.fz (.int s.g))) (some (.fz (.tuple (s.new.map .str))))) S = some (.ptr S.length, S ++ [.lst (((acc ++ new).map PyData.str).map .fz)]) := by
      rw [mAddC_ap]
      rw [show (mVar 2 (iEnv n ls E0 k a (some (.fz (.int s.p))) (some (.fz (.int s.g))) (some (.fz (.tuple (s.new.map .str))))) S) = some (.ptr k, S) from rfl, Option.bind_some]
      simp only [e1, Option.bind_some, h.flat, flat_fz]
      rw [if_pos (Nat.le_trans (show (acc.map PyData.str).length + (new.map PyData.str).length ≤ 100000 by simp only [List.length_map]; omega) sz_k), List.map_append (f := PyData.str)]
    obtain ⟨S', k', t4, t5, t6, h', e⟩ := ih (S ++ [.lst (((acc ++ new).map PyData.str).map .fz)]) S.length (acc ++ new) (some (.fz (.int s.p))) (some (.fz (.int s.g))) (some (.fz (.tuple (s.new.map .str)))) (h.new _) (fun t ht => hn t (List.mem_cons_of_mem _ ht)) (by simp only [List.length_append]; omega)
    refine ⟨S', k', t4, t5, t6, ?_, ?_⟩
    · have : insE (s :: r) a = new ++ insE r a := by rw [hnew]; rfl
      rw [this, ← List.append_assoc]; exact h'
    · refine (st_forC (ρ1 := iEnv n ls E0 k a (some (.fz (.int s.p))) (some (.fz (.int s.g))) (some (.fz (.tuple (s.new.map .str))))) (P1 := S) ?_ (st_set e2)).trans e
      simp [g3, Stk.d, stkD, iEnv]
/-- is a line gone -/
theorem cov_lc (ls : List Str) (E : List Stk) (hE : E.length ≤ 4000) (n k a : Nat) (s4 s5 s6 : Option SV) (S : Store) : mLC [4, 5, 6] (iAny (mVar 1)) g3 bYes (mChain dLe dLt (mVar 4) (mVar 3) (mBin dAdd (mVar 4) (mVar 5))) (iEnv n ls E k a s4 s5 s6) S = some (.fz (.list (E.map fun s => .bool (decide (s.p ≤ a ∧ a < s.p + s.g)))), S) := by
  have key := mLC_map (own := [4, 5, 6]) (f := iAny (mVar 1)) (g := g3) (te := mChain dLe dLt (mVar 4) (mVar 3) (mBin dAdd (mVar 4) (mVar 5))) (ρ := iEnv n ls E k a s4 s5 s6) (P := S) (items := E.map Stk.d) (src := .fz (edD E))
    (fun d => match d with | .tuple [.int p, .int g, _] => .bool (decide (p ≤ a ∧ a < p + g)) | _ => .none) (by simp [iEnv, edD]) (by rw [List.length_map]; exact Nat.le_trans hE (by decide)) fun d hd T => by
      obtain ⟨s, hs, rfl⟩ := List.mem_map.mp hd
      refine ⟨⟨S.length, [some (.fz (.list (ls.map .str))), some (.fz (edD E)), some (.ptr k), some (.fz (.int a)), some (.fz (.int s.p)), some (.fz (.int s.g)), some (.fz (.tuple (s.new.map .str)))]⟩, by simp [g3, Stk.d, stkD, iEnv, EV.wipe], ?_⟩
      by_cases h1 : (s.p : Int) ≤ a
      · have h1' : s.p ≤ a := by omega
        by_cases h2 : (a : Int) < (s.p : Int) + s.g
        · simp [Stk.d, stkD, h1', h2]
        · simp [Stk.d, stkD, h1', h2]
      · have h1' : ¬ s.p ≤ a := by omega
        simp [Stk.d, stkD, h1']
  rw [key]
  simp only [List.map_map, Function.comp_def, Stk.d, stkD]
  congr 3
  refine congrArg _ (List.map_congr_left fun s _ => ?_)
  congr 1
  rw [decide_eq_decide]
  omega
def bO : SM := (sSeq (sFor (iAny (mVar 1)) g3 bI)
  (sIf (mAndB (mTB (mBin dLt (mVar 3) (mCall gLenA (aCons (mVar 0) aNil)))) (mNotB (mTB (mCall gAny (aCons (mLC [4, 5, 6] (iAny (mVar 1)) g3 bYes (mChain dLe dLt (mVar 4) (mVar 3) (mBin dAdd (mVar 4) (mVar 5)))) aNil))))) (sEx (mApp (mVar 2) (mSub (mVar 0) (mVar 3)))) sNx))
theorem b_lapp_eq : b__law_applied = (sSeq (sSet 2 (mLstC aNil))
  (sSeq (sFor (iRange (aCons (mBin dAdd (mCall gLenA (aCons (mVar 0) aNil)) (mC (.int 1))) aNil)) (gNm 3) bO)
  (sRet (mVar 2)))) := rfl
theorem out_turn (ls : List Str) (hl : ls.length ≤ 50) (E : List Stk) (hE : E.length ≤ 100) (hn : ∀ s ∈ E, s.new.length ≤ 50) (n a : Nat) (P S : Store) (k : Nat) (acc : List Str) (h : Fnd P S k acc) (hb : acc.length ≤ 40000) (s4 s5 s6 : Option SV) :
    ∃ S' k' t4 t5 t6, Fnd P S' k' (acc ++ piece ls E a) ∧ bO (iEnv n ls E k a s4 s5 s6) S = some (.nx, iEnv n ls E k' a t4 t5 t6, S') := by
  obtain ⟨S1, k1, t4, t5, t6, h1, e1⟩ := ins_go ls E n a P E S k acc s4 s5 s6 h hn (by omega)
  have f1 : sFor (iAny (mVar 1)) g3 bI (iEnv n ls E k a s4 s5 s6) S = some (.nx, iEnv n ls E k1 a t4 t5 t6, S1) := (st_for (items := E.map Stk.d) (src := .fz (edD E)) (P1 := S) (by simp [iEnv, edD])).trans e1
  have ec := cov_lc ls E (by omega) n k1 a t4 t5 t6 S1
  have ea : mTB (mCall gAny (aCons (mLC [4, 5, 6] (iAny (mVar 1)) g3 bYes (mChain dLe dLt (mVar 4) (mVar 3) (mBin dAdd (mVar 4) (mVar 5)))) aNil)) (iEnv n ls E k1 a t4 t5 t6) S1 = some (covE E a, S1) := by
    refine st_tb (st_call (l := [.fz (.list (E.map fun s => .bool (decide (s.p ≤ a ∧ a < s.p + s.g))))]) (P1 := S1) (ds := [.list (E.map fun s => .bool (decide (s.p ≤ a ∧ a < s.p + s.g)))]) ?_ rfl ?_)
    · rw [aCons_ap, ec]; rfl
    · rw [gAny_map]; rfl
  have hi : (insE E a).length ≤ 50 * E.length := by
    clear f1 e1 h1 ec ea
    induction E with
    | nil => simp [insE]
    | cons s r ih =>
      have h1 := ih (by simp at hE; omega) (fun t ht => hn t (List.mem_cons_of_mem _ ht))
      have h2 := hn s List.mem_cons_self
      show ((if s.p = a then s.new else []) ++ insE r a).length ≤ _
      rw [List.length_append, List.length_cons]
      split
      · omega
      · simp; omega
  have hlt : mTB (mBin dLt (mVar 3) (mCall gLenA (aCons (mVar 0) aNil))) (iEnv n ls E k1 a t4 t5 t6) S1 = some (decide ((a : Int) < (ls.length : Nat)), S1) := by
    refine st_tb (st_bin (d := .int a) (e := .int (ls.length : Nat)) (P1 := S1) (P2 := S1) rfl ?_ (dLt_int _ _))
    simp [iEnv]
  by_cases hx : a < ls.length ∧ covE E a = false
  · have hg : (mAndB (mTB (mBin dLt (mVar 3) (mCall gLenA (aCons (mVar 0) aNil)))) (mNotB (mTB (mCall gAny (aCons (mLC [4, 5, 6] (iAny (mVar 1)) g3 bYes (mChain dLe dLt (mVar 4) (mVar 3) (mBin dAdd (mVar 4) (mVar 5)))) aNil))))) (iEnv n ls E k1 a t4 t5 t6) S1 = some (true, S1) :=
      (st_and (hlt.trans (by rw [decide_eq_true (by omega)]))).trans ((st_not ea).trans (by rw [hx.2]; rfl))
    have hap : mApp (mVar 2) (mSub (mVar 0) (mVar 3)) (iEnv n ls E k1 a t4 t5 t6) S1 = some (.fz .none, S1.set k1 (.lst ((((acc ++ insE E a).map PyData.str).map .fz) ++ [.fz (.str ls[a])]))) := by
      have sz : (((acc ++ insE E a).map PyData.str).map SV.fz).length < sizeLine := Nat.lt_of_lt_of_le (show _ < 100000 by simp only [List.length_map, List.length_append]; omega) sz_k
      have es : mSub (mVar 0) (mVar 3) (iEnv n ls E k1 a t4 t5 t6) S1 = some (.fz (.str ls[a]), S1) := by
        simp [iEnv, hx.1]
      rw [mApp_ap]
      rw [show (mVar 2 (iEnv n ls E k1 a t4 t5 t6) S1) = some (.ptr k1, S1) from rfl, Option.bind_some]
      simp only [es, Option.bind_some, h1.at']
      rw [if_pos ⟨sz, rfl, rfl⟩]
    refine ⟨_, k1, t4, t5, t6, ?_, (st_seq f1).trans ((st_ifT hg).trans (st_ex hap))⟩
    have := h1.push ls[a]
    rw [show acc ++ piece ls E a = acc ++ insE E a ++ [ls[a]] by
      rw [piece, stay, hx.2, List.getElem?_eq_getElem hx.1]; simp]
    exact this
  · have hg : (mAndB (mTB (mBin dLt (mVar 3) (mCall gLenA (aCons (mVar 0) aNil)))) (mNotB (mTB (mCall gAny (aCons (mLC [4, 5, 6] (iAny (mVar 1)) g3 bYes (mChain dLe dLt (mVar 4) (mVar 3) (mBin dAdd (mVar 4) (mVar 5)))) aNil))))) (iEnv n ls E k1 a t4 t5 t6) S1 = some (false, S1) := by
      by_cases ha : a < ls.length
      · have hc : covE E a = true := by
          cases hc : covE E a with
          | true => rfl
          | false => exact absurd ⟨ha, hc⟩ hx
        exact (st_and (hlt.trans (by rw [decide_eq_true (by omega)]))).trans ((st_not ea).trans (by rw [hc]; rfl))
      · exact st_andF (hlt.trans (by rw [decide_eq_false (by omega)]))
    refine ⟨S1, k1, t4, t5, t6, ?_, (st_seq f1).trans (st_ifF hg)⟩
    rw [show acc ++ piece ls E a = acc ++ insE E a by
      rw [piece, stay]
      split
      · simp
      · rename_i hc
        have : ¬ a < ls.length := fun z => hx ⟨z, by simpa using hc⟩
        rw [List.getElem?_eq_none (by omega)]; simp]
    exact h1
end NS

set_option maxHeartbeats 1000000
set_option linter.all false
set_option maxRecDepth 10000
namespace NS
open PySem Pd L2
/-! k22: the law's applied, whole -/
theorem insE_len {E : List Stk} (hn : ∀ s ∈ E, s.new.length ≤ 50) (a : Nat) : (insE E a).length ≤ 50 * E.length := by
  induction E with
  | nil => simp [insE]
  | cons s r ih =>
    have h1 := ih (fun t ht => hn t (List.mem_cons_of_mem _ ht))
    have h2 := hn s List.mem_cons_self
    show ((if s.p = a then s.new else []) ++ insE r a).length ≤ _
    rw [List.length_append, List.length_cons]
    split
    · omega
    · simp; omega
theorem piece_len {ls : List Str} {E : List Stk} (hn : ∀ s ∈ E, s.new.length ≤ 50) (a : Nat) : (piece ls E a).length ≤ 50 * E.length + 1 := by
  have := insE_len hn a
  have h2 : (stay ls E a).length ≤ 1 := by
    unfold stay
    split
    · simp
    · cases ls[a]? <;> simp
  rw [piece, List.length_append]; omega
theorem out_go (ls : List Str) (hl : ls.length ≤ 10) (E : List Stk) (hE : E.length ≤ 11) (hn : ∀ s ∈ E, s.new.length ≤ 50) (n : Nat) (P : Store) : ∀ (m a : Nat) (S : Store) (k : Nat) (acc : List Str) (s3 : Option SV) (s4 s5 s6 : Option SV), Fnd P S k acc → acc.length + 600 * m ≤ 40000 →
    ∃ S' k' t3 t4 t5 t6, Fnd P S' k' (acc ++ (List.range' a m).flatMap (piece ls E)) ∧ forGo (gNm 3) bO (rangeD a m) ⟨n, [some (.fz (.list (ls.map .str))), some (.fz (edD E)), some (.ptr k), s3, s4, s5, s6]⟩ S = some (.nx, ⟨n, [some (.fz (.list (ls.map .str))), some (.fz (edD E)), some (.ptr k'), t3, t4, t5, t6]⟩, S') := by
  intro m
  induction m with
  | zero => intro a S k acc s3 s4 s5 s6 h _; exact ⟨S, k, s3, s4, s5, s6, by simpa using h, by simp [rangeD, forGo]⟩
  | succ m ih =>
    intro a S k acc s3 s4 s5 s6 h hb
    obtain ⟨S1, k1, t4, t5, t6, h1, e1⟩ := out_turn ls (by omega) E (by omega) hn n a P S k acc h (by omega) s4 s5 s6
    have hp := piece_len (ls := ls) hn a
    obtain ⟨S2, k2, u3, u4, u5, u6, h2, e2⟩ := ih (a + 1) S1 k1 (acc ++ piece ls E a) (some (.fz (.int a))) t4 t5 t6 h1 (by rw [List.length_append]; omega)
    refine ⟨S2, k2, u3, u4, u5, u6, ?_, ?_⟩
    · rw [List.range'_succ, List.flatMap_cons, ← List.append_assoc]; exact h2
    · rw [rangeD_succ]
      refine (st_forC (ρ1 := iEnv n ls E k a s4 s5 s6) (P1 := S) ?_ e1).trans e2
      simp [iEnv]
theorem t_lapp (ls : List Str) (hl : ls.length ≤ 10) (E : List Stk) (h : Right ls.length 0 E) (P : Store) : m__law_applied [.fz (.list (ls.map .str)), .fz (edD E)] P = some (.fz (.list ((app ls 0 E).map .str)), P) := by
  have hE : E.length ≤ 11 := by rcases h.len with h | rfl; omega; simp
  have hn : ∀ s ∈ E, s.new.length ≤ 50 := by
    intro s hs
    clear hE
    have : ∀ (E : List Stk) (a : Nat), Right ls.length a E → ∀ s ∈ E, s.new.length ≤ 50 := by
      intro E
      induction E with
      | nil => intro a _ s hs; cases hs
      | cons t r ih =>
        intro a h s hs
        rcases List.mem_cons.mp hs with rfl | hs
        · exact h.1.sz
        · exact ih _ h.2 s hs
    exact this E 0 h s hs
  obtain ⟨S, k, t3, t4, t5, t6, hF, e⟩ := out_go ls hl E hE hn P.length P (ls.length + 1) 0 (P ++ [.lst []]) P.length [] none none none none ⟨by simp, Nat.le_refl _, by simp⟩ (by simp; omega)
  rw [List.nil_append, ← List.range_eq_range', law_app ls E h] at hF
  rw [show ((0 : Nat) : Int) = 0 from rfl] at e
  have ir : iRange (aCons (mBin dAdd (mCall gLenA (aCons (mVar 0) aNil)) (mC (.int 1))) aNil) ⟨P.length, [some (.fz (.list (ls.map .str))), some (.fz (edD E)), some (.ptr P.length), none, none, none, none]⟩ (P ++ [.lst []]) = some (rangeD 0 (ls.length + 1), .fz .none, P ++ [.lst []]) := by
    refine iRange_nat (n := ls.length + 1) ?_ (by omega)
    simp
  refine (st_fun (s := .ptr k) (P1 := S) (ρ1 := ⟨P.length, [some (.fz (.list (ls.map .str))), some (.fz (edD E)), some (.ptr k), t3, t4, t5, t6]⟩) ?_).trans ?_
  · rw [b_lapp_eq]
    refine (st_seq (st_set (s := .ptr P.length) (P1 := P ++ [.lst []]) ?_)).trans ?_
    · simp
    refine (st_seq ((st_for ir).trans e)).trans ?_
    exact st_ret (by simp)
  · rw [exitZ_ptr hF.le hF.at' (d := .list ((app ls 0 E).map .str)) (by rw [dat_lst, fzs_map]; rfl), hF.tk]
end NS

set_option maxHeartbeats 1000000
set_option linter.all false
set_option maxRecDepth 10000
namespace NS
open PySem Pd L2
/-! k22: longest common lists, plain -/
def lcs : List Str → List Str → Nat
  | [], _ => 0
  | _ :: _, [] => 0
  | a :: l, b :: m => if a = b then lcs l m + 1 else max (lcs l (b :: m)) (lcs (a :: l) m)
termination_by l m => l.length + m.length
theorem lcs_nil (m : List Str) : lcs [] m = 0 := by rw [lcs]
theorem lcs_nil2 (l : List Str) : lcs l [] = 0 := by cases l <;> rw [lcs]
theorem lcs_cc (a b : Str) (l m : List Str) : lcs (a :: l) (b :: m) = if a = b then lcs l m + 1 else max (lcs l (b :: m)) (lcs (a :: l) m) := by rw [lcs]
theorem lcs_facts : ∀ (n : Nat) (l m : List Str), l.length + m.length ≤ n → (∀ a, lcs l m ≤ lcs (a :: l) m ∧ lcs (a :: l) m ≤ lcs l m + 1) ∧ (∀ b, lcs l m ≤ lcs l (b :: m) ∧ lcs l (b :: m) ≤ lcs l m + 1) := by
  intro n
  induction n with
  | zero =>
    intro l m h
    have hl : l = [] := List.length_eq_zero_iff.mp (by omega)
    have hm : m = [] := List.length_eq_zero_iff.mp (by omega)
    subst hl; subst hm
    simp [lcs_nil, lcs_nil2]
  | succ n ih =>
    intro l m h
    constructor
    · intro a
      cases m with
      | nil => simp [lcs_nil2]
      | cons b m =>
        obtain ⟨h1, h2⟩ := ih l m (by simp at h; omega)
        have h1 := h1 a
        have h2 := h2 b
        rw [lcs_cc]
        split <;> omega
    · intro b
      cases l with
      | nil => simp [lcs_nil]
      | cons a l =>
        obtain ⟨h1, h2⟩ := ih l m (by simp at h; omega)
        have h1 := h1 a
        have h2 := h2 b
        rw [lcs_cc]
        split <;> omega
def V (A B : List Str) (i j : Nat) : Nat := lcs (A.drop i) (B.drop j)
theorem V_end (A B : List Str) (i j : Nat) (h : A.length ≤ i) : V A B i j = 0 := by
  rw [V, List.drop_of_length_le h, lcs_nil]
theorem V_end2 (A B : List Str) (i j : Nat) (h : B.length ≤ j) : V A B i j = 0 := by
  rw [V, List.drop_of_length_le (l := B) h, lcs_nil2]
theorem V_step (A B : List Str) (i j : Nat) (hi : i < A.length) (hj : j < B.length) : V A B i j = if A[i]? = B[j]? then V A B (i + 1) (j + 1) + 1 else max (V A B (i + 1) j) (V A B i (j + 1)) := by
  have e1 : A.drop i = A[i] :: A.drop (i + 1) := List.drop_eq_getElem_cons hi
  have e2 : B.drop j = B[j] :: B.drop (j + 1) := List.drop_eq_getElem_cons hj
  simp only [V]
  rw [e1, e2, lcs_cc, List.getElem?_eq_getElem hi, List.getElem?_eq_getElem hj]
  simp only [Option.some.injEq]
theorem V_i (A B : List Str) (i j : Nat) : V A B (i + 1) j ≤ V A B i j := by
  by_cases hi : i < A.length
  · simp only [V]
    rw [List.drop_eq_getElem_cons hi]
    exact ((lcs_facts _ _ _ (Nat.le_refl _)).1 _).1
  · rw [V_end A B (i + 1) j (by omega)]; omega
theorem V_j (A B : List Str) (i j : Nat) : V A B i (j + 1) ≤ V A B i j := by
  by_cases hj : j < B.length
  · simp only [V]
    rw [List.drop_eq_getElem_cons (l := B) hj]
    exact ((lcs_facts _ _ _ (Nat.le_refl _)).2 _).1
  · rw [V_end2 A B i (j + 1) (by omega)]; omega
theorem V_mono (A B : List Str) {i j : Nat} : ∀ (p q : Nat), V A B (i + p) (j + q) ≤ V A B i j
  | 0, 0 => Nat.le_refl _
  | 0, q + 1 => Nat.le_trans (V_j A B _ (j + q)) (V_mono A B 0 q)
  | p + 1, q => Nat.le_trans (V_i A B (i + p) _) (V_mono A B p q)
theorem V_le (A B : List Str) {i j a b : Nat} (h1 : i ≤ a) (h2 : j ≤ b) : V A B a b ≤ V A B i j := by
  have := V_mono A B (i := i) (j := j) (a - i) (b - j)
  rw [show i + (a - i) = a by omega, show j + (b - j) = b by omega] at this
  exact this
theorem lt_of_some {α : Type} {l : List α} {i : Nat} {x : α} (h : l[i]? = some x) : i < l.length := (List.getElem?_eq_some_iff.mp h).1
theorem V_match {A B : List Str} {i j : Nat} {x : Str} (h1 : A[i]? = some x) (h2 : B[j]? = some x) : V A B i j = V A B (i + 1) (j + 1) + 1 := by
  rw [V_step A B i j (lt_of_some h1) (lt_of_some h2), h1, h2, if_pos rfl]
inductive Com (A B : List Str) : Nat → Nat → List (Nat × Nat) → Prop
  | nil (i j : Nat) : Com A B i j []
  | cons {i j a b : Nat} {x : Str} {r : List (Nat × Nat)} : i ≤ a → j ≤ b → A[a]? = some x → B[b]? = some x → Com A B (a + 1) (b + 1) r → Com A B i j ((a, b) :: r)
theorem Com.len {A B : List Str} : ∀ {ps : List (Nat × Nat)} {i j : Nat}, Com A B i j ps → ps.length ≤ V A B i j
  | _, _, _, .nil _ _ => Nat.zero_le _
  | _, _, _, .cons (a := a) (b := b) h1 h2 e1 e2 t => by
    have := Com.len t
    have h := V_match e1 e2
    have := V_le A B h1 h2
    rw [List.length_cons]; omega
theorem Com.mono {A B : List Str} {ps : List (Nat × Nat)} {i j i' j' : Nat} (h : Com A B i j ps) (hi : i' ≤ i) (hj : j' ≤ j) : Com A B i' j' ps := by
  cases h with
  | nil => exact .nil _ _
  | cons h1 h2 e1 e2 t => exact .cons (by omega) (by omega) e1 e2 t
theorem Com.ex (A B : List Str) : ∀ (n i j : Nat), (A.length - i) + (B.length - j) ≤ n → ∃ ps, Com A B i j ps ∧ ps.length = V A B i j := by
  intro n
  induction n with
  | zero =>
    intro i j h
    exact ⟨[], .nil _ _, by rw [V_end A B i j (by omega)]; rfl⟩
  | succ n ih =>
    intro i j h
    by_cases hi : i < A.length
    · by_cases hj : j < B.length
      · rw [V_step A B i j hi hj]
        by_cases he : A[i]? = B[j]?
        · obtain ⟨ps, h1, h2⟩ := ih (i + 1) (j + 1) (by omega)
          rw [if_pos he]
          exact ⟨(i, j) :: ps, .cons (Nat.le_refl _) (Nat.le_refl _) (List.getElem?_eq_getElem hi) (by rw [← he]; exact List.getElem?_eq_getElem hi) h1, by rw [List.length_cons, h2]⟩
        · rw [if_neg he]
          by_cases hm : V A B (i + 1) j ≤ V A B i (j + 1)
          · obtain ⟨ps, h1, h2⟩ := ih i (j + 1) (by omega)
            exact ⟨ps, h1.mono (Nat.le_refl _) (Nat.le_succ _), by rw [h2]; omega⟩
          · obtain ⟨ps, h1, h2⟩ := ih (i + 1) j (by omega)
            exact ⟨ps, h1.mono (Nat.le_succ _) (Nat.le_refl _), by rw [h2]; omega⟩
      · exact ⟨[], .nil _ _, by rw [V_end2 A B i j (by omega)]; rfl⟩
    · exact ⟨[], .nil _ _, by rw [V_end A B i j (by omega)]; rfl⟩
/-! lists of pairs in order -/
def ltP : List (Nat × Nat) → List (Nat × Nat) → Bool
  | [], [] => false
  | [], _ :: _ => true
  | _ :: _, [] => false
  | (a, b) :: r, (c, d) :: s => decide (a < c) || (decide (a = c) && (decide (b < d) || (decide (b = d) && ltP r s)))
theorem ltP_cc (a b c d : Nat) (r s : List (Nat × Nat)) : ltP ((a, b) :: r) ((c, d) :: s) = true ↔ a < c ∨ (a = c ∧ (b < d ∨ (b = d ∧ ltP r s = true))) := by
  simp [ltP]
theorem ltP_eq : ∀ (x y : List (Nat × Nat)), ¬ ltP x y = true → ¬ ltP y x = true → x = y
  | [], [], _, _ => rfl
  | [], _ :: _, h, _ => absurd rfl h
  | _ :: _, [], _, h => absurd rfl h
  | (a, b) :: r, (c, d) :: s, h1, h2 => by
    rw [ltP_cc] at h1 h2
    have e1 : a = c := by omega
    subst e1
    have e2 : b = d := by
      apply Classical.byContradiction
      intro z
      rcases Nat.lt_or_gt_of_ne z with z | z
      · exact h1 (.inr ⟨rfl, .inl z⟩)
      · exact h2 (.inr ⟨rfl, .inl z⟩)
    subst e2
    rw [ltP_eq r s (fun z => h1 (.inr ⟨rfl, .inr ⟨rfl, z⟩⟩)) (fun z => h2 (.inr ⟨rfl, .inr ⟨rfl, z⟩⟩))]
theorem ltP_trans : ∀ (x y z : List (Nat × Nat)), ltP x y = true → ltP y z = true → ltP x z = true
  | [], [], _, h, _ => by simp [ltP] at h
  | [], _ :: _, [], _, h => by simp [ltP] at h
  | [], _ :: _, _ :: _, _, _ => rfl
  | _ :: _, [], _, h, _ => by simp [ltP] at h
  | _ :: _, _ :: _, [], _, h => by simp [ltP] at h
  | (a, b) :: r, (c, d) :: s, (e, f) :: t, h1, h2 => by
    rw [ltP_cc] at h1 h2 ⊢
    rcases h1 with h1 | ⟨rfl, h1 | ⟨rfl, h1⟩⟩ <;> rcases h2 with h2 | ⟨rfl, h2 | ⟨rfl, h2⟩⟩
    · exact .inl (by omega)
    · exact .inl h1
    · exact .inl h1
    · exact .inl h2
    · exact .inr ⟨rfl, .inl (by omega)⟩
    · exact .inr ⟨rfl, .inl h1⟩
    · exact .inl h2
    · exact .inr ⟨rfl, .inl h2⟩
    · exact .inr ⟨rfl, .inr ⟨rfl, ltP_trans r s t h1 h2⟩⟩
/-- longer, or as long and lesser -/
def betP (x y : List (Nat × Nat)) : Prop := y.length < x.length ∨ (x.length = y.length ∧ ltP x y = true)
theorem betP_trans {x y z : List (Nat × Nat)} (h1 : betP x y) (h2 : betP y z) : betP x z := by
  rcases h1 with h1 | ⟨h1, q1⟩ <;> rcases h2 with h2 | ⟨h2, q2⟩
  · exact .inl (by omega)
  · exact .inl (by omega)
  · exact .inl (by omega)
  · exact .inr ⟨by omega, ltP_trans _ _ _ q1 q2⟩
/-! the program's way -/
def goodK (A B : List Str) (i j k : Nat) : Bool := decide (A[i]? = B[k]? ∧ V A B (i + 1) (k + 1) + 1 = V A B i j)
def firstK (A B : List Str) (i j : Nat) : Option Nat := (List.range' j (B.length - j)).find? (goodK A B i j)
def greedy (A B : List Str) : Nat → Nat → Nat → List (Nat × Nat)
  | 0, _, _ => []
  | n + 1, i, j => if V A B i j = 0 then [] else match firstK A B i j with
    | some k => (i, k) :: greedy A B n (i + 1) (k + 1)
    | none => greedy A B n (i + 1) j
theorem find_first {p : Nat → Bool} : ∀ (m a k : Nat), (List.range' a m).find? p = some k → a ≤ k ∧ k < a + m ∧ p k = true ∧ ∀ k', a ≤ k' → k' < k → p k' = false := by
  intro m
  induction m with
  | zero => intro a k h; simp at h
  | succ m ih =>
    intro a k h
    rw [List.range'_succ, List.find?_cons] at h
    split at h
    · rename_i hp
      cases h
      exact ⟨Nat.le_refl _, by omega, hp, fun k' h1 h2 => by omega⟩
    · rename_i hp
      obtain ⟨h1, h2, h3, h4⟩ := ih (a + 1) k h
      refine ⟨by omega, by omega, h3, fun k' q1 q2 => ?_⟩
      by_cases e : k' = a
      · subst e; simpa using hp
      · exact h4 k' (by omega) q2
theorem greedy_spec (A B : List Str) : ∀ (n i j : Nat), n = A.length - i → Com A B i j (greedy A B n i j) ∧ (greedy A B n i j).length = V A B i j ∧ ∀ ps, Com A B i j ps → ps.length = V A B i j → ¬ ltP ps (greedy A B n i j) = true := by
  intro n
  induction n with
  | zero =>
    intro i j hn
    have hv := V_end A B i j (by omega)
    refine ⟨.nil _ _, by rw [hv]; rfl, fun ps hp hl => ?_⟩
    rw [hv] at hl
    have : ps = [] := List.length_eq_zero_iff.mp hl
    subst this
    simp [greedy, ltP]
  | succ n ih =>
    intro i j hn
    rw [greedy]
    by_cases hv : V A B i j = 0
    · rw [if_pos hv]
      refine ⟨.nil _ _, by rw [hv]; rfl, fun ps hp hl => ?_⟩
      rw [hv] at hl
      have : ps = [] := List.length_eq_zero_iff.mp hl
      subst this
      simp [ltP]
    · rw [if_neg hv]
      have hi : i < A.length := by omega
      cases hf : firstK A B i j with
      | some k =>
        obtain ⟨k1, k2, k3, k4⟩ := find_first _ _ _ hf
        have k2' : k < B.length := by omega
        simp only [goodK, decide_eq_true_eq] at k3
        obtain ⟨g1, g2, g3⟩ := ih (i + 1) (k + 1) (by omega)
        have eA := List.getElem?_eq_getElem hi
        refine ⟨.cons (Nat.le_refl _) k1 eA (by rw [← k3.1]; exact eA) g1, by simp only [List.length_cons, g2]; exact k3.2, fun ps hp hl => ?_⟩
        cases hp with
        | nil => simp at hl; omega
        | cons h1 h2 e1 e2 t =>
          rename_i a b x r
          rw [ltP_cc]
          intro hlt
          have tl := t.len
          simp only [List.length_cons] at hl
          rcases hlt with hlt | ⟨rfl, hlt⟩
          · omega
          · -- b is a good place, k the first
            have hm := V_match e1 e2
            have hle := V_le A B (i := a) (j := j) (a := a) (b := b) (Nat.le_refl _) h2
            have hb : goodK A B a j b = true := by
              simp only [goodK, decide_eq_true_eq]
              exact ⟨by rw [e1, e2], by omega⟩
            rcases hlt with hlt | ⟨rfl, hlt⟩
            · have := k4 b h2 hlt
              rw [hb] at this; cases this
            · exact g3 r t (by omega) hlt
      | none =>
        have hno : ∀ k, j ≤ k → k < B.length → goodK A B i j k = false := by
          intro k h1 h2
          have := List.find?_eq_none.mp hf k (by simp; omega)
          simpa using this
        have key : ∀ ps, Com A B i j ps → ps.length = V A B i j → Com A B (i + 1) j ps := by
          intro ps hp hl
          cases hp with
          | nil => exact .nil _ _
          | cons h1 h2 e1 e2 t =>
            rename_i a b x r
            have tl := t.len
            simp only [List.length_cons] at hl
            have hm := V_match e1 e2
            have hle := V_le A B h1 h2
            refine .cons ?_ h2 e1 e2 t
            by_cases e : a = i
            · subst e
              have hb : goodK A B a j b = true := by
                simp only [goodK, decide_eq_true_eq]
                exact ⟨by rw [e1, e2], by omega⟩
              rw [hno b h2 (lt_of_some e2)] at hb; cases hb
            · omega
        have hV : V A B (i + 1) j = V A B i j := by
          obtain ⟨ps, h1, h2⟩ := Com.ex A B _ i j (Nat.le_refl _)
          have := (key ps h1 h2).len
          have := V_i A B i j
          omega
        obtain ⟨g1, g2, g3⟩ := ih (i + 1) j (by omega)
        refine ⟨g1.mono (Nat.le_succ _) (Nat.le_refl _), by rw [← hV]; exact g2, fun ps hp hl => g3 ps (key ps hp hl) (by rw [hV]; exact hl)⟩
end NS

set_option maxHeartbeats 1000000
set_option linter.all false
set_option maxRecDepth 10000
namespace NS
open PySem Pd L2
open PySem.W (alike alikeAll dataLt)
/-! k22: all ascending lists -/
def subs : Nat → List (List Nat)
  | 0 => [[]]
  | n + 1 => subs n ++ (subs n).map (· ++ [n])
theorem subs_len : ∀ n, (subs n).length = 2 ^ n
  | 0 => rfl
  | n + 1 => by simp [subs, subs_len n, Nat.pow_succ]; omega
theorem subs_in : ∀ (n : Nat) (l : List Nat), l ∈ subs n → l.Pairwise (· < ·) ∧ ∀ x ∈ l, x < n
  | 0, l, h => by simp [subs] at h; subst h; simp
  | n + 1, l, h => by
    simp only [subs, List.mem_append, List.mem_map] at h
    rcases h with h | ⟨m, h, rfl⟩
    · obtain ⟨h1, h2⟩ := subs_in n l h
      exact ⟨h1, fun x hx => Nat.lt_succ_of_lt (h2 x hx)⟩
    · obtain ⟨h1, h2⟩ := subs_in n m h
      refine ⟨?_, ?_⟩
      · rw [List.pairwise_append]
        exact ⟨h1, by simp, fun x hx y hy => by simp at hy; subst hy; exact h2 x hx⟩
      · intro x hx
        rcases List.mem_append.mp hx with hx | hx
        · exact Nat.lt_succ_of_lt (h2 x hx)
        · simp at hx; omega
theorem in_subs : ∀ (n : Nat) (l : List Nat), l.Pairwise (· < ·) → (∀ x ∈ l, x < n) → l ∈ subs n
  | 0, l, _, h => by
    cases l with
    | nil => simp [subs]
    | cons x r => have := h x List.mem_cons_self; omega
  | n + 1, l, hp, h => by
    simp only [subs, List.mem_append, List.mem_map]
    rcases List.eq_nil_or_concat l with rfl | ⟨m, x, rfl⟩
    · exact .inl (in_subs n [] List.Pairwise.nil (by simp))
    · rw [List.concat_eq_append] at hp h ⊢
      rw [List.pairwise_append] at hp
      obtain ⟨p1, _, p2⟩ := hp
      have hx := h x (by simp)
      have hm : ∀ y ∈ m, y < x := fun y hy => p2 y hy x (by simp)
      by_cases e : x = n
      · subst e
        exact .inr ⟨m, in_subs x m p1 hm, rfl⟩
      · refine .inl (in_subs n (m ++ [x]) ?_ ?_)
        · rw [List.pairwise_append]; exact ⟨p1, by simp, p2⟩
        · intro y hy
          rcases List.mem_append.mp hy with hy | hy
          · have := hm y hy; omega
          · simp at hy; omega
def natD (l : List Nat) : PyData := .list (l.map fun i => .int (i : Nat))
theorem subs_short : ∀ {n : Nat} {l : List Nat}, l ∈ subs n → l.length ≤ n
  | 0, l, h => by simp [subs] at h; subst h; simp
  | n + 1, l, h => by
    simp only [subs, List.mem_append, List.mem_map] at h
    rcases h with h | ⟨m, h, rfl⟩
    · have := subs_short h; omega
    · have := subs_short h; simp; omega
theorem lists_go (n0 : Nat) (P : Store) (s0 : Option SV) : ∀ (m k : Nat) (s2 s3 : Option SV), k + m ≤ 5 → ∃ t2 t3, forGo (gNm 2) (sSet 1 (mBin dAdd (mVar 1) (mLC [3] (iAny (mVar 1)) (gNm 3) bYes (mBin dAdd (mVar 3) (mLst (aCons (mVar 2) aNil)))))) (rangeD k m) ⟨n0, [s0, some (.fz (.list ((subs k).map natD))), s2, s3]⟩ P = some (.nx, ⟨n0, [s0, some (.fz (.list ((subs (k + m)).map natD))), t2, t3]⟩, P) := by
  intro m
  induction m with
  | zero => intro k s2 s3 _; exact ⟨s2, s3, by simp [rangeD, forGo]⟩
  | succ m ih =>
    intro k s2 s3 hk
    have h32 : (subs k).length ≤ 32 := by
      rw [subs_len]
      exact Nat.pow_le_pow_right (by decide) (by omega : k ≤ 5)
    obtain ⟨t2, t3, e⟩ := ih (k + 1) (some (.fz (.int k))) s3 (by omega)
    refine ⟨t2, t3, ?_⟩
    rw [show k + (m + 1) = k + 1 + m by omega, rangeD_succ]
    refine (st_forC (ρ1 := ⟨n0, [s0, some (.fz (.list ((subs k).map natD))), some (.fz (.int k)), s3]⟩) (P1 := P) (by simp) (st_set (s := .fz (.list ((subs (k + 1)).map natD))) (P1 := P) ?_)).trans e
    have key := mLC_map (own := [3]) (f := iAny (mVar 1)) (g := gNm 3) (te := mBin dAdd (mVar 3) (mLst (aCons (mVar 2) aNil))) (ρ := ⟨n0, [s0, some (.fz (.list ((subs k).map natD))), some (.fz (.int k)), s3]⟩) (P := P) (items := (subs k).map natD) (src := .fz (.list ((subs k).map natD)))
      (fun d => match d with | .list ds => .list (ds ++ [.int k]) | _ => .none) (by simp) (by rw [List.length_map]; exact Nat.le_trans h32 (by decide)) fun d hd T => by
        obtain ⟨l, hl, rfl⟩ := List.mem_map.mp hd
        refine ⟨_, rfl, ?_⟩
        have h5 := subs_short hl
        have d1 := dAdd_lst (l.map fun i => PyData.int (i : Nat)) [.int k] (Nat.le_trans (show _ ≤ 100000 by simp; omega) sz_k)
        simp only [natD]
        simp [EV.wipe, d1]
    refine st_bin (P1 := P) (d := .list ((subs k).map natD)) (e := .list ((subs k).map fun l => natD (l ++ [k]))) (by simp) ?_ ?_
    · rw [key]
      simp only [List.map_map, Function.comp_def]
      congr 3
      refine congrArg _ (List.map_congr_left fun l _ => ?_)
      simp [natD]
    · rw [dAdd_lst _ _ (Nat.le_trans (show _ ≤ 100000 by simp only [List.length_map]; omega) sz_k)]
      simp [subs]
theorem t_lists (n : Nat) (hn : n ≤ 5) (P : Store) : m__law_lists [.fz (.int n)] P = some (.fz (.list ((subs n).map natD)), P) := by
  obtain ⟨t2, t3, e⟩ := lists_go P.length P (some (.fz (.int n))) n 0 none none (by omega)
  rw [Nat.zero_add, show ((0 : Nat) : Int) = 0 from rfl] at e
  have ir : iRange (aCons (mVar 0) aNil) ⟨P.length, [some (.fz (.int n)), some (.fz (.list ((subs 0).map natD))), none, none]⟩ P = some (rangeD 0 n, .fz .none, P) := iRange_nat (by simp) (by omega)
  refine (st_fun (s := .fz (.list ((subs n).map natD))) (P1 := P) (ρ1 := ⟨P.length, [some (.fz (.int n)), some (.fz (.list ((subs n).map natD))), t2, t3]⟩) ?_).trans (by simp)
  have hb : b__law_lists = (sSeq (sSet 1 (mLst (aCons (mLst aNil) aNil))) (sSeq (sFor (iRange (aCons (mVar 0) aNil)) (gNm 2) (sSet 1 (mBin dAdd (mVar 1) (mLC [3] (iAny (mVar 1)) (gNm 3) bYes (mBin dAdd (mVar 3) (mLst (aCons (mVar 2) aNil))))))) (sRet (mVar 1)))) := rfl
  rw [hb]
  refine (st_seq (st_set (s := .fz (.list ((subs 0).map natD))) (P1 := P) ?_)).trans ?_
  · simp [subs, natD]
  refine (st_seq ((st_for ir).trans e)).trans ?_
  exact st_ret (by simp)
/-! data of pairs -/
def pairD (p : Nat × Nat) : PyData := .tuple [.int (p.1 : Nat), .int (p.2 : Nat)]
def pairsD (l : List (Nat × Nat)) : PyData := .list (l.map pairD)
theorem alike_pairs : ∀ (xs ys : List (Nat × Nat)), alikeAll (xs.map pairD) (ys.map pairD) = true
  | [], ys => by cases ys <;> rfl
  | _ :: _, [] => rfl
  | x :: xs, y :: ys => by
    show (alike (pairD x) (pairD y) && alikeAll (xs.map pairD) (ys.map pairD)) = true
    rw [alike_pairs xs ys]; rfl
theorem lt_pairs : ∀ (xs ys : List (Nat × Nat)), dataLt (pairsD xs) (pairsD ys) = ltP xs ys := by
  have key : ∀ (xs ys : List (Nat × Nat)), PyProof.Rows.lexLt PyProof.Rows.itemOrd (PySem.W.keyToksAll (xs.map pairD)) (PySem.W.keyToksAll (ys.map pairD)) = ltP xs ys := by
    intro xs
    induction xs with
    | nil =>
      intro ys
      cases ys with
      | nil => rfl
      | cons y ys => rfl
    | cons x xs ih =>
      intro ys
      cases ys with
      | nil => rfl
      | cons y ys =>
        rw [List.map_cons, List.map_cons, PySem.W.dataLt_cons (by rfl : alike (pairD x) (pairD y) = true), ih ys]
        have e1 : PyData.eqv (pairD x) (pairD y) = (decide (x.1 = y.1) && decide (x.2 = y.2)) := by
          simp [pairD, PyData.eqv, PyData.eqvAll]
          rw [Bool.eq_iff_iff]; simp; omega
        have e2 : dataLt (pairD x) (pairD y) = decide (x.1 < y.1 ∨ (x.1 = y.1 ∧ x.2 < y.2)) := by
          rw [pairD, pairD, PySem.W.dataLt_ii]
          rw [decide_eq_decide]; omega
        rw [e1, e2]
        obtain ⟨a, b⟩ := x
        obtain ⟨c, d⟩ := y
        rw [Bool.eq_iff_iff, ltP_cc]
        by_cases h1 : a = c
        · by_cases h2 : b = d
          · simp [h1, h2]
          · simp [h1, h2]
        · simp [h1]
  intro xs ys
  rw [pairsD, pairsD, PySem.W.dataLt_list]
  exact key xs ys
theorem shaped_pairs (xs : List (Nat × Nat)) : SeqAt.shaped (pairsD xs) = true := by
  have h : PyData.canLayAll0 (xs.map pairD) = true ∧ PyData.depthAll (xs.map pairD) ≤ 1 := by
    induction xs with
    | nil => simp [PyData.canLayAll0, PyData.depthAll]
    | cons x xs ih =>
      rw [List.map_cons]
      have c1 : (pairD x).canLay0 = true := rfl
      have c2 : (pairD x).depth = 1 := rfl
      simp only [PyData.canLayAll0, PyData.depthAll, c1, c2, Bool.true_and]
      refine ⟨ih.1, ?_⟩
      have := ih.2
      omega
  simp only [SeqAt.shaped, pairsD, PyData.canLay0, PyData.depth, h.1, Bool.true_and, decide_eq_true_eq]
  have := h.2
  omega
theorem dLt_pairs (xs ys : List (Nat × Nat)) : dLtG (pairsD xs) (pairsD ys) = some (.bool (ltP xs ys)) := by
  have h1 : dLt (pairsD xs) (pairsD ys) = none := rfl
  rw [dLtG, h1, Option.none_or, dOrd, if_pos ⟨shaped_pairs xs, shaped_pairs ys, alike_pairs xs ys, rfl⟩, lt_pairs]
end NS

set_option maxHeartbeats 1000000
set_option linter.all false
set_option maxRecDepth 10000
namespace NS
open PySem Pd L2
/-! k22: the law's longest list -/
theorem line_ok : ∀ x ∈ lineS, PyData.strOk x = true := by decide +kernel
theorem lay_strs : ∀ {w : List Str}, (∀ x ∈ w, PyData.strOk x = true) → PyData.canLayAll0 (w.map .str) = true ∧ PyData.depthAll (w.map .str) = 0
  | [], _ => by simp [PyData.canLayAll0, PyData.depthAll]
  | x :: r, h => by
    have h1 := lay_strs (w := r) fun y hy => h y (List.mem_cons_of_mem _ hy)
    simp [PyData.canLayAll0, PyData.depthAll, PyData.canLay0, PyData.depth, h x List.mem_cons_self, h1]
theorem shaped_strsL {w : List Str} (h : ∀ x ∈ w, PyData.strOk x = true) : SeqAt.shaped (.list (w.map .str)) = true := by
  have := lay_strs h
  simp [SeqAt.shaped, PyData.canLay0, PyData.depth, this]
theorem eqvAll_strs : ∀ (xs ys : List Str), xs.length = ys.length → PyData.eqvAll (xs.map .str) (ys.map .str) = decide (xs = ys)
  | [], [], _ => rfl
  | x :: xs, y :: ys, h => by
    rw [List.map_cons, List.map_cons, PySem.W.eqv_all_cons, eqvAll_strs xs ys (by simpa using h), eqv_str]
    show (decide (y = x) && decide (xs = ys)) = _
    rw [Bool.eq_iff_iff, Bool.and_eq_true, decide_eq_true_eq, decide_eq_true_eq, decide_eq_true_eq, List.cons.injEq]
    exact ⟨fun h => ⟨h.1.symm, h.2⟩, fun h => ⟨h.1.symm, h.2⟩⟩
  | [], _ :: _, h => by simp at h
  | _ :: _, [], h => by simp at h
theorem dEq_strs (xs ys : List Str) (hx : ∀ x ∈ xs, PyData.strOk x = true) (hy : ∀ x ∈ ys, PyData.strOk x = true) (hl : xs.length = ys.length) : dEq (.list (xs.map .str)) (.list (ys.map .str)) = some (.bool (decide (xs = ys))) := by
  have h1 : dEqA false (.list (xs.map .str)) (.list (ys.map .str)) = none := rfl
  rw [dEq, h1, Option.none_or, dEqD, if_pos ⟨shaped_strsL hx, shaped_strsL hy⟩]
  have : PyData.eqv (.list (xs.map .str)) (.list (ys.map .str)) = decide (xs = ys) := by
    rw [PyData.eqv]
    have e := eqvAll_strs xs ys hl
    first | exact e | simp [e, hl]
  rw [this]
  simp
def atS (A : List Str) (i : Nat) : Str := (A[i]?).getD ""
def valid (A B : List Str) (one two : List Nat) : Prop := one.length = two.length ∧ one.map (atS A) = two.map (atS B)
theorem zip_com (A B : List Str) : ∀ (one two : List Nat) (i j : Nat), one.Pairwise (· < ·) → two.Pairwise (· < ·) → (∀ x ∈ one, i ≤ x ∧ x < A.length) → (∀ x ∈ two, j ≤ x ∧ x < B.length) → valid A B one two → Com A B i j (one.zip two)
  | [], _, i, j, _, _, _, _, _ => by simp; exact .nil i j
  | a :: one, [], i, j, _, _, _, _, h => by have := h.1; simp at this
  | a :: one, b :: two, i, j, h1, h2, h3, h4, h5 => by
    rw [List.pairwise_cons] at h1 h2
    obtain ⟨v1, v2⟩ := h5
    simp only [List.map_cons, List.cons.injEq] at v2
    have ha := h3 a List.mem_cons_self
    have hb := h4 b List.mem_cons_self
    have eA := List.getElem?_eq_getElem ha.2
    have eB := List.getElem?_eq_getElem hb.2
    have e : A[a] = B[b] := by
      have := v2.1
      simpa [atS, eA, eB] using this
    rw [List.zip_cons_cons]
    refine .cons ha.1 hb.1 eA (by rw [eB, e]) (zip_com A B one two (a + 1) (b + 1) h1.2 h2.2 (fun x hx => ⟨h1.1 x hx, (h3 x (List.mem_cons_of_mem _ hx)).2⟩) (fun x hx => ⟨h2.1 x hx, (h4 x (List.mem_cons_of_mem _ hx)).2⟩) ⟨by simpa using v1, v2.2⟩)
theorem com_zip {A B : List Str} : ∀ {ps : List (Nat × Nat)} {i j : Nat}, Com A B i j ps → (ps.map (·.1)).Pairwise (· < ·) ∧ (ps.map (·.2)).Pairwise (· < ·) ∧ (∀ x ∈ ps.map (·.1), i ≤ x ∧ x < A.length) ∧ (∀ x ∈ ps.map (·.2), j ≤ x ∧ x < B.length) ∧ valid A B (ps.map (·.1)) (ps.map (·.2))
  | _, _, _, .nil _ _ => by simp [valid]
  | _, _, _, .cons (a := a) (b := b) h1 h2 e1 e2 t => by
    obtain ⟨q1, q2, q3, q4, q5, q6⟩ := com_zip t
    have la := lt_of_some e1
    have lb := lt_of_some e2
    refine ⟨?_, ?_, ?_, ?_, ?_, ?_⟩
    · rw [List.map_cons, List.pairwise_cons]
      exact ⟨fun x hx => (q3 x hx).1, q1⟩
    · rw [List.map_cons, List.pairwise_cons]
      exact ⟨fun x hx => (q4 x hx).1, q2⟩
    · intro x hx
      rw [List.map_cons] at hx
      rcases List.mem_cons.mp hx with rfl | hx
      · exact ⟨h1, la⟩
      · have := q3 x hx; exact ⟨by omega, this.2⟩
    · intro x hx
      rw [List.map_cons] at hx
      rcases List.mem_cons.mp hx with rfl | hx
      · exact ⟨h2, lb⟩
      · have := q4 x hx; exact ⟨by omega, this.2⟩
    · simp
    · rw [List.map_cons, List.map_cons, List.map_cons, List.map_cons, q6]
      simp only [atS, e1, e2]
/-- what is seen so far -/
structure Seen (A B : List Str) (T : List (List Nat × List Nat)) (best : List (Nat × Nat)) : Prop where
  com : Com A B 0 0 best
  top : ∀ q ∈ T, valid A B q.1 q.2 → ¬ betP (q.1.zip q.2) best
theorem Seen.win {A B : List Str} {T : List (List Nat × List Nat)} {best : List (Nat × Nat)} (h : Seen A B T best) (hT : ∀ one ∈ subs A.length, ∀ two ∈ subs B.length, (one, two) ∈ T) : best = greedy A B A.length 0 0 := by
  obtain ⟨g1, g2, g3⟩ := greedy_spec A B A.length 0 0 (by omega)
  obtain ⟨q1, q2, q3, q4, q5⟩ := com_zip g1
  have z := h.top ((greedy A B A.length 0 0).map (·.1), (greedy A B A.length 0 0).map (·.2)) (hT _ (in_subs _ _ q1 fun x hx => (q3 x hx).2) _ (in_subs _ _ q2 fun x hx => (q4 x hx).2)) q5
  have ez : ((greedy A B A.length 0 0).map (·.1)).zip ((greedy A B A.length 0 0).map (·.2)) = greedy A B A.length 0 0 := by
    generalize greedy A B A.length 0 0 = l
    induction l with
    | nil => rfl
    | cons x l ih => simp only [List.map_cons, List.zip_cons_cons, ih]
  simp only [ez] at z
  have hl := h.com.len
  have e1 : best.length = V A B 0 0 := by
    apply Classical.byContradiction
    intro n
    exact z (.inl (by omega))
  refine ltP_eq _ _ (g3 best h.com e1) fun n => z (.inr ⟨by omega, n⟩)
theorem Seen.keep {A B : List Str} {T : List (List Nat × List Nat)} {best : List (Nat × Nat)} {q : List Nat × List Nat} (h : Seen A B T best) (hq : valid A B q.1 q.2 → ¬ betP (q.1.zip q.2) best) : Seen A B (T ++ [q]) best :=
  ⟨h.com, fun p hp => by
    rcases List.mem_append.mp hp with hp | hp
    · exact h.top p hp
    · simp at hp; subst hp; exact hq⟩
theorem Seen.better {A B : List Str} {T : List (List Nat × List Nat)} {best : List (Nat × Nat)} {q : List Nat × List Nat} (h : Seen A B T best) (hc : Com A B 0 0 (q.1.zip q.2)) (hb : betP (q.1.zip q.2) best) : Seen A B (T ++ [q]) (q.1.zip q.2) :=
  ⟨hc, fun p hp hv z => by
    rcases List.mem_append.mp hp with hp | hp
    · exact h.top p hp hv (betP_trans z hb)
    · simp at hp; subst hp
      rcases z with z | ⟨_, z⟩
      · omega
      · have := ltP_irr (p.1.zip p.2)
        rw [z] at this; cases this⟩
where
  ltP_irr : ∀ x : List (Nat × Nat), ltP x x = false := by
    intro x
    induction x with
    | nil => rfl
    | cons a x ih =>
      obtain ⟨a, b⟩ := a
      simp [ltP, ih]
end NS

set_option maxHeartbeats 1000000
set_option linter.all false
set_option maxRecDepth 10000
namespace NS
open PySem Pd L2
/-! k22: the law's longest list, run -/
def bPick (v w : Nat) : XM := mLC [6] (iAny (mVar w)) (gNm 6) bYes (mSub (mVar v) (mVar 6))
def bPairs : XM := mLC [6] (iRange (aCons (mCall gLenA (aCons (mVar 3) aNil)) aNil)) (gNm 6) bYes (mTup (aCons (mSub (mVar 3) (mVar 6)) (aCons (mSub (mVar 4) (mVar 6)) aNil)))
def cKept : BM := mAndB (mTB (mBin dEq (mCall gLenA (aCons (mVar 3) aNil)) (mCall gLenA (aCons (mVar 4) aNil)))) (mTB (mBin dEq (bPick 0 3) (bPick 1 4)))
def cBet : BM := mOrB (mTB (mBin dGtG (mCall gLenA (aCons (mVar 5) aNil)) (mCall gLenA (aCons (mVar 2) aNil)))) (mAndB (mTB (mBin dEq (mCall gLenA (aCons (mVar 5) aNil)) (mCall gLenA (aCons (mVar 2) aNil)))) (mTB (mBin dLtG (mVar 5) (mVar 2))))
def bKept : SM := sIf cKept (sSeq (sSet 5 bPairs) (sIf cBet (sSet 2 (mVar 5)) sNx)) sNx
theorem b_kept_eq : b__law_kept = (sSeq (sSet 2 (mLst aNil))
  (sSeq (sFor (iAny (mCallF m__law_lists (aCons (mCall gLenA (aCons (mVar 0) aNil)) aNil))) (gNm 3) (sFor (iAny (mCallF m__law_lists (aCons (mCall gLenA (aCons (mVar 1) aNil)) aNil))) (gNm 4) bKept))
  (sRet (mVar 2)))) := rfl
def kEnv (n : Nat) (A B : List Str) (best : List (Nat × Nat)) (s3 s4 s5 s6 : Option SV) : EV := ⟨n, [some (.fz (.list (A.map .str))), some (.fz (.list (B.map .str))), some (.fz (pairsD best)), s3, s4, s5, s6]⟩
theorem atS_in {A : List Str} {i : Nat} (h : i < A.length) : (A.map PyData.str)[i]? = some (.str (atS A i)) := by
  rw [List.getElem?_map, atS, List.getElem?_eq_getElem h]; rfl
theorem pick_a (A : List Str) (one : List Nat) (n : Nat) (s1 s2 s4 s5 s6 : Option SV) (P : Store) (h1 : ∀ x ∈ one, x < A.length) (hl : one.length ≤ 4000) :
    bPick 0 3 ⟨n, [some (.fz (.list (A.map .str))), s1, s2, some (.fz (natD one)), s4, s5, s6]⟩ P = some (.fz (.list ((one.map (atS A)).map .str)), P) := by
  have key := mLC_map (own := [6]) (f := iAny (mVar 3)) (g := gNm 6) (te := mSub (mVar 0) (mVar 6)) (ρ := ⟨n, [some (.fz (.list (A.map .str))), s1, s2, some (.fz (natD one)), s4, s5, s6]⟩) (P := P) (items := one.map fun i => .int (i : Nat)) (src := .fz (natD one))
    (fun d => match d with | .int i => .str (atS A i.toNat) | _ => .none) (by simp [natD]) (by rw [List.length_map]; exact Nat.le_trans hl (by decide)) fun d hd T => by
      obtain ⟨i, hi, rfl⟩ := List.mem_map.mp hd
      refine ⟨_, rfl, ?_⟩
      have ea := atS_in (h1 i hi)
      refine st_sub (a := .fz (.list (A.map .str))) (e := .int (i : Nat)) (P1 := T) (by simp [EV.wipe]) (by simp [EV.wipe]) ?_
      rw [subOf_lst, atI_nat', ea]; rfl
  rw [bPick, key]
  simp [List.map_map, Function.comp_def]
theorem pick_b (B : List Str) (two : List Nat) (n : Nat) (s0 s2 s3 s5 s6 : Option SV) (P : Store) (h1 : ∀ x ∈ two, x < B.length) (hl : two.length ≤ 4000) :
    bPick 1 4 ⟨n, [s0, some (.fz (.list (B.map .str))), s2, s3, some (.fz (natD two)), s5, s6]⟩ P = some (.fz (.list ((two.map (atS B)).map .str)), P) := by
  have key := mLC_map (own := [6]) (f := iAny (mVar 4)) (g := gNm 6) (te := mSub (mVar 1) (mVar 6)) (ρ := ⟨n, [s0, some (.fz (.list (B.map .str))), s2, s3, some (.fz (natD two)), s5, s6]⟩) (P := P) (items := two.map fun i => .int (i : Nat)) (src := .fz (natD two))
    (fun d => match d with | .int i => .str (atS B i.toNat) | _ => .none) (by simp [natD]) (by rw [List.length_map]; exact Nat.le_trans hl (by decide)) fun d hd T => by
      obtain ⟨i, hi, rfl⟩ := List.mem_map.mp hd
      refine ⟨_, rfl, ?_⟩
      have ea := atS_in (h1 i hi)
      refine st_sub (a := .fz (.list (B.map .str))) (e := .int (i : Nat)) (P1 := T) (by simp [EV.wipe]) (by simp [EV.wipe]) ?_
      rw [subOf_lst, atI_nat', ea]; rfl
  rw [bPick, key]
  simp [List.map_map, Function.comp_def]
theorem pairs_run (one two : List Nat) (hl : one.length ≤ 4000) (he : one.length = two.length) (n : Nat) (s0 s1 s2 s5 s6 : Option SV) (P : Store) :
    bPairs ⟨n, [s0, s1, s2, some (.fz (natD one)), some (.fz (natD two)), s5, s6]⟩ P = some (.fz (pairsD (one.zip two)), P) := by
  have ir : iRange (aCons (mCall gLenA (aCons (mVar 3) aNil)) aNil) ⟨n, [s0, s1, s2, some (.fz (natD one)), some (.fz (natD two)), s5, s6]⟩ P = some (rangeD 0 one.length, .fz .none, P) := iRange_nat (by simp [natD]) hl
  have key := mLC_map (own := [6]) (f := iRange (aCons (mCall gLenA (aCons (mVar 3) aNil)) aNil)) (g := gNm 6) (te := mTup (aCons (mSub (mVar 3) (mVar 6)) (aCons (mSub (mVar 4) (mVar 6)) aNil))) (ρ := ⟨n, [s0, s1, s2, some (.fz (natD one)), some (.fz (natD two)), s5, s6]⟩) (P := P) (items := rangeD 0 one.length) (src := .fz .none)
    (fun d => match d with | .int i => pairD (one.getD i.toNat 0, two.getD i.toNat 0) | _ => .none) ir (by rw [rangeD_len]; exact Nat.le_trans hl (by decide)) fun d hd T => by
      simp only [rangeD, List.mem_map, List.mem_range] at hd
      obtain ⟨i, hi, rfl⟩ := hd
      refine ⟨_, rfl, ?_⟩
      have h2 : i < two.length := by omega
      simp [EV.wipe, natD, hi, h2, pairD]
  rw [bPairs, key]
  refine congrArg (fun l => some (SV.fz (PyData.list l), P)) ?_
  apply List.ext_getElem
  · simp [rangeD, he]
  · intro i h1 h2
    have h3 : i < one.length := by simpa [rangeD] using h1
    have h4 : i < two.length := by omega
    simp [rangeD, h3, h4]
/-- a turn of the inner loop -/
theorem kept_turn (A B : List Str) (hA : ∀ x ∈ A, x ∈ lineS) (hB : ∀ x ∈ B, x ∈ lineS) (T : List (List Nat × List Nat)) (best : List (Nat × Nat)) (one two : List Nat) (h1 : one ∈ subs A.length) (h2 : two ∈ subs B.length) (hl1 : A.length ≤ 5) (hl2 : B.length ≤ 5) (h : Seen A B T best) (n : Nat) (s5 s6 : Option SV) (P : Store) :
    ∃ best' t5, Seen A B (T ++ [(one, two)]) best' ∧ bKept (kEnv n A B best (some (.fz (natD one))) (some (.fz (natD two))) s5 s6) P = some (.nx, kEnv n A B best' (some (.fz (natD one))) (some (.fz (natD two))) t5 s6, P) := by
  obtain ⟨p1, i1⟩ := subs_in _ _ h1
  obtain ⟨p2, i2⟩ := subs_in _ _ h2
  have l1 := subs_short h1
  have l2 := subs_short h2
  have okA : ∀ x ∈ one.map (atS A), PyData.strOk x = true := by
    intro x hx
    obtain ⟨i, hi, rfl⟩ := List.mem_map.mp hx
    have := i1 i hi
    rw [atS, List.getElem?_eq_getElem this]
    exact line_ok _ (hA _ (List.getElem_mem this))
  have okB : ∀ x ∈ two.map (atS B), PyData.strOk x = true := by
    intro x hx
    obtain ⟨i, hi, rfl⟩ := List.mem_map.mp hx
    have := i2 i hi
    rw [atS, List.getElem?_eq_getElem this]
    exact line_ok _ (hB _ (List.getElem_mem this))
  have ea := pick_a A one n (some (.fz (.list (B.map .str)))) (some (.fz (pairsD best))) (some (.fz (natD two))) s5 s6 P i1 (by omega)
  have eb := pick_b B two n (some (.fz (.list (A.map .str)))) (some (.fz (pairsD best))) (some (.fz (natD one))) s5 s6 P i2 (by omega)
  have g3 : gLenA [natD one] = some (.int (one.length : Nat)) := by rw [natD, gLenA_lst, List.length_map]
  have g4 : gLenA [natD two] = some (.int (two.length : Nat)) := by rw [natD, gLenA_lst, List.length_map]
  have ec1 : mTB (mBin dEq (mCall gLenA (aCons (mVar 3) aNil)) (mCall gLenA (aCons (mVar 4) aNil))) (kEnv n A B best (some (.fz (natD one))) (some (.fz (natD two))) s5 s6) P = some (decide ((one.length : Int) = (two.length : Nat)), P) :=
    st_tb (st_bin (d := .int (one.length : Nat)) (e := .int (two.length : Nat)) (P1 := P) (P2 := P) (by simp [kEnv, g3]) (by simp [kEnv, g4]) (dEq_int _ _))
  by_cases hv : valid A B one two
  · have ec2 : cKept (kEnv n A B best (some (.fz (natD one))) (some (.fz (natD two))) s5 s6) P = some (true, P) := by
      refine (st_and (P1 := P) (ec1.trans (by rw [decide_eq_true (by have := hv.1; omega)]))).trans ?_
      refine st_tb (st_bin ea eb ?_)
      rw [dEq_strs _ _ okA okB (by simpa using hv.1), hv.2, decide_eq_true rfl]
    have ep := pairs_run one two (by omega) hv.1 n (some (.fz (.list (A.map .str)))) (some (.fz (.list (B.map .str)))) (some (.fz (pairsD best))) s5 s6 P
    have hc := zip_com A B one two 0 0 p1 p2 (fun x hx => ⟨Nat.zero_le _, i1 x hx⟩) (fun x hx => ⟨Nat.zero_le _, i2 x hx⟩) hv
    have g5 : ∀ l : List (Nat × Nat), gLenA [pairsD l] = some (.int (l.length : Nat)) := fun l => by rw [pairsD, gLenA_lst, List.length_map]
    have eg : mTB (mBin dGtG (mCall gLenA (aCons (mVar 5) aNil)) (mCall gLenA (aCons (mVar 2) aNil))) (kEnv n A B best (some (.fz (natD one))) (some (.fz (natD two))) (some (.fz (pairsD (one.zip two)))) s6) P = some (decide ((best.length : Int) < ((one.zip two).length : Nat)), P) :=
      st_tb (st_bin (d := .int ((one.zip two).length : Nat)) (e := .int (best.length : Nat)) (P1 := P) (P2 := P) (by simp [kEnv, g5]) (by simp [kEnv, g5]) (dGtG_int _ _))
    have ee : mTB (mBin dEq (mCall gLenA (aCons (mVar 5) aNil)) (mCall gLenA (aCons (mVar 2) aNil))) (kEnv n A B best (some (.fz (natD one))) (some (.fz (natD two))) (some (.fz (pairsD (one.zip two)))) s6) P = some (decide (((one.zip two).length : Int) = (best.length : Nat)), P) :=
      st_tb (st_bin (d := .int ((one.zip two).length : Nat)) (e := .int (best.length : Nat)) (P1 := P) (P2 := P) (by simp [kEnv, g5]) (by simp [kEnv, g5]) (dEq_int _ _))
    have el : mTB (mBin dLtG (mVar 5) (mVar 2)) (kEnv n A B best (some (.fz (natD one))) (some (.fz (natD two))) (some (.fz (pairsD (one.zip two)))) s6) P = some (ltP (one.zip two) best, P) :=
      st_tb (st_bin (d := pairsD (one.zip two)) (e := pairsD best) (P1 := P) (P2 := P) rfl rfl (dLt_pairs _ _))
    have eset : sSet 5 bPairs (kEnv n A B best (some (.fz (natD one))) (some (.fz (natD two))) s5 s6) P = some (.nx, kEnv n A B best (some (.fz (natD one))) (some (.fz (natD two))) (some (.fz (pairsD (one.zip two)))) s6, P) := st_set ep
    by_cases hb : betP (one.zip two) best
    · have eB : cBet (kEnv n A B best (some (.fz (natD one))) (some (.fz (natD two))) (some (.fz (pairsD (one.zip two)))) s6) P = some (true, P) := by
        rcases hb with hb | ⟨hb1, hb2⟩
        · exact st_orT (eg.trans (by rw [decide_eq_true (by omega)]))
        · refine (st_or (P1 := P) (eg.trans (by rw [decide_eq_false (by omega)]))).trans ?_
          refine (st_and (P1 := P) (ee.trans (by rw [decide_eq_true (by omega)]))).trans ?_
          rw [el, hb2]
      refine ⟨one.zip two, some (.fz (pairsD (one.zip two))), h.better hc hb, ?_⟩
      exact (st_ifT ec2).trans ((st_seq eset).trans ((st_ifT eB).trans (st_set (s := .fz (pairsD (one.zip two))) (P1 := P) rfl)))
    · have eB : cBet (kEnv n A B best (some (.fz (natD one))) (some (.fz (natD two))) (some (.fz (pairsD (one.zip two)))) s6) P = some (false, P) := by
        refine (st_or (P1 := P) (eg.trans (by rw [decide_eq_false (fun z => hb (.inl (by omega)))]))).trans ?_
        by_cases he : (one.zip two).length = best.length
        · refine (st_and (P1 := P) (ee.trans (by rw [decide_eq_true (by omega)]))).trans ?_
          have : ltP (one.zip two) best = false := by
            cases hl : ltP (one.zip two) best with
            | true => exact absurd (.inr ⟨he, hl⟩) hb
            | false => rfl
          rw [el, this]
        · exact st_andF (ee.trans (by rw [decide_eq_false (by omega)]))
      refine ⟨best, some (.fz (pairsD (one.zip two))), h.keep fun _ => hb, ?_⟩
      exact (st_ifT ec2).trans ((st_seq eset).trans ((st_ifF eB).trans rfl))
  · have ec2 : cKept (kEnv n A B best (some (.fz (natD one))) (some (.fz (natD two))) s5 s6) P = some (false, P) := by
      by_cases hq : one.length = two.length
      · refine (st_and (P1 := P) (ec1.trans (by rw [decide_eq_true (by omega)]))).trans ?_
        refine st_tb (st_bin ea eb ?_)
        rw [dEq_strs _ _ okA okB (by simpa using hq), decide_eq_false (fun z => hv ⟨hq, z⟩)]
      · exact st_andF (ec1.trans (by rw [decide_eq_false (by omega)]))
    exact ⟨best, s5, h.keep fun z => absurd z hv, (st_ifF ec2).trans rfl⟩
end NS

set_option maxHeartbeats 1000000
set_option linter.all false
set_option maxRecDepth 10000
namespace NS
open PySem Pd L2
/-! k22: the law's longest list, whole -/
theorem kept_in (A B : List Str) (hA : ∀ x ∈ A, x ∈ lineS) (hB : ∀ x ∈ B, x ∈ lineS) (hl1 : A.length ≤ 5) (hl2 : B.length ≤ 5) (one : List Nat) (h1 : one ∈ subs A.length) (n : Nat) (P : Store) : ∀ (L : List (List Nat)) (T : List (List Nat × List Nat)) (best : List (Nat × Nat)) (s4 s5 s6 : Option SV), (∀ two ∈ L, two ∈ subs B.length) → Seen A B T best →
    ∃ best' t4 t5, Seen A B (T ++ L.map fun two => (one, two)) best' ∧ forGo (gNm 4) bKept (L.map natD) (kEnv n A B best (some (.fz (natD one))) s4 s5 s6) P = some (.nx, kEnv n A B best' (some (.fz (natD one))) t4 t5 s6, P) := by
  intro L
  induction L with
  | nil => intro T best s4 s5 s6 _ h; exact ⟨best, s4, s5, by simpa using h, rfl⟩
  | cons two L ih =>
    intro T best s4 s5 s6 hL h
    obtain ⟨b1, t5, h2, e2⟩ := kept_turn A B hA hB T best one two h1 (hL two List.mem_cons_self) hl1 hl2 h n s5 s6 P
    obtain ⟨b2, u4, u5, h3, e3⟩ := ih (T ++ [(one, two)]) b1 (some (.fz (natD two))) t5 s6 (fun x hx => hL x (List.mem_cons_of_mem _ hx)) h2
    refine ⟨b2, u4, u5, by rw [List.map_cons]; simpa using h3, ?_⟩
    exact (st_forC (ρ1 := kEnv n A B best (some (.fz (natD one))) (some (.fz (natD two))) s5 s6) (P1 := P) rfl e2).trans e3
theorem kept_out (A B : List Str) (hA : ∀ x ∈ A, x ∈ lineS) (hB : ∀ x ∈ B, x ∈ lineS) (hl1 : A.length ≤ 5) (hl2 : B.length ≤ 5) (n : Nat) (P : Store) : ∀ (L : List (List Nat)) (T : List (List Nat × List Nat)) (best : List (Nat × Nat)) (s3 s4 s5 s6 : Option SV), (∀ one ∈ L, one ∈ subs A.length) → Seen A B T best →
    ∃ best' t3 t4 t5, Seen A B (T ++ L.flatMap fun one => (subs B.length).map fun two => (one, two)) best' ∧ forGo (gNm 3) (sFor (iAny (mCallF m__law_lists (aCons (mCall gLenA (aCons (mVar 1) aNil)) aNil))) (gNm 4) bKept) (L.map natD) (kEnv n A B best s3 s4 s5 s6) P = some (.nx, kEnv n A B best' t3 t4 t5 s6, P) := by
  intro L
  induction L with
  | nil => intro T best s3 s4 s5 s6 _ h; exact ⟨best, s3, s4, s5, by simpa using h, rfl⟩
  | cons one L ih =>
    intro T best s3 s4 s5 s6 hL h
    obtain ⟨b1, t4, t5, h2, e2⟩ := kept_in A B hA hB hl1 hl2 one (hL one List.mem_cons_self) n P (subs B.length) T best s4 s5 s6 (fun _ h => h) h
    obtain ⟨b2, u3, u4, u5, h3, e3⟩ := ih (T ++ (subs B.length).map fun two => (one, two)) b1 (some (.fz (natD one))) t4 t5 s6 (fun x hx => hL x (List.mem_cons_of_mem _ hx)) h2
    refine ⟨b2, u3, u4, u5, by rw [List.flatMap_cons, ← List.append_assoc]; exact h3, ?_⟩
    have el := t_lists B.length hl2 P
    have ei : iAny (mCallF m__law_lists (aCons (mCall gLenA (aCons (mVar 1) aNil)) aNil)) (kEnv n A B best (some (.fz (natD one))) s4 s5 s6) P = some ((subs B.length).map natD, .fz (.list ((subs B.length).map natD)), P) := by
      have : mCallF m__law_lists (aCons (mCall gLenA (aCons (mVar 1) aNil)) aNil) (kEnv n A B best (some (.fz (natD one))) s4 s5 s6) P = some (.fz (.list ((subs B.length).map natD)), P) := by
        refine (st_callF (l := [.fz (.int (B.length : Nat))]) (P1 := P) ?_).trans el
        simp [kEnv]
      rw [iAny_ap, this]; rfl
    exact (st_forC (ρ1 := kEnv n A B best (some (.fz (natD one))) s4 s5 s6) (P1 := P) rfl ((st_for ei).trans e2)).trans e3
theorem t_kept (A B : List Str) (hA : ∀ x ∈ A, x ∈ lineS) (hB : ∀ x ∈ B, x ∈ lineS) (hl1 : A.length ≤ 5) (hl2 : B.length ≤ 5) (P : Store) : m__law_kept [.fz (.list (A.map .str)), .fz (.list (B.map .str))] P = some (.fz (pairsD (greedy A B A.length 0 0)), P) := by
  obtain ⟨best, t3, t4, t5, hS, e⟩ := kept_out A B hA hB hl1 hl2 P.length P (subs A.length) [] [] none none none none (fun _ h => h) ⟨.nil 0 0, fun q hq => by cases hq⟩
  have hw := hS.win fun one h1 two h2 => by
    rw [List.nil_append, List.mem_flatMap]
    exact ⟨one, h1, List.mem_map.mpr ⟨two, h2, rfl⟩⟩
  subst hw
  have el := t_lists A.length hl1 P
  have ei : iAny (mCallF m__law_lists (aCons (mCall gLenA (aCons (mVar 0) aNil)) aNil)) (kEnv P.length A B [] none none none none) P = some ((subs A.length).map natD, .fz (.list ((subs A.length).map natD)), P) := by
    have : mCallF m__law_lists (aCons (mCall gLenA (aCons (mVar 0) aNil)) aNil) (kEnv P.length A B [] none none none none) P = some (.fz (.list ((subs A.length).map natD)), P) := by
      refine (st_callF (l := [.fz (.int (A.length : Nat))]) (P1 := P) ?_).trans el
      simp [kEnv]
    rw [iAny_ap, this]; rfl
  refine (st_fun (s := .fz (pairsD (greedy A B A.length 0 0))) (P1 := P) (ρ1 := kEnv P.length A B (greedy A B A.length 0 0) t3 t4 t5 none) ?_).trans (by simp)
  rw [b_kept_eq]
  refine (st_seq (ρ1 := kEnv P.length A B [] none none none none) (P1 := P) ?_).trans ?_
  · refine (st_set (s := .fz (pairsD [])) (P1 := P) ?_).trans rfl
    simp [pairsD]
  exact (st_seq ((st_for ei).trans e)).trans (st_ret rfl)
end NS

set_option maxHeartbeats 1000000
set_option linter.all false
set_option maxRecDepth 10000
namespace NS
open PySem Pd L2
/-! k22: a list of lists -/
def rowC (r : List Int) : Cell := .lst (r.map fun x => .fz (.int x))
structure Grid (P S : Store) (D n : Nat) (f : Nat → List Int) : Prop where
  tk : S.take P.length = P
  le : P.length ≤ D
  ks : ∃ ks : List Nat, S[D]? = some (.lst (ks.map .ptr)) ∧ ks.length = n ∧ ks.Nodup ∧ ∀ i k, ks[i]? = some k → D < k ∧ S[k]? = some (rowC (f i))
theorem Grid.congr {P S : Store} {D n : Nat} {f g : Nat → List Int} (h : Grid P S D n f) (e : ∀ i, i < n → f i = g i) : Grid P S D n g := by
  obtain ⟨ks, h1, h2, h3, h4⟩ := h.ks
  refine ⟨h.tk, h.le, ks, h1, h2, h3, fun i k hk => ?_⟩
  have := (List.getElem?_eq_some_iff.mp hk).1
  rw [← e i (by omega)]
  exact h4 i k hk
theorem Grid.app {P S : Store} {D n : Nat} {f : Nat → List Int} (h : Grid P S D n f) (J : Store) : Grid P (S ++ J) D n f := by
  obtain ⟨ks, h1, h2, h3, h4⟩ := h.ks
  have hD := (List.getElem?_eq_some_iff.mp h1).1
  have hle := h.le
  refine ⟨?_, h.le, ks, ?_, h2, h3, fun i k hk => ?_⟩
  · rw [List.take_append_of_le_length (by omega)]; exact h.tk
  · rw [List.getElem?_append_left hD]; exact h1
  · obtain ⟨q1, q2⟩ := h4 i k hk
    have := (List.getElem?_eq_some_iff.mp q2).1
    exact ⟨q1, by rw [List.getElem?_append_left this]; exact q2⟩
/-- a row is there -/
theorem Grid.row {P S : Store} {D n : Nat} {f : Nat → List Int} (h : Grid P S D n f) {i : Nat} (hi : i < n) : ∃ k, D < k ∧ S[k]? = some (rowC (f i)) ∧ (∀ {ρ : EV} {S0 S1 : Store} {x y : XM}, x ρ S0 = some (.ptr D, S1) → y ρ S1 = some (.fz (.int (i : Nat)), S) → mSubP x y ρ S0 = some (.ptr k, S)) ∧
    ∀ g : Nat → List Int, (∀ j, j ≠ i → j < n → g j = f j) → Grid P (S.set k (rowC (g i))) D n g := by
  obtain ⟨ks, h1, h2, h3, h4⟩ := h.ks
  have hk := List.getElem?_eq_getElem (show i < ks.length by omega)
  obtain ⟨q1, q2⟩ := h4 i ks[i] hk
  have hle := h.le
  have hlt := (List.getElem?_eq_some_iff.mp q2).1
  refine ⟨ks[i], q1, q2, fun {ρ S0 S1 x y} hx hy => ?_, fun g hg => ⟨?_, h.le, ks, ?_, h2, h3, fun j k hj => ?_⟩⟩
  · rw [mSubP_ap, hx, Option.bind_some]
    simp only [hy, Option.bind_some, h1]
    rw [atI_nat', List.getElem?_map, hk]
    rfl
  · rw [List.take_set_of_le (by omega)]; exact h.tk
  · rw [List.getElem?_set_ne (by omega)]; exact h1
  · by_cases e : j = i
    · subst e
      rw [hk] at hj; cases hj
      exact ⟨q1, by rw [List.getElem?_set_self hlt]⟩
    · obtain ⟨z1, z2⟩ := h4 j k hj
      have jl := (List.getElem?_eq_some_iff.mp hj).1
      have ne : ks[i] ≠ k := by
        intro z
        have ej := (List.getElem?_eq_some_iff.mp hj).2
        rw [← ej] at z
        exact e ((List.getElem_inj h3).mp z).symm
      exact ⟨z1, by rw [List.getElem?_set_ne ne, hg j e (by omega)]; exact z2⟩
theorem sub_row {S : Store} {k : Nat} {r : List Int} (h : S[k]? = some (rowC r)) {j : Nat} {v : Int} (hv : r[j]? = some v) : subOf S (.ptr k) (.int (j : Nat)) = some (.fz (.int v)) := by
  have hd : fzs (r.map fun x => SV.fz (.int x)) = some (r.map .int) := fzs_map' _ _
  rw [subOf_cell (ds := r.map .int) h hd, atI_nat', List.getElem?_map, hv]
  rfl
theorem rep_zero : ∀ m : Nat, (List.replicate m [SV.fz (.int 0)]).flatten = (List.replicate m (0 : Int)).map (fun x => SV.fz (.int x))
  | 0 => rfl
  | m + 1 => by simp only [List.replicate_succ, List.flatten_cons, List.map_cons, List.singleton_append]; rw [rep_zero m]
/-- the new grid -/
theorem grid_go (P : Store) (m : Nat) (hm : m ≤ 1000) (ρ : EV) (x : XM) (hx : ∀ (d : PyData) (S : Store), mBin dAdd (mVar 3) (mC (.int 1)) (ρ.put 9 (.fz d)) S = some (.fz (.int (m : Nat)), S)) : ∀ (items : List PyData) (n : Nat) (S : Store) (D : Nat), Grid P S D n (fun _ => List.replicate m 0) → n + items.length ≤ 1000 →
    ∃ S', lcGoP (gNm 9) bYes (mRepC (mLstC (aCons (mC (.int 0)) aNil)) (mBin dAdd (mVar 3) (mC (.int 1)))) ρ D items S = some S' ∧ Grid P S' D (n + items.length) (fun _ => List.replicate m 0)
  | [], n, S, D, h, _ => ⟨S, rfl, by simpa using h⟩
  | d :: r, n, S, D, h, hn => by
    simp only [List.length_cons] at hn
    obtain ⟨ks, h1, h2, h3, h4⟩ := h.ks
    have hD := (List.getElem?_eq_some_iff.mp h1).1
    have hle := h.le
    have e1 : mRepC (mLstC (aCons (mC (.int 0)) aNil)) (mBin dAdd (mVar 3) (mC (.int 1))) (ρ.put 9 (.fz d)) S = some (.ptr (S.length + 1), S ++ [.lst [.fz (.int 0)]] ++ [rowC (List.replicate m 0)]) := by
      have a1 : mLstC (aCons (mC (.int 0)) aNil) (ρ.put 9 (.fz d)) S = some (.ptr S.length, S ++ [.lst [.fz (.int 0)]]) := by simp
      unfold mRepC
      rw [a1, Option.bind_some]
      simp only [hx, Option.bind_some]
      have a2 : (S ++ [Cell.lst [.fz (.int 0)]])[S.length]? = some (.lst [.fz (.int 0)]) := by simp
      rw [a2]
      simp only
      have big : ((m : Nat) : Int) < 2 ^ 63 := Int.lt_of_lt_of_le (show (m : Int) < 2000 by omega) (by decide)
      have small : -(2 ^ 63) ≤ ((m : Nat) : Int) := Int.le_trans (by decide) (Int.natCast_nonneg m)
      rw [if_pos ⟨small, big, by simp; exact Nat.le_trans hm (by decide), rfl⟩]
      simp only [Int.toNat_natCast, List.length_append, List.length_singleton]
      congr 3
      rw [rowC]
      congr 3
      exact rep_zero m
    have e2 : (S ++ [Cell.lst [.fz (.int 0)]] ++ [rowC (List.replicate m 0)])[D]? = some (.lst (ks.map .ptr)) := by
      rw [List.append_assoc, List.getElem?_append_left hD]; exact h1
    have sz : (ks.map SV.ptr).length < sizeLine := Nat.lt_of_lt_of_le (show _ < 100000 by simp only [List.length_map]; omega) (by decide)
    have G : Grid P ((S ++ [Cell.lst [.fz (.int 0)]] ++ [rowC (List.replicate m 0)]).set D (.lst (ks.map .ptr ++ [.ptr (S.length + 1)]))) D (n + 1) (fun _ => List.replicate m 0) := by
      refine ⟨?_, h.le, ks ++ [S.length + 1], ?_, by simp [h2], ?_, fun i k hk => ?_⟩
      · rw [List.take_set_of_le h.le, List.append_assoc, List.take_append_of_le_length (by omega)]; exact h.tk
      · rw [List.getElem?_set_self (by simp; omega)]; simp
      · rw [List.nodup_append]
        refine ⟨h3, by simp, fun a ha b hb z => ?_⟩
        obtain ⟨i, hi⟩ := List.getElem?_of_mem ha
        have := (List.getElem?_eq_some_iff.mp (h4 i a hi).2).1
        simp at hb
        omega
      · by_cases hi : i < ks.length
        · rw [List.getElem?_append_left hi] at hk
          obtain ⟨q1, q2⟩ := h4 i k hk
          have := (List.getElem?_eq_some_iff.mp q2).1
          exact ⟨q1, by rw [List.getElem?_set_ne (by omega), List.append_assoc, List.getElem?_append_left this]; exact q2⟩
        · rw [List.getElem?_append_right (by omega)] at hk
          have hi2 : i - ks.length = 0 := by
            have := (List.getElem?_eq_some_iff.mp hk).1
            simp at this; omega
          rw [hi2] at hk
          simp at hk
          subst hk
          refine ⟨by omega, ?_⟩
          rw [List.getElem?_set_ne (by omega)]
          simp
    obtain ⟨S', e3, G'⟩ := grid_go P m hm ρ x hx r (n + 1) _ D G (by omega)
    refine ⟨S', ?_, by rw [List.length_cons, show n + (r.length + 1) = n + 1 + r.length by omega]; exact G'⟩
    rw [← e3]
    show ((gNm 9 (.fz d) ρ S).bind _) = _
    rw [gNm_ap, Option.bind_some]
    simp only [bYes_ap, Option.bind_some, if_true, e1]
    rw [e2]
    simp only
    rw [if_pos sz]
end NS

set_option maxHeartbeats 1000000
set_option linter.all false
set_option maxRecDepth 10000
namespace NS
open PySem Pd L2
/-! k22: the table of lengths -/
def down (m : Nat) : List PyData := (List.range m).map fun n => .int ((m : Int) - 1 + (n : Nat) * (-1))
theorem down_succ (m : Nat) : down (m + 1) = .int (m : Nat) :: down m := by
  simp only [down, List.range_succ_eq_map, List.map_cons, List.map_map, Function.comp_def]
  refine congr (congrArg _ ?_) (List.map_congr_left fun a _ => ?_)
  · congr 1; omega
  · congr 1; omega
theorem iRange_down {f : XM} {ρ : EV} {P : Store} {m : Nat} (h : f ρ P = some (.fz (.int (m : Nat)), P)) (hm : m ≤ 1000) : iRange3 (aCons (mBin dSub f (mC (.int 1))) (aCons (mUn dNeg (mC (.int 1))) (aCons (mUn dNeg (mC (.int 1))) aNil))) ρ P = some (down m, .fz .none, P) := by
  have hn : dNeg (.int 1) = some (.int (-1)) := rfl
  have e1 : mBin dSub f (mC (.int 1)) ρ P = some (.fz (.int ((m : Int) - 1)), P) := st_bin h (mC_ap _) (dSub_int _ _)
  have e2 : (aCons (mBin dSub f (mC (.int 1))) (aCons (mUn dNeg (mC (.int 1))) (aCons (mUn dNeg (mC (.int 1))) aNil))) ρ P = some ([.fz (.int ((m : Int) - 1)), .fz (.int (-1)), .fz (.int (-1))], P) := by
    rw [aCons_ap, e1, Option.bind_some]
    simp [hn]
  unfold iRange3
  rw [e2, Option.bind_some]
  simp only
  have big : (4000 : Int) < 2 ^ 62 := by decide
  have small : -(2 ^ 62) ≤ (-4000 : Int) := by decide
  have a1 : -(2 ^ 62) ≤ ((m : Int) - 1) := Int.le_trans small (by omega)
  have a2 : ((m : Int) - 1) < 2 ^ 62 := Int.lt_of_le_of_lt (by omega) big
  rw [if_pos (by exact ⟨True.intro, a1, a2, Int.le_trans small (by omega), Int.lt_of_le_of_lt (by omega) big⟩)]
  rw [down, show ((m : Int) - 1 - -1).toNat = m by omega]
def rowP (A B : List Str) (i q : Nat) : List Int := (List.range (B.length + 1)).map fun j => if j < q then 0 else (V A B i j : Int)
def stP (A B : List Str) (i q : Nat) : Nat → List Int := fun i' => if i' < i then rowP A B i' B.length else if i' = i then rowP A B i q else rowP A B i' 0
theorem rowP_get {A B : List Str} {i q j : Nat} (hj : j ≤ B.length) (hq : q ≤ j) : (rowP A B i q)[j]? = some (V A B i j : Int) := by
  simp [rowP, show j < B.length + 1 by omega]
  omega
theorem rowP_zero (A B : List Str) (i : Nat) : rowP A B i B.length = List.replicate (B.length + 1) 0 := by
  apply List.ext_getElem
  · simp [rowP]
  · intro j h1 h2
    simp [rowP]
    intro h
    have : B.length ≤ j := h
    rw [V_end2 A B i j this]
theorem rowP_end (A B : List Str) : rowP A B A.length 0 = List.replicate (B.length + 1) 0 := by
  apply List.ext_getElem
  · simp [rowP]
  · intro j h1 h2
    simp [rowP, V_end A B A.length j (Nat.le_refl _)]
theorem rowP_set (A B : List Str) (i q : Nat) (hq : q < B.length) : (rowP A B i (q + 1)).set q (V A B i q : Int) = rowP A B i q := by
  apply List.ext_getElem
  · simp [rowP]
  · intro j h1 h2
    rw [List.getElem_set]
    by_cases e : q = j
    · subst e
      simp [rowP]
    · rw [if_neg e]
      simp only [rowP, List.getElem_map, List.getElem_range]
      by_cases h : j < q
      · rw [if_pos (by omega), if_pos h]
      · rw [if_neg (by omega), if_neg h]
theorem stP_next (A B : List Str) (i : Nat) : stP A B (i + 1) 0 = stP A B i B.length := by
  funext i'
  simp only [stP]
  by_cases h1 : i' < i
  · rw [if_pos (by omega), if_pos h1]
  · by_cases h2 : i' = i
    · subst h2
      rw [if_pos (by omega), if_neg h1, if_pos rfl]
    · rw [if_neg (by omega), if_neg h1, if_neg h2]
      by_cases h3 : i' = i + 1
      · rw [if_pos h3, h3]
      · rw [if_neg h3]
def bDP : SM := sIf (mTB (mBin dEq (mSub (mVar 0) (mVar 5)) (mSub (mVar 1) (mVar 6)))) (sAsg (mBin dAdd (mSub (mSubP (mVar 4) (mBin dAdd (mVar 5) (mC (.int 1)))) (mBin dAdd (mVar 6) (mC (.int 1)))) (mC (.int 1))) (gIx (mSubP (mVar 4) (mVar 5)) (mVar 6))) (sAsg (mCall gMax2 (aCons (mSub (mSubP (mVar 4) (mBin dAdd (mVar 5) (mC (.int 1)))) (mVar 6)) (aCons (mSub (mSubP (mVar 4) (mVar 5)) (mBin dAdd (mVar 6) (mC (.int 1)))) aNil))) (gIx (mSubP (mVar 4) (mVar 5)) (mVar 6)))
def dEnv (n : Nat) (A B : List Str) (D : Nat) (s5 s6 s7 s8 s9 : Option SV) : EV := ⟨n, [some (.fz (.list (A.map .str))), some (.fz (.list (B.map .str))), some (.fz (.int (A.length : Nat))), some (.fz (.int (B.length : Nat))), some (.ptr D), s5, s6, s7, s8, s9]⟩
/-- reading at (i, j) -/
theorem read_at {P S : Store} {D n : Nat} {f : Nat → List Int} (G : Grid P S D n f) {ρ : EV} {x y : XM} {i j : Nat} {v : Int} (h4 : ρ.sl[4]? = some (some (.ptr D))) (hx : x ρ S = some (.fz (.int (i : Nat)), S)) (hy : y ρ S = some (.fz (.int (j : Nat)), S)) (hi : i < n) (hv : (f i)[j]? = some v) : mSub (mSubP (mVar 4) x) y ρ S = some (.fz (.int v), S) := by
  obtain ⟨k, h1, h2, h3, _⟩ := G.row hi
  obtain ⟨b, sl⟩ := ρ
  have e1 : mSubP (mVar 4) x ⟨b, sl⟩ S = some (.ptr k, S) := h3 (S1 := S) (by rw [mVar_ap, h4]; rfl) hx
  exact st_sub e1 hy (sub_row h2 hv)
theorem write_at {P S : Store} {D n : Nat} {f g : Nat → List Int} (G : Grid P S D n f) {ρ : EV} {x y : XM} {i j : Nat} {v : Int} (h4 : ρ.sl[4]? = some (some (.ptr D))) (hx : x ρ S = some (.fz (.int (i : Nat)), S)) (hy : y ρ S = some (.fz (.int (j : Nat)), S)) (hi : i < n) (hj : j < (f i).length) (hg : ∀ j, j ≠ i → j < n → g j = f j) (hs : (f i).set j v = g i) :
    ∃ S', Grid P S' D n g ∧ gIx (mSubP (mVar 4) x) y (.fz (.int v)) ρ S = some (ρ, S') := by
  obtain ⟨k, h1, h2, h3, h5⟩ := G.row hi
  obtain ⟨b, sl⟩ := ρ
  have e1 : mSubP (mVar 4) x ⟨b, sl⟩ S = some (.ptr k, S) := h3 (S1 := S) (by rw [mVar_ap, h4]; rfl) hx
  refine ⟨_, h5 g hg, ?_⟩
  rw [gIx_ap, e1, Option.bind_some]
  simp only [hy, Option.bind_some, h2, rowC]
  rw [if_pos (okPtr_fz _ _ _), ixN_nat, if_pos (by simpa using hj)]
  simp only [Option.map_some]
  rw [← hs, List.map_set]
theorem st_asg {f : XM} {g : GM} {ρ ρ2 : EV} {P P1 P2 : Store} {s : SV} (h : f ρ P = some (s, P1)) (h2 : g s ρ P1 = some (ρ2, P2)) : sAsg f g ρ P = some (.nx, ρ2, P2) := by
  rw [sAsg_ap, h, Option.bind_some]
  simp only [h2, Option.map_some]
theorem max_V (a b : Nat) : gMax2 [.int (a : Nat), .int (b : Nat)] = some (.int ((max a b : Nat) : Int)) := by
  show some (PyData.int (if (b : Int) > (a : Nat) then (b : Int) else (a : Nat))) = _
  by_cases h : (b : Int) > (a : Nat)
  · rw [if_pos h, show max a b = b by omega]
  · rw [if_neg h, show max a b = a by omega]
theorem dp_turn (A B : List Str) {P S : Store} {D : Nat} (n i q : Nat) (hi : i < A.length) (hq : q < B.length) (G : Grid P S D (A.length + 1) (stP A B i (q + 1))) (s7 s8 s9 : Option SV) :
    ∃ S', Grid P S' D (A.length + 1) (stP A B i q) ∧ bDP (dEnv n A B D (some (.fz (.int i))) (some (.fz (.int q))) s7 s8 s9) S = some (.nx, dEnv n A B D (some (.fz (.int i))) (some (.fz (.int q))) s7 s8 s9, S') := by
  have x5 : mVar 5 (dEnv n A B D (some (.fz (.int i))) (some (.fz (.int q))) s7 s8 s9) S = some (.fz (.int (i : Nat)), S) := rfl
  have x6 : mVar 6 (dEnv n A B D (some (.fz (.int i))) (some (.fz (.int q))) s7 s8 s9) S = some (.fz (.int (q : Nat)), S) := rfl
  have y5 : mBin dAdd (mVar 5) (mC (.int 1)) (dEnv n A B D (some (.fz (.int i))) (some (.fz (.int q))) s7 s8 s9) S = some (.fz (.int ((i + 1 : Nat) : Int)), S) := st_bin x5 (mC_ap _) (by simp)
  have y6 : mBin dAdd (mVar 6) (mC (.int 1)) (dEnv n A B D (some (.fz (.int i))) (some (.fz (.int q))) s7 s8 s9) S = some (.fz (.int ((q + 1 : Nat) : Int)), S) := st_bin x6 (mC_ap _) (by simp)
  have fi : stP A B i (q + 1) i = rowP A B i (q + 1) := by simp [stP]
  have fi1 : stP A B i (q + 1) (i + 1) = rowP A B (i + 1) 0 := by
    simp only [stP]
    rw [if_neg (by omega), if_neg (by omega)]
  have eA : mSub (mVar 0) (mVar 5) (dEnv n A B D (some (.fz (.int i))) (some (.fz (.int q))) s7 s8 s9) S = some (.fz (.str A[i]), S) := by
    refine st_sub (a := .fz (.list (A.map .str))) (P1 := S) rfl x5 ?_
    rw [subOf_lst, atI_nat', List.getElem?_map, List.getElem?_eq_getElem hi]; rfl
  have eB : mSub (mVar 1) (mVar 6) (dEnv n A B D (some (.fz (.int i))) (some (.fz (.int q))) s7 s8 s9) S = some (.fz (.str B[q]), S) := by
    refine st_sub (a := .fz (.list (B.map .str))) (P1 := S) rfl x6 ?_
    rw [subOf_lst, atI_nat', List.getElem?_map, List.getElem?_eq_getElem hq]; rfl
  have ec : mTB (mBin dEq (mSub (mVar 0) (mVar 5)) (mSub (mVar 1) (mVar 6))) (dEnv n A B D (some (.fz (.int i))) (some (.fz (.int q))) s7 s8 s9) S = some (decide (A[i] = B[q]), S) := st_tb (st_bin eA eB (dEq_str2 _ _))
  have hV := V_step A B i q hi hq
  rw [List.getElem?_eq_getElem hi, List.getElem?_eq_getElem hq] at hV
  obtain ⟨S', G', ew⟩ := write_at (g := stP A B i q) (v := (V A B i q : Int)) G (ρ := dEnv n A B D (some (.fz (.int i))) (some (.fz (.int q))) s7 s8 s9) (x := mVar 5) (y := mVar 6) rfl x5 x6 (by omega : i < A.length + 1) (by rw [fi]; simp [rowP]; omega) (fun j h1 _ => by
    simp only [stP]
    by_cases h : j < i
    · rw [if_pos h, if_pos h]
    · rw [if_neg h, if_neg h, if_neg h1, if_neg h1]) (by rw [fi, rowP_set A B i q hq]; simp [stP])
  refine ⟨S', G', ?_⟩
  by_cases he : A[i] = B[q]
  · have r1 := read_at G (ρ := dEnv n A B D (some (.fz (.int i))) (some (.fz (.int q))) s7 s8 s9) rfl y5 y6 (by omega) (by rw [fi1]; exact rowP_get (by omega) (by omega))
    rw [if_pos (by rw [he])] at hV
    refine (st_ifT (ec.trans (by rw [decide_eq_true he]))).trans (st_asg (st_bin r1 (mC_ap _) (z := .int (V A B i q : Int)) ?_) ew)
    rw [dAdd_int, hV]; congr 2
  · have r1 := read_at G (ρ := dEnv n A B D (some (.fz (.int i))) (some (.fz (.int q))) s7 s8 s9) rfl y5 x6 (by omega) (by rw [fi1]; exact rowP_get (by omega) (by omega))
    have r2 := read_at G (ρ := dEnv n A B D (some (.fz (.int i))) (some (.fz (.int q))) s7 s8 s9) rfl x5 y6 (by omega) (by rw [fi]; exact rowP_get (by omega) (by omega))
    rw [if_neg (fun z => he (Option.some.inj z))] at hV
    refine (st_ifF (ec.trans (by rw [decide_eq_false he]))).trans (st_asg (st_call (l := [.fz (.int (V A B (i + 1) q : Int)), .fz (.int (V A B i (q + 1) : Int))]) (P1 := S) (ds := [.int (V A B (i + 1) q : Int), .int (V A B i (q + 1) : Int)]) (z := .int (V A B i q : Int)) ?_ rfl ?_) ew)
    · rw [aCons_ap, r1, Option.bind_some]
      simp only [aCons_ap, r2, Option.bind_some, aNil_ap, Option.map_some]
    · rw [max_V, hV]
theorem dp_in (A B : List Str) {P : Store} {D : Nat} (n i : Nat) (hi : i < A.length) : ∀ (q : Nat) (S : Store) (s6 s7 s8 s9 : Option SV), q ≤ B.length → Grid P S D (A.length + 1) (stP A B i q) →
    ∃ S' t6, Grid P S' D (A.length + 1) (stP A B i 0) ∧ forGo (gNm 6) bDP (down q) (dEnv n A B D (some (.fz (.int i))) s6 s7 s8 s9) S = some (.nx, dEnv n A B D (some (.fz (.int i))) t6 s7 s8 s9, S')
  | 0, S, s6, s7, s8, s9, _, G => ⟨S, s6, G, rfl⟩
  | q + 1, S, s6, s7, s8, s9, hq, G => by
    obtain ⟨S1, G1, e1⟩ := dp_turn A B n i q hi (by omega) G s7 s8 s9
    obtain ⟨S2, t6, G2, e2⟩ := dp_in A B n i hi q S1 (some (.fz (.int q))) s7 s8 s9 (by omega) G1
    refine ⟨S2, t6, G2, ?_⟩
    rw [down_succ]
    exact (st_forC (ρ1 := dEnv n A B D (some (.fz (.int i))) (some (.fz (.int q))) s7 s8 s9) (P1 := S) rfl e1).trans e2
def bDPO : SM := sFor (iRange3 (aCons (mBin dSub (mVar 3) (mC (.int 1))) (aCons (mUn dNeg (mC (.int 1))) (aCons (mUn dNeg (mC (.int 1))) aNil)))) (gNm 6) bDP
theorem dp_out (A B : List Str) (hB : B.length ≤ 1000) {P : Store} {D : Nat} (n : Nat) : ∀ (i : Nat) (S : Store) (s5 s6 s7 s8 s9 : Option SV), i ≤ A.length → Grid P S D (A.length + 1) (stP A B i 0) →
    ∃ S' t5 t6, Grid P S' D (A.length + 1) (stP A B 0 0) ∧ forGo (gNm 5) bDPO (down i) (dEnv n A B D s5 s6 s7 s8 s9) S = some (.nx, dEnv n A B D t5 t6 s7 s8 s9, S')
  | 0, S, s5, s6, s7, s8, s9, _, G => ⟨S, s5, s6, G, rfl⟩
  | i + 1, S, s5, s6, s7, s8, s9, hi, G => by
    rw [stP_next] at G
    obtain ⟨S1, t6, G1, e1⟩ := dp_in A B n i (by omega) B.length S s6 s7 s8 s9 (Nat.le_refl _) G
    obtain ⟨S2, u5, u6, G2, e2⟩ := dp_out A B hB n i S1 (some (.fz (.int i))) t6 s7 s8 s9 (by omega) G1
    refine ⟨S2, u5, u6, G2, ?_⟩
    rw [down_succ]
    have ir := iRange_down (f := mVar 3) (ρ := dEnv n A B D (some (.fz (.int i))) s6 s7 s8 s9) (P := S) (m := B.length) rfl hB
    exact (st_forC (ρ1 := dEnv n A B D (some (.fz (.int i))) s6 s7 s8 s9) (P1 := S) rfl ((st_for ir).trans e1)).trans e2
end NS

set_option maxHeartbeats 1000000
set_option linter.all false
set_option maxRecDepth 10000
namespace NS
open PySem Pd L2
/-! k22: kept_pairs -/
def fSt (S0 : Store) (acc : List (Nat × Nat)) : Store := S0 ++ [.lst ((acc.map pairD).map .fz)]
def bF : SM := sIf (mAndB (mTB (mBin dEq (mSub (mVar 0) (mVar 5)) (mSub (mVar 1) (mVar 8)))) (mTB (mBin dEq (mBin dAdd (mSub (mSubP (mVar 4) (mBin dAdd (mVar 5) (mC (.int 1)))) (mBin dAdd (mVar 8) (mC (.int 1)))) (mC (.int 1))) (mSub (mSubP (mVar 4) (mVar 5)) (mVar 6))))) (sSeq (sEx (mApp (mVar 7) (mTup (aCons (mVar 5) (aCons (mVar 8) aNil)))))
  (sSeq (sSet 6 (mBin dAdd (mVar 8) (mC (.int 1))))
  sBk)) sNx
def fEnv (n : Nat) (A B : List Str) (D K i j : Nat) (s8 s9 : Option SV) : EV := dEnv n A B D (some (.fz (.int (i : Nat)))) (some (.fz (.int (j : Nat)))) (some (.ptr K)) s8 s9
theorem f_cond (A B : List Str) {P S0 : Store} {D : Nat} (G : Grid P S0 D (A.length + 1) (stP A B 0 0)) (n i j k : Nat) (hi : i < A.length) (hj : j ≤ B.length) (hk : k < B.length) (acc : List (Nat × Nat)) (s9 : Option SV) :
    (mAndB (mTB (mBin dEq (mSub (mVar 0) (mVar 5)) (mSub (mVar 1) (mVar 8)))) (mTB (mBin dEq (mBin dAdd (mSub (mSubP (mVar 4) (mBin dAdd (mVar 5) (mC (.int 1)))) (mBin dAdd (mVar 8) (mC (.int 1)))) (mC (.int 1))) (mSub (mSubP (mVar 4) (mVar 5)) (mVar 6))))) (fEnv n A B D S0.length i j (some (.fz (.int (k : Nat)))) s9) (fSt S0 acc) = some (goodK A B i j k, fSt S0 acc) := by
  have G' := G.app [.lst ((acc.map pairD).map .fz)]
  have x5 : mVar 5 (fEnv n A B D S0.length i j (some (.fz (.int (k : Nat)))) s9) (fSt S0 acc) = some (.fz (.int (i : Nat)), fSt S0 acc) := rfl
  have x6 : mVar 6 (fEnv n A B D S0.length i j (some (.fz (.int (k : Nat)))) s9) (fSt S0 acc) = some (.fz (.int (j : Nat)), fSt S0 acc) := rfl
  have x8 : mVar 8 (fEnv n A B D S0.length i j (some (.fz (.int (k : Nat)))) s9) (fSt S0 acc) = some (.fz (.int (k : Nat)), fSt S0 acc) := rfl
  have y5 : mBin dAdd (mVar 5) (mC (.int 1)) (fEnv n A B D S0.length i j (some (.fz (.int (k : Nat)))) s9) (fSt S0 acc) = some (.fz (.int ((i + 1 : Nat) : Int)), fSt S0 acc) := st_bin x5 (mC_ap _) (by simp)
  have y8 : mBin dAdd (mVar 8) (mC (.int 1)) (fEnv n A B D S0.length i j (some (.fz (.int (k : Nat)))) s9) (fSt S0 acc) = some (.fz (.int ((k + 1 : Nat) : Int)), fSt S0 acc) := st_bin x8 (mC_ap _) (by simp)
  have f0 : ∀ a, stP A B 0 0 a = rowP A B a 0 := by
    intro a
    simp only [stP]
    rw [if_neg (by omega)]
    by_cases h : a = 0
    · rw [if_pos h, h]
    · rw [if_neg h]
  have r1 := read_at G' (ρ := fEnv n A B D S0.length i j (some (.fz (.int (k : Nat)))) s9) rfl y5 y8 (by omega) (by rw [f0]; exact rowP_get (by omega) (by omega))
  have r2 := read_at G' (ρ := fEnv n A B D S0.length i j (some (.fz (.int (k : Nat)))) s9) rfl x5 x6 (by omega) (by rw [f0]; exact rowP_get (by omega) (by omega))
  have eA : mSub (mVar 0) (mVar 5) (fEnv n A B D S0.length i j (some (.fz (.int (k : Nat)))) s9) (fSt S0 acc) = some (.fz (.str A[i]), fSt S0 acc) := by
    refine st_sub (a := .fz (.list (A.map .str))) (P1 := fSt S0 acc) rfl x5 ?_
    rw [subOf_lst, atI_nat', List.getElem?_map, List.getElem?_eq_getElem hi]; rfl
  have eB : mSub (mVar 1) (mVar 8) (fEnv n A B D S0.length i j (some (.fz (.int (k : Nat)))) s9) (fSt S0 acc) = some (.fz (.str B[k]), fSt S0 acc) := by
    refine st_sub (a := .fz (.list (B.map .str))) (P1 := fSt S0 acc) rfl x8 ?_
    rw [subOf_lst, atI_nat', List.getElem?_map, List.getElem?_eq_getElem hk]; rfl
  have ec : mTB (mBin dEq (mSub (mVar 0) (mVar 5)) (mSub (mVar 1) (mVar 8))) (fEnv n A B D S0.length i j (some (.fz (.int (k : Nat)))) s9) (fSt S0 acc) = some (decide (A[i] = B[k]), fSt S0 acc) := st_tb (st_bin eA eB (dEq_str2 _ _))
  have ed := st_tb (st_bin (st_bin r1 (mC_ap (.int 1)) (dAdd_int _ _)) r2 (dEq_int _ _))
  have eq : goodK A B i j k = (decide (A[i] = B[k]) && decide ((V A B (i + 1) (k + 1) : Int) + 1 = (V A B i j : Nat))) := by
    rw [goodK, List.getElem?_eq_getElem hi, List.getElem?_eq_getElem hk, Bool.eq_iff_iff]
    simp only [decide_eq_true_eq, Bool.and_eq_true, Option.some.injEq]
    constructor
    · rintro ⟨h1, h2⟩; exact ⟨h1, by omega⟩
    · rintro ⟨h1, h2⟩; exact ⟨h1, by omega⟩
  by_cases h : A[i] = B[k]
  · rw [eq, decide_eq_true h, Bool.true_and]
    exact (st_and (P1 := fSt S0 acc) (ec.trans (by rw [decide_eq_true h]))).trans ed
  · rw [eq, decide_eq_false h, Bool.false_and]
    exact st_andF (ec.trans (by rw [decide_eq_false h]))
theorem f_app {n i j k : Nat} {A B : List Str} {D : Nat} {S0 : Store} {s9 : Option SV} {acc : List (Nat × Nat)} (hl : acc.length ≤ 1000) : mApp (mVar 7) (mTup (aCons (mVar 5) (aCons (mVar 8) aNil))) (fEnv n A B D S0.length i j (some (.fz (.int (k : Nat)))) s9) (fSt S0 acc) = some (.fz .none, fSt S0 (acc ++ [(i, k)])) := by
  have sz : acc.length < sizeLine := Nat.lt_of_lt_of_le (show acc.length < 100000 by omega) sz_k
  simp [fEnv, dEnv, fSt, sz, pairD]
theorem f_for (A B : List Str) {P S0 : Store} {D : Nat} (G : Grid P S0 D (A.length + 1) (stP A B 0 0)) (n i j : Nat) (hi : i < A.length) (hj : j ≤ B.length) (acc : List (Nat × Nat)) (hl : acc.length ≤ 1000) (s9 : Option SV) : ∀ (m a : Nat) (s8 : Option SV), a + m ≤ B.length →
    ∃ t8, forGo (gNm 8) bF (rangeD a m) (fEnv n A B D S0.length i j s8 s9) (fSt S0 acc) = match (List.range' a m).find? (goodK A B i j) with
      | some k => some (.nx, fEnv n A B D S0.length i (k + 1) t8 s9, fSt S0 (acc ++ [(i, k)]))
      | none => some (.nx, fEnv n A B D S0.length i j t8 s9, fSt S0 acc)
  | 0, a, s8, _ => ⟨s8, rfl⟩
  | m + 1, a, s8, h => by
    have ec := f_cond A B G n i j a hi hj (by omega) acc s9
    rw [rangeD_succ, List.range'_succ, List.find?_cons]
    cases hg : goodK A B i j a with
    | true =>
      refine ⟨some (.fz (.int (a : Nat))), ?_⟩
      refine st_forB (ρ1 := fEnv n A B D S0.length i j (some (.fz (.int (a : Nat)))) s9) (P1 := fSt S0 acc) rfl ?_
      refine (st_ifT (ec.trans (by rw [hg]))).trans ((st_seq (st_ex (f_app hl))).trans ?_)
      refine (st_seq (ρ1 := fEnv n A B D S0.length i (a + 1) (some (.fz (.int (a : Nat)))) s9) (P1 := fSt S0 (acc ++ [(i, a)])) ?_).trans rfl
      refine (st_set (s := .fz (.int ((a + 1 : Nat) : Int))) (P1 := fSt S0 (acc ++ [(i, a)])) ?_).trans rfl
      exact st_bin (d := .int a) (e := .int 1) (P1 := fSt S0 (acc ++ [(i, a)])) rfl (mC_ap _) (by simp)
    | false =>
      obtain ⟨t8, e⟩ := f_for A B G n i j hi hj acc hl s9 m (a + 1) (some (.fz (.int (a : Nat)))) (by omega)
      refine ⟨t8, ?_⟩
      refine (st_forC (ρ1 := fEnv n A B D S0.length i j (some (.fz (.int (a : Nat)))) s9) (P1 := fSt S0 acc) rfl ((st_ifF (ec.trans (by rw [hg]))).trans rfl)).trans e
theorem iRange_two {f g : XM} {ρ : EV} {P P1 P2 : Store} {i j : Int} (h1 : f ρ P = some (.fz (.int i), P1)) (h2 : g ρ P1 = some (.fz (.int j), P2)) (hi : -4000 ≤ i ∧ i ≤ 4000) (hj : -4000 ≤ j ∧ j ≤ 4000) : iRange (aCons f (aCons g aNil)) ρ P = some (rangeD i (j - i).toNat, .fz .none, P2) := by
  have big : (4000 : Int) < 2 ^ 62 := by decide
  have small : -(2 ^ 62) ≤ (-4000 : Int) := by decide
  have a1 : -(2 ^ 62) ≤ i := Int.le_trans small hi.1
  have a2 : i < 2 ^ 62 := Int.lt_of_le_of_lt hi.2 big
  have b1 : -(2 ^ 62) ≤ j := Int.le_trans small hj.1
  have b2 : j < 2 ^ 62 := Int.lt_of_le_of_lt hj.2 big
  rw [iR]
  have e : (aCons f (aCons g aNil)) ρ P = some ([.fz (.int i), .fz (.int j)], P2) := by
    simp only [aCons_ap, h1, h2, Option.bind_some, aNil_ap, Option.map_some]
  rw [e, Option.bind_some]
  show (if -(2 ^ 62) ≤ i ∧ i < 2 ^ 62 ∧ -(2 ^ 62) ≤ j ∧ j < 2 ^ 62 then some (rangeD i (j - i).toNat, SV.fz .none, P2) else none) = _
  rw [if_pos ⟨a1, a2, b1, b2⟩]
def cW : BM := mTB (mBin dGt (mSub (mSubP (mVar 4) (mVar 5)) (mVar 6)) (mC (.int 0)))
def bW : SM := sSeq (sFor (iRange (aCons (mVar 6) (aCons (mVar 3) aNil))) (gNm 8) bF) (sAug 5 (dI fun i j => some (.int (i + j))) (mC (.int 1)))
theorem greedy_j (A B : List Str) {i j k : Nat} (h : firstK A B i j = some k) : j ≤ k ∧ k < B.length := by
  obtain ⟨h1, h2, _, _⟩ := find_first _ _ _ h
  exact ⟨h1, by omega⟩
theorem w_go (A B : List Str) (hA : A.length ≤ 50) (hB : B.length ≤ 50) {P S0 : Store} {D : Nat} (G : Grid P S0 D (A.length + 1) (stP A B 0 0)) (n : Nat) (s9 : Option SV) : ∀ (f i j : Nat) (acc : List (Nat × Nat)) (s8 : Option SV) (N : Nat), f = A.length - i → i ≤ A.length → j ≤ B.length → acc.length ≤ i → f < N →
    ∃ i' j' t8, whGo cW bW N (fEnv n A B D S0.length i j s8 s9) (fSt S0 acc) = some (.nx, fEnv n A B D S0.length i' j' t8 s9, fSt S0 (acc ++ greedy A B f i j)) := by
  intro f
  induction f with
  | zero =>
    intro i j acc s8 N hf hi hj ha hN
    have G' := G.app [.lst ((acc.map pairD).map .fz)]
    have r := read_at G' (ρ := fEnv n A B D S0.length i j s8 s9) (x := mVar 5) (y := mVar 6) (i := i) (j := j) (v := (V A B i j : Int)) rfl rfl rfl (by omega) (by
      have : stP A B 0 0 i = rowP A B i 0 := by
        simp only [stP]; rw [if_neg (by omega)]
        by_cases h : i = 0
        · rw [if_pos h, h]
        · rw [if_neg h]
      rw [this]; exact rowP_get hj (by omega))
    have hv := V_end A B i j (by omega)
    obtain ⟨N, rfl⟩ : ∃ N', N = N' + 1 := ⟨N - 1, by omega⟩
    refine ⟨i, j, s8, ?_⟩
    rw [greedy, List.append_nil]
    refine st_whF (st_tb (st_bin r (mC_ap _) ?_))
    rw [dGt_int, hv]; rfl
  | succ f ih =>
    intro i j acc s8 N hf hi hj ha hN
    have G' := G.app [.lst ((acc.map pairD).map .fz)]
    have r := read_at G' (ρ := fEnv n A B D S0.length i j s8 s9) (x := mVar 5) (y := mVar 6) (i := i) (j := j) (v := (V A B i j : Int)) rfl rfl rfl (by omega) (by
      have : stP A B 0 0 i = rowP A B i 0 := by
        simp only [stP]; rw [if_neg (by omega)]
        by_cases h : i = 0
        · rw [if_pos h, h]
        · rw [if_neg h]
      rw [this]; exact rowP_get hj (by omega))
    obtain ⟨N, rfl⟩ : ∃ N', N = N' + 1 := ⟨N - 1, by omega⟩
    rw [greedy]
    by_cases hv : V A B i j = 0
    · refine ⟨i, j, s8, ?_⟩
      rw [if_pos hv, List.append_nil]
      refine st_whF (st_tb (st_bin r (mC_ap _) ?_))
      rw [dGt_int, hv]; rfl
    · rw [if_neg hv]
      have hc : cW (fEnv n A B D S0.length i j s8 s9) (fSt S0 acc) = some (true, fSt S0 acc) := by
        refine st_tb (st_bin r (mC_ap _) ?_)
        rw [dGt_int, decide_eq_true (by omega)]
      have hi' : i < A.length := by omega
      have ir : iRange (aCons (mVar 6) (aCons (mVar 3) aNil)) (fEnv n A B D S0.length i j s8 s9) (fSt S0 acc) = some (rangeD (j : Nat) (B.length - j), .fz .none, fSt S0 acc) := by
        have := iRange_two (f := mVar 6) (g := mVar 3) (ρ := fEnv n A B D S0.length i j s8 s9) (P := fSt S0 acc) (P1 := fSt S0 acc) (P2 := fSt S0 acc) (i := (j : Nat)) (j := (B.length : Nat)) rfl rfl (by omega) (by omega)
        rw [this, show ((B.length : Int) - (j : Nat)).toNat = B.length - j by omega]
      obtain ⟨t8, ef⟩ := f_for A B G n i j hi' hj acc (by omega) s9 (B.length - j) j s8 (by omega)
      cases hk : firstK A B i j with
      | some k =>
        rw [firstK] at hk
        rw [hk] at ef
        obtain ⟨k1, k2⟩ := greedy_j A B (i := i) (j := j) (by rw [firstK]; exact hk)
        have eb : bW (fEnv n A B D S0.length i j s8 s9) (fSt S0 acc) = some (.nx, fEnv n A B D S0.length (i + 1) (k + 1) t8 s9, fSt S0 (acc ++ [(i, k)])) := by
          refine (st_seq ((st_for ir).trans ef)).trans ?_
          rw [sAug_fz (d := .int (i : Nat)) rfl]
          simp [dI, fEnv, dEnv]
        obtain ⟨i', j', u8, e⟩ := ih (i + 1) (k + 1) (acc ++ [(i, k)]) t8 N (by omega) (by omega) (by omega) (by simp; omega) (by omega)
        refine ⟨i', j', u8, ?_⟩
        rw [st_whT hc eb, e]
        simp
      | none =>
        rw [firstK] at hk
        rw [hk] at ef
        have eb : bW (fEnv n A B D S0.length i j s8 s9) (fSt S0 acc) = some (.nx, fEnv n A B D S0.length (i + 1) j t8 s9, fSt S0 acc) := by
          refine (st_seq ((st_for ir).trans ef)).trans ?_
          rw [sAug_fz (d := .int (i : Nat)) rfl]
          simp [dI, fEnv, dEnv]
        obtain ⟨i', j', u8, e⟩ := ih (i + 1) j acc t8 N (by omega) (by omega) hj (by omega) (by omega)
        refine ⟨i', j', u8, ?_⟩
        rw [st_whT hc eb, e]
end NS

set_option maxHeartbeats 1000000
set_option linter.all false
set_option maxRecDepth 10000
namespace NS
open PySem Pd L2
/-! k22: kept_pairs, whole -/
theorem b_kp_eq : b_kept_pairs = (sSeq (sAsg (mTup (aCons (mCall gLenA (aCons (mVar 0) aNil)) (aCons (mCall gLenA (aCons (mVar 1) aNil)) aNil))) (gTu 2 (gsCons (gNm 2) (gsCons (gNm 3) gsNil))))
  (sSeq (sSet 4 (mLCP [9] (iRange (aCons (mBin dAdd (mVar 2) (mC (.int 1))) aNil)) (gNm 9) bYes (mRepC (mLstC (aCons (mC (.int 0)) aNil)) (mBin dAdd (mVar 3) (mC (.int 1))))))
  (sSeq (sFor (iRange3 (aCons (mBin dSub (mVar 2) (mC (.int 1))) (aCons (mUn dNeg (mC (.int 1))) (aCons (mUn dNeg (mC (.int 1))) aNil)))) (gNm 5) bDPO)
  (sSeq (sSet 7 (mLstC aNil))
  (sSeq (sAsg (mTup (aCons (mC (.int 0)) (aCons (mC (.int 0)) aNil))) (gTu 2 (gsCons (gNm 5) (gsCons (gNm 6) gsNil))))
  (sSeq (whGo cW bW 100000)
  (sRet (mVar 7)))))))) := rfl
theorem t_keptp (A B : List Str) (hA : A.length ≤ 50) (hB : B.length ≤ 50) (P : Store) : m_kept_pairs [.fz (.list (A.map .str)), .fz (.list (B.map .str))] P = some (.fz (pairsD (greedy A B A.length 0 0)), P) := by
  -- the table
  have ir1 : iRange (aCons (mBin dAdd (mVar 2) (mC (.int 1))) aNil) ⟨P.length, [some (.fz (.list (A.map .str))), some (.fz (.list (B.map .str))), some (.fz (.int (A.length : Nat))), some (.fz (.int (B.length : Nat))), none, none, none, none, none, none]⟩ P = some (rangeD 0 (A.length + 1), .fz .none, P) := by
    refine iRange_nat (n := A.length + 1) ?_ (by omega)
    simp
  obtain ⟨S1, e1, G1⟩ := grid_go P (B.length + 1) (by omega) ⟨P.length, [some (.fz (.list (A.map .str))), some (.fz (.list (B.map .str))), some (.fz (.int (A.length : Nat))), some (.fz (.int (B.length : Nat))), none, none, none, none, none, none]⟩ (mVar 0) (fun d S => st_bin (d := .int (B.length : Nat)) (e := .int 1) (P1 := S) rfl (mC_ap _) (by simp)) (rangeD 0 (A.length + 1)) 0 (P ++ [.lst []]) P.length
    ⟨by simp, Nat.le_refl _, [], by simp, rfl, .nil, fun i k h => by simp at h⟩ (by rw [rangeD_len]; omega)
  rw [rangeD_len, Nat.zero_add] at G1
  have el : mLCP [9] (iRange (aCons (mBin dAdd (mVar 2) (mC (.int 1))) aNil)) (gNm 9) bYes (mRepC (mLstC (aCons (mC (.int 0)) aNil)) (mBin dAdd (mVar 3) (mC (.int 1)))) ⟨P.length, [some (.fz (.list (A.map .str))), some (.fz (.list (B.map .str))), some (.fz (.int (A.length : Nat))), some (.fz (.int (B.length : Nat))), none, none, none, none, none, none]⟩ P = some (.ptr P.length, S1) := by
    unfold mLCP
    rw [ir1, Option.bind_some]
    have ew : ({ (EV.wipe ⟨P.length, [some (.fz (.list (A.map .str))), some (.fz (.list (B.map .str))), some (.fz (.int (A.length : Nat))), some (.fz (.int (B.length : Nat))), none, none, none, none, none, none]⟩ [9]) with b := P.length } : EV) = ⟨P.length, [some (.fz (.list (A.map .str))), some (.fz (.list (B.map .str))), some (.fz (.int (A.length : Nat))), some (.fz (.int (B.length : Nat))), none, none, none, none, none, none]⟩ := by
      simp [EV.wipe]
    simp only
    rw [ew, e1]; rfl
  have G2 : Grid P S1 P.length (A.length + 1) (stP A B A.length 0) := G1.congr fun i hi => by
    simp only [stP]
    by_cases h : i < A.length
    · rw [if_pos h, rowP_zero]
    · have : i = A.length := by omega
      rw [if_neg h, if_pos this, rowP_end]
  obtain ⟨S2, t5, t6, G3, e3⟩ := dp_out A B (by omega) P.length A.length S1 none none none none none (Nat.le_refl _) G2
  -- the way
  obtain ⟨i', j', t8, e4⟩ := w_go A B hA hB G3 P.length none A.length 0 0 [] none 100000 (by omega) (Nat.zero_le _) (Nat.zero_le _) (by simp) (by omega)
  rw [List.nil_append] at e4
  have ir2 := iRange_down (f := mVar 2) (ρ := dEnv P.length A B P.length none none none none none) (P := S1) (m := A.length) rfl (by omega)
  have hle := G3.le
  have hD : P.length < S2.length := by
    obtain ⟨ks, h1, _⟩ := G3.ks
    exact (List.getElem?_eq_some_iff.mp h1).1
  refine (st_fun (s := .ptr S2.length) (P1 := fSt S2 (greedy A B A.length 0 0)) (ρ1 := fEnv P.length A B P.length S2.length i' j' t8 none) ?_).trans ?_
  · rw [b_kp_eq]
    refine (st_seq (ρ1 := ⟨P.length, [some (.fz (.list (A.map .str))), some (.fz (.list (B.map .str))), some (.fz (.int (A.length : Nat))), some (.fz (.int (B.length : Nat))), none, none, none, none, none, none]⟩) (P1 := P) ?_).trans ?_
    · refine st_asg (s := .fz (.tuple [.int (A.length : Nat), .int (B.length : Nat)])) (P1 := P) ?_ ?_
      · simp [startE]
      · simp [startE]
    refine (st_seq ((st_set el).trans rfl)).trans ?_
    refine (st_seq ((st_for ir2).trans e3)).trans ?_
    refine (st_seq (ρ1 := dEnv P.length A B P.length t5 t6 (some (.ptr S2.length)) none none) (P1 := fSt S2 []) ?_).trans ?_
    · refine (st_set (s := .ptr S2.length) (P1 := fSt S2 []) ?_).trans rfl
      simp [fSt]
    refine (st_seq (ρ1 := fEnv P.length A B P.length S2.length 0 0 none none) (P1 := fSt S2 []) ?_).trans ?_
    · refine st_asg (s := .fz (.tuple [.int 0, .int 0])) (P1 := fSt S2 []) ?_ ?_
      · simp
      · simp [dEnv, fEnv]
    refine (st_seq e4).trans ?_
    exact st_ret rfl
  · rw [exitZ_ptr (by omega) (c := .lst (((greedy A B A.length 0 0).map pairD).map .fz)) (by simp [fSt]) (d := pairsD (greedy A B A.length 0 0)) (by rw [dat_lst, fzs_map]; rfl)]
    have ht : (fSt S2 (greedy A B A.length 0 0)).take P.length = P := by
      rw [fSt, List.take_append_of_le_length (by omega)]
      exact G3.tk
    rw [ht]
end NS

set_option maxHeartbeats 1000000
set_option linter.all false
set_option maxRecDepth 10000
namespace NS
open PySem Pd L2
/-! k22: the edit of kept pairs -/
def mkE (B : List Str) : Nat → Nat → List (Nat × Nat) → List Stk
  | _, _, [] => []
  | i, j, (a, b) :: r => (if a = i ∧ b = j then [] else [⟨i, a - i, (B.take b).drop j⟩]) ++ mkE B (a + 1) (b + 1) r
theorem app_step {A : List Str} {a : Nat} {E : List Stk} (h : Right A.length (a + 1) E) (ha : a < A.length) : app A a E = A[a] :: app A (a + 1) E := by
  cases E with
  | nil => rw [app_nil, app_nil, List.drop_eq_getElem_cons ha]
  | cons s r =>
    have := h.1.lo
    have h2 := h.1.hi
    rw [app_cons, app_cons]
    rw [List.drop_eq_getElem_cons (l := A.take s.p) (by simp; omega)]
    simp
theorem mk_right (A B : List Str) (hB : Lns B) : ∀ {ps : List (Nat × Nat)} {i j : Nat}, Com A B i j ps → i ≤ A.length → j ≤ B.length → Right A.length i (mkE B i j (ps ++ [(A.length, B.length)])) ∧ app A i (mkE B i j (ps ++ [(A.length, B.length)])) = B.drop j
  | _, i, j, .nil _ _, hi, hj => by
    rw [List.nil_append, mkE, mkE, List.append_nil]
    by_cases h : A.length = i ∧ B.length = j
    · rw [if_pos h]
      refine ⟨True.intro, ?_⟩
      rw [app_nil, List.drop_of_length_le (by omega), List.drop_of_length_le (by omega)]
    · rw [if_neg h]
      refine ⟨⟨⟨Nat.le_refl _, by show i + (A.length - i) ≤ _; omega, ?_, ?_, ?_⟩, True.intro⟩, ?_⟩
      · by_cases h2 : A.length - i = 0
        · right
          intro z
          have z : (B.take B.length).drop j = [] := z
          rw [List.take_length] at z
          have := congrArg List.length z
          simp at this
          omega
        · exact .inl h2
      · intro x hx
        exact hB.1 x (List.mem_of_mem_take (List.mem_of_mem_drop hx))
      · show ((B.take B.length).drop j).length ≤ 50
        have := hB.2
        simp; omega
      · rw [app_cons, app_nil]
        show (A.take i).drop i ++ ((B.take B.length).drop j ++ A.drop (i + (A.length - i))) = _
        rw [List.drop_of_length_le (l := A.take i) (by simp; omega), List.drop_of_length_le (l := A) (by omega), List.take_length, List.nil_append, List.append_nil]
  | _, i, j, .cons (a := a) (b := b) h1 h2 e1 e2 t, hi, hj => by
    have la := lt_of_some e1
    have lb := lt_of_some e2
    obtain ⟨r1, r2⟩ := mk_right A B hB t (by omega) (by omega)
    have ea : A[a] = B[b] := by
      rw [List.getElem?_eq_getElem la] at e1
      rw [List.getElem?_eq_getElem lb] at e2
      exact (Option.some.inj e1).trans (Option.some.inj e2).symm
    have r3 := app_step r1 la
    rw [r2, ea, ← List.drop_eq_getElem_cons lb] at r3
    rw [List.cons_append, mkE]
    by_cases h : a = i ∧ b = j
    · obtain ⟨rfl, rfl⟩ := h
      rw [if_pos ⟨rfl, rfl⟩, List.nil_append]
      exact ⟨r1.mono (Nat.le_succ _), r3⟩
    · rw [if_neg h]
      refine ⟨⟨⟨Nat.le_refl _, by show i + (a - i) ≤ _; omega, ?_, ?_, ?_⟩, by show Right A.length (i + (a - i) + 1) _; rw [show i + (a - i) = a by omega]; exact r1⟩, ?_⟩
      · by_cases h3 : a - i = 0
        · right
          intro z
          have z : (B.take b).drop j = [] := z
          have := congrArg List.length z
          simp at this
          omega
        · exact .inl h3
      · intro x hx
        exact hB.1 x (List.mem_of_mem_take (List.mem_of_mem_drop hx))
      · show ((B.take b).drop j).length ≤ 50
        have := hB.2
        simp; omega
      · rw [List.singleton_append, app_cons]
        show (A.take i).drop i ++ ((B.take b).drop j ++ app A (i + (a - i)) _) = _
        rw [show i + (a - i) = a by omega, r3, List.drop_of_length_le (l := A.take i) (by simp; omega), List.nil_append]
        conv => rhs; rw [← List.take_append_drop b B]
        rw [List.drop_append_of_le_length (by simp; omega)]
inductive Ris : Nat → Nat → List (Nat × Nat) → Prop
  | nil (i j : Nat) : Ris i j []
  | cons {i j a b : Nat} {r : List (Nat × Nat)} : i ≤ a → j ≤ b → Ris (a + 1) (b + 1) r → Ris i j ((a, b) :: r)
theorem Com.ris {A B : List Str} : ∀ {ps : List (Nat × Nat)} {i j : Nat}, Com A B i j ps → i ≤ A.length → j ≤ B.length → Ris i j (ps ++ [(A.length, B.length)])
  | _, _, _, .nil _ _, hi, hj => .cons hi hj (.nil _ _)
  | _, _, _, .cons h1 h2 e1 e2 t, hi, hj => .cons h1 h2 (t.ris (lt_of_some e1) (lt_of_some e2))
theorem dNe_pair (a b i j : Nat) : dNe (.tuple [.int a, .int b]) (.tuple [.int i, .int j]) = some (.bool (!decide (a = i ∧ b = j))) := by
  have h1 : dEqA true (.tuple [.int a, .int b]) (.tuple [.int i, .int j]) = none := rfl
  have s1 : ∀ x y : Int, SeqAt.shaped (.tuple [.int x, .int y]) = true := fun x y => rfl
  rw [dNe, h1, Option.none_or, dEqD, if_pos ⟨s1 _ _, s1 _ _⟩]
  have e1 : PyData.eqv (.tuple [.int a, .int b]) (.tuple [.int i, .int j]) = decide (a = i ∧ b = j) := by
    simp [PyData.eqv, PyData.eqvAll]
    rw [Bool.eq_iff_iff]; simp; omega
  rw [e1]
  simp
def gP (x y : Nat) : GM := gTu 2 (gsCons (gNm x) (gsCons (gNm y) gsNil))
theorem mem_mk {B : List Str} {ps : List (Nat × Nat)} {i j : Nat} : (mkE B i j ps).length ≤ ps.length := by
  induction ps generalizing i j with
  | nil => simp [mkE]
  | cons p r ih =>
    obtain ⟨a, b⟩ := p
    have := ih (i := a + 1) (j := b + 1)
    rw [mkE, List.length_append, List.length_cons]
    split
    · simp; omega
    · simp; omega
/-- the law's -/
def bLE : SM := (sSeq (sIf (mTB (mBin dNe (mTup (aCons (mVar 6) (aCons (mVar 7) aNil))) (mTup (aCons (mVar 4) (aCons (mVar 5) aNil))))) (sEx (mApp (mVar 3) (mTup (aCons (mVar 4) (aCons (mBin dSub (mVar 6) (mVar 4)) (aCons (mCall gTuple (aCons (mSl (mVar 1) (oSome (mVar 5)) (oSome (mVar 7))) aNil)) aNil)))))) sNx)
  (sPar 4 5 (aCons (mBin dAdd (mVar 6) (mC (.int 1))) (aCons (mBin dAdd (mVar 7) (mC (.int 1))) aNil))))
theorem le_go (B : List Str) (n : Nat) (s0 s2 : Option SV) (P : Store) : ∀ (ps : List (Nat × Nat)) (i j : Nat) (acc : List PyData) (s6 s7 : Option SV), Ris i j ps → (∀ p ∈ ps, p.2 ≤ B.length) → j ≤ B.length + 1 → acc.length + ps.length ≤ 5000 →
    ∃ i' j' t6 t7, forGo (gP 6 7) bLE (ps.map pairD) ⟨n, [s0, some (.fz (.list (B.map .str))), s2, some (.ptr P.length), some (.fz (.int (i : Nat))), some (.fz (.int (j : Nat))), s6, s7]⟩ (P ++ [.lst (acc.map .fz)]) = some (.nx, ⟨n, [s0, some (.fz (.list (B.map .str))), s2, some (.ptr P.length), i', j', t6, t7]⟩, P ++ [.lst ((acc ++ (mkE B i j ps).map Stk.d).map .fz)]) := by
  intro ps
  induction ps with
  | nil => intro i j acc s6 s7 _ _ _ _; exact ⟨_, _, s6, s7, by simp [forGo, mkE]; exact ⟨rfl, rfl⟩⟩
  | cons p r ih =>
    obtain ⟨a, b⟩ := p
    intro i j acc s6 s7 hR hb hj hn
    cases hR with
    | cons h1 h2 hR =>
      have hb0 : b ≤ B.length := hb (a, b) List.mem_cons_self
      simp only [List.length_cons] at hn
      have e1 : mTB (mBin dNe (mTup (aCons (mVar 6) (aCons (mVar 7) aNil))) (mTup (aCons (mVar 4) (aCons (mVar 5) aNil)))) ⟨n, [s0, some (.fz (.list (B.map .str))), s2, some (.ptr P.length), some (.fz (.int (i : Nat))), some (.fz (.int (j : Nat))), some (.fz (.int (a : Nat))), some (.fz (.int (b : Nat)))]⟩ (P ++ [.lst (acc.map .fz)]) = some (!decide (a = i ∧ b = j), P ++ [.lst (acc.map .fz)]) :=
        st_tb (st_bin (d := .tuple [.int (a : Nat), .int (b : Nat)]) (e := .tuple [.int (i : Nat), .int (j : Nat)]) (P1 := P ++ [.lst (acc.map .fz)]) (P2 := P ++ [.lst (acc.map .fz)]) (by simp) (by simp) (dNe_pair _ _ _ _))
      have tl : ∀ (acc' : List PyData), sPar 4 5 (aCons (mBin dAdd (mVar 6) (mC (.int 1))) (aCons (mBin dAdd (mVar 7) (mC (.int 1))) aNil)) ⟨n, [s0, some (.fz (.list (B.map .str))), s2, some (.ptr P.length), some (.fz (.int (i : Nat))), some (.fz (.int (j : Nat))), some (.fz (.int (a : Nat))), some (.fz (.int (b : Nat)))]⟩ (P ++ [.lst (acc'.map .fz)]) = some (.nx, ⟨n, [s0, some (.fz (.list (B.map .str))), s2, some (.ptr P.length), some (.fz (.int ((a + 1 : Nat) : Int))), some (.fz (.int ((b + 1 : Nat) : Int))), some (.fz (.int (a : Nat))), some (.fz (.int (b : Nat)))]⟩, P ++ [.lst (acc'.map .fz)]) := by
        intro acc'; simp
      by_cases h : a = i ∧ b = j
      · obtain ⟨i', j', t6, t7, e⟩ := ih (a + 1) (b + 1) acc (some (.fz (.int (a : Nat)))) (some (.fz (.int (b : Nat)))) hR (fun p hp => hb p (List.mem_cons_of_mem _ hp)) (by omega) (by omega)
        refine ⟨i', j', t6, t7, ?_⟩
        rw [mkE, if_pos h, List.nil_append, ← e]
        refine st_forC (ρ1 := ⟨n, [s0, some (.fz (.list (B.map .str))), s2, some (.ptr P.length), some (.fz (.int (i : Nat))), some (.fz (.int (j : Nat))), some (.fz (.int (a : Nat))), some (.fz (.int (b : Nat)))]⟩) (P1 := P ++ [.lst (acc.map .fz)]) (by simp [gP, pairD]) ?_
        exact (st_seq ((st_ifF (e1.trans (by rw [decide_eq_true h]; rfl))).trans rfl)).trans (tl acc)
      · have hjb : j ≤ B.length := by omega
        obtain ⟨i', j', t6, t7, e⟩ := ih (a + 1) (b + 1) (acc ++ [Stk.d ⟨i, a - i, (B.take b).drop j⟩]) (some (.fz (.int (a : Nat)))) (some (.fz (.int (b : Nat)))) hR (fun p hp => hb p (List.mem_cons_of_mem _ hp)) (by omega) (by simp; omega)
        refine ⟨i', j', t6, t7, ?_⟩
        have em : mkE B i j ((a, b) :: r) = ⟨i, a - i, (B.take b).drop j⟩ :: mkE B (a + 1) (b + 1) r := by rw [mkE, if_neg h]; rfl
        have ec : acc ++ (mkE B i j ((a, b) :: r)).map Stk.d = (acc ++ [Stk.d ⟨i, a - i, (B.take b).drop j⟩]) ++ (mkE B (a + 1) (b + 1) r).map Stk.d := by rw [em, List.map_cons, List.append_assoc]; rfl
        rw [ec, ← e]
        have c1 := cut_two (B.map .str) j b (by simpa using hjb) (by simpa using hb0)
        rw [← List.map_take, ← List.map_drop] at c1
        have e2 : (a : Int) - i = ((a - i : Nat) : Int) := by omega
        have sz : acc.length < sizeLine := Nat.lt_of_lt_of_le (show acc.length < 100000 by omega) sz_k
        have eA : mApp (mVar 3) (mTup (aCons (mVar 4) (aCons (mBin dSub (mVar 6) (mVar 4)) (aCons (mCall gTuple (aCons (mSl (mVar 1) (oSome (mVar 5)) (oSome (mVar 7))) aNil)) aNil)))) ⟨n, [s0, some (.fz (.list (B.map .str))), s2, some (.ptr P.length), some (.fz (.int (i : Nat))), some (.fz (.int (j : Nat))), some (.fz (.int (a : Nat))), some (.fz (.int (b : Nat)))]⟩ (P ++ [.lst (acc.map .fz)]) = some (.fz .none, P ++ [.lst ((acc ++ [Stk.d ⟨i, a - i, (B.take b).drop j⟩]).map .fz)]) := by
          simp [-List.map_drop, -List.map_take, c1, e2, sz, Stk.d, stkD]
        refine st_forC (ρ1 := ⟨n, [s0, some (.fz (.list (B.map .str))), s2, some (.ptr P.length), some (.fz (.int (i : Nat))), some (.fz (.int (j : Nat))), some (.fz (.int (a : Nat))), some (.fz (.int (b : Nat)))]⟩) (P1 := P ++ [.lst (acc.map .fz)]) (by simp [gP, pairD]) ?_
        exact (st_seq ((st_ifT (e1.trans (by rw [decide_eq_false h]; rfl))).trans (st_ex eA))).trans (tl _)
end NS

set_option maxHeartbeats 1000000
set_option linter.all false
set_option maxRecDepth 10000
namespace NS
open PySem Pd L2
/-! k22: edit_of, the law's and the program's -/
def bPE : SM := (sSeq (sIf (mOrB (mTB (mBin dGt (mVar 5) (mVar 3))) (mTB (mBin dGt (mVar 6) (mVar 4)))) (sEx (mApp (mVar 2) (mTup (aCons (mVar 3) (aCons (mBin dSub (mVar 5) (mVar 3)) (aCons (mCall gTuple (aCons (mSl (mVar 1) (oSome (mVar 4)) (oSome (mVar 6))) aNil)) aNil)))))) sNx)
  (sPar 3 4 (aCons (mBin dAdd (mVar 5) (mC (.int 1))) (aCons (mBin dAdd (mVar 6) (mC (.int 1))) aNil))))
theorem pe_go (B : List Str) (n : Nat) (s0 : Option SV) (P : Store) : ∀ (ps : List (Nat × Nat)) (i j : Nat) (acc : List PyData) (s6 s7 : Option SV), Ris i j ps → (∀ p ∈ ps, p.2 ≤ B.length) → j ≤ B.length + 1 → acc.length + ps.length ≤ 5000 →
    ∃ i' j' t6 t7, forGo (gP 5 6) bPE (ps.map pairD) ⟨n, [s0, some (.fz (.list (B.map .str))), some (.ptr P.length), some (.fz (.int (i : Nat))), some (.fz (.int (j : Nat))), s6, s7]⟩ (P ++ [.lst (acc.map .fz)]) = some (.nx, ⟨n, [s0, some (.fz (.list (B.map .str))), some (.ptr P.length), i', j', t6, t7]⟩, P ++ [.lst ((acc ++ (mkE B i j ps).map Stk.d).map .fz)]) := by
  intro ps
  induction ps with
  | nil => intro i j acc s6 s7 _ _ _ _; exact ⟨_, _, s6, s7, by simp [forGo, mkE]; exact ⟨rfl, rfl⟩⟩
  | cons p r ih =>
    obtain ⟨a, b⟩ := p
    intro i j acc s6 s7 hR hb hj hn
    cases hR with
    | cons h1 h2 hR =>
      have hb0 : b ≤ B.length := hb (a, b) List.mem_cons_self
      simp only [List.length_cons] at hn
      have g1 : mTB (mBin dGt (mVar 5) (mVar 3)) ⟨n, [s0, some (.fz (.list (B.map .str))), some (.ptr P.length), some (.fz (.int (i : Nat))), some (.fz (.int (j : Nat))), some (.fz (.int (a : Nat))), some (.fz (.int (b : Nat)))]⟩ (P ++ [.lst (acc.map .fz)]) = some (decide ((i : Int) < a), P ++ [.lst (acc.map .fz)]) :=
        st_tb (st_bin (d := .int a) (e := .int i) (P1 := P ++ [.lst (acc.map .fz)]) rfl rfl (dGt_int _ _))
      have g2 : mTB (mBin dGt (mVar 6) (mVar 4)) ⟨n, [s0, some (.fz (.list (B.map .str))), some (.ptr P.length), some (.fz (.int (i : Nat))), some (.fz (.int (j : Nat))), some (.fz (.int (a : Nat))), some (.fz (.int (b : Nat)))]⟩ (P ++ [.lst (acc.map .fz)]) = some (decide ((j : Int) < b), P ++ [.lst (acc.map .fz)]) :=
        st_tb (st_bin (d := .int b) (e := .int j) (P1 := P ++ [.lst (acc.map .fz)]) rfl rfl (dGt_int _ _))
      have e1 : (mOrB (mTB (mBin dGt (mVar 5) (mVar 3))) (mTB (mBin dGt (mVar 6) (mVar 4)))) ⟨n, [s0, some (.fz (.list (B.map .str))), some (.ptr P.length), some (.fz (.int (i : Nat))), some (.fz (.int (j : Nat))), some (.fz (.int (a : Nat))), some (.fz (.int (b : Nat)))]⟩ (P ++ [.lst (acc.map .fz)]) = some (!decide (a = i ∧ b = j), P ++ [.lst (acc.map .fz)]) := by
        by_cases q : i < a
        · rw [decide_eq_false (by omega)]
          exact st_orT (g1.trans (by rw [decide_eq_true (by omega)]))
        · refine (st_or (P1 := P ++ [.lst (acc.map .fz)]) (g1.trans (by rw [decide_eq_false (by omega)]))).trans (g2.trans ?_)
          congr 2
          rw [Bool.eq_iff_iff]; simp; omega
      have tl : ∀ (acc' : List PyData), sPar 3 4 (aCons (mBin dAdd (mVar 5) (mC (.int 1))) (aCons (mBin dAdd (mVar 6) (mC (.int 1))) aNil)) ⟨n, [s0, some (.fz (.list (B.map .str))), some (.ptr P.length), some (.fz (.int (i : Nat))), some (.fz (.int (j : Nat))), some (.fz (.int (a : Nat))), some (.fz (.int (b : Nat)))]⟩ (P ++ [.lst (acc'.map .fz)]) = some (.nx, ⟨n, [s0, some (.fz (.list (B.map .str))), some (.ptr P.length), some (.fz (.int ((a + 1 : Nat) : Int))), some (.fz (.int ((b + 1 : Nat) : Int))), some (.fz (.int (a : Nat))), some (.fz (.int (b : Nat)))]⟩, P ++ [.lst (acc'.map .fz)]) := by
        intro acc'; simp
      by_cases h : a = i ∧ b = j
      · obtain ⟨i', j', t6, t7, e⟩ := ih (a + 1) (b + 1) acc (some (.fz (.int (a : Nat)))) (some (.fz (.int (b : Nat)))) hR (fun p hp => hb p (List.mem_cons_of_mem _ hp)) (by omega) (by omega)
        refine ⟨i', j', t6, t7, ?_⟩
        rw [mkE, if_pos h, List.nil_append, ← e]
        refine st_forC (ρ1 := ⟨n, [s0, some (.fz (.list (B.map .str))), some (.ptr P.length), some (.fz (.int (i : Nat))), some (.fz (.int (j : Nat))), some (.fz (.int (a : Nat))), some (.fz (.int (b : Nat)))]⟩) (P1 := P ++ [.lst (acc.map .fz)]) (by simp [gP, pairD]) ?_
        exact (st_seq ((st_ifF (e1.trans (by rw [decide_eq_true h]; rfl))).trans rfl)).trans (tl acc)
      · have hjb : j ≤ B.length := by omega
        obtain ⟨i', j', t6, t7, e⟩ := ih (a + 1) (b + 1) (acc ++ [Stk.d ⟨i, a - i, (B.take b).drop j⟩]) (some (.fz (.int (a : Nat)))) (some (.fz (.int (b : Nat)))) hR (fun p hp => hb p (List.mem_cons_of_mem _ hp)) (by omega) (by simp; omega)
        refine ⟨i', j', t6, t7, ?_⟩
        have em : mkE B i j ((a, b) :: r) = ⟨i, a - i, (B.take b).drop j⟩ :: mkE B (a + 1) (b + 1) r := by rw [mkE, if_neg h]; rfl
        have ec : acc ++ (mkE B i j ((a, b) :: r)).map Stk.d = (acc ++ [Stk.d ⟨i, a - i, (B.take b).drop j⟩]) ++ (mkE B (a + 1) (b + 1) r).map Stk.d := by rw [em, List.map_cons, List.append_assoc]; rfl
        rw [ec, ← e]
        have c1 := cut_two (B.map .str) j b (by simpa using hjb) (by simpa using hb0)
        rw [← List.map_take, ← List.map_drop] at c1
        have e2 : (a : Int) - i = ((a - i : Nat) : Int) := by omega
        have sz : acc.length < sizeLine := Nat.lt_of_lt_of_le (show acc.length < 100000 by omega) sz_k
        have eA : mApp (mVar 2) (mTup (aCons (mVar 3) (aCons (mBin dSub (mVar 5) (mVar 3)) (aCons (mCall gTuple (aCons (mSl (mVar 1) (oSome (mVar 4)) (oSome (mVar 6))) aNil)) aNil)))) ⟨n, [s0, some (.fz (.list (B.map .str))), some (.ptr P.length), some (.fz (.int (i : Nat))), some (.fz (.int (j : Nat))), some (.fz (.int (a : Nat))), some (.fz (.int (b : Nat)))]⟩ (P ++ [.lst (acc.map .fz)]) = some (.fz .none, P ++ [.lst ((acc ++ [Stk.d ⟨i, a - i, (B.take b).drop j⟩]).map .fz)]) := by
          simp [-List.map_drop, -List.map_take, c1, e2, sz, Stk.d, stkD]
        refine st_forC (ρ1 := ⟨n, [s0, some (.fz (.list (B.map .str))), some (.ptr P.length), some (.fz (.int (i : Nat))), some (.fz (.int (j : Nat))), some (.fz (.int (a : Nat))), some (.fz (.int (b : Nat)))]⟩) (P1 := P ++ [.lst (acc.map .fz)]) (by simp [gP, pairD]) ?_
        exact (st_seq ((st_ifT (e1.trans (by rw [decide_eq_false h]; rfl))).trans (st_ex eA))).trans (tl _)
/-- the due edit -/
def dueE (A B : List Str) : List Stk := mkE B 0 0 (greedy A B A.length 0 0 ++ [(A.length, B.length)])
theorem greedy_len (A B : List Str) : (greedy A B A.length 0 0).length ≤ A.length := by
  have h := (greedy_spec A B A.length 0 0 (by omega)).1
  have := com_zip h
  have h2 := subs_short (in_subs A.length _ this.1 fun x hx => (this.2.2.1 x hx).2)
  simpa using h2
theorem due_ris (A B : List Str) : Ris 0 0 (greedy A B A.length 0 0 ++ [(A.length, B.length)]) ∧ ∀ p ∈ greedy A B A.length 0 0 ++ [(A.length, B.length)], p.2 ≤ B.length := by
  have h := (greedy_spec A B A.length 0 0 (by omega)).1
  refine ⟨h.ris (Nat.zero_le _) (Nat.zero_le _), fun p hp => ?_⟩
  rcases List.mem_append.mp hp with hp | hp
  · have := (com_zip h).2.2.2.1 p.2 (List.mem_map.mpr ⟨p, hp, rfl⟩)
    omega
  · simp at hp; subst hp; exact Nat.le_refl _
theorem end_add (A B : List Str) (hA : A.length ≤ 50) : dAdd (pairsD (greedy A B A.length 0 0)) (.list [.tuple [.int (A.length : Nat), .int (B.length : Nat)]]) = some (.list ((greedy A B A.length 0 0 ++ [(A.length, B.length)]).map pairD)) := by
  have := greedy_len A B
  rw [pairsD, dAdd_lst _ _ (Nat.le_trans (show _ ≤ 100000 by simp; omega) sz_k), List.map_append]
  rfl
theorem b_le_eq : b__law_edit_of = (sSeq (sPar3 3 4 5 (aCons (mLstC aNil) (aCons (mC (.int 0)) (aCons (mC (.int 0)) aNil))))
  (sSeq (sFor (iAny (mBin dAdd (mVar 2) (mLst (aCons (mTup (aCons (mCall gLenA (aCons (mVar 0) aNil)) (aCons (mCall gLenA (aCons (mVar 1) aNil)) aNil))) aNil)))) (gP 6 7) bLE)
  (sRet (mCall gTuple (aCons (mVar 3) aNil))))) := rfl
theorem t_ledit (A B : List Str) (hA : A.length ≤ 50) (P : Store) : m__law_edit_of [.fz (.list (A.map .str)), .fz (.list (B.map .str)), .fz (pairsD (greedy A B A.length 0 0))] P = some (.fz (edD (dueE A B)), P) := by
  have hl := greedy_len A B
  obtain ⟨hr, hb⟩ := due_ris A B
  obtain ⟨i', j', t6, t7, e⟩ := le_go B P.length (some (.fz (.list (A.map .str)))) (some (.fz (pairsD (greedy A B A.length 0 0)))) P _ 0 0 [] none none hr hb (by omega) (by simp; omega)
  rw [List.nil_append, show ((0 : Nat) : Int) = 0 from rfl] at e
  have ei : iAny (mBin dAdd (mVar 2) (mLst (aCons (mTup (aCons (mCall gLenA (aCons (mVar 0) aNil)) (aCons (mCall gLenA (aCons (mVar 1) aNil)) aNil))) aNil))) ⟨P.length, [some (.fz (.list (A.map .str))), some (.fz (.list (B.map .str))), some (.fz (pairsD (greedy A B A.length 0 0))), some (.ptr P.length), some (.fz (.int 0)), some (.fz (.int 0)), none, none]⟩ (P ++ [.lst (([] : List PyData).map .fz)]) = some ((greedy A B A.length 0 0 ++ [(A.length, B.length)]).map pairD, .fz (.list ((greedy A B A.length 0 0 ++ [(A.length, B.length)]).map pairD)), P ++ [.lst (([] : List PyData).map .fz)]) := by
    have : mBin dAdd (mVar 2) (mLst (aCons (mTup (aCons (mCall gLenA (aCons (mVar 0) aNil)) (aCons (mCall gLenA (aCons (mVar 1) aNil)) aNil))) aNil)) ⟨P.length, [some (.fz (.list (A.map .str))), some (.fz (.list (B.map .str))), some (.fz (pairsD (greedy A B A.length 0 0))), some (.ptr P.length), some (.fz (.int 0)), some (.fz (.int 0)), none, none]⟩ (P ++ [.lst (([] : List PyData).map .fz)]) = some (.fz (.list ((greedy A B A.length 0 0 ++ [(A.length, B.length)]).map pairD)), P ++ [.lst (([] : List PyData).map .fz)]) :=
      st_bin (d := pairsD (greedy A B A.length 0 0)) (e := .list [.tuple [.int (A.length : Nat), .int (B.length : Nat)]]) (P1 := P ++ [.lst (([] : List PyData).map .fz)]) (by simp) (by simp) (end_add A B hA)
    rw [iAny_ap, this]; rfl
  refine (st_fun (s := .fz (edD (dueE A B))) (P1 := P ++ [.lst (((dueE A B).map Stk.d).map .fz)]) (ρ1 := ⟨P.length, [some (.fz (.list (A.map .str))), some (.fz (.list (B.map .str))), some (.fz (pairsD (greedy A B A.length 0 0))), some (.ptr P.length), i', j', t6, t7]⟩) ?_).trans (by simp)
  rw [b_le_eq]
  refine (st_seq (ρ1 := ⟨P.length, [some (.fz (.list (A.map .str))), some (.fz (.list (B.map .str))), some (.fz (pairsD (greedy A B A.length 0 0))), some (.ptr P.length), some (.fz (.int 0)), some (.fz (.int 0)), none, none]⟩) (P1 := P ++ [.lst (([] : List PyData).map .fz)]) (by simp [startE])).trans ?_
  refine (st_seq ((st_for ei).trans e)).trans (st_ret ?_)
  simp [flat, edD, fzs_map, -List.map_map, dueE]
theorem b_pe_eq : b_edit_of = (sSeq (sSet 2 (mLstC aNil))
  (sSeq (sAsg (mTup (aCons (mC (.int 0)) (aCons (mC (.int 0)) aNil))) (gTu 2 (gsCons (gNm 3) (gsCons (gNm 4) gsNil))))
  (sSeq (sFor (iAny (mBin dAdd (mCallF m_kept_pairs (aCons (mVar 0) (aCons (mVar 1) aNil))) (mLst (aCons (mTup (aCons (mCall gLenA (aCons (mVar 0) aNil)) (aCons (mCall gLenA (aCons (mVar 1) aNil)) aNil))) aNil)))) (gP 5 6) bPE)
  (sRet (mCall gTuple (aCons (mVar 2) aNil)))))) := rfl
theorem t_pedit (A B : List Str) (hA : A.length ≤ 50) (hB : B.length ≤ 50) (P : Store) : m_edit_of [.fz (.list (A.map .str)), .fz (.list (B.map .str))] P = some (.fz (edD (dueE A B)), P) := by
  have hl := greedy_len A B
  obtain ⟨hr, hb⟩ := due_ris A B
  obtain ⟨i', j', t6, t7, e⟩ := pe_go B P.length (some (.fz (.list (A.map .str)))) P _ 0 0 [] none none hr hb (by omega) (by simp; omega)
  rw [List.nil_append, show ((0 : Nat) : Int) = 0 from rfl] at e
  have ek := t_keptp A B hA hB (P ++ [.lst (([] : List PyData).map .fz)])
  have ei : iAny (mBin dAdd (mCallF m_kept_pairs (aCons (mVar 0) (aCons (mVar 1) aNil))) (mLst (aCons (mTup (aCons (mCall gLenA (aCons (mVar 0) aNil)) (aCons (mCall gLenA (aCons (mVar 1) aNil)) aNil))) aNil))) ⟨P.length, [some (.fz (.list (A.map .str))), some (.fz (.list (B.map .str))), some (.ptr P.length), some (.fz (.int 0)), some (.fz (.int 0)), none, none]⟩ (P ++ [.lst (([] : List PyData).map .fz)]) = some ((greedy A B A.length 0 0 ++ [(A.length, B.length)]).map pairD, .fz (.list ((greedy A B A.length 0 0 ++ [(A.length, B.length)]).map pairD)), P ++ [.lst (([] : List PyData).map .fz)]) := by
    have ec : mCallF m_kept_pairs (aCons (mVar 0) (aCons (mVar 1) aNil)) ⟨P.length, [some (.fz (.list (A.map .str))), some (.fz (.list (B.map .str))), some (.ptr P.length), some (.fz (.int 0)), some (.fz (.int 0)), none, none]⟩ (P ++ [.lst (([] : List PyData).map .fz)]) = some (.fz (pairsD (greedy A B A.length 0 0)), P ++ [.lst (([] : List PyData).map .fz)]) := by
      have ea : (aCons (mVar 0) (aCons (mVar 1) aNil)) ⟨P.length, [some (.fz (.list (A.map .str))), some (.fz (.list (B.map .str))), some (.ptr P.length), some (.fz (.int 0)), some (.fz (.int 0)), none, none]⟩ (P ++ [.lst (([] : List PyData).map .fz)]) = some ([.fz (.list (A.map .str)), .fz (.list (B.map .str))], P ++ [.lst (([] : List PyData).map .fz)]) := by simp
      rw [st_callF ea]
      exact ek
    have : mBin dAdd (mCallF m_kept_pairs (aCons (mVar 0) (aCons (mVar 1) aNil))) (mLst (aCons (mTup (aCons (mCall gLenA (aCons (mVar 0) aNil)) (aCons (mCall gLenA (aCons (mVar 1) aNil)) aNil))) aNil)) ⟨P.length, [some (.fz (.list (A.map .str))), some (.fz (.list (B.map .str))), some (.ptr P.length), some (.fz (.int 0)), some (.fz (.int 0)), none, none]⟩ (P ++ [.lst (([] : List PyData).map .fz)]) = some (.fz (.list ((greedy A B A.length 0 0 ++ [(A.length, B.length)]).map pairD)), P ++ [.lst (([] : List PyData).map .fz)]) :=
      st_bin (d := pairsD (greedy A B A.length 0 0)) (e := .list [.tuple [.int (A.length : Nat), .int (B.length : Nat)]]) (P1 := P ++ [.lst (([] : List PyData).map .fz)]) ec (by simp) (end_add A B hA)
    rw [iAny_ap, this]; rfl
  refine (st_fun (s := .fz (edD (dueE A B))) (P1 := P ++ [.lst (((dueE A B).map Stk.d).map .fz)]) (ρ1 := ⟨P.length, [some (.fz (.list (A.map .str))), some (.fz (.list (B.map .str))), some (.ptr P.length), i', j', t6, t7]⟩) ?_).trans (by simp)
  rw [b_pe_eq]
  refine (st_seq (ρ1 := ⟨P.length, [some (.fz (.list (A.map .str))), some (.fz (.list (B.map .str))), some (.ptr P.length), none, none, none, none]⟩) (P1 := P ++ [.lst (([] : List PyData).map .fz)]) (by simp [startE])).trans ?_
  refine (st_seq (ρ1 := ⟨P.length, [some (.fz (.list (A.map .str))), some (.fz (.list (B.map .str))), some (.ptr P.length), some (.fz (.int 0)), some (.fz (.int 0)), none, none]⟩) (P1 := P ++ [.lst (([] : List PyData).map .fz)]) (by simp)).trans ?_
  refine (st_seq ((st_for ei).trans e)).trans (st_ret ?_)
  simp [flat, edD, fzs_map, -List.map_map, dueE]
end NS

set_option maxHeartbeats 1000000
set_option linter.all false
set_option maxRecDepth 10000
namespace NS
open PySem Pd L2
/-! k22: the law's checks, one by one -/
theorem okD_line (n : Nat) : ∀ x ∈ lineS, okD n (.str x) = true := by
  have h : ∀ x ∈ lineS, PyData.strOk x = true ∧ x.length ≤ 4000 := by decide +kernel
  intro x hx
  obtain ⟨h1, h2⟩ := h x hx
  cases n <;> simp [Pd.okD, h1, h2]
theorem okD_lines (n : Nat) {ls : List Str} (h : ∀ x ∈ ls, x ∈ lineS) (hl : ls.length ≤ 4000) : okD (n + 1) (.list (ls.map .str)) = true := by
  simp only [Pd.okD, Bool.and_eq_true, decide_eq_true_eq, List.all_eq_true, List.length_map]
  refine ⟨hl, fun d hd => ?_⟩
  obtain ⟨x, hx, rfl⟩ := List.mem_map.mp hd
  exact okD_line n x (h x hx)
theorem okD_linesT (n : Nat) {ls : List Str} (h : ∀ x ∈ ls, x ∈ lineS) (hl : ls.length ≤ 4000) : okD (n + 1) (.tuple (ls.map .str)) = true := by
  simp only [Pd.okD, Bool.and_eq_true, decide_eq_true_eq, List.all_eq_true, List.length_map]
  refine ⟨hl, fun d hd => ?_⟩
  obtain ⟨x, hx, rfl⟩ := List.mem_map.mp hd
  exact okD_line n x (h x hx)
theorem okD_edit (n m : Nat) {E : List Stk} {lo : Nat} (h : Right m lo E) (hm : m ≤ 1000) : okD (n + 3) (edD E) = true := by
  have hl : E.length ≤ 4000 := by rcases h.len with h | rfl; omega; simp
  have hall : ∀ s ∈ E, (∀ x ∈ s.new, x ∈ lineS) ∧ s.new.length ≤ 50 := by
    clear hl
    intro s hs
    induction E generalizing lo with
    | nil => cases hs
    | cons t r ih =>
      rcases List.mem_cons.mp hs with rfl | hs
      · exact ⟨h.1.ln, h.1.sz⟩
      · exact ih h.2 hs
  simp only [edD]
  rw [Pd.okD]
  simp only [Bool.and_eq_true, decide_eq_true_eq, List.all_eq_true, List.length_map]
  refine ⟨hl, fun d hd => ?_⟩
  obtain ⟨s, hs, rfl⟩ := List.mem_map.mp hd
  obtain ⟨h1, h2⟩ := hall s hs
  have := okD_linesT n h1 (by omega)
  simp only [Stk.d, stkD]
  rw [Pd.okD]
  simp only [List.all_cons, List.all_nil, this, Bool.and_true, Bool.and_eq_true, decide_eq_true_eq, List.length_cons, List.length_nil]
  refine ⟨by decide, ?_, ?_⟩ <;> simp [Pd.okD]
/-- data that same takes -/
def Gd (d : PyData) : Prop := okD 8 d = true
theorem Gd.lines {ls : List Str} (h : ∀ x ∈ ls, x ∈ lineS) (hl : ls.length ≤ 4000) (n : Nat) : okD (n + 4) (.list (ls.map .str)) = true := okD_lines (n + 3) h hl
theorem okD_list {n : Nat} {ds : List PyData} (hl : ds.length ≤ 4000) (h : ∀ d ∈ ds, okD n d = true) : okD (n + 1) (.list ds) = true := by
  simp only [Pd.okD, Bool.and_eq_true, decide_eq_true_eq, List.all_eq_true]
  exact ⟨hl, h⟩
theorem okD_tup {n : Nat} {ds : List PyData} (hl : ds.length ≤ 4000) (h : ∀ d ∈ ds, okD n d = true) : okD (n + 1) (.tuple ds) = true := by
  simp only [Pd.okD, Bool.and_eq_true, decide_eq_true_eq, List.all_eq_true]
  exact ⟨hl, h⟩
theorem same_ok {n : Nat} {d : PyData} (h : okD n d = true) (hn : n < 40) {ρ : EV} {P P1 : Store} {a : AM} (ha : a ρ P = some ([.fz d, .fz d], P1)) : sIf (mNotB (mTB (mCallF (m__law_same 40) a))) (sRet (mC (.bool false))) sNx ρ P = some (.nx, ρ, P1) := by
  have e : mTB (mCallF (m__law_same 40) a) ρ P = some (true, P1) := st_tb ((st_callF ha).trans (t_same 40 n d h hn P1))
  exact (st_ifF (st_not e)).trans rfl
theorem st_lst {ρ : EV} {P P1 : Store} {g : AM} {l : List SV} {ds : List PyData} (h : g ρ P = some (l, P1)) (hd : fzs l = some ds) (hs : ds.length ≤ sizeLine) : mLst g ρ P = some (.fz (.list ds), P1) := by
  rw [mLst_ap, h, Option.bind_some]
  simp only [hd, Option.bind_some]
  rw [if_pos hs]
theorem st_cons {ρ : EV} {P P1 P2 : Store} {f : XM} {g : AM} {a : SV} {l : List SV} (h1 : f ρ P = some (a, P1)) (h2 : g ρ P1 = some (l, P2)) : aCons f g ρ P = some (a :: l, P2) := by
  rw [aCons_ap, h1, Option.bind_some]
  simp only [h2, Option.map_some]
/-! the statements -/
def s5 : SM := sIf (mNotB (mTB (mCallF (m__law_same 40) (aCons (mLst (aCons (mCallF m_applied (aCons (mSub (mVar 6) (mC (.int 0))) (aCons (mSub (mVar 6) (mC (.int 1))) aNil))) (aCons (mCallF m__law_told (aCons (mSub (mVar 6) (mC (.int 1))) (aCons (mCall gLenA (aCons (mVar 3) aNil)) aNil))) (aCons (mVar 6) aNil)))) (aCons (mLst (aCons (mVar 5) (aCons (mTup (aCons (mC (.str "told")) (aCons (mC .none) aNil))) (aCons (mLst (aCons (mVar 3) (aCons (mVar 4) aNil))) aNil)))) aNil))))) (sRet (mC (.bool false))) sNx
def s7 : SM := sIf (mNotB (mTB (mCallF (m__law_same 40) (aCons (mLst (aCons (mCallF m__law_told (aCons (mVar 7) (aCons (mCall gLenA (aCons (mVar 5) aNil)) aNil))) (aCons (mCallF m_applied (aCons (mCall gListA (aCons (mVar 5) aNil)) (aCons (mVar 7) aNil))) (aCons (mCallF m_undone (aCons (mCall gListA (aCons (mVar 5) aNil)) (aCons (mVar 7) aNil))) aNil)))) (aCons (mLst (aCons (mTup (aCons (mC (.str "told")) (aCons (mC .none) aNil))) (aCons (mVar 3) (aCons (mVar 4) aNil)))) aNil))))) (sRet (mC (.bool false))) sNx
def toldD : PyData := .tuple [.str "told", .none]
theorem okD_told (n : Nat) : okD (n + 1) toldD = true := by
  refine okD_tup (by decide) fun d hd => ?_
  simp at hd
  rcases hd with rfl | rfl
  · have h : PyData.strOk "told" = true ∧ ("told" : Str).length ≤ 4000 := by decide +kernel
    cases n <;> simp [Pd.okD, h.1, h.2]
  · cases n <;> rfl
theorem r5 (ls : List Str) (hL : ∀ x ∈ ls, x ∈ lineS) (hl : ls.length ≤ 10) (E : List Stk) (h : Right ls.length 0 E) (hd : Lns (app ls 0 E)) (sl : List (Option SV)) (P : Store) (n : Nat) (h3 : sl[3]? = some (some (.fz (.list (ls.map .str))))) (h4 : sl[4]? = some (some (.fz (edD E)))) (h5 : sl[5]? = some (some (.fz (.list ((app ls 0 E).map .str))))) (h6 : sl[6]? = some (some (.fz (.list [.list (ls.map .str), edD E])))) :
    s5 ⟨n, sl⟩ P = some (.nx, ⟨n, sl⟩, P) := by
  have a1 : mCallF m_applied (aCons (mSub (mVar 6) (mC (.int 0))) (aCons (mSub (mVar 6) (mC (.int 1))) aNil)) ⟨n, sl⟩ P = some (.fz (.list ((app ls 0 E).map .str)), P) :=
    (st_callF (l := [.fz (.list (ls.map .str)), .fz (edD E)]) (P1 := P) (by simp [h6])).trans (t_applied ls (by omega) E h P)
  have a2 : mCallF m__law_told (aCons (mSub (mVar 6) (mC (.int 1))) (aCons (mCall gLenA (aCons (mVar 3) aNil)) aNil)) ⟨n, sl⟩ P = some (.fz toldD, P) :=
    (st_callF (l := [.fz (edD E), .fz (.int (ls.length : Nat))]) (P1 := P) (by simp [h6, h3])).trans (told_ok _ _ P (t_check E ls.length (by omega) h P))
  have a3 : mLst (aCons (mCallF m_applied (aCons (mSub (mVar 6) (mC (.int 0))) (aCons (mSub (mVar 6) (mC (.int 1))) aNil))) (aCons (mCallF m__law_told (aCons (mSub (mVar 6) (mC (.int 1))) (aCons (mCall gLenA (aCons (mVar 3) aNil)) aNil))) (aCons (mVar 6) aNil))) ⟨n, sl⟩ P = some (.fz (.list [.list ((app ls 0 E).map .str), toldD, .list [.list (ls.map .str), edD E]]), P) :=
    st_lst (st_cons a1 (st_cons a2 (st_cons (a := .fz (.list [.list (ls.map .str), edD E])) (P1 := P) (by simp [h6]) (aNil_ap)))) rfl (by simp)
  have a4 : mLst (aCons (mVar 5) (aCons (mTup (aCons (mC (.str "told")) (aCons (mC .none) aNil))) (aCons (mLst (aCons (mVar 3) (aCons (mVar 4) aNil))) aNil))) ⟨n, sl⟩ P = some (.fz (.list [.list ((app ls 0 E).map .str), toldD, .list [.list (ls.map .str), edD E]]), P) := by
    simp [h5, h3, h4, toldD]
  refine same_ok (n := 6) (d := .list [.list ((app ls 0 E).map .str), toldD, .list [.list (ls.map .str), edD E]]) ?_ (by decide) (st_cons a3 (st_cons a4 aNil_ap))
  refine okD_list (by simp) fun d hd' => ?_
  simp at hd'
  rcases hd' with rfl | rfl | rfl
  · exact okD_lines 4 hd.1 (by have := hd.2; omega)
  · exact okD_told 4
  · refine okD_list (by simp) fun d hd2 => ?_
    simp at hd2
    rcases hd2 with rfl | rfl
    · exact okD_lines 3 hL (by omega)
    · exact okD_edit 1 ls.length h (by omega)
theorem r7 (ls : List Str) (hL : Lns ls) (E : List Stk) (h : Right ls.length 0 E) (hd : Lns (app ls 0 E)) (sl : List (Option SV)) (P : Store) (n : Nat) (h3 : sl[3]? = some (some (.fz (.list (ls.map .str))))) (h4 : sl[4]? = some (some (.fz (edD E)))) (h5 : sl[5]? = some (some (.fz (.list ((app ls 0 E).map .str))))) (h7 : sl[7]? = some (some (.fz (edD (undo ls 0 0 E))))) :
    s7 ⟨n, sl⟩ P = some (.nx, ⟨n, sl⟩, P) := by
  obtain ⟨u1, u2, u3⟩ := undo_right ls hL E 0 0 [] h (Nat.zero_le _) rfl
  rw [List.nil_append] at u1 u2 u3
  have dl := hd.2
  have a1 : mCallF m__law_told (aCons (mVar 7) (aCons (mCall gLenA (aCons (mVar 5) aNil)) aNil)) ⟨n, sl⟩ P = some (.fz toldD, P) :=
    (st_callF (l := [.fz (edD (undo ls 0 0 E)), .fz (.int ((app ls 0 E).length : Nat))]) (P1 := P) (by simp [h7, h5])).trans (told_ok _ _ P (t_check _ _ (by omega) u1 P))
  have a2 : mCallF m_applied (aCons (mCall gListA (aCons (mVar 5) aNil)) (aCons (mVar 7) aNil)) ⟨n, sl⟩ P = some (.fz (.list (ls.map .str)), P) := by
    refine (st_callF (l := [.fz (.list ((app ls 0 E).map .str)), .fz (edD (undo ls 0 0 E))]) (P1 := P) (by simp [h7, h5])).trans ?_
    rw [t_applied _ (by omega) _ u1 P, u2]; rfl
  have a3 : mCallF m_undone (aCons (mCall gListA (aCons (mVar 5) aNil)) (aCons (mVar 7) aNil)) ⟨n, sl⟩ P = some (.fz (edD E), P) := by
    refine (st_callF (l := [.fz (.list ((app ls 0 E).map .str)), .fz (edD (undo ls 0 0 E))]) (P1 := P) (by simp [h7, h5])).trans ?_
    rw [t_undone _ (by omega) _ u1 P, u3]
  have a4 : mLst (aCons (mTup (aCons (mC (.str "told")) (aCons (mC .none) aNil))) (aCons (mVar 3) (aCons (mVar 4) aNil))) ⟨n, sl⟩ P = some (.fz (.list [toldD, .list (ls.map .str), edD E]), P) := by
    simp [h3, h4, toldD]
  refine same_ok (n := 6) (d := .list [toldD, .list (ls.map .str), edD E]) ?_ (by decide) (st_cons (st_lst (st_cons a1 (st_cons a2 (st_cons a3 aNil_ap))) rfl (by simp)) (st_cons a4 aNil_ap))
  refine okD_list (by simp) fun d hd' => ?_
  simp at hd'
  rcases hd' with rfl | rfl | rfl
  · exact okD_told 4
  · exact okD_lines 4 hL.1 (by have := hL.2; omega)
  · exact okD_edit 2 ls.length h (by have := hL.2; omega)
end NS

set_option maxHeartbeats 1000000
set_option linter.all false
set_option maxRecDepth 10000
namespace NS
open PySem Pd L2
/-! k22: the law's checks, more -/
theorem okD_word (n : Nat) (x : Str) (i : Int) (h : PyData.strOk x = true ∧ x.length ≤ 4000) : okD (n + 1) (.tuple [.str x, .int i]) = true := by
  refine okD_tup (by simp) fun d hd => ?_
  simp at hd
  rcases hd with rfl | rfl
  · cases n <;> simp [Pd.okD, h.1, h.2]
  · cases n <;> rfl
theorem wrong_ok : PyData.strOk "wrong" = true ∧ ("wrong" : Str).length ≤ 4000 := by decide +kernel
def wrongD (i : Int) : PyData := .tuple [.str "wrong", .int i]
theorem cut_take (ds : List PyData) (a : Nat) (h : a ≤ ds.length) : cutL ds none (some (a : Int)) = ds.take a := by
  simp [cutL, HT.sIx_none, HT.sIx_nat, Nat.min_eq_left h]
theorem Right.take {n : Nat} : ∀ {E : List Stk} {lo : Nat} (k : Nat), Right n lo E → Right n lo (E.take k)
  | [], _, _, _ => by simp [Right]
  | s :: r, lo, 0, _ => True.intro
  | s :: r, lo, k + 1, h => ⟨h.1, h.2.take k⟩
def s11 : SM := sIf (mNotB (mTB (mCallF (m__law_same 40) (aCons (mCallF m__law_told (aCons (mBin dAdd (mBin dAdd (mSl (mVar 4) oNone (oSome (mVar 8))) (mTup (aCons (mVar 9) aNil))) (mSl (mVar 4) (oSome (mVar 8)) oNone)) (aCons (mCall gLenA (aCons (mVar 3) aNil)) aNil))) (aCons (mTup (aCons (mC (.str "wrong")) (aCons (mVar 8) aNil))) aNil))))) (sRet (mC (.bool false))) sNx
theorem r11 (ls : List Str) (hl : ls.length ≤ 10) (E : List Stk) (h : Right ls.length 0 E) (at' : Nat) (ha : at' ≤ E.length) (od : PyData) (hod : Odd ls.length od) (sl : List (Option SV)) (P : Store) (n : Nat) (h3 : sl[3]? = some (some (.fz (.list (ls.map .str))))) (h4 : sl[4]? = some (some (.fz (edD E)))) (h8 : sl[8]? = some (some (.fz (.int (at' : Nat))))) (h9 : sl[9]? = some (some (.fz od))) :
    s11 ⟨n, sl⟩ P = some (.nx, ⟨n, sl⟩, P) := by
  have hE : E.length ≤ 11 := by rcases h.len with h | rfl; omega; simp
  have c1 := cut_take (E.map Stk.d) at' (by simpa using ha)
  have c2 := cut_drop (E.map Stk.d) at' (by simpa using ha)
  have hlt : (E.take at').length = at' := by simp; omega
  have hS : (100 : Nat) ≤ sizeLine := by decide
  have d1 := dAdd_tup ((E.map Stk.d).take at') [od] (Nat.le_trans (by simp; omega) hS)
  have d2 := dAdd_tup ((E.map Stk.d).take at' ++ [od]) ((E.map Stk.d).drop at') (Nat.le_trans (by simp; omega) hS)
  have sl4 : ∀ (lo hi : Option Int), dSl (edD E) lo hi = some (.tuple (cutL (E.map Stk.d) lo hi)) := fun _ _ => rfl
  have m1 : mSl (mVar 4) oNone (oSome (mVar 8)) ⟨n, sl⟩ P = some (.fz (.tuple ((E.map Stk.d).take at')), P) := by
    simp only [mSl_ap, mVar_ap, h4, Option.join_some, Option.map_some, Option.bind_some, oNone_ap, oSome_ap, h8, flat_fz, sl4, c1]
  have m2 : mSl (mVar 4) (oSome (mVar 8)) oNone ⟨n, sl⟩ P = some (.fz (.tuple ((E.map Stk.d).drop at')), P) := by
    simp only [mSl_ap, mVar_ap, h4, Option.join_some, Option.map_some, Option.bind_some, oNone_ap, oSome_ap, h8, flat_fz, sl4, c2]
  have m3 : mTup (aCons (mVar 9) aNil) ⟨n, sl⟩ P = some (.fz (.tuple [od]), P) := by simp [h9]
  have m4 := st_bin (st_bin m1 m3 d1) m2 d2
  have ed : (E.map Stk.d).take at' ++ [od] ++ (E.map Stk.d).drop at' = (E.take at').map Stk.d ++ od :: (E.map Stk.d).drop at' := by
    rw [List.map_take]; simp
  rw [ed] at m4
  have a1 := told_bad (.tuple ((E.take at').map Stk.d ++ od :: (E.map Stk.d).drop at')) (ls.length : Nat) P (.int at') (by
    have := t_odd (E.take at') ls.length (by omega) (h.take at') od hod ((E.map Stk.d).drop at') (by simp; omega) P
    rw [hlt] at this; exact this)
  have a2 : mCallF m__law_told (aCons (mBin dAdd (mBin dAdd (mSl (mVar 4) oNone (oSome (mVar 8))) (mTup (aCons (mVar 9) aNil))) (mSl (mVar 4) (oSome (mVar 8)) oNone)) (aCons (mCall gLenA (aCons (mVar 3) aNil)) aNil)) ⟨n, sl⟩ P = some (.fz (wrongD at'), P) :=
    (st_callF (st_cons m4 (st_cons (a := .fz (.int (ls.length : Nat))) (P1 := P) (by simp [h3]) aNil_ap))).trans a1
  exact same_ok (n := 1) (okD_word 0 "wrong" at' wrong_ok) (by decide) (st_cons a2 (st_cons (a := .fz (wrongD at')) (P1 := P) (by simp [h8, wrongD]) aNil_ap))
def c12 : BM := mTB (mBin dGt (mCall gLenA (aCons (mVar 4) aNil)) (mC (.int 0)))
def b12 : SM := sSeq (sSet 10 (mSub (mVar 4) (mUn dNeg (mC (.int 1)))))
  (sSeq (sSet 11 (mTup (aCons (mBin dAdd (mSub (mVar 10) (mC (.int 0))) (mSub (mVar 10) (mC (.int 1)))) (aCons (mC (.int 0)) (aCons (mTup (aCons (mC (.str "z")) aNil)) aNil)))))
  (sIf (mOrB (mNotB (mTB (mCallF (m__law_same 40) (aCons (mCallF m__law_told (aCons (mBin dAdd (mVar 4) (mTup (aCons (mVar 11) aNil))) (aCons (mCall gLenA (aCons (mVar 3) aNil)) aNil))) (aCons (mTup (aCons (mC (.str "wrong")) (aCons (mCall gLenA (aCons (mVar 4) aNil)) aNil))) aNil))))) (mNotB (mTB (mCallF (m__law_same 40) (aCons (mCallF m__law_told (aCons (mCall gListA (aCons (mVar 4) aNil)) (aCons (mCall gLenA (aCons (mVar 3) aNil)) aNil))) (aCons (mTup (aCons (mC (.str "wrong")) (aCons (mUn dNeg (mC (.int 1))) aNil))) aNil)))))) (sRet (mC (.bool false))) sNx))
theorem atI_last {α : Type} (xs : List α) (x : α) : atI (xs ++ [x]) (-1) = some x := by
  have : ixN (xs ++ [x]).length (-1) = some xs.length := by
    unfold ixN
    simp only [List.length_append, List.length_singleton]
    rw [if_neg (by omega)]
    simp
    omega
  rw [atI, this]
  simp
theorem r12 (ls : List Str) (hl : ls.length ≤ 10) (E : List Stk) (h : Right ls.length 0 E) (s0 s1 s2 s5 s6 s7 s8 s9 s10 s11 s12 s13 s14 : Option SV) (P : Store) (n : Nat) :
    ∃ t10 t11, sIf c12 b12 sNx ⟨n, [s0, s1, s2, some (.fz (.list (ls.map .str))), some (.fz (edD E)), s5, s6, s7, s8, s9, s10, s11, s12, s13, s14]⟩ P = some (.nx, ⟨n, [s0, s1, s2, some (.fz (.list (ls.map .str))), some (.fz (edD E)), s5, s6, s7, s8, s9, t10, t11, s12, s13, s14]⟩, P) := by
  have ge : gLenA [edD E] = some (.int (E.length : Nat)) := by rw [edD, gLenA_tup, List.length_map]
  rcases List.eq_nil_or_concat E with rfl | ⟨E0, s, rfl⟩
  · refine ⟨s10, s11, ?_⟩
    exact (st_ifF (st_tb (st_bin (d := .int 0) (e := .int 0) (z := .bool false) (P1 := P) (P2 := P) (by simp [ge]) (by simp) (by simp)))).trans rfl
  · rw [List.concat_eq_append] at h ge ⊢
    have hE : (E0 ++ [s]).length ≤ 11 := by rcases h.len with h | h; omega; simp at h
    have hc : c12 ⟨n, [s0, s1, s2, some (.fz (.list (ls.map .str))), some (.fz (edD (E0 ++ [s]))), s5, s6, s7, s8, s9, s10, s11, s12, s13, s14]⟩ P = some (true, P) :=
      st_tb (st_bin (d := .int ((E0 ++ [s]).length : Nat)) (e := .int 0) (P1 := P) (P2 := P) (by simp [ge]) (by simp) (by rw [dGt_int, decide_eq_true (by simp)]))
    have hn : dNeg (.int 1) = some (.int (-1)) := rfl
    have e10 : mSub (mVar 4) (mUn dNeg (mC (.int 1))) ⟨n, [s0, s1, s2, some (.fz (.list (ls.map .str))), some (.fz (edD (E0 ++ [s]))), s5, s6, s7, s8, s9, s10, s11, s12, s13, s14]⟩ P = some (.fz s.d, P) := by
      refine st_sub (a := .fz (edD (E0 ++ [s]))) (e := .int (-1)) (P1 := P) (by simp) (by simp [hn]) ?_
      rw [edD, subOf_tup, List.map_append, List.map_cons, List.map_nil, atI_last]; rfl
    have e11 : mTup (aCons (mBin dAdd (mSub (mVar 10) (mC (.int 0))) (mSub (mVar 10) (mC (.int 1)))) (aCons (mC (.int 0)) (aCons (mTup (aCons (mC (.str "z")) aNil)) aNil))) ⟨n, [s0, s1, s2, some (.fz (.list (ls.map .str))), some (.fz (edD (E0 ++ [s]))), s5, s6, s7, s8, s9, some (.fz s.d), s11, s12, s13, s14]⟩ P = some (.fz (stkD (s.p + s.g) 0 ["z"]), P) := by
      simp [Stk.d, stkD]
    have a1 := told_bad _ (ls.length : Nat) P _ (t_close E0 s ls.length (by omega) h P)
    have d1 := dAdd_tup ((E0 ++ [s]).map Stk.d) [stkD (s.p + s.g) 0 ["z"]] (Nat.le_trans (show _ ≤ 100000 by simp at hE ⊢; omega) sz_k)
    have m1 : mCallF m__law_told (aCons (mBin dAdd (mVar 4) (mTup (aCons (mVar 11) aNil))) (aCons (mCall gLenA (aCons (mVar 3) aNil)) aNil)) ⟨n, [s0, s1, s2, some (.fz (.list (ls.map .str))), some (.fz (edD (E0 ++ [s]))), s5, s6, s7, s8, s9, some (.fz s.d), some (.fz (stkD (s.p + s.g) 0 ["z"])), s12, s13, s14]⟩ P = some (.fz (wrongD (E0.length + 1)), P) :=
      (st_callF (st_cons (st_bin (d := edD (E0 ++ [s])) (e := .tuple [stkD (s.p + s.g) 0 ["z"]]) (P1 := P) (P2 := P) (by simp) (by simp) d1) (st_cons (a := .fz (.int (ls.length : Nat))) (P1 := P) (by simp) aNil_ap))).trans a1
    have gl : gListA [edD (E0 ++ [s])] = some (.list ((E0 ++ [s]).map Stk.d)) := rfl
    have m2 : mCallF m__law_told (aCons (mCall gListA (aCons (mVar 4) aNil)) (aCons (mCall gLenA (aCons (mVar 3) aNil)) aNil)) ⟨n, [s0, s1, s2, some (.fz (.list (ls.map .str))), some (.fz (edD (E0 ++ [s]))), s5, s6, s7, s8, s9, some (.fz s.d), some (.fz (stkD (s.p + s.g) 0 ["z"])), s12, s13, s14]⟩ P = some (.fz (wrongD (-1)), P) :=
      (st_callF (l := [.fz (.list ((E0 ++ [s]).map Stk.d)), .fz (.int (ls.length : Nat))]) (P1 := P) (by simp [gl])).trans (told_bad _ _ P _ (t_list _ _ P))
    have q1 := t_same 40 1 (wrongD (E0.length + 1)) (okD_word 0 "wrong" _ wrong_ok) (by decide) P
    have q2 := t_same 40 1 (wrongD (-1)) (okD_word 0 "wrong" _ wrong_ok) (by decide) P
    refine ⟨some (.fz s.d), some (.fz (stkD (s.p + s.g) 0 ["z"])), ?_⟩
    refine (st_ifT hc).trans ((st_seq ((st_set e10).trans rfl)).trans ((st_seq ((st_set e11).trans rfl)).trans ((st_ifF ?_).trans rfl)))
    refine (st_or (P1 := P) (st_not (b := true) (st_tb ((st_callF (st_cons m1 (st_cons (a := .fz (wrongD (E0.length + 1))) (P1 := P) ?_ aNil_ap))).trans q1)))).trans ?_
    · simp [ge, wrongD]
    · refine st_not (b := true) (st_tb ((st_callF (st_cons m2 (st_cons (a := .fz (wrongD (-1))) (P1 := P) ?_ aNil_ap))).trans q2))
      simp [hn, wrongD]
end NS

set_option maxHeartbeats 1000000
set_option linter.all false
set_option maxRecDepth 10000
namespace NS
open PySem Pd L2
/-! k22: the last checks -/
theorem okD_pairs (n : Nat) (l : List (Nat × Nat)) (hl : l.length ≤ 4000) : okD (n + 2) (pairsD l) = true := by
  refine okD_list (by simpa using hl) fun d hd => ?_
  obtain ⟨p, hp, rfl⟩ := List.mem_map.mp hd
  refine okD_tup (by simp) fun d hd => ?_
  simp at hd
  rcases hd with rfl | rfl <;> cases n <;> rfl
def s17 : SM := sIf (mNotB (mTB (mCallF (m__law_same 40) (aCons (mLst (aCons (mCallF m_kept_pairs (aCons (mSub (mVar 6) (mC (.int 0))) (aCons (mSub (mVar 6) (mC (.int 1))) aNil))) (aCons (mCallF m_edit_of (aCons (mSub (mVar 6) (mC (.int 0))) (aCons (mSub (mVar 6) (mC (.int 1))) aNil))) (aCons (mVar 6) aNil)))) (aCons (mLst (aCons (mVar 14) (aCons (mVar 5) (aCons (mLst (aCons (mVar 12) (aCons (mVar 13) aNil))) aNil)))) aNil))))) (sRet (mC (.bool false))) sNx
def s18 : SM := sIf (mNotB (mTB (mCallF (m__law_same 40) (aCons (mCallF m__law_applied (aCons (mVar 12) (aCons (mVar 5) aNil))) (aCons (mVar 13) aNil))))) (sRet (mC (.bool false))) sNx
theorem due_right (A B : List Str) (hB : Lns B) : Right A.length 0 (dueE A B) ∧ app A 0 (dueE A B) = B := by
  have := mk_right A B hB (greedy_spec A B A.length 0 0 (by omega)).1 (Nat.zero_le _) (Nat.zero_le _)
  exact ⟨this.1, by rw [dueE, this.2]; rfl⟩
theorem r17 (A B : List Str) (hA : Lns A) (hB : Lns B) (sl : List (Option SV)) (P : Store) (n : Nat) (h14 : sl[14]? = some (some (.fz (pairsD (greedy A B A.length 0 0))))) (h5 : sl[5]? = some (some (.fz (edD (dueE A B))))) (h6 : sl[6]? = some (some (.fz (.list [.list (A.map .str), .list (B.map .str)])))) (h12 : sl[12]? = some (some (.fz (.list (A.map .str))))) (h13 : sl[13]? = some (some (.fz (.list (B.map .str))))) :
    s17 ⟨n, sl⟩ P = some (.nx, ⟨n, sl⟩, P) := by
  have lA := hA.2
  have lB := hB.2
  have gl := greedy_len A B
  have aa : (aCons (mSub (mVar 6) (mC (.int 0))) (aCons (mSub (mVar 6) (mC (.int 1))) aNil)) ⟨n, sl⟩ P = some ([.fz (.list (A.map .str)), .fz (.list (B.map .str))], P) := by simp [h6]
  have a1 := (st_callF aa).trans (t_keptp A B lA lB P)
  have a2 := (st_callF aa).trans (t_pedit A B lA lB P)
  have a4 : mLst (aCons (mVar 14) (aCons (mVar 5) (aCons (mLst (aCons (mVar 12) (aCons (mVar 13) aNil))) aNil))) ⟨n, sl⟩ P = some (.fz (.list [pairsD (greedy A B A.length 0 0), edD (dueE A B), .list [.list (A.map .str), .list (B.map .str)]]), P) := by
    simp [h14, h5, h12, h13]
  refine same_ok (n := 6) (d := .list [pairsD (greedy A B A.length 0 0), edD (dueE A B), .list [.list (A.map .str), .list (B.map .str)]]) ?_ (by decide) (st_cons (st_lst (st_cons a1 (st_cons a2 (st_cons (a := .fz (.list [.list (A.map .str), .list (B.map .str)])) (P1 := P) (by simp [h6]) aNil_ap))) rfl (by simp)) (st_cons a4 aNil_ap))
  refine okD_list (by simp) fun d hd' => ?_
  simp at hd'
  rcases hd' with rfl | rfl | rfl
  · exact okD_pairs 3 _ (by omega)
  · exact okD_edit 2 A.length (due_right A B hB).1 (by omega)
  · refine okD_list (by simp) fun d hd2 => ?_
    simp at hd2
    rcases hd2 with rfl | rfl
    · exact okD_lines 3 hA.1 (by omega)
    · exact okD_lines 3 hB.1 (by omega)
theorem r18 (A B : List Str) (hl : A.length ≤ 10) (hB : Lns B) (sl : List (Option SV)) (P : Store) (n : Nat) (h5 : sl[5]? = some (some (.fz (edD (dueE A B))))) (h12 : sl[12]? = some (some (.fz (.list (A.map .str))))) (h13 : sl[13]? = some (some (.fz (.list (B.map .str))))) :
    s18 ⟨n, sl⟩ P = some (.nx, ⟨n, sl⟩, P) := by
  obtain ⟨d1, d2⟩ := due_right A B hB
  have lB := hB.2
  have a1 : mCallF m__law_applied (aCons (mVar 12) (aCons (mVar 5) aNil)) ⟨n, sl⟩ P = some (.fz (.list (B.map .str)), P) := by
    refine (st_callF (l := [.fz (.list (A.map .str)), .fz (edD (dueE A B))]) (P1 := P) (by simp [h12, h5])).trans ?_
    rw [t_lapp A hl _ d1 P, d2]
  exact same_ok (n := 1) (okD_lines 0 hB.1 (by omega)) (by decide) (st_cons a1 (st_cons (a := .fz (.list (B.map .str))) (P1 := P) (by simp [h13]) aNil_ap))
/-- the end of the law -/
def sEnd : SM := sRet (mCallF (m__law_same 40) (aCons (mLst (aCons (mCallF m_edit_of (aCons (mLst (aCons (mC (.str "a")) (aCons (mC (.str "b")) aNil))) (aCons (mLst (aCons (mC (.str "a")) (aCons (mC (.str "b")) aNil))) aNil))) (aCons (mCallF m_edit_of (aCons (mLst aNil) (aCons (mLst (aCons (mC (.str "x")) aNil)) aNil))) (aCons (mCallF m_edit_of (aCons (mLst (aCons (mC (.str "x")) aNil)) (aCons (mLst aNil) aNil))) aNil)))) (aCons (mLst (aCons (mTup aNil) (aCons (mTup (aCons (mTup (aCons (mC (.int 0)) (aCons (mC (.int 0)) (aCons (mTup (aCons (mC (.str "x")) aNil)) aNil)))) aNil)) (aCons (mTup (aCons (mTup (aCons (mC (.int 0)) (aCons (mC (.int 1)) (aCons (mTup aNil) aNil)))) aNil)) aNil)))) aNil)))
theorem ne_ab : ¬ (("a" : Str) = "b") := by decide +kernel
theorem ne_ba : ¬ (("b" : Str) = "a") := by decide +kernel
theorem due1 : dueE ["a", "b"] ["a", "b"] = [] := by
  have v2 : ∀ j, V ["a", "b"] ["a", "b"] 2 j = 0 := fun j => V_end _ _ _ _ (by simp)
  have v11 : V ["a", "b"] ["a", "b"] 1 1 = 1 := by rw [V_match (x := "b") rfl rfl, v2]
  have v00 : V ["a", "b"] ["a", "b"] 0 0 = 2 := by rw [V_match (x := "a") rfl rfl, v11]
  have k0 : firstK ["a", "b"] ["a", "b"] 0 0 = some 0 := by
    simp [firstK, List.range'_succ, goodK, v11, v00]
  have k1 : firstK ["a", "b"] ["a", "b"] 1 1 = some 1 := by
    simp [firstK, List.range'_succ, goodK, v11, v2]
  have g : greedy ["a", "b"] ["a", "b"] 2 0 0 = [(0, 0), (1, 1)] := by
    simp [greedy, v00, v11, k0, k1]
  show mkE ["a", "b"] 0 0 (greedy ["a", "b"] ["a", "b"] 2 0 0 ++ [(2, 2)]) = []
  rw [g]
  simp [mkE]
theorem due2 : dueE [] ["x"] = [⟨0, 0, ["x"]⟩] := by
  show mkE ["x"] 0 0 ([] ++ [(0, 1)]) = _
  simp [mkE]
theorem due3 : dueE ["x"] [] = [⟨0, 1, []⟩] := by
  have v : V ["x"] [] 0 0 = 0 := V_end2 _ _ _ _ (by simp)
  have g : greedy ["x"] [] 1 0 0 = [] := by simp [greedy, v]
  show mkE [] 0 0 (greedy ["x"] [] 1 0 0 ++ [(1, 0)]) = _
  rw [g]
  simp [mkE]
theorem rEnd (sl : List (Option SV)) (P : Store) (n : Nat) : sEnd ⟨n, sl⟩ P = some (.rt (.fz (.bool true)), ⟨n, sl⟩, P) := by
  have a1 : mCallF m_edit_of (aCons (mLst (aCons (mC (.str "a")) (aCons (mC (.str "b")) aNil))) (aCons (mLst (aCons (mC (.str "a")) (aCons (mC (.str "b")) aNil))) aNil)) ⟨n, sl⟩ P = some (.fz (edD []), P) := by
    refine (st_callF (l := [.fz (.list ((["a", "b"] : List Str).map .str)), .fz (.list ((["a", "b"] : List Str).map .str))]) (P1 := P) (by simp)).trans ?_
    rw [t_pedit _ _ (by simp) (by simp), due1]
  have a2 : mCallF m_edit_of (aCons (mLst aNil) (aCons (mLst (aCons (mC (.str "x")) aNil)) aNil)) ⟨n, sl⟩ P = some (.fz (edD [⟨0, 0, ["x"]⟩]), P) := by
    refine (st_callF (l := [.fz (.list (([] : List Str).map .str)), .fz (.list ((["x"] : List Str).map .str))]) (P1 := P) (by simp)).trans ?_
    rw [t_pedit _ _ (by simp) (by simp), due2]
  have a3 : mCallF m_edit_of (aCons (mLst (aCons (mC (.str "x")) aNil)) (aCons (mLst aNil) aNil)) ⟨n, sl⟩ P = some (.fz (edD [⟨0, 1, []⟩]), P) := by
    refine (st_callF (l := [.fz (.list ((["x"] : List Str).map .str)), .fz (.list (([] : List Str).map .str))]) (P1 := P) (by simp)).trans ?_
    rw [t_pedit _ _ (by simp) (by simp), due3]
  have a4 : mLst (aCons (mTup aNil) (aCons (mTup (aCons (mTup (aCons (mC (.int 0)) (aCons (mC (.int 0)) (aCons (mTup (aCons (mC (.str "x")) aNil)) aNil)))) aNil)) (aCons (mTup (aCons (mTup (aCons (mC (.int 0)) (aCons (mC (.int 1)) (aCons (mTup aNil) aNil)))) aNil)) aNil))) ⟨n, sl⟩ P = some (.fz (.list [edD [], edD [⟨0, 0, ["x"]⟩], edD [⟨0, 1, []⟩]]), P) := by
    simp [edD, Stk.d, stkD]
  have hk : okD 6 (.list [edD [], edD [⟨0, 0, ["x"]⟩], edD [⟨0, 1, []⟩]]) = true := by decide +kernel
  refine st_ret ((st_callF (st_cons (st_lst (st_cons a1 (st_cons a2 (st_cons a3 aNil_ap))) rfl (by simp)) (st_cons a4 aNil_ap))).trans (t_same 40 6 _ hk (by decide) P))
end NS

set_option maxHeartbeats 1000000
set_option linter.all false
set_option maxRecDepth 10000
namespace NS
open PySem Pd L2
/-! k22: the law -/
theorem alpha_line : ∀ x ∈ alpha, x ∈ lineS := by decide +kernel
theorem front_short (ls : List Str) : ∀ (E : List Stk) (a : Nat), Right ls.length a E → a ≤ ls.length → (∀ s ∈ E, s.new.length ≤ 2) → (front id ls a E).length + (ls.length - fin a E) ≤ (ls.length - a) + 2 * E.length
  | [], a, _, _, _ => by simp [front, fin]
  | s :: r, a, h, ha, hn => by
    have h1 := h.1.lo
    have h2 := h.1.hi
    have h3 := hn s List.mem_cons_self
    have h4 := front_short ls r (s.p + s.g) (h.2.mono (Nat.le_succ _)) h2 (fun t ht => hn t (List.mem_cons_of_mem _ ht))
    simp only [front, fin, List.length_append, List.length_drop, List.length_take, List.length_map, List.length_cons]
    omega
theorem front_lines (ls : List Str) (hL : ∀ x ∈ ls, x ∈ lineS) {n : Nat} : ∀ (E : List Stk) (a : Nat), Right n a E → ∀ x ∈ front id ls a E, x ∈ lineS
  | [], a, _, x, hx => by simp [front] at hx
  | s :: r, a, h, x, hx => by
    simp only [front, List.map_id, List.mem_append] at hx
    rcases hx with (hx | hx) | hx
    · exact hL x (List.mem_of_mem_take (List.mem_of_mem_drop hx))
    · exact h.1.ln x hx
    · exact front_lines ls hL r _ (h.2.mono (Nat.le_succ _)) x hx
theorem app_lns (ls : List Str) (hL : ∀ x ∈ ls, x ∈ lineS) (hl : ls.length ≤ 7) (E : List Stk) (h : Right ls.length 0 E) (hn : ∀ s ∈ E, s.new.length ≤ 2) : Lns (app ls 0 E) := by
  have hE : E.length ≤ 8 := by rcases h.len with h | rfl; omega; simp
  refine ⟨fun x hx => ?_, ?_⟩
  · rw [app] at hx
    rcases List.mem_append.mp hx with hx | hx
    · exact front_lines ls hL E 0 h x hx
    · exact hL x (List.mem_of_mem_drop hx)
  · have := front_short ls E 0 h (Nat.zero_le _) hn
    rw [app, List.length_append, List.length_drop]
    omega
def oddL (n : Nat) : List PyData := [.none, .tuple [.int 0, .int 0, .tuple []], .tuple [.int 0, .int 1], .tuple [.int (-1), .int 0, .tuple [.str "a"]], .tuple [.int (n : Nat), .int 1, .tuple []], .tuple [.int ((n : Int) + 1), .int 0, .tuple [.str "a"]], .tuple [.int 0, .int 0, .list [.str "a"]], .tuple [.int 0, .int 0, .tuple [.str "a\n"]], .tuple [.int 0, .int 0, .tuple [.none]], .tuple [.bool true, .int 0, .tuple [.str "a"]], .tuple [.int 0, .none, .tuple [.str "a"]]]
theorem odd_all (n k : Nat) (hk : k < 11) : ∃ od, (oddL n)[k]? = some od ∧ Odd n od := by
  have : k = 0 ∨ k = 1 ∨ k = 2 ∨ k = 3 ∨ k = 4 ∨ k = 5 ∨ k = 6 ∨ k = 7 ∨ k = 8 ∨ k = 9 ∨ k = 10 := by omega
  rcases this with rfl | rfl | rfl | rfl | rfl | rfl | rfl | rfl | rfl | rfl | rfl
  · exact ⟨_, rfl, odd_none n⟩
  · exact ⟨_, rfl, odd_empty n⟩
  · exact ⟨_, rfl, odd_short n⟩
  · exact ⟨_, rfl, odd_neg n _⟩
  · exact ⟨_, rfl, odd_far n [] (by simp) (by simp) n 1 (by omega)⟩
  · refine ⟨_, rfl, ?_⟩
    have := odd_far n ["a"] (by simp [lineS]) (by simp) (n + 1) 0 (by omega)
    exact this
  · exact ⟨_, rfl, odd_list n _⟩
  · exact ⟨_, rfl, odd_line1 n⟩
  · exact ⟨_, rfl, odd_line2 n⟩
  · exact ⟨_, rfl, odd_true n _ _⟩
  · exact ⟨_, rfl, odd_gone n _⟩
def s9 : SM := sSet 9 (mLst (aCons (mC .none) (aCons (mTup (aCons (mC (.int 0)) (aCons (mC (.int 0)) (aCons (mTup aNil) aNil)))) (aCons (mTup (aCons (mC (.int 0)) (aCons (mC (.int 1)) aNil))) (aCons (mTup (aCons (mUn dNeg (mC (.int 1))) (aCons (mC (.int 0)) (aCons (mTup (aCons (mC (.str "a")) aNil)) aNil)))) (aCons (mTup (aCons (mCall gLenA (aCons (mVar 3) aNil)) (aCons (mC (.int 1)) (aCons (mTup aNil) aNil)))) (aCons (mTup (aCons (mBin dAdd (mCall gLenA (aCons (mVar 3) aNil)) (mC (.int 1))) (aCons (mC (.int 0)) (aCons (mTup (aCons (mC (.str "a")) aNil)) aNil)))) (aCons (mTup (aCons (mC (.int 0)) (aCons (mC (.int 0)) (aCons (mLst (aCons (mC (.str "a")) aNil)) aNil)))) aNil))))))))
def x10 : XM := mSub (mBin dAdd (mVar 9) (mLst (aCons (mTup (aCons (mC (.int 0)) (aCons (mC (.int 0)) (aCons (mTup (aCons (mC (.str "a\n")) aNil)) aNil)))) (aCons (mTup (aCons (mC (.int 0)) (aCons (mC (.int 0)) (aCons (mTup (aCons (mC .none) aNil)) aNil)))) (aCons (mTup (aCons (mC (.bool true)) (aCons (mC (.int 0)) (aCons (mTup (aCons (mC (.str "a")) aNil)) aNil)))) (aCons (mTup (aCons (mC (.int 0)) (aCons (mC .none) (aCons (mTup (aCons (mC (.str "a")) aNil)) aNil)))) aNil)))))) (mCallF m__law_draw (aCons (mVar 1) (aCons (mC (.int 11)) aNil)))
theorem r9 (ls : List Str) (sl : List (Option SV)) (P : Store) (n : Nat) (h3 : sl[3]? = some (some (.fz (.list (ls.map .str))))) : s9 ⟨n, sl⟩ P = some (.nx, ⟨n, sl.set 9 (some (.fz (.list ((oddL ls.length).take 7))))⟩, P) := by
  have hn : dNeg (.int 1) = some (.int (-1)) := rfl
  refine (st_set (s := .fz (.list ((oddL ls.length).take 7))) (P1 := P) ?_).trans rfl
  simp [h3, hn, oddL]
theorem r10 (ls : List Str) (sl : List (Option SV)) (P P1 : Store) (n k : Nat) (od : PyData) (h9 : sl[9]? = some (some (.fz (.list ((oddL ls.length).take 7))))) (hd : mCallF m__law_draw (aCons (mVar 1) (aCons (mC (.int 11)) aNil)) ⟨n, sl⟩ P = some (.fz (.int (k : Nat)), P1)) (hod : (oddL ls.length)[k]? = some od) : x10 ⟨n, sl⟩ P = some (.fz od, P1) := by
  have hS : (100 : Nat) ≤ sizeLine := by decide
  have a1 : mLst (aCons (mTup (aCons (mC (.int 0)) (aCons (mC (.int 0)) (aCons (mTup (aCons (mC (.str "a\n")) aNil)) aNil)))) (aCons (mTup (aCons (mC (.int 0)) (aCons (mC (.int 0)) (aCons (mTup (aCons (mC .none) aNil)) aNil)))) (aCons (mTup (aCons (mC (.bool true)) (aCons (mC (.int 0)) (aCons (mTup (aCons (mC (.str "a")) aNil)) aNil)))) (aCons (mTup (aCons (mC (.int 0)) (aCons (mC .none) (aCons (mTup (aCons (mC (.str "a")) aNil)) aNil)))) aNil)))) ⟨n, sl⟩ P = some (.fz (.list ((oddL ls.length).drop 7)), P) := by
    simp [oddL]
  have d1 := dAdd_lst ((oddL ls.length).take 7) ((oddL ls.length).drop 7) (Nat.le_trans (by simp [oddL]) hS)
  rw [List.take_append_drop] at d1
  have a2 := st_bin (d := .list ((oddL ls.length).take 7)) (e := .list ((oddL ls.length).drop 7)) (P1 := P) (P2 := P) (f1 := mVar 9) (ρ := ⟨n, sl⟩) (P := P) (by simp [h9]) a1 d1
  refine st_sub a2 hd ?_
  rw [subOf_lst, atI_nat', hod]; rfl
theorem draw1 {c c' : Dr} {R : Store} {lim v : Int} {ρ : EV} {f : XM} (h1 : ρ.sl[1]? = some (some (.ptr 0))) (hf : f ρ (c.cell :: R) = some (.fz (.int lim), c.cell :: R)) (e : m__law_draw [.ptr 0, .fz (.int lim)] (c.cell :: R) = some (.fz (.int v), c'.cell :: R)) : mCallF m__law_draw (aCons (mVar 1) (aCons f aNil)) ρ (c.cell :: R) = some (.fz (.int v), c'.cell :: R) := by
  obtain ⟨b, sl⟩ := ρ
  simp only at h1
  exact (st_callF (st_cons (a := .ptr 0) (P1 := c.cell :: R) (by simp [h1]) (st_cons hf aNil_ap))).trans e
/-- the loop's body -/
def bLaw : SM := (sSeq (sSet 3 (mCallF m__law_lines_of (aCons (mVar 1) (aCons (mC (.int 7)) aNil))))
  (sSeq (sSet 4 (mCallF m__law_edit (aCons (mVar 1) (aCons (mVar 3) aNil))))
  (sSeq (sSet 5 (mCallF m__law_applied (aCons (mVar 3) (aCons (mVar 4) aNil))))
  (sSeq (sSet 6 (mCallF (m__law_copy 40) (aCons (mLst (aCons (mVar 3) (aCons (mVar 4) aNil))) aNil)))
  (sSeq s5
  (sSeq (sSet 7 (mCallF m_undone (aCons (mSub (mVar 6) (mC (.int 0))) (aCons (mSub (mVar 6) (mC (.int 1))) aNil))))
  (sSeq s7
  (sSeq (sSet 8 (mCallF m__law_draw (aCons (mVar 1) (aCons (mBin dAdd (mCall gLenA (aCons (mVar 4) aNil)) (mC (.int 1))) aNil))))
  (sSeq s9
  (sSeq (sSet 9 x10)
  (sSeq s11
  (sSeq (sIf c12 b12 sNx)
  (sSeq (sPar 12 13 (aCons (mCallF m__law_lines_of (aCons (mVar 1) (aCons (mC (.int 5)) aNil))) (aCons (mCallF m__law_lines_of (aCons (mVar 1) (aCons (mC (.int 5)) aNil))) aNil)))
  (sSeq (sSet 14 (mCallF m__law_kept (aCons (mVar 12) (aCons (mVar 13) aNil))))
  (sSeq (sSet 6 (mCallF (m__law_copy 40) (aCons (mLst (aCons (mVar 12) (aCons (mVar 13) aNil))) aNil)))
  (sSeq (sSet 5 (mCallF m__law_edit_of (aCons (mVar 12) (aCons (mVar 13) (aCons (mVar 14) aNil)))))
  (sSeq s17 s18)))))))))))))))))
theorem b_law_eq : b_law = sSeq (sSet 1 (mCallF m__law_draws (aCons (mVar 0) aNil))) (sSeq (sFor (iRange (aCons (mC (.int 5)) aNil)) (gNm 2) bLaw) sEnd) := rfl
end NS

set_option maxHeartbeats 1000000
set_option linter.all false
set_option maxRecDepth 10000
namespace NS
open PySem Pd L2
/-! k22: the law, whole -/
theorem turn_law (c : Dr) (s0 s2 s3 s4 s5' s6 s7' s8 s9' s10 s11' s12 s13 s14 : Option SV) : W (bLaw ⟨0, [s0, (some (.ptr 0)), s2, s3, s4, s5', s6, s7', s8, s9', s10, s11', s12, s13, s14]⟩ [c.cell]) fun r => r.1 = .nx ∧ ∃ (c' : Dr) (t3 t4 t5 t6 t7 t8 t9 t10 t11 t12 t13 t14 : Option SV), r.2 = (⟨0, [s0, some (.ptr 0), s2, t3, t4, t5, t6, t7, t8, t9, t10, t11, t12, t13, t14]⟩, [c'.cell]) := by
  obtain ⟨_, e1, ls, c1, hl, hal, rfl⟩ := sp_lines c 7 (by omega) []
  have hL : ∀ x ∈ ls, x ∈ lineS := fun x hx => alpha_line x (hal x hx)
  have hlns : Lns ls := ⟨hL, by omega⟩
  obtain ⟨_, e2, E, c2, hE, hn, rfl⟩ := sp_edit c1 ls (by omega) []
  have hD := app_lns ls hL hl E hE hn
  have hEl : E.length ≤ 8 := by rcases hE.len with h | rfl; omega; simp
  obtain ⟨_, e3, v, c3, v0, v1, rfl⟩ := sp_draw c2 (E.length + 1) (by omega) (by omega) []
  obtain ⟨at1, rfl⟩ := Int.eq_ofNat_of_zero_le v0
  obtain ⟨_, e4, v, c4, w0, w1, rfl⟩ := sp_draw c3 11 (by omega) (by omega) []
  obtain ⟨k, rfl⟩ := Int.eq_ofNat_of_zero_le w0
  obtain ⟨od, ho1, ho2⟩ := odd_all ls.length k (by omega)
  obtain ⟨_, e5, A, c5, hA5, hAa, rfl⟩ := sp_lines c4 5 (by omega) []
  obtain ⟨_, e6, B, c6, hB5, hBa, rfl⟩ := sp_lines c5 5 (by omega) []
  have hA : Lns A := ⟨fun x hx => alpha_line x (hAa x hx), by omega⟩
  have hB : Lns B := ⟨fun x hx => alpha_line x (hBa x hx), by omega⟩
  refine W_seqE (ρ1 := ⟨0, [s0, (some (.ptr 0)), s2, (some (.fz (.list (ls.map .str)))), s4, s5', s6, s7', s8, s9', s10, s11', s12, s13, s14]⟩) (P1 := [c1.cell]) ((st_set (s := .fz (.list (ls.map .str))) (P1 := [c1.cell]) ((st_callF (l := [.ptr 0, .fz (.int 7)]) (P1 := [c.cell]) (by simp)).trans e1)).trans rfl) ?_
  refine W_seqE (ρ1 := ⟨0, [s0, (some (.ptr 0)), s2, (some (.fz (.list (ls.map .str)))), (some (.fz (edD E))), s5', s6, s7', s8, s9', s10, s11', s12, s13, s14]⟩) (P1 := [c2.cell]) ((st_set (s := .fz (edD E)) (P1 := [c2.cell]) ((st_callF (l := [.ptr 0, .fz (.list (ls.map .str))]) (P1 := [c1.cell]) (by simp)).trans e2)).trans rfl) ?_
  refine W_seqE (ρ1 := ⟨0, [s0, (some (.ptr 0)), s2, (some (.fz (.list (ls.map .str)))), (some (.fz (edD E))), (some (.fz (.list ((app ls 0 E).map .str)))), s6, s7', s8, s9', s10, s11', s12, s13, s14]⟩) (P1 := [c2.cell]) ((st_set (s := .fz (.list ((app ls 0 E).map .str))) (P1 := [c2.cell]) ((st_callF (l := [.fz (.list (ls.map .str)), .fz (edD E)]) (P1 := [c2.cell]) (by simp)).trans (t_lapp ls (by omega) E hE _))).trans rfl) ?_
  refine W_seqE (ρ1 := ⟨0, [s0, (some (.ptr 0)), s2, (some (.fz (.list (ls.map .str)))), (some (.fz (edD E))), (some (.fz (.list ((app ls 0 E).map .str)))), (some (.fz (.list [.list (ls.map .str), edD E]))), s7', s8, s9', s10, s11', s12, s13, s14]⟩) (P1 := [c2.cell]) ((st_set (s := .fz (.list [.list (ls.map .str), edD E])) (P1 := [c2.cell]) ((st_callF (l := [.fz (.list [.list (ls.map .str), edD E])]) (P1 := [c2.cell]) (by simp)).trans (t_copy 40 6 _ (okD_list (by simp) fun d hd => by simp at hd; rcases hd with rfl | rfl; exact okD_lines 4 hL (by omega); exact okD_edit 2 ls.length hE (by omega)) (by decide) _))).trans rfl) ?_
  refine W_seqE (ρ1 := ⟨0, [s0, (some (.ptr 0)), s2, (some (.fz (.list (ls.map .str)))), (some (.fz (edD E))), (some (.fz (.list ((app ls 0 E).map .str)))), (some (.fz (.list [.list (ls.map .str), edD E]))), s7', s8, s9', s10, s11', s12, s13, s14]⟩) (P1 := [c2.cell]) (r5 ls hL (by omega) E hE hD _ _ 0 rfl rfl rfl rfl) ?_
  refine W_seqE (ρ1 := ⟨0, [s0, (some (.ptr 0)), s2, (some (.fz (.list (ls.map .str)))), (some (.fz (edD E))), (some (.fz (.list ((app ls 0 E).map .str)))), (some (.fz (.list [.list (ls.map .str), edD E]))), (some (.fz (edD (undo ls 0 0 E)))), s8, s9', s10, s11', s12, s13, s14]⟩) (P1 := [c2.cell]) ((st_set (s := .fz (edD (undo ls 0 0 E))) (P1 := [c2.cell]) ((st_callF (l := [.fz (.list (ls.map .str)), .fz (edD E)]) (P1 := [c2.cell]) (by simp)).trans (t_undone ls (by omega) E hE _))).trans rfl) ?_
  refine W_seqE (ρ1 := ⟨0, [s0, (some (.ptr 0)), s2, (some (.fz (.list (ls.map .str)))), (some (.fz (edD E))), (some (.fz (.list ((app ls 0 E).map .str)))), (some (.fz (.list [.list (ls.map .str), edD E]))), (some (.fz (edD (undo ls 0 0 E)))), s8, s9', s10, s11', s12, s13, s14]⟩) (P1 := [c2.cell]) (r7 ls hlns E hE hD _ _ 0 rfl rfl rfl rfl) ?_
  refine W_seqE (ρ1 := ⟨0, [s0, (some (.ptr 0)), s2, (some (.fz (.list (ls.map .str)))), (some (.fz (edD E))), (some (.fz (.list ((app ls 0 E).map .str)))), (some (.fz (.list [.list (ls.map .str), edD E]))), (some (.fz (edD (undo ls 0 0 E)))), (some (.fz (.int (at1 : Nat)))), s9', s10, s11', s12, s13, s14]⟩) (P1 := [c3.cell]) ((st_set (s := .fz (.int (at1 : Nat))) (P1 := [c3.cell]) (draw1 (R := []) rfl (st_bin (d := .int (E.length : Nat)) (e := .int 1) (P1 := [c2.cell]) (by simp [edD]) (mC_ap _) (dAdd_int _ _)) e3)).trans rfl) ?_
  refine W_seqE (ρ1 := ⟨0, [s0, (some (.ptr 0)), s2, (some (.fz (.list (ls.map .str)))), (some (.fz (edD E))), (some (.fz (.list ((app ls 0 E).map .str)))), (some (.fz (.list [.list (ls.map .str), edD E]))), (some (.fz (edD (undo ls 0 0 E)))), (some (.fz (.int (at1 : Nat)))), (some (.fz (.list ((oddL ls.length).take 7)))), s10, s11', s12, s13, s14]⟩) (P1 := [c3.cell]) ((r9 ls _ _ 0 rfl).trans rfl) ?_
  refine W_seqE (ρ1 := ⟨0, [s0, (some (.ptr 0)), s2, (some (.fz (.list (ls.map .str)))), (some (.fz (edD E))), (some (.fz (.list ((app ls 0 E).map .str)))), (some (.fz (.list [.list (ls.map .str), edD E]))), (some (.fz (edD (undo ls 0 0 E)))), (some (.fz (.int (at1 : Nat)))), (some (.fz od)), s10, s11', s12, s13, s14]⟩) (P1 := [c4.cell]) ((st_set (s := .fz od) (P1 := [c4.cell]) (r10 ls _ _ _ 0 k od rfl (draw1 (R := []) rfl (mC_ap _) e4) ho1)).trans rfl) ?_
  refine W_seqE (ρ1 := ⟨0, [s0, (some (.ptr 0)), s2, (some (.fz (.list (ls.map .str)))), (some (.fz (edD E))), (some (.fz (.list ((app ls 0 E).map .str)))), (some (.fz (.list [.list (ls.map .str), edD E]))), (some (.fz (edD (undo ls 0 0 E)))), (some (.fz (.int (at1 : Nat)))), (some (.fz od)), s10, s11', s12, s13, s14]⟩) (P1 := [c4.cell]) (r11 ls (by omega) E hE at1 (by omega) od ho2 _ _ 0 rfl rfl rfl rfl) ?_
  obtain ⟨t10, t11, e12⟩ := r12 ls (by omega) E hE s0 (some (.ptr 0)) s2 (some (.fz (.list ((app ls 0 E).map .str)))) (some (.fz (.list [.list (ls.map .str), edD E]))) (some (.fz (edD (undo ls 0 0 E)))) (some (.fz (.int (at1 : Nat)))) (some (.fz od)) s10 s11' s12 s13 s14 [c4.cell] 0
  refine W_seqE (ρ1 := ⟨0, [s0, (some (.ptr 0)), s2, (some (.fz (.list (ls.map .str)))), (some (.fz (edD E))), (some (.fz (.list ((app ls 0 E).map .str)))), (some (.fz (.list [.list (ls.map .str), edD E]))), (some (.fz (edD (undo ls 0 0 E)))), (some (.fz (.int (at1 : Nat)))), (some (.fz od)), t10, t11, s12, s13, s14]⟩) (P1 := [c4.cell]) (e12) ?_
  have eAB : (aCons (mCallF m__law_lines_of (aCons (mVar 1) (aCons (mC (.int 5)) aNil))) (aCons (mCallF m__law_lines_of (aCons (mVar 1) (aCons (mC (.int 5)) aNil))) aNil)) ⟨0, [s0, (some (.ptr 0)), s2, (some (.fz (.list (ls.map .str)))), (some (.fz (edD E))), (some (.fz (.list ((app ls 0 E).map .str)))), (some (.fz (.list [.list (ls.map .str), edD E]))), (some (.fz (edD (undo ls 0 0 E)))), (some (.fz (.int (at1 : Nat)))), (some (.fz od)), t10, t11, s12, s13, s14]⟩ [c4.cell] = some ([.fz (.list (A.map .str)), .fz (.list (B.map .str))], [c6.cell]) :=
    st_cons ((st_callF (l := [.ptr 0, .fz (.int 5)]) (P1 := [c4.cell]) (by simp)).trans e5) (st_cons ((st_callF (l := [.ptr 0, .fz (.int 5)]) (P1 := [c5.cell]) (by simp)).trans e6) aNil_ap)
  refine W_seqE (ρ1 := ⟨0, [s0, (some (.ptr 0)), s2, (some (.fz (.list (ls.map .str)))), (some (.fz (edD E))), (some (.fz (.list ((app ls 0 E).map .str)))), (some (.fz (.list [.list (ls.map .str), edD E]))), (some (.fz (edD (undo ls 0 0 E)))), (some (.fz (.int (at1 : Nat)))), (some (.fz od)), t10, t11, (some (.fz (.list (A.map .str)))), (some (.fz (.list (B.map .str)))), s14]⟩) (P1 := [c6.cell]) (by rw [sPar_ap, eAB]; rfl) ?_
  refine W_seqE (ρ1 := ⟨0, [s0, (some (.ptr 0)), s2, (some (.fz (.list (ls.map .str)))), (some (.fz (edD E))), (some (.fz (.list ((app ls 0 E).map .str)))), (some (.fz (.list [.list (ls.map .str), edD E]))), (some (.fz (edD (undo ls 0 0 E)))), (some (.fz (.int (at1 : Nat)))), (some (.fz od)), t10, t11, (some (.fz (.list (A.map .str)))), (some (.fz (.list (B.map .str)))), (some (.fz (pairsD (greedy A B A.length 0 0))))]⟩) (P1 := [c6.cell]) ((st_set (s := .fz (pairsD (greedy A B A.length 0 0))) (P1 := [c6.cell]) ((st_callF (l := [.fz (.list (A.map .str)), .fz (.list (B.map .str))]) (P1 := [c6.cell]) (by simp)).trans (t_kept A B hA.1 hB.1 hA5 hB5 _))).trans rfl) ?_
  refine W_seqE (ρ1 := ⟨0, [s0, (some (.ptr 0)), s2, (some (.fz (.list (ls.map .str)))), (some (.fz (edD E))), (some (.fz (.list ((app ls 0 E).map .str)))), (some (.fz (.list [.list (A.map .str), .list (B.map .str)]))), (some (.fz (edD (undo ls 0 0 E)))), (some (.fz (.int (at1 : Nat)))), (some (.fz od)), t10, t11, (some (.fz (.list (A.map .str)))), (some (.fz (.list (B.map .str)))), (some (.fz (pairsD (greedy A B A.length 0 0))))]⟩) (P1 := [c6.cell]) ((st_set (s := .fz (.list [.list (A.map .str), .list (B.map .str)])) (P1 := [c6.cell]) ((st_callF (l := [.fz (.list [.list (A.map .str), .list (B.map .str)])]) (P1 := [c6.cell]) (by simp)).trans (t_copy 40 6 _ (okD_list (by simp) fun d hd => by simp at hd; rcases hd with rfl | rfl; exact okD_lines 4 hA.1 (by omega); exact okD_lines 4 hB.1 (by omega)) (by decide) _))).trans rfl) ?_
  refine W_seqE (ρ1 := ⟨0, [s0, (some (.ptr 0)), s2, (some (.fz (.list (ls.map .str)))), (some (.fz (edD E))), (some (.fz (edD (dueE A B)))), (some (.fz (.list [.list (A.map .str), .list (B.map .str)]))), (some (.fz (edD (undo ls 0 0 E)))), (some (.fz (.int (at1 : Nat)))), (some (.fz od)), t10, t11, (some (.fz (.list (A.map .str)))), (some (.fz (.list (B.map .str)))), (some (.fz (pairsD (greedy A B A.length 0 0))))]⟩) (P1 := [c6.cell]) ((st_set (s := .fz (edD (dueE A B))) (P1 := [c6.cell]) ((st_callF (l := [.fz (.list (A.map .str)), .fz (.list (B.map .str)), .fz (pairsD (greedy A B A.length 0 0))]) (P1 := [c6.cell]) (by simp)).trans (t_ledit A B (by omega) _))).trans rfl) ?_
  refine W_seqE (ρ1 := ⟨0, [s0, (some (.ptr 0)), s2, (some (.fz (.list (ls.map .str)))), (some (.fz (edD E))), (some (.fz (edD (dueE A B)))), (some (.fz (.list [.list (A.map .str), .list (B.map .str)]))), (some (.fz (edD (undo ls 0 0 E)))), (some (.fz (.int (at1 : Nat)))), (some (.fz od)), t10, t11, (some (.fz (.list (A.map .str)))), (some (.fz (.list (B.map .str)))), (some (.fz (pairsD (greedy A B A.length 0 0))))]⟩) (P1 := [c6.cell]) (r17 A B hA hB _ _ 0 rfl rfl rfl rfl rfl) ?_
  refine W.eq (r18 A B (by omega) hB _ _ 0 rfl rfl rfl) ⟨rfl, c6, _, _, _, _, _, _, _, _, _, _, _, _, rfl⟩
theorem law_true (ns : List Int) (hl : ns.length ≤ 63) : m_law [.fz (.list (ns.map .int))] [] = some (.fz (.bool true), []) := by
  have e1 : mCallF m__law_draws (aCons (mVar 0) aNil) ⟨0, [some (.fz (.list (ns.map .int))), none, none, none, none, none, none, none, none, none, none, none, none, none, none]⟩ [] = some (.ptr 0, [Dr.cell ⟨ns, 0, 0, 1⟩]) := by
    refine (st_callF (l := [.fz (.list (ns.map .int))]) (P1 := []) (by simp)).trans ?_
    simp only [m__law_draws, mFun_ap, b__law_draws]
    simp [startE, Dr.cell, drC]
    rfl
  have ir : iRange (aCons (mC (.int 5)) aNil) ⟨0, [some (.fz (.list (ns.map .int))), some (.ptr 0), none, none, none, none, none, none, none, none, none, none, none, none, none]⟩ [Dr.cell ⟨ns, 0, 0, 1⟩] = some (rangeD 0 5, .fz .none, [Dr.cell ⟨ns, 0, 0, 1⟩]) := iRange_nat (n := 5) (by simp) (by decide)
  have loop : W (forGo (gNm 2) bLaw (rangeD 0 5) ⟨0, [some (.fz (.list (ns.map .int))), some (.ptr 0), none, none, none, none, none, none, none, none, none, none, none, none, none]⟩ [Dr.cell ⟨ns, 0, 0, 1⟩]) fun r => r.1 = .nx ∧ ∃ (c : Dr) (t2 t3 t4 t5 t6 t7 t8 t9 t10 t11 t12 t13 t14 : Option SV), r.2 = (⟨0, [some (.fz (.list (ns.map .int))), some (.ptr 0), t2, t3, t4, t5, t6, t7, t8, t9, t10, t11, t12, t13, t14]⟩, [c.cell]) := by
    refine W_for (fun _ ρ P => ∃ (c : Dr) (t2 t3 t4 t5 t6 t7 t8 t9 t10 t11 t12 t13 t14 : Option SV), (ρ, P) = (⟨0, [some (.fz (.list (ns.map .int))), some (.ptr 0), t2, t3, t4, t5, t6, t7, t8, t9, t10, t11, t12, t13, t14]⟩, [c.cell])) ⟨⟨ns, 0, 0, 1⟩, none, none, none, none, none, none, none, none, none, none, none, none, none, rfl⟩ ?_ ?_
    · rintro i d ρ P hd ⟨c, t2, t3, t4, t5, t6, t7, t8, t9, t10, t11, t12, t13, t14, h⟩
      cases h
      rw [gNm_ap, W_some]
      refine (turn_law c (some (.fz (.list (ns.map .int)))) (some (.fz d)) t3 t4 t5 t6 t7 t8 t9 t10 t11 t12 t13 t14).mono ?_
      rintro r ⟨h1, c', u3, u4, u5, u6, u7, u8, u9, u10, u11, u12, u13, u14, h2⟩
      exact ⟨.inl h1, c', some (.fz d), u3, u4, u5, u6, u7, u8, u9, u10, u11, u12, u13, u14, h2⟩
    · rintro ρ P h
      exact ⟨rfl, h⟩
  obtain ⟨⟨fl, ρ, P⟩, e2, h1, c, t2, t3, t4, t5, t6, t7, t8, t9, t10, t11, t12, t13, t14, h2⟩ := loop
  simp only at h1 h2
  subst h1
  cases h2
  have hm : m_law [.fz (.list (ns.map .int))] [] = exitZ 0 (.fz (.bool true)) [c.cell] := by
    refine st_fun (P := []) (ρ1 := ⟨0, [some (.fz (.list (ns.map .int))), some (.ptr 0), t2, t3, t4, t5, t6, t7, t8, t9, t10, t11, t12, t13, t14]⟩) (s := .fz (.bool true)) (P1 := [c.cell]) ?_
    rw [b_law_eq]
    refine (st_seq ((st_set e1).trans rfl)).trans ?_
    refine (st_seq ((st_for ir).trans e2)).trans ?_
    exact rEnd _ _ 0
  rw [hm]; rfl
end NS

set_option Elab.async false
set_option linter.all false
set_option maxRecDepth 100000
set_option maxHeartbeats 4000000
namespace NS
open PySem PySem.Spec PyProof.Rows L2 Pd
theorem all_mk {l : PySem.W.OpenLaw} {w : World} {K : PySem.W.Frag} {h : Heap} {mg : Str → Option Value} {fa : Addr} {f0 : Addr} {od0 an0 : Option Addr} {sl0 : Array (Option Value)} {oc0 kV0 dc0 pm0 cd0 ct0 : Value} {f1 : Addr} {od1 an1 : Option Addr} {sl1 : Array (Option Value)} {oc1 kV1 dc1 pm1 cd1 ct1 : Value} {f2 : Addr} {od2 an2 : Option Addr} {sl2 : Array (Option Value)} {oc2 kV2 dc2 pm2 cd2 ct2 : Value} {f3 : Addr} {od3 an3 : Option Addr} {sl3 : Array (Option Value)} {oc3 kV3 dc3 pm3 cd3 ct3 : Value} {f4 : Addr} {od4 an4 : Option Addr} {sl4 : Array (Option Value)} {oc4 kV4 dc4 pm4 cd4 ct4 : Value} {f5 : Addr} {od5 an5 : Option Addr} {sl5 : Array (Option Value)} {oc5 kV5 dc5 pm5 cd5 ct5 : Value} {f6 : Addr} {od6 an6 : Option Addr} {sl6 : Array (Option Value)} {oc6 kV6 dc6 pm6 cd6 ct6 : Value} {f7 : Addr} {od7 an7 : Option Addr} {sl7 : Array (Option Value)} {oc7 kV7 dc7 pm7 cd7 ct7 : Value} {f8 : Addr} {od8 an8 : Option Addr} {sl8 : Array (Option Value)} {oc8 kV8 dc8 pm8 cd8 ct8 : Value} {f9 : Addr} {od9 an9 : Option Addr} {sl9 : Array (Option Value)} {oc9 kV9 dc9 pm9 cd9 ct9 : Value} {f10 : Addr} {od10 an10 : Option Addr} {sl10 : Array (Option Value)} {oc10 kV10 dc10 pm10 cd10 ct10 : Value} {f11 : Addr} {od11 an11 : Option Addr} {sl11 : Array (Option Value)} {oc11 kV11 dc11 pm11 cd11 ct11 : Value} {f12 : Addr} {od12 an12 : Option Addr} {sl12 : Array (Option Value)} {oc12 kV12 dc12 pm12 cd12 ct12 : Value} {f13 : Addr} {od13 an13 : Option Addr} {sl13 : Array (Option Value)} {oc13 kV13 dc13 pm13 cd13 ct13 : Value} {f14 : Addr} {od14 an14 : Option Addr} {sl14 : Array (Option Value)} {oc14 kV14 dc14 pm14 cd14 ct14 : Value} {f15 : Addr} {od15 an15 : Option Addr} {sl15 : Array (Option Value)} {oc15 kV15 dc15 pm15 cd15 ct15 : Value} {f16 : Addr} {od16 an16 : Option Addr} {sl16 : Array (Option Value)} {oc16 kV16 dc16 pm16 cd16 ct16 : Value} {f17 : Addr} {od17 an17 : Option Addr} {sl17 : Array (Option Value)} {oc17 kV17 dc17 pm17 cd17 ct17 : Value} {e0C e0I e0cda e0cc e0N e0m1 : Addr} {e0nm e0q e0qual e0file : Str} {e0bs e0sub : List Value} {e0sn : List Str} {e0ab : Bool} {e0col : Option Bool} {e0dd e0od e0an e0cld e0cdd : Option Addr} {e0k0 e0k1 e0k2 e0k3 e0k5 : Option Value} {e0oc e0doc e0pm e0ct e0cl e0ccl : Value} {e0osl e0csl e0ccs : Array (Option Value)} {e0vs : Array Value} {e0tf : Tok} {e0p1 e0p2 e0q1 e0q2 e0q3 e0q4 e0q5 e0q6 e0q7 e0q8 e0q9 e0q10 : Pos} (X : K.In h) (G : h.Ns mainGlobals mg) (hfa : mg "law" = some (.ref fa))
  (a0 : PySem.W.nsIn K mainGlobals "_law_applied" = some (some (.ref f0))) (l0 : K.lookup f0 = some ⟨oc0, od0, .func (PySem.W.fnOf "_law_applied" "_law_applied" (defArgs s__law_applied) (defBody s__law_applied) (defScope s__law_applied) .none kV0 dc0 pm0 an0 cd0 ct0), sl0⟩) (c0 : PySem.W.codeIn K cd0 "_law_applied" = true) (k0 : PySem.W.keepIn K (.ref f0) = true)
  (a1 : PySem.W.nsIn K mainGlobals "_law_copy" = some (some (.ref f1))) (l1 : K.lookup f1 = some ⟨oc1, od1, .func (PySem.W.fnOf "_law_copy" "_law_copy" (defArgs s__law_copy) (defBody s__law_copy) (defScope s__law_copy) .none kV1 dc1 pm1 an1 cd1 ct1), sl1⟩) (c1 : PySem.W.codeIn K cd1 "_law_copy" = true) (k1 : PySem.W.keepIn K (.ref f1) = true)
  (a2 : PySem.W.nsIn K mainGlobals "_law_draw" = some (some (.ref f2))) (l2 : K.lookup f2 = some ⟨oc2, od2, .func (PySem.W.fnOf "_law_draw" "_law_draw" (defArgs s__law_draw) (defBody s__law_draw) (defScope s__law_draw) .none kV2 dc2 pm2 an2 cd2 ct2), sl2⟩) (c2 : PySem.W.codeIn K cd2 "_law_draw" = true) (k2 : PySem.W.keepIn K (.ref f2) = true)
  (a3 : PySem.W.nsIn K mainGlobals "_law_draws" = some (some (.ref f3))) (l3 : K.lookup f3 = some ⟨oc3, od3, .func (PySem.W.fnOf "_law_draws" "_law_draws" (defArgs s__law_draws) (defBody s__law_draws) (defScope s__law_draws) .none kV3 dc3 pm3 an3 cd3 ct3), sl3⟩) (c3 : PySem.W.codeIn K cd3 "_law_draws" = true) (k3 : PySem.W.keepIn K (.ref f3) = true)
  (a4 : PySem.W.nsIn K mainGlobals "_law_edit" = some (some (.ref f4))) (l4 : K.lookup f4 = some ⟨oc4, od4, .func (PySem.W.fnOf "_law_edit" "_law_edit" (defArgs s__law_edit) (defBody s__law_edit) (defScope s__law_edit) .none kV4 dc4 pm4 an4 cd4 ct4), sl4⟩) (c4 : PySem.W.codeIn K cd4 "_law_edit" = true) (k4 : PySem.W.keepIn K (.ref f4) = true)
  (a5 : PySem.W.nsIn K mainGlobals "_law_edit_of" = some (some (.ref f5))) (l5 : K.lookup f5 = some ⟨oc5, od5, .func (PySem.W.fnOf "_law_edit_of" "_law_edit_of" (defArgs s__law_edit_of) (defBody s__law_edit_of) (defScope s__law_edit_of) .none kV5 dc5 pm5 an5 cd5 ct5), sl5⟩) (c5 : PySem.W.codeIn K cd5 "_law_edit_of" = true) (k5 : PySem.W.keepIn K (.ref f5) = true)
  (a6 : PySem.W.nsIn K mainGlobals "_law_lists" = some (some (.ref f6))) (l6 : K.lookup f6 = some ⟨oc6, od6, .func (PySem.W.fnOf "_law_lists" "_law_lists" (defArgs s__law_lists) (defBody s__law_lists) (defScope s__law_lists) .none kV6 dc6 pm6 an6 cd6 ct6), sl6⟩) (c6 : PySem.W.codeIn K cd6 "_law_lists" = true) (k6 : PySem.W.keepIn K (.ref f6) = true)
  (a7 : PySem.W.nsIn K mainGlobals "_law_kept" = some (some (.ref f7))) (l7 : K.lookup f7 = some ⟨oc7, od7, .func (PySem.W.fnOf "_law_kept" "_law_kept" (defArgs s__law_kept) (defBody s__law_kept) (defScope s__law_kept) .none kV7 dc7 pm7 an7 cd7 ct7), sl7⟩) (c7 : PySem.W.codeIn K cd7 "_law_kept" = true) (k7 : PySem.W.keepIn K (.ref f7) = true)
  (a8 : PySem.W.nsIn K mainGlobals "_law_lines_of" = some (some (.ref f8))) (l8 : K.lookup f8 = some ⟨oc8, od8, .func (PySem.W.fnOf "_law_lines_of" "_law_lines_of" (defArgs s__law_lines_of) (defBody s__law_lines_of) (defScope s__law_lines_of) .none kV8 dc8 pm8 an8 cd8 ct8), sl8⟩) (c8 : PySem.W.codeIn K cd8 "_law_lines_of" = true) (k8 : PySem.W.keepIn K (.ref f8) = true)
  (a9 : PySem.W.nsIn K mainGlobals "_law_same" = some (some (.ref f9))) (l9 : K.lookup f9 = some ⟨oc9, od9, .func (PySem.W.fnOf "_law_same" "_law_same" (defArgs s__law_same) (defBody s__law_same) (defScope s__law_same) .none kV9 dc9 pm9 an9 cd9 ct9), sl9⟩) (c9 : PySem.W.codeIn K cd9 "_law_same" = true) (k9 : PySem.W.keepIn K (.ref f9) = true)
  (a10 : PySem.W.nsIn K mainGlobals "is_number" = some (some (.ref f10))) (l10 : K.lookup f10 = some ⟨oc10, od10, .func (PySem.W.fnOf "is_number" "is_number" (defArgs s_is_number) (defBody s_is_number) (defScope s_is_number) .none kV10 dc10 pm10 an10 cd10 ct10), sl10⟩) (c10 : PySem.W.codeIn K cd10 "is_number" = true) (k10 : PySem.W.keepIn K (.ref f10) = true)
  (a11 : PySem.W.nsIn K mainGlobals "check_edit" = some (some (.ref f11))) (l11 : K.lookup f11 = some ⟨oc11, od11, .func (PySem.W.fnOf "check_edit" "check_edit" (defArgs s_check_edit) (defBody s_check_edit) (defScope s_check_edit) .none kV11 dc11 pm11 an11 cd11 ct11), sl11⟩) (c11 : PySem.W.codeIn K cd11 "check_edit" = true) (k11 : PySem.W.keepIn K (.ref f11) = true)
  (a12 : PySem.W.nsIn K mainGlobals "_law_told" = some (some (.ref f12))) (l12 : K.lookup f12 = some ⟨oc12, od12, .func (PySem.W.fnOf "_law_told" "_law_told" (defArgs s__law_told) (defBody s__law_told) (defScope s__law_told) .none kV12 dc12 pm12 an12 cd12 ct12), sl12⟩) (c12 : PySem.W.codeIn K cd12 "_law_told" = true) (k12 : PySem.W.keepIn K (.ref f12) = true)
  (a13 : PySem.W.nsIn K mainGlobals "applied" = some (some (.ref f13))) (l13 : K.lookup f13 = some ⟨oc13, od13, .func (PySem.W.fnOf "applied" "applied" (defArgs s_applied) (defBody s_applied) (defScope s_applied) .none kV13 dc13 pm13 an13 cd13 ct13), sl13⟩) (c13 : PySem.W.codeIn K cd13 "applied" = true) (k13 : PySem.W.keepIn K (.ref f13) = true)
  (a14 : PySem.W.nsIn K mainGlobals "kept_pairs" = some (some (.ref f14))) (l14 : K.lookup f14 = some ⟨oc14, od14, .func (PySem.W.fnOf "kept_pairs" "kept_pairs" (defArgs s_kept_pairs) (defBody s_kept_pairs) (defScope s_kept_pairs) .none kV14 dc14 pm14 an14 cd14 ct14), sl14⟩) (c14 : PySem.W.codeIn K cd14 "kept_pairs" = true) (k14 : PySem.W.keepIn K (.ref f14) = true)
  (a15 : PySem.W.nsIn K mainGlobals "edit_of" = some (some (.ref f15))) (l15 : K.lookup f15 = some ⟨oc15, od15, .func (PySem.W.fnOf "edit_of" "edit_of" (defArgs s_edit_of) (defBody s_edit_of) (defScope s_edit_of) .none kV15 dc15 pm15 an15 cd15 ct15), sl15⟩) (c15 : PySem.W.codeIn K cd15 "edit_of" = true) (k15 : PySem.W.keepIn K (.ref f15) = true)
  (a16 : PySem.W.nsIn K mainGlobals "undone" = some (some (.ref f16))) (l16 : K.lookup f16 = some ⟨oc16, od16, .func (PySem.W.fnOf "undone" "undone" (defArgs s_undone) (defBody s_undone) (defScope s_undone) .none kV16 dc16 pm16 an16 cd16 ct16), sl16⟩) (c16 : PySem.W.codeIn K cd16 "undone" = true) (k16 : PySem.W.keepIn K (.ref f16) = true)
  (a17 : PySem.W.nsIn K mainGlobals "law" = some (some (.ref f17))) (l17 : K.lookup f17 = some ⟨oc17, od17, .func (PySem.W.fnOf "law" "law" (defArgs s_law) (defBody s_law) (defScope s_law) .none kV17 dc17 pm17 an17 cd17 ct17), sl17⟩) (c17 : PySem.W.codeIn K cd17 "law" = true) (k17 : PySem.W.keepIn K (.ref f17) = true)
  (e0_aC : PySem.W.nsIn K mainGlobals "Wrong" = some (some (.ref e0C))) (e0_xL : K.lookup e0C = some (excClassObj e0nm e0q e0C e0N e0bs [.ref e0m1, .type "ValueError", .type "Exception", .type "BaseException", .type "object"] true e0sn e0sub e0ab e0col e0dd e0k0 e0k1 e0k2 e0k3 e0k5 "ValueError.__new__")) (e0_iC : PySem.W.findIn K (.ref e0C) "__init__" = some (some (.ref e0I))) (e0_lF : K.lookup e0I = some ⟨e0oc, e0od, .func (PySem.W.ksFn "__init__" e0qual (PySem.AtX.iA e0p1 e0p2) (PySem.AtX.iB e0q1 e0q2 e0q3 e0q4 e0q5 e0q6 e0q7 e0q8 e0q9 e0q10) PySem.AtX.iS .none .none e0doc e0pm e0an (.ref e0cda) e0ct e0cc), e0osl⟩) (e0_cF : PySem.W.codeIn K (.ref e0cda) e0qual = true) (e0_lc : K.lookup e0cc = some ⟨e0cl, e0cld, .cell (some (.ref e0m1)), e0csl⟩) (e0_ld : K.lookup e0cda = some ⟨e0ccl, e0cdd, .fields e0vs, e0ccs⟩) (e0_vs2 : e0vs[2]? = some (.str e0file e0tf)) (e0_fl : ((l.prog.main.file : Str) == e0file) = true) (e0_ln : (e0q3.endLine == e0q5.line) = true) (e0_sI : PySem.W.ks_superIn K e0C e0m1 "__init__" = some (some (.builtin "ValueError.__init__"))) (e0_dD : PySem.W.isClsIn K e0m1 = true) (e0_sD : PySem.W.mroIn K e0C (.ref e0m1) = some true) (e0_sV : PySem.W.subIn K (.ref e0C) (.type "ValueError") = some true) (e0_sa : PySem.W.findIn K (.ref e0C) "__setattr__" = some (some (.builtin "object.__setattr__"))) (e0_ga : PySem.W.findIn K (.ref e0C) "__getattribute__" = some (some (.builtin "BaseException.__getattribute__"))) (e0_gg : PySem.W.findIn K (.ref e0C) "__getattr__" = some none) (e0_nb : PySem.W.findIn K (.ref e0C) "at" = some none) (e0_tF : PySem.W.typeIn K (.ref e0I) = some (.type "function")) (e0_kC : PySem.W.keepIn K (.ref e0C) = true) (e0_eC : PySem.W.subIn K (.ref e0C) (.type "BaseException") = some true) (e0_tC : PySem.W.typeIn K (.ref e0C) = some (.type "type")) (e0_hC : PySem.W.hasDictIn K e0C = true) (e0_icC : PySem.W.isClsIn K e0C = true) (e0_sC : PySem.W.subIn K (.ref e0C) (.ref e0C) = some true) (e0_ny : PySem.W.nsIn K cStatics "thirdparty.any" = some none) (e0_gS : PySem.W.nsIn K mainGlobals "super" = some none) (e0_tp : (l.prog.main.scope.names.lookup ("super" : Str)).isSome = false)
  (z0 : PySem.W.nsIn K mainGlobals "all" = some none)
  (z1 : PySem.W.nsIn K mainGlobals "any" = some none)
  (z2 : PySem.W.nsIn K mainGlobals "bool" = some none)
  (z3 : PySem.W.nsIn K mainGlobals "dict" = some none)
  (z4 : PySem.W.nsIn K mainGlobals "int" = some none)
  (z5 : PySem.W.nsIn K mainGlobals "isinstance" = some none)
  (z6 : PySem.W.nsIn K mainGlobals "len" = some none)
  (z7 : PySem.W.nsIn K mainGlobals "list" = some none)
  (z8 : PySem.W.nsIn K mainGlobals "max" = some none)
  (z9 : PySem.W.nsIn K mainGlobals "min" = some none)
  (z10 : PySem.W.nsIn K mainGlobals "range" = some none)
  (z11 : PySem.W.nsIn K mainGlobals "str" = some none)
  (z12 : PySem.W.nsIn K mainGlobals "tuple" = some none) :
    ∃ fd : FuncData, (∀ (s : Shared) (v : Value), BindsTo s fd ⟨[v], []⟩ [("script", v)]) ∧ ∀ base : Heap, K.In base → base.Ns mainGlobals mg → FnOk l.prog w K mg base CX0 41 fa fd ["script"] (spM K m_law 1) := by
  have e := hfa.symm.trans (PySem.W.mg_of X G a17)
  cases e
  let T : Txt l.prog K mg := {
    a__law_applied := f0, d__law_applied := _, F__law_applied := fun_mk (st := s__law_applied) l0 c0 k0, m__law_applied := PySem.W.mg_of X G a0, b__law_applied := (fun_mk (st := s__law_applied) l0 c0 k0).binds (ps := ["lines", "edit"]) (fun _ _ _ _ _ _ us hl => (match us, hl with | [_, _], _ => rfl)),
    a__law_copy := f1, d__law_copy := _, F__law_copy := fun_mk (st := s__law_copy) l1 c1 k1, m__law_copy := PySem.W.mg_of X G a1, b__law_copy := (fun_mk (st := s__law_copy) l1 c1 k1).binds (ps := ["thing"]) (fun _ _ _ _ _ _ us hl => (match us, hl with | [_], _ => rfl)),
    a__law_draw := f2, d__law_draw := _, F__law_draw := fun_mk (st := s__law_draw) l2 c2 k2, m__law_draw := PySem.W.mg_of X G a2, b__law_draw := (fun_mk (st := s__law_draw) l2 c2 k2).binds (ps := ["draws", "limit"]) (fun _ _ _ _ _ _ us hl => (match us, hl with | [_, _], _ => rfl)),
    a__law_draws := f3, d__law_draws := _, F__law_draws := fun_mk (st := s__law_draws) l3 c3 k3, m__law_draws := PySem.W.mg_of X G a3, b__law_draws := (fun_mk (st := s__law_draws) l3 c3 k3).binds (ps := ["script"]) (fun _ _ _ _ _ _ us hl => (match us, hl with | [_], _ => rfl)),
    a__law_edit := f4, d__law_edit := _, F__law_edit := fun_mk (st := s__law_edit) l4 c4 k4, m__law_edit := PySem.W.mg_of X G a4, b__law_edit := (fun_mk (st := s__law_edit) l4 c4 k4).binds (ps := ["draws", "lines"]) (fun _ _ _ _ _ _ us hl => (match us, hl with | [_, _], _ => rfl)),
    a__law_edit_of := f5, d__law_edit_of := _, F__law_edit_of := fun_mk (st := s__law_edit_of) l5 c5 k5, m__law_edit_of := PySem.W.mg_of X G a5, b__law_edit_of := (fun_mk (st := s__law_edit_of) l5 c5 k5).binds (ps := ["lines", "other", "pairs"]) (fun _ _ _ _ _ _ us hl => (match us, hl with | [_, _, _], _ => rfl)),
    a__law_lists := f6, d__law_lists := _, F__law_lists := fun_mk (st := s__law_lists) l6 c6 k6, m__law_lists := PySem.W.mg_of X G a6, b__law_lists := (fun_mk (st := s__law_lists) l6 c6 k6).binds (ps := ["many"]) (fun _ _ _ _ _ _ us hl => (match us, hl with | [_], _ => rfl)),
    a__law_kept := f7, d__law_kept := _, F__law_kept := fun_mk (st := s__law_kept) l7 c7 k7, m__law_kept := PySem.W.mg_of X G a7, b__law_kept := (fun_mk (st := s__law_kept) l7 c7 k7).binds (ps := ["lines", "other"]) (fun _ _ _ _ _ _ us hl => (match us, hl with | [_, _], _ => rfl)),
    a__law_lines_of := f8, d__law_lines_of := _, F__law_lines_of := fun_mk (st := s__law_lines_of) l8 c8 k8, m__law_lines_of := PySem.W.mg_of X G a8, b__law_lines_of := (fun_mk (st := s__law_lines_of) l8 c8 k8).binds (ps := ["draws", "many"]) (fun _ _ _ _ _ _ us hl => (match us, hl with | [_, _], _ => rfl)),
    a__law_same := f9, d__law_same := _, F__law_same := fun_mk (st := s__law_same) l9 c9 k9, m__law_same := PySem.W.mg_of X G a9, b__law_same := (fun_mk (st := s__law_same) l9 c9 k9).binds (ps := ["x", "due"]) (fun _ _ _ _ _ _ us hl => (match us, hl with | [_, _], _ => rfl)),
    a_is_number := f10, d_is_number := _, F_is_number := fun_mk (st := s_is_number) l10 c10 k10, m_is_number := PySem.W.mg_of X G a10, b_is_number := (fun_mk (st := s_is_number) l10 c10 k10).binds (ps := ["thing"]) (fun _ _ _ _ _ _ us hl => (match us, hl with | [_], _ => rfl)),
    a_check_edit := f11, d_check_edit := _, F_check_edit := fun_mk (st := s_check_edit) l11 c11 k11, m_check_edit := PySem.W.mg_of X G a11, b_check_edit := (fun_mk (st := s_check_edit) l11 c11 k11).binds (ps := ["edit", "many"]) (fun _ _ _ _ _ _ us hl => (match us, hl with | [_, _], _ => rfl)),
    a__law_told := f12, d__law_told := _, F__law_told := fun_mk (st := s__law_told) l12 c12 k12, m__law_told := PySem.W.mg_of X G a12, b__law_told := (fun_mk (st := s__law_told) l12 c12 k12).binds (ps := ["edit", "many"]) (fun _ _ _ _ _ _ us hl => (match us, hl with | [_, _], _ => rfl)),
    a_applied := f13, d_applied := _, F_applied := fun_mk (st := s_applied) l13 c13 k13, m_applied := PySem.W.mg_of X G a13, b_applied := (fun_mk (st := s_applied) l13 c13 k13).binds (ps := ["lines", "edit"]) (fun _ _ _ _ _ _ us hl => (match us, hl with | [_, _], _ => rfl)),
    a_kept_pairs := f14, d_kept_pairs := _, F_kept_pairs := fun_mk (st := s_kept_pairs) l14 c14 k14, m_kept_pairs := PySem.W.mg_of X G a14, b_kept_pairs := (fun_mk (st := s_kept_pairs) l14 c14 k14).binds (ps := ["lines", "other"]) (fun _ _ _ _ _ _ us hl => (match us, hl with | [_, _], _ => rfl)),
    a_edit_of := f15, d_edit_of := _, F_edit_of := fun_mk (st := s_edit_of) l15 c15 k15, m_edit_of := PySem.W.mg_of X G a15, b_edit_of := (fun_mk (st := s_edit_of) l15 c15 k15).binds (ps := ["lines", "other"]) (fun _ _ _ _ _ _ us hl => (match us, hl with | [_, _], _ => rfl)),
    a_undone := f16, d_undone := _, F_undone := fun_mk (st := s_undone) l16 c16 k16, m_undone := PySem.W.mg_of X G a16, b_undone := (fun_mk (st := s_undone) l16 c16 k16).binds (ps := ["lines", "edit"]) (fun _ _ _ _ _ _ us hl => (match us, hl with | [_, _], _ => rfl)),
    a_law := fa, d_law := _, F_law := fun_mk (st := s_law) l17 c17 k17, m_law := PySem.W.mg_of X G a17, b_law := (fun_mk (st := s_law) l17 c17 k17).binds (ps := ["script"]) (fun _ _ _ _ _ _ us hl => (match us, hl with | [_], _ => rfl)),
    C_Wrong := _, D_Wrong := _, i_Wrong := _, x_Wrong := PySem.AtX.mk_txt X G e0_aC e0_xL (by rfl) e0_lF e0_cF e0_lc e0_ld e0_vs2 e0_fl e0_ln e0_sI e0_dD e0_sD e0_sV e0_sa e0_ga e0_gg e0_nb e0_iC e0_tF e0_kC e0_eC e0_tC e0_hC e0_icC e0_sC e0_ny e0_gS e0_tp,
    z_all := PySem.W.mg_none_of X G z0,
    z_any := PySem.W.mg_none_of X G z1,
    z_bool := PySem.W.mg_none_of X G z2,
    z_dict := PySem.W.mg_none_of X G z3,
    z_int := PySem.W.mg_none_of X G z4,
    z_isinstance := PySem.W.mg_none_of X G z5,
    z_len := PySem.W.mg_none_of X G z6,
    z_list := PySem.W.mg_none_of X G z7,
    z_max := PySem.W.mg_none_of X G z8,
    z_min := PySem.W.mg_none_of X G z9,
    z_range := PySem.W.mg_none_of X G z10,
    z_str := PySem.W.mg_none_of X G z11,
    z_tuple := PySem.W.mg_none_of X G z12 }
  refine ⟨PySem.W.fnOf "law" "law" (defArgs s_law) (defBody s_law) (defScope s_law) .none kV17 dc17 pm17 an17 cd17 ct17, fun s v => .of_eq rfl, fun base _ _ => ?_⟩
  have G__law_applied := ok__law_applied (P := l.prog) (w := w) (base := base) T  
  have G__law_copy := ok__law_copy (P := l.prog) (w := w) (base := base) T  40
  have G__law_draw := ok__law_draw (P := l.prog) (w := w) (base := base) T  
  have G__law_draws := ok__law_draws (P := l.prog) (w := w) (base := base) T  
  have G__law_edit := ok__law_edit (P := l.prog) (w := w) (base := base) T G__law_draw 
  have G__law_edit_of := ok__law_edit_of (P := l.prog) (w := w) (base := base) T  
  have G__law_lists := ok__law_lists (P := l.prog) (w := w) (base := base) T  
  have G__law_kept := ok__law_kept (P := l.prog) (w := w) (base := base) T G__law_lists 
  have G__law_lines_of := ok__law_lines_of (P := l.prog) (w := w) (base := base) T G__law_draw 
  have G__law_same := ok__law_same (P := l.prog) (w := w) (base := base) T  40
  have G_is_number := ok_is_number (P := l.prog) (w := w) (base := base) T  
  have G_check_edit := ok_check_edit (P := l.prog) (w := w) (base := base) T G_is_number 
  have G__law_told := ok__law_told (P := l.prog) (w := w) (base := base) T G_check_edit 
  have G_applied := ok_applied (P := l.prog) (w := w) (base := base) T G_check_edit 
  have G_kept_pairs := ok_kept_pairs (P := l.prog) (w := w) (base := base) T  
  have G_edit_of := ok_edit_of (P := l.prog) (w := w) (base := base) T G_kept_pairs 
  have G_undone := ok_undone (P := l.prog) (w := w) (base := base) T G_check_edit 
  have G_law := ok_law (P := l.prog) (w := w) (base := base) T G__law_applied G__law_copy G__law_draw G__law_draws G__law_edit G__law_edit_of G__law_kept G__law_lines_of G__law_same G__law_told G_applied G_edit_of G_kept_pairs G_undone 
  exact G_law
end NS

set_option Elab.async false
set_option linter.all false
set_option maxRecDepth 100000
set_option maxHeartbeats 4000000
open PySem PySem.W PyProof.Rows
set_option maxHeartbeats 0 in
theorem PySem.Challenge.cw_routesrest_k22_edits_done_and_undone_holds : PySem.Challenge.rw_routesrest_k22_edits_done_and_undone.Holds := by
  w_on; o_law; k_head; (case hw => w_witness2)
  k_fill
  refine L2.walk_of (l := PySem.Challenge.rw_routesrest_k22_edits_done_and_undone) (n := 63) (k := 41) (x := "script") (CX := fun _ => L2.CX0) (sp := fun w => Pd.spM _ NS.m_law 1) rfl (by decide) rfl ⟨rfl, by decide, by decide⟩ (fun w h Y => PySem.W.kIn_of Y) ?F (fun _ _ a ns hl hO hS => Pd.law_of (NS.law_true ns hl) hO hS) (fun _ _ _ _ _ h => h)
  case F =>
    intro w mg fa h KX G hmg
    refine' NS.all_mk KX G hmg ?a0 ?l0 ?c0 ?k0 ?a1 ?l1 ?c1 ?k1 ?a2 ?l2 ?c2 ?k2 ?a3 ?l3 ?c3 ?k3 ?a4 ?l4 ?c4 ?k4 ?a5 ?l5 ?c5 ?k5 ?a6 ?l6 ?c6 ?k6 ?a7 ?l7 ?c7 ?k7 ?a8 ?l8 ?c8 ?k8 ?a9 ?l9 ?c9 ?k9 ?a10 ?l10 ?c10 ?k10 ?a11 ?l11 ?c11 ?k11 ?a12 ?l12 ?c12 ?k12 ?a13 ?l13 ?c13 ?k13 ?a14 ?l14 ?c14 ?k14 ?a15 ?l15 ?c15 ?k15 ?a16 ?l16 ?c16 ?k16 ?a17 ?l17 ?c17 ?k17 ?e0_aC ?e0_xL ?e0_iC ?e0_lF ?e0_cF ?e0_lc ?e0_ld ?e0_vs2 ?e0_fl ?e0_ln ?e0_sI ?e0_dD ?e0_sD ?e0_sV ?e0_sa ?e0_ga ?e0_gg ?e0_nb ?e0_tF ?e0_kC ?e0_eC ?e0_tC ?e0_hC ?e0_icC ?e0_sC ?e0_ny ?e0_gS ?e0_tp ?z0 ?z1 ?z2 ?z3 ?z4 ?z5 ?z6 ?z7 ?z8 ?z9 ?z10 ?z11 ?z12
    (case a0 => k_is); (case l0 => k_is); (case c0 => k_is); (case k0 => k_is); (case a1 => k_is); (case l1 => k_is); (case c1 => k_is); (case k1 => k_is); (case a2 => k_is); (case l2 => k_is); (case c2 => k_is); (case k2 => k_is); (case a3 => k_is); (case l3 => k_is); (case c3 => k_is); (case k3 => k_is); (case a4 => k_is); (case l4 => k_is); (case c4 => k_is); (case k4 => k_is); (case a5 => k_is); (case l5 => k_is); (case c5 => k_is); (case k5 => k_is); (case a6 => k_is); (case l6 => k_is); (case c6 => k_is); (case k6 => k_is); (case a7 => k_is); (case l7 => k_is); (case c7 => k_is); (case k7 => k_is); (case a8 => k_is); (case l8 => k_is); (case c8 => k_is); (case k8 => k_is); (case a9 => k_is); (case l9 => k_is); (case c9 => k_is); (case k9 => k_is); (case a10 => k_is); (case l10 => k_is); (case c10 => k_is); (case k10 => k_is); (case a11 => k_is); (case l11 => k_is); (case c11 => k_is); (case k11 => k_is); (case a12 => k_is); (case l12 => k_is); (case c12 => k_is); (case k12 => k_is); (case a13 => k_is); (case l13 => k_is); (case c13 => k_is); (case k13 => k_is); (case a14 => k_is); (case l14 => k_is); (case c14 => k_is); (case k14 => k_is); (case a15 => k_is); (case l15 => k_is); (case c15 => k_is); (case k15 => k_is); (case a16 => k_is); (case l16 => k_is); (case c16 => k_is); (case k16 => k_is); (case a17 => k_is); (case l17 => k_is); (case c17 => k_is); (case k17 => k_is); (case e0_aC => k_is); (case e0_xL => k_is); (case e0_iC => k_is); (case e0_lF => k_is); (case e0_cF => k_is); (case e0_lc => k_is); (case e0_ld => k_is); (case e0_vs2 => first | rfl | decide +kernel | kernel_rfl); (case e0_fl => first | rfl | decide +kernel | kernel_rfl); (case e0_ln => first | rfl | decide +kernel | kernel_rfl); (case e0_sI => ks_is); (case e0_dD => k_is); (case e0_sD => k_is); (case e0_sV => k_is); (case e0_sa => k_is); (case e0_ga => k_is); (case e0_gg => k_is); (case e0_nb => k_is); (case e0_tF => k_is); (case e0_kC => k_is); (case e0_eC => k_is); (case e0_tC => k_is); (case e0_hC => k_is); (case e0_icC => k_is); (case e0_sC => k_is); (case e0_ny => k_is); (case e0_gS => k_is); (case e0_tp => first | rfl | decide +kernel | kernel_rfl); (case z0 => k_is); (case z1 => k_is); (case z2 => k_is); (case z3 => k_is); (case z4 => k_is); (case z5 => k_is); (case z6 => k_is); (case z7 => k_is); (case z8 => k_is); (case z9 => k_is); (case z10 => k_is); (case z11 => k_is); (case z12 => k_is)

