import PyProof.Rows.All
import Wide.All
import OpenK.AllK
import Wide.FinOn
import HandS.ForMost
import HandS.Conv
import HandS.Deep
import HandS.TupAny
import HandS.Wide
import HandS.TupLe
import HandS.IsInst
import HandS.Iter
import KE.KxField
import HandS.FStr
import PySem.Challenge.RW_routesrest_k42_whole_fates_of_packets
set_option Elab.async false
set_option linter.all false
set_option maxRecDepth 100000
set_option maxHeartbeats 1000000

/-! The layer Pd, part A: data, the store, the relation. -/
namespace Pd
open PySem PySem.Spec PyProof.Rows L2

def keyD : Key → PyData
  | .inl i => .int i
  | .inr x => .str x

mutual
/-- the frozen heap F holds the data d at v -/
inductive Fz (K : PySem.W.Frag) (F : Hp) : V → PyData → Prop
  | non : Fz K F .non .none
  | bl (b : Bool) : Fz K F (.bl b) (.bool b)
  | int (i : Int) : Fz K F (.int i) (.int i)
  | str (x : Str) : Fz K F (.str x) (.str x)
  | lst {a : Addr} {xs : List V} {ds : List PyData} : SqL K F a xs → FzA K F xs ds → Fz K F (.ref a) (.list ds)
  | tup {a : Addr} {xs : List V} {ds : List PyData} : F a = some (.tup xs) → FzA K F xs ds → Fz K F (.ref a) (.tuple ds)
  | dK {a : Addr} {ks : List Key} {xs : List V} {ds : List PyData} : Rd F a (.dK (ks.zip xs)) → ks.length = xs.length → FzA K F xs ds → Fz K F (.ref a) (.dict ((ks.map keyD).zip ds))
  | dT {a : Addr} {ks : List (List Key)} {xs : List V} {ds : List PyData} : F a = some (.dT (ks.zip xs)) → ks.length = xs.length → ks ≠ [] → FzA K F xs ds → Fz K F (.ref a) (.dict ((ks.map fun k => .tuple (k.map keyD)).zip ds))
inductive FzA (K : PySem.W.Frag) (F : Hp) : List V → List PyData → Prop
  | nil : FzA K F [] []
  | cons {v : V} {vs : List V} {d : PyData} {ds : List PyData} : Fz K F v d → FzA K F vs ds → FzA K F (v :: vs) (d :: ds)
end

theorem FzA.length {K : PySem.W.Frag} {F : Hp} : ∀ {vs : List V} {ds : List PyData}, FzA K F vs ds → vs.length = ds.length
  | _, _, .nil => rfl
  | _, _, .cons _ t => congrArg (· + 1) (FzA.length t)
theorem FzA.append {K : PySem.W.Frag} {F : Hp} : ∀ {vs ws : List V} {ds es : List PyData}, FzA K F vs ds → FzA K F ws es → FzA K F (vs ++ ws) (ds ++ es)
  | _, _, _, _, .nil, h => h
  | _, _, _, _, .cons a t, h => .cons a (FzA.append t h)
theorem FzA.get {K : PySem.W.Frag} {F : Hp} : ∀ {vs : List V} {ds : List PyData} {i : Nat} {v : V}, FzA K F vs ds → vs[i]? = some v → ∃ d, ds[i]? = some d ∧ Fz K F v d
  | _, _, i, _, .nil, e => by simp at e
  | _, _, 0, _, .cons a _, e => by simp at e; subst e; exact ⟨_, rfl, a⟩
  | _, _, i + 1, _, .cons _ t, e => by
    obtain ⟨d, h1, h2⟩ := FzA.get (i := i) t (by simpa using e)
    exact ⟨d, by simpa using h1, h2⟩
theorem FzA.getD {K : PySem.W.Frag} {F : Hp} : ∀ {vs : List V} {ds : List PyData} {i : Nat} {d : PyData}, FzA K F vs ds → ds[i]? = some d → ∃ v, vs[i]? = some v ∧ Fz K F v d
  | _, _, i, _, .nil, e => by simp at e
  | _, _, 0, _, .cons a _, e => by simp at e; subst e; exact ⟨_, rfl, a⟩
  | _, _, i + 1, _, .cons _ t, e => by
    obtain ⟨d, h1, h2⟩ := FzA.getD (i := i) t (by simpa using e)
    exact ⟨d, by simpa using h1, h2⟩
theorem FzA.take {K : PySem.W.Frag} {F : Hp} : ∀ {vs : List V} {ds : List PyData} (n : Nat), FzA K F vs ds → FzA K F (vs.take n) (ds.take n)
  | _, _, 0, _ => .nil
  | _, _, _ + 1, .nil => .nil
  | _, _, n + 1, .cons a t => .cons a (FzA.take n t)
theorem FzA.drop {K : PySem.W.Frag} {F : Hp} : ∀ {vs : List V} {ds : List PyData} (n : Nat), FzA K F vs ds → FzA K F (vs.drop n) (ds.drop n)
  | _, _, 0, h => h
  | _, _, _ + 1, .nil => .nil
  | _, _, n + 1, .cons _ t => FzA.drop n t

/-- F is a part of the heap (a dict may be locked) -/
def IsDct : HO → Bool
  | .dK _ => true
  | _ => false
def Sub (F H : Hp) : Prop := ∀ a u, F a = some u → H a = some u ∨ (IsDct u = true ∧ ∃ o, H a = some (.frz o u))
/-- .. it grows; a dict may get locked, for good -/
def Le (F G : Hp) : Prop := ∀ a u, F a = some u → G a = some u ∨ (IsDct u = true ∧ ∃ o, G a = some (.frz o u))
theorem Le.refl (F : Hp) : Le F F := fun _ _ h => .inl h
theorem Le.trans {F G J : Hp} (a : Le F G) (b : Le G J) : Le F J := fun x u h => by
  rcases a x u h with e | ⟨n, o, e⟩
  · exact b x u e
  · rcases b x _ e with e | ⟨n', _⟩
    · exact .inr ⟨n, o, e⟩
    · cases n'
theorem Le.frz {F G : Hp} (s : Le F G) {a : Addr} {o : Obj} {u : HO} (h : F a = some (.frz o u)) : G a = some (.frz o u) := by
  rcases s a _ h with e | ⟨n, _⟩
  · exact e
  · cases n
theorem Le.tup {F G : Hp} (s : Le F G) {a : Addr} {xs : List V} (h : F a = some (.tup xs)) : G a = some (.tup xs) := by
  rcases s a _ h with e | ⟨n, _⟩
  · exact e
  · cases n
theorem Sub.rd {F H : Hp} (s : Sub F H) {a : Addr} {u : HO} (hu : ∀ o x, u ≠ .frz o x) (h : Rd F a u) : Rd H a u := by
  rcases h with h | ⟨o, h⟩
  · rcases s a u h with e | ⟨_, o, e⟩
    · exact .inl e
    · exact .inr ⟨o, e⟩
  · rcases s a _ h with e | ⟨n, _⟩
    · exact .inr ⟨o, e⟩
    · cases n
theorem Sub.sqL {K : PySem.W.Frag} {F H : Hp} (s : Sub F H) {a : Addr} {xs : List V} (h : SqL K F a xs) : SqL K H a xs := by
  rcases h with h | h
  · exact .inl (s.rd (fun _ _ z => by cases z) h)
  · exact .inr h
theorem Sub.tup {F H : Hp} (s : Sub F H) {a : Addr} {xs : List V} (h : F a = some (.tup xs)) : H a = some (.tup xs) := by
  rcases s a _ h with e | ⟨n, _⟩
  · exact e
  · cases n
theorem Le.dt {F G : Hp} (s : Le F G) {a : Addr} {xs : List (List Key × V)} (h : F a = some (.dT xs)) : G a = some (.dT xs) := by
  rcases s a _ h with e | ⟨n, _⟩
  · exact e
  · cases n
theorem Le.rd {F H : Hp} (s : Le F H) {a : Addr} {u : HO} (h : Rd F a u) : Rd H a u := by
  rcases h with h | ⟨o, h⟩
  · rcases s _ _ h with e | ⟨_, o, e⟩
    · exact .inl e
    · exact .inr ⟨o, e⟩
  · exact .inr ⟨o, s.frz h⟩
theorem Le.sqL {K : PySem.W.Frag} {F H : Hp} (s : Le F H) {a : Addr} {xs : List V} (h : SqL K F a xs) : SqL K H a xs := by
  rcases h with h | h
  · exact .inl (s.rd h)
  · exact .inr h
mutual
theorem Fz.mono {K : PySem.W.Frag} {F G : Hp} (l : Le F G) : ∀ {v : V} {d : PyData}, Fz K F v d → Fz K G v d
  | _, _, .non => .non
  | _, _, .bl b => .bl b
  | _, _, .int i => .int i
  | _, _, .str x => .str x
  | _, _, .lst h t => .lst (l.sqL h) (FzA.mono l t)
  | _, _, .tup h t => .tup (l.tup h) (FzA.mono l t)
  | _, _, .dK h e t => .dK (l.rd h) e (FzA.mono l t)
  | _, _, .dT h e n t => .dT (l.dt h) e n (FzA.mono l t)
theorem FzA.mono {K : PySem.W.Frag} {F G : Hp} (l : Le F G) : ∀ {v : List V} {d : List PyData}, FzA K F v d → FzA K G v d
  | _, _, .nil => .nil
  | _, _, .cons a t => .cons (Fz.mono l a) (FzA.mono l t)
end
mutual
theorem Fz.dp {K : PySem.W.Frag} {F H : Hp} (s : Sub F H) : ∀ {v : V} {d : PyData}, Fz K F v d → d.canLay0 = true → Dp K H v d
  | _, _, .non, _ => .non
  | _, _, .bl b, _ => .bl b
  | _, _, .int i, _ => .int i
  | _, _, .str x, _ => .str x
  | _, _, .lst h t, e => .lst (s.sqL h) (FzA.dp s t (by simpa [PyData.canLay0] using e))
  | _, _, .tup h t, e => .tup (.inl (.inl (s.tup h))) (FzA.dp s t (by simpa [PyData.canLay0] using e))
  | _, _, .dK h _ t, e => by simp [PyData.canLay0] at e
  | _, _, .dT h _ _ t, e => by simp [PyData.canLay0] at e
theorem FzA.dp {K : PySem.W.Frag} {F H : Hp} (s : Sub F H) : ∀ {v : List V} {d : List PyData}, FzA K F v d → PyData.canLayAll0 d = true → DpAll K H v d
  | _, _, .nil, _ => .nil
  | _, _, .cons a t, e => by
    simp only [PyData.canLayAll0, Bool.and_eq_true] at e
    exact .cons (Fz.dp s a e.1) (FzA.dp s t e.2)
end

/-! ### the store of what may change -/
/-- a value of the mirror: data that never changes, or the k-th cell -/
inductive SV where
  | fz (d : PyData)
  | ptr (k : Nat)
  /-- (a loop's own) a dict that stays locked -/
  | lk (a : Addr) (o : Obj) (u : HO)
inductive Cell where
  | fz (d : PyData)
  | lst (l : List SV)
  | dK (l : List (Key × SV))
  | dT (l : List (List Key × SV))
abbrev Store := List Cell

def SVR (K : PySem.W.Frag) (F : Hp) (ad : List Addr) : V → SV → Prop
  | v, .fz d => Fz K F v d
  | v, .ptr k => ∃ a, ad[k]? = some a ∧ v = .ref a
  | _, .lk a o u => F a = some (.frz o u)
inductive SVA (K : PySem.W.Frag) (F : Hp) (ad : List Addr) : List V → List SV → Prop
  | nil : SVA K F ad [] []
  | cons {v : V} {vs : List V} {d : SV} {ds : List SV} : SVR K F ad v d → SVA K F ad vs ds → SVA K F ad (v :: vs) (d :: ds)
def CellR (K : PySem.W.Frag) (F H : Hp) (ad : List Addr) (a : Addr) : Cell → Prop
  | .fz d => Fz K F (.ref a) d
  | .lst l => F a = none ∧ ∃ xs, H a = some (.lst xs) ∧ SVA K F ad xs l
  | .dK l => F a = none ∧ ∃ xs, H a = some (.dK ((l.map (·.1)).zip xs)) ∧ SVA K F ad xs (l.map (·.2))
  | .dT l => F a = none ∧ ∃ xs, H a = some (.dT ((l.map (·.1)).zip xs)) ∧ SVA K F ad xs (l.map (·.2))

theorem SVA.length {K : PySem.W.Frag} {F : Hp} {ad : List Addr} : ∀ {vs : List V} {ds : List SV}, SVA K F ad vs ds → vs.length = ds.length
  | _, _, .nil => rfl
  | _, _, .cons _ t => congrArg (· + 1) (SVA.length t)
theorem SVA.append {K : PySem.W.Frag} {F : Hp} {ad : List Addr} : ∀ {vs ws : List V} {ds es : List SV}, SVA K F ad vs ds → SVA K F ad ws es → SVA K F ad (vs ++ ws) (ds ++ es)
  | _, _, _, _, .nil, h => h
  | _, _, _, _, .cons a t, h => .cons a (SVA.append t h)
theorem SVA.get {K : PySem.W.Frag} {F : Hp} {ad : List Addr} : ∀ {vs : List V} {ds : List SV} {i : Nat} {d : SV}, SVA K F ad vs ds → ds[i]? = some d → ∃ v, vs[i]? = some v ∧ SVR K F ad v d
  | _, _, i, _, .nil, e => by simp at e
  | _, _, 0, _, .cons a _, e => by simp at e; subst e; exact ⟨_, rfl, a⟩
  | _, _, i + 1, _, .cons _ t, e => by
    obtain ⟨d, h1, h2⟩ := SVA.get (i := i) t (by simpa using e)
    exact ⟨d, by simpa using h1, h2⟩
theorem SVA.set {K : PySem.W.Frag} {F : Hp} {ad : List Addr} {v : V} {d : SV} (h : SVR K F ad v d) : ∀ {vs : List V} {ds : List SV} (i : Nat), SVA K F ad vs ds → SVA K F ad (vs.set i v) (ds.set i d)
  | _, _, _, .nil => .nil
  | _, _, 0, .cons _ t => .cons h t
  | _, _, i + 1, .cons a t => .cons a (SVA.set h i t)
theorem SVA.dropLast {K : PySem.W.Frag} {F : Hp} {ad : List Addr} {vs : List V} {ds : List SV} (h : SVA K F ad vs ds) : SVA K F ad vs.dropLast ds.dropLast := by
  induction h with
  | nil => exact .nil
  | cons a t ih =>
    cases t with
    | nil => exact .nil
    | cons b t => exact .cons a ih

/-- pointers grow, the frozen part grows -/
def Pre (ad ad' : List Addr) : Prop := ∀ (k : Nat) (a : Addr), ad[k]? = some a → ad'[k]? = some a
theorem Pre.refl (ad : List Addr) : Pre ad ad := fun _ _ h => h
theorem Pre.push (ad : List Addr) (a : Addr) : Pre ad (ad ++ [a]) := fun k b h => by
  have hk : k < ad.length := (List.getElem?_eq_some_iff.mp h).1
  rw [List.getElem?_append_left hk]; exact h
theorem SVR.mono {K : PySem.W.Frag} {F G : Hp} {ad ad' : List Addr} (l : Le F G) (p : Pre ad ad') {v : V} : ∀ {s : SV}, SVR K F ad v s → SVR K G ad' v s
  | .fz _, h => Fz.mono l h
  | .ptr _, ⟨a, h1, h2⟩ => ⟨a, p _ _ h1, h2⟩
  | .lk a o u, h => by
    have h1 : F a = some (.frz o u) := h
    have h2 : G a = some (.frz o u) := l.frz h1
    exact h2
theorem SVA.mono {K : PySem.W.Frag} {F G : Hp} {ad ad' : List Addr} (l : Le F G) (p : Pre ad ad') : ∀ {vs : List V} {ds : List SV}, SVA K F ad vs ds → SVA K G ad' vs ds
  | _, _, .nil => .nil
  | _, _, .cons a t => .cons (a.mono l p) (SVA.mono l p t)

/-- the cells that a cell points to -/
def SV.ps : SV → List Nat
  | .fz _ => []
  | .ptr k => [k]
  | .lk _ _ _ => []
def Cell.ps : Cell → List Nat
  | .fz _ => []
  | .lst l => l.flatMap SV.ps
  | .dK l => l.flatMap fun p => p.2.ps
  | .dT l => l.flatMap fun p => p.2.ps

/-- the slots of a def: b, the length of the store at its entry; sl, what each name holds -/
structure EV where
  b : Nat
  sl : List (Option SV)
def SlR (K : PySem.W.Frag) (F : Hp) (ad : List Addr) (sl : List (Option SV)) (σ : L2.St) : Prop :=
  σ.length = sl.length ∧ ∀ (i : Nat) (s : SV), sl[i]? = some (some s) → ∃ v, σ[i]? = some (some v) ∧ SVR K F ad v s
/-- the entries' lengths of the defs that run: bs, the newest first -/
structure Bas (bs : List Nat) (P : Store) : Prop where
  le : ∀ c ∈ bs, c ≤ P.length
  low : ∀ c ∈ bs, ∀ (k : Nat) (x : Cell), k < c → P[k]? = some x → ∀ j ∈ x.ps, j < c

structure RelX (K : PySem.W.Frag) (bs : List Nat) (ρ : EV) (σ : L2.St) (os : List SV) (vs : List V) (P : Store) (H F : Hp) (ad : List Addr) : Prop where
  sub : Sub F H
  len : ad.length = P.length
  nd : ad.Nodup
  there : ∀ a ∈ ad, ∃ o, H a = some o
  cells : ∀ (k : Nat) (c : Cell) (a : Addr), P[k]? = some c → ad[k]? = some a → CellR K F H ad a c
  slots : SlR K F ad ρ.sl σ
  tops : SVA K F ad vs os
  bas : Bas bs P
  bb : ∀ c ∈ bs, c ≤ ρ.b
def Rel (K : PySem.W.Frag) (bs : List Nat) (ρ : EV) (σ : L2.St) (os : List SV) (vs : List V) (P : Store) (H : Hp) : Prop := ∃ F ad, RelX K bs ρ σ os vs P H F ad

section
variable {K : PySem.W.Frag} {bs : List Nat} {ρ : EV} {σ : L2.St} {os : List SV} {vs : List V} {P : Store} {H F : Hp} {ad : List Addr}
theorem RelX.tops_of (R : RelX K bs ρ σ os vs P H F ad) {os' : List SV} {vs' : List V} (t : SVA K F ad vs' os') : RelX K bs ρ σ os' vs' P H F ad := { R with tops := t }
theorem RelX.push (R : RelX K bs ρ σ os vs P H F ad) {d : SV} {v : V} (h : SVR K F ad v d) : RelX K bs ρ σ (d :: os) (v :: vs) P H F ad := R.tops_of (.cons h R.tops)
theorem RelX.atom (R : RelX K bs ρ σ os vs P H F ad) {d : PyData} {v : V} (h : Fz K F v d) : Rel K bs ρ σ (.fz d :: os) (v :: vs) P H := ⟨F, ad, R.push h⟩
theorem RelX.pop {d : SV} {v : V} (R : RelX K bs ρ σ (d :: os) (v :: vs) P H F ad) : SVR K F ad v d ∧ RelX K bs ρ σ os vs P H F ad := by
  have t := R.tops
  cases t with
  | cons h t => exact ⟨h, { R with tops := t }⟩

/-- a new frozen object is laid -/
theorem upd_le {F : Hp} {p : Addr} {o : HO} (n : F p = none) : Le F (upd F p o) := fun a u e => by
  rw [upd_ne (ne_of_none e n)]; exact .inl e
theorem RelX.free (R : RelX K bs ρ σ os vs P H F ad) {p : Addr} (n : H p = none) : F p = none := by
  cases e : F p with
  | none => rfl
  | some u =>
    rcases R.sub p u e with q | ⟨_, o, q⟩ <;> (rw [n] at q; cases q)
theorem CellR.grow {G H' : Hp} {ad' : List Addr} {a : Addr} {c : Cell} (l : Le F G) (p : Pre ad ad') (hH : H' a = H a) (hF : F a = none → G a = none) (h : CellR K F H ad a c) : CellR K G H' ad' a c := by
  cases c with
  | fz d => exact Fz.mono l h
  | lst _ => obtain ⟨n, xs, e, t⟩ := h; exact ⟨hF n, xs, hH.trans e, t.mono l p⟩
  | dK _ => obtain ⟨n, xs, e, t⟩ := h; exact ⟨hF n, xs, hH.trans e, t.mono l p⟩
  | dT _ => obtain ⟨n, xs, e, t⟩ := h; exact ⟨hF n, xs, hH.trans e, t.mono l p⟩
theorem SlR.mono {G : Hp} {ad' : List Addr} {sl : List (Option SV)} (l : Le F G) (p : Pre ad ad') (h : SlR K F ad sl σ) : SlR K G ad' sl σ :=
  ⟨h.1, fun i s e => let ⟨v, e1, r⟩ := h.2 i s e; ⟨v, e1, r.mono l p⟩⟩
/-- a new object o at p, frozen -/
theorem RelX.lay (R : RelX K bs ρ σ os vs P H F ad) {p : Addr} {o : HO} (n : H p = none) : RelX K bs ρ σ os vs P (upd H p o) (upd F p o) ad := by
  have l : Le F (upd F p o) := upd_le (R.free n)
  refine ⟨fun a u e => ?_, R.len, R.nd, fun a ha => ?_, fun k c a e1 e2 => ?_, R.slots.mono l (.refl _), R.tops.mono l (.refl _), R.bas, R.bb⟩
  · by_cases h : a = p
    · subst h; rw [upd_same] at e ⊢; exact .inl e
    · rw [upd_ne h] at e
      rw [upd_ne h]
      exact R.sub a u e
  · obtain ⟨u, e⟩ := R.there a ha
    exact ⟨u, by rw [upd_ne (ne_of_none e n)]; exact e⟩
  · obtain ⟨u, e⟩ := R.there a (List.mem_of_getElem? e2)
    have ne := ne_of_none e n
    exact (R.cells k c a e1 e2).grow l (.refl _) (upd_ne ne) fun z => by rw [upd_ne ne]; exact z
/-- a new object at p, a new cell -/
theorem RelX.cell (R : RelX K bs ρ σ os vs P H F ad) {p : Addr} {o : HO} {c : Cell} (n : H p = none) (h : ∀ ad', Pre ad ad' → CellR K F (upd H p o) ad' p c) :
    RelX K bs ρ σ (.ptr P.length :: os) (.ref p :: vs) (P ++ [c]) (upd H p o) F (ad ++ [p]) := by
  have fr := R.free n
  have pr : Pre ad (ad ++ [p]) := .push _ _
  refine ⟨fun a u e => ?_, by simp [R.len], ?_, fun a ha => ?_, fun k x a e1 e2 => ?_, R.slots.mono (.refl _) pr, .cons ⟨p, by rw [← R.len]; simp, rfl⟩ (R.tops.mono (.refl _) pr), ⟨fun c hc => ?_, fun c hc k x hk e j hj => ?_⟩, R.bb⟩
  · rw [upd_ne (ne_of_none e fr)]; exact R.sub a u e
  · rw [List.nodup_append]
    refine ⟨R.nd, by simp, fun a ha b hb e => ?_⟩
    obtain ⟨u, q⟩ := R.there a ha
    have : b = p := by simpa using hb
    subst this; subst e
    rw [n] at q; cases q
  · rcases List.mem_append.mp ha with ha | ha
    · obtain ⟨u, e⟩ := R.there a ha
      exact ⟨u, by rw [upd_ne (ne_of_none e n)]; exact e⟩
    · have : a = p := by simpa using ha
      subst this
      exact ⟨_, upd_same⟩
  · by_cases hk : k < P.length
    · rw [List.getElem?_append_left hk] at e1
      rw [List.getElem?_append_left (by rw [R.len]; exact hk)] at e2
      obtain ⟨u, e⟩ := R.there a (List.mem_of_getElem? e2)
      exact (R.cells k x a e1 e2).grow (.refl _) pr (upd_ne (ne_of_none e n)) id
    · have hk' : k = P.length := by
        have := (List.getElem?_eq_some_iff.mp e1).1
        simp at this
        omega
      subst hk'
      have e1' : c = x := by simpa using e1
      have e2' : p = a := by rw [← R.len] at e2; simpa using e2
      subst e1'; subst e2'
      exact h _ pr
  · have := R.bas.le c hc
    simp; omega
  · have hl := R.bas.le c hc
    rw [List.getElem?_append_left (by omega)] at e
    exact R.bas.low c hc k x hk e j hj
/-- a cell is written -/
theorem RelX.put (R : RelX K bs ρ σ os vs P H F ad) {k : Nat} {a : Addr} {o : HO} {c c0 : Cell} (hk : P[k]? = some c0) (ha : ad[k]? = some a) (hF : F a = none) (hc : CellR K F (upd H a o) ad a c)
    (hp : ∀ j ∈ c.ps, j ∈ c0.ps ∨ ρ.b ≤ k) : RelX K bs ρ σ os vs (P.set k c) (upd H a o) F ad := by
  refine ⟨fun x u e => ?_, by simp [R.len], R.nd, fun x hx => ?_, fun j x b e1 e2 => ?_, R.slots, R.tops, ⟨fun c hc => by simpa using R.bas.le c hc, fun d hd j x hj e i hi => ?_⟩, R.bb⟩
  · rw [upd_ne (ne_of_none e hF)]; exact R.sub x u e
  · by_cases h : x = a
    · subst h; exact ⟨_, upd_same⟩
    · rw [upd_ne h]; exact R.there x hx
  · by_cases hj : j = k
    · subst hj
      have hl := (List.getElem?_eq_some_iff.mp hk).1
      rw [List.getElem?_set_self hl] at e1
      cases e1
      rw [ha] at e2; cases e2
      exact hc
    · rw [List.getElem?_set_ne (Ne.symm hj)] at e1
      have ne : b ≠ a := fun z => by
        subst z
        obtain ⟨h1, q1⟩ := List.getElem?_eq_some_iff.mp e2
        obtain ⟨h2, q2⟩ := List.getElem?_eq_some_iff.mp ha
        exact hj ((List.getElem_inj R.nd).mp (q1.trans q2.symm))
      exact (R.cells j x b e1 e2).grow (.refl _) (.refl _) (upd_ne ne) id
  · by_cases hjk : j = k
    · subst hjk
      have hl := (List.getElem?_eq_some_iff.mp hk).1
      rw [List.getElem?_set_self hl] at e
      cases e
      rcases hp i hi with z | z
      · exact R.bas.low d hd j c0 hj hk i z
      · have := R.bb d hd
        omega
    · rw [List.getElem?_set_ne (Ne.symm hjk)] at e
      exact R.bas.low d hd j x hj e i hi
end
end Pd

set_option Elab.async false
set_option linter.all false
set_option maxRecDepth 100000
set_option maxHeartbeats 1000000
/-! The layer Pd, part B: what a value shows, new objects, expressions. -/
namespace Pd
open PySem PySem.Spec PyProof.Rows L2

/-! ### what a value shows -/
inductive Vw (K : PySem.W.Frag) (F H : Hp) : V → PyData → Prop
  | fz {v : V} {d : PyData} : Fz K F v d → Vw K F H v d
  | lst {a : Addr} {xs : List V} {ds : List PyData} : H a = some (.lst xs) → FzA K F xs ds → Vw K F H (.ref a) (.list ds)
  | dK {a : Addr} {ks : List Key} {xs : List V} {ds : List PyData} : Rd H a (.dK (ks.zip xs)) → ks.length = xs.length → FzA K F xs ds → Vw K F H (.ref a) (.dict ((ks.map keyD).zip ds))
  | dT {a : Addr} {ks : List (List Key)} {xs : List V} {ds : List PyData} : H a = some (.dT (ks.zip xs)) → ks.length = xs.length → ks ≠ [] → FzA K F xs ds → Vw K F H (.ref a) (.dict ((ks.map fun k => .tuple (k.map keyD)).zip ds))
section
variable {K : PySem.W.Frag} {F H : Hp} {v : V}
theorem Vw.lists {ds : List PyData} (h : Vw K F H v (.list ds)) (s : Sub F H) : ∃ a xs, v = .ref a ∧ SqL K H a xs ∧ FzA K F xs ds := by
  cases h with
  | fz h => cases h with
    | lst h t => exact ⟨_, _, rfl, s.sqL h, t⟩
  | lst h t => exact ⟨_, _, rfl, .of h, t⟩
theorem Vw.tups {ds : List PyData} (h : Vw K F H v (.tuple ds)) (s : Sub F H) : ∃ a xs, v = .ref a ∧ H a = some (.tup xs) ∧ FzA K F xs ds ∧ Fz K F v (.tuple ds) := by
  cases h with
  | fz h => cases h with
    | tup h t => exact ⟨_, _, rfl, s.tup h, t, .tup h t⟩
theorem Vw.ints {i : Int} (h : Vw K F H v (.int i)) : v = .int i := by cases h with | fz h => cases h; rfl
theorem Vw.strs {i : Str} (h : Vw K F H v (.str i)) : v = .str i := by cases h with | fz h => cases h; rfl
theorem Vw.bls {i : Bool} (h : Vw K F H v (.bool i)) : v = .bl i := by cases h with | fz h => cases h; rfl
theorem Vw.nons (h : Vw K F H v .none) : v = .non := by cases h with | fz h => cases h; rfl
theorem Vw.dp {d : PyData} (h : Vw K F H v d) (s : Sub F H) (e : d.canLay0 = true) : Dp K H v d := by
  cases h with
  | fz h => exact h.dp s e
  | lst h t => exact .lst (.inl (.inl h)) (t.dp s (by simpa [PyData.canLay0] using e))
  | dK => simp [PyData.canLay0] at e
  | dT => simp [PyData.canLay0] at e
end

def SV.fz? : SV → Option PyData
  | .fz d => some d
  | .ptr _ => none
  | .lk _ _ _ => none
def fzs : List SV → Option (List PyData)
  | [] => some []
  | .fz d :: r => (fzs r).map (d :: ·)
  | .ptr _ :: _ => none
  | .lk _ _ _ :: _ => none
/-- what a cell holds, where all its parts are frozen -/
def Cell.dat : Cell → Option PyData
  | .fz d => some d
  | .lst l => (fzs l).map .list
  | .dK l => (fzs (l.map (·.2))).map fun ds => .dict ((l.map fun p => keyD p.1).zip ds)
  | .dT l => if l.isEmpty = true then none else (fzs (l.map (·.2))).map fun ds => .dict ((l.map fun p => .tuple (p.1.map keyD)).zip ds)
/-- what a value shows now -/
def flat (P : Store) : SV → Option PyData
  | .fz d => some d
  | .ptr k => P[k]?.bind Cell.dat
  | .lk _ _ _ => none
/-- .. and does not change any more -/
def frz (P : Store) : SV → Option (PyData × Store)
  | .fz d => some (d, P)
  | .ptr k => (P[k]?.bind Cell.dat).map fun d => (d, P.set k (.fz d))
  | .lk _ _ _ => none

theorem fzs_some {K : PySem.W.Frag} {F : Hp} {ad : List Addr} : ∀ {vs : List V} {l : List SV} {ds : List PyData}, SVA K F ad vs l → fzs l = some ds → FzA K F vs ds
  | _, _, _, .nil, e => by
    simp only [fzs, Option.some.injEq] at e
    subst e; exact .nil
  | _, _, _, .cons (d := .fz d) a t, e => by
    simp only [fzs, Option.map_eq_some_iff] at e
    obtain ⟨r, e1, e2⟩ := e
    subst e2
    exact .cons a (fzs_some t e1)
  | _, _, _, .cons (d := .ptr _) a t, e => by simp [fzs] at e
  | _, _, _, .cons (d := .lk _ _ _) a t, e => by simp [fzs] at e
theorem fzs_len : ∀ {l : List SV} {ds : List PyData}, fzs l = some ds → ds.length = l.length
  | [], _, e => by simp only [fzs, Option.some.injEq] at e; subst e; rfl
  | .fz d :: r, _, e => by
    simp only [fzs, Option.map_eq_some_iff] at e
    obtain ⟨x, e1, e2⟩ := e
    subst e2
    simp [fzs_len e1]
  | .ptr _ :: _, _, e => by simp [fzs] at e
  | .lk _ _ _ :: _, _, e => by simp [fzs] at e

section
variable {K : PySem.W.Frag} {bs : List Nat} {ρ : EV} {σ : L2.St} {os : List SV} {vs : List V} {P : Store} {H F : Hp} {ad : List Addr}
theorem RelX.at (R : RelX K bs ρ σ os vs P H F ad) {v : V} {k : Nat} {c : Cell} (h : SVR K F ad v (.ptr k)) (e : P[k]? = some c) : ∃ a, ad[k]? = some a ∧ v = .ref a ∧ CellR K F H ad a c :=
  let ⟨a, h1, h2⟩ := h; ⟨a, h1, h2, R.cells k c a e h1⟩
theorem RelX.view (R : RelX K bs ρ σ os vs P H F ad) {v : V} {s : SV} {d : PyData} (h : SVR K F ad v s) (e : flat P s = some d) : Vw K F H v d := by
  cases s with
  | fz d' =>
    simp only [flat, Option.some.injEq] at e
    subst e
    exact .fz h
  | lk _ _ _ => simp [flat] at e
  | ptr k =>
    simp only [flat, Option.bind_eq_some_iff] at e
    obtain ⟨c, e1, e2⟩ := e
    obtain ⟨a, ha, rfl, hc⟩ := R.at h e1
    cases c with
    | fz d' => simp only [Cell.dat, Option.some.injEq] at e2; subst e2; exact .fz hc
    | lst l =>
      simp only [Cell.dat, Option.map_eq_some_iff] at e2
      obtain ⟨ds, e3, rfl⟩ := e2
      obtain ⟨_, xs, hx, t⟩ := hc
      exact .lst hx (fzs_some t e3)
    | dK l =>
      simp only [Cell.dat, Option.map_eq_some_iff] at e2
      obtain ⟨ds, e3, rfl⟩ := e2
      obtain ⟨_, xs, hx, t⟩ := hc
      have := Vw.dK (K := K) (F := F) (.of hx) (by have := t.length; simp at this ⊢; omega) (fzs_some t e3)
      simpa [List.map_map, Function.comp_def] using this
    | dT l =>
      have hne : l ≠ [] := fun z => by subst z; simp [Cell.dat] at e2
      have hne2 : ¬ l.isEmpty = true := by simpa using hne
      simp only [Cell.dat, if_neg hne2, Option.map_eq_some_iff] at e2
      obtain ⟨ds, e3, rfl⟩ := e2
      obtain ⟨_, xs, hx, t⟩ := hc
      have := Vw.dT (K := K) (F := F) hx (by have := t.length; simp at this ⊢; omega) (by simpa using hne) (fzs_some t e3)
      simpa [List.map_map, Function.comp_def] using this
/-- a cell is frozen -/
theorem RelX.freezeC (R : RelX K bs ρ σ os vs P H F ad) {k : Nat} {a : Addr} {c : Cell} {o : HO} {d : PyData} (e : P[k]? = some c) (ha : ad[k]? = some a) (hF : F a = none) (ho : H a = some o) (hd : ∀ G, Le F G → G a = some o → Fz K G (.ref a) d) :
    RelX K bs ρ σ os vs (P.set k (.fz d)) H (upd F a o) ad ∧ Le F (upd F a o) ∧ Fz K (upd F a o) (.ref a) d := by
  have l : Le F (upd F a o) := upd_le hF
  have fd := hd (upd F a o) l upd_same
  refine ⟨⟨fun x u q => ?_, by simp [R.len], R.nd, R.there, fun j x b e1 e2 => ?_, R.slots.mono l (.refl _), R.tops.mono l (.refl _), ⟨fun c hc => by simpa using R.bas.le c hc, fun q hq j x hj e i hi => ?_⟩, R.bb⟩, l, fd⟩
  · by_cases h : x = a
    · subst h; rw [upd_same] at q; cases q; exact .inl ho
    · rw [upd_ne h] at q; exact R.sub x u q
  · by_cases hj : j = k
    · subst hj
      have hl := (List.getElem?_eq_some_iff.mp e).1
      rw [List.getElem?_set_self hl] at e1
      cases e1
      rw [ha] at e2; cases e2
      exact fd
    · rw [List.getElem?_set_ne (Ne.symm hj)] at e1
      have ne : b ≠ a := fun z => by
        subst z
        obtain ⟨h1, q1⟩ := List.getElem?_eq_some_iff.mp e2
        obtain ⟨h2, q2⟩ := List.getElem?_eq_some_iff.mp ha
        exact hj ((List.getElem_inj R.nd).mp (q1.trans q2.symm))
      exact (R.cells j x b e1 e2).grow l (.refl _) rfl fun z => by rw [upd_ne ne]; exact z
  · by_cases hjk : j = k
    · subst hjk
      have hl := (List.getElem?_eq_some_iff.mp (by assumption : P[j]? = some c)).1
      rw [List.getElem?_set_self hl] at e
      cases e
      simp [Cell.ps] at hi
    · rw [List.getElem?_set_ne (Ne.symm hjk)] at e
      exact R.bas.low q hq j x hj e i hi
theorem RelX.freeze (R : RelX K bs ρ σ os vs P H F ad) {v : V} {s : SV} {d : PyData} {P' : Store} (h : SVR K F ad v s) (e : frz P s = some (d, P')) : ∃ G, RelX K bs ρ σ os vs P' H G ad ∧ Le F G ∧ Fz K G v d := by
  cases s with
  | fz d' =>
    simp only [frz, Option.some.injEq, Prod.mk.injEq] at e
    obtain ⟨rfl, rfl⟩ := e
    exact ⟨F, R, .refl _, h⟩
  | lk _ _ _ => simp [frz] at e
  | ptr k =>
    simp only [frz, Option.map_eq_some_iff, Prod.mk.injEq, Option.bind_eq_some_iff] at e
    obtain ⟨d', ⟨c, e1, e2⟩, rfl, rfl⟩ := e
    obtain ⟨a, ha, rfl, hc⟩ := R.at h e1
    cases c with
    | fz d2 =>
      simp only [Cell.dat, Option.some.injEq] at e2
      subst e2
      refine ⟨F, ?_, .refl _, hc⟩
      have : P.set k (.fz d2) = P := by
        apply List.ext_getElem?
        intro i
        by_cases hi : i = k
        · subst hi
          rw [List.getElem?_set_self (List.getElem?_eq_some_iff.mp e1).1, e1]
        · rw [List.getElem?_set_ne (Ne.symm hi)]
      rw [this]; exact R
    | lst l =>
      simp only [Cell.dat, Option.map_eq_some_iff] at e2
      obtain ⟨ds, e3, rfl⟩ := e2
      obtain ⟨hF, xs, hx, t⟩ := hc
      exact ⟨_, R.freezeC e1 ha hF hx fun G l g => .lst (.of g) ((fzs_some t e3).mono l)⟩
    | dK l =>
      simp only [Cell.dat, Option.map_eq_some_iff] at e2
      obtain ⟨ds, e3, rfl⟩ := e2
      obtain ⟨hF, xs, hx, t⟩ := hc
      refine ⟨_, R.freezeC e1 ha hF hx fun G le g => ?_⟩
      have := Fz.dK (K := K) (F := G) (.of g) (by have := t.length; simp at this ⊢; omega) ((fzs_some t e3).mono le)
      simpa [List.map_map, Function.comp_def] using this
    | dT l =>
      have hne : l ≠ [] := fun z => by subst z; simp [Cell.dat] at e2
      have hne2 : ¬ l.isEmpty = true := by simpa using hne
      simp only [Cell.dat, if_neg hne2, Option.map_eq_some_iff] at e2
      obtain ⟨ds, e3, rfl⟩ := e2
      obtain ⟨hF, xs, hx, t⟩ := hc
      refine ⟨_, R.freezeC e1 ha hF hx fun G le g => ?_⟩
      have := Fz.dT (K := K) (F := G) g (by have := t.length; simp at this ⊢; omega) (by simpa using hne) ((fzs_some t e3).mono le)
      simpa [List.map_map, Function.comp_def] using this
end

/-- new frozen objects -/
inductive Ext : Hp → Hp → Hp → Hp → Prop
  | refl {F H : Hp} : Ext F H F H
  | lay {F H F1 H1 : Hp} {p : Addr} {o : HO} : Ext F H F1 H1 → H1 p = none → Ext F H (upd F1 p o) (upd H1 p o)
theorem RelX.ext {K : PySem.W.Frag} {bs : List Nat} {ρ : EV} {σ : L2.St} {os : List SV} {vs : List V} {P : Store} {H F F1 H1 : Hp} {ad : List Addr} (R : RelX K bs ρ σ os vs P H F ad) (x : Ext F H F1 H1) : RelX K bs ρ σ os vs P H1 F1 ad := by
  induction x with
  | refl => exact R
  | lay x n ih => exact ih.lay n
theorem Ext.one {F H : Hp} {p : Addr} {o : HO} (n : H p = none) : Ext F H (upd F p o) (upd H p o) := .lay .refl n

/-! ### expressions -/
abbrev XM := EV → Store → Option (SV × Store)
abbrev BM := EV → Store → Option (Bool × Store)
abbrev AM := EV → Store → Option (List SV × Store)
/-- what the end of a part wants -/
def PEd (X : Cx) (e : Expr) (f : XM) : Prop := ∃ t, PE X e t ∧ ∀ (bs : List Nat) (ρ : EV) (σ : L2.St) (os : List SV) (vs : List V) (P : Store) (H : Hp) (Q : VK) (r : SV) (P' : Store), Rel X.K bs ρ σ os vs P H → f ρ P = some (r, P') →
  (∀ v H', Rel X.K bs ρ σ (r :: os) (v :: vs) P' H' → Q v H') → t σ H Q
def PTd (X : Cx) (e : Expr) (f : BM) : Prop := ∃ t, PT X e t ∧ ∀ (bs : List Nat) (ρ : EV) (σ : L2.St) (os : List SV) (vs : List V) (P : Store) (H : Hp) (Q : Bool → Hp → Prop) (r : Bool) (P' : Store), Rel X.K bs ρ σ os vs P H → f ρ P = some (r, P') →
  (∀ H', Rel X.K bs ρ σ os vs P' H' → Q r H') → t σ H Q
/-- arguments: pushed from the left -/
def PAd (X : Cx) (es : List Expr) (f : AM) : Prop := ∃ t, PA X es t ∧ ∀ (bs : List Nat) (ρ : EV) (σ : L2.St) (os : List SV) (vs : List V) (P : Store) (H : Hp) (Q : List V → Hp → Prop) (r : List SV) (P' : Store), Rel X.K bs ρ σ os vs P H → f ρ P = some (r, P') →
  (∀ ws H', ws.length = r.length → Rel X.K bs ρ σ (r.reverse ++ os) (ws.reverse ++ vs) P' H' → Q ws H') → t σ H Q

def mC (d : PyData) : XM := fun _ P => some (.fz d, P)
def mVar (i : Nat) : XM := fun ρ P => match ρ.sl[i]? with
  | some (some s) => some (s, P)
  | _ => none
section
variable {X : Cx} {pos : Pos}
theorem ped_atom {e : Expr} {v : V} {d : PyData} (h : PE X e (tC v)) (hd : ∀ F, Fz X.K F v d) : PEd X e (mC d) := ⟨_, h, fun bs ρ σ os vs P H Q r P' R e q => by
  simp only [mC, Option.some.injEq, Prod.mk.injEq] at e
  obtain ⟨rfl, rfl⟩ := e
  obtain ⟨F, ad, R⟩ := R
  exact q _ _ (R.atom (hd F))⟩
theorem ped_int {i : Int} {j} : PEd X (.Constant (.int i) j pos) (mC (.int i)) := ped_atom pe_int fun _ => .int i
theorem ped_bl {b : Bool} {j} : PEd X (.Constant (.bool b) j pos) (mC (.bool b)) := ped_atom pe_bl fun _ => .bl b
theorem ped_non {j} : PEd X (.Constant .none j pos) (mC .none) := ped_atom pe_non fun _ => .non
theorem ped_str {x : Str} {j} : PEd X (.Constant (.str x) j pos) (mC (.str x)) := ped_atom pe_str fun _ => .str x
theorem ped_glob {x : Str} {v : V} {u : Value} {d : PyData} (hg : Gl X x) (hm : X.mg x = some u) (r : RelV v u) (hd : ∀ F, Fz X.K F v d) (hdb : (x == ("__debug__" : Str)) = false := by decide) : PEd X (.Name x pos) (mC d) := ped_atom (pe_glob hg hm r hdb) hd
theorem ped_var (i : Nat) {x : Str} (hN : X.N[i]? = some x := by rfl) (hv : Vis X.env.scope x := by first | exact Or.inl rfl | exact Or.inr (Or.inl rfl) | exact Or.inr (Or.inr rfl)) (hd : (x == ("__debug__" : Str)) = false := by decide)
    (hcd : (x == ("__classdict__" : Str)) = false := by decide) : PEd X (.Name x pos) (mVar i) := ⟨_, pe_var hN hv hd hcd, fun bs ρ σ os vs P H Q r P' R e q => by
  obtain ⟨F, ad, R⟩ := R
  unfold mVar at e
  cases h : ρ.sl[i]? with
  | none => rw [h] at e; cases e
  | some s =>
    cases s with
    | none => rw [h] at e; cases e
    | some s =>
      rw [h] at e
      simp only [Option.some.injEq, Prod.mk.injEq] at e
      obtain ⟨rfl, rfl⟩ := e
      obtain ⟨v, hv, r⟩ := R.slots.2 i s h
      exact ⟨v, hv, q v H ⟨F, ad, R.push r⟩⟩⟩

/-! two-place operations -/
def OpD (X : Cx) (f : Value → Value → Sem Value) (g : PyData → PyData → Option PyData) : Prop := ∃ r, OpR X f r ∧ ∀ (F H : Hp) (x y : V) (d e z : PyData) (Q : VK), Sub F H → Vw X.K F H x d → Vw X.K F H y e → g d e = some z →
  (∀ v H' F', Ext F H F' H' → Fz X.K F' v z → Q v H') → r x y H Q
def mBin (g : PyData → PyData → Option PyData) (f1 f2 : XM) : XM := fun ρ P => (f1 ρ P).bind fun (a, P1) => (f2 ρ P1).bind fun (b, P2) => (flat P2 a).bind fun d => (flat P2 b).bind fun e => (g d e).map fun z => (.fz z, P2)
theorem bin_d {a b : Expr} {f : Value → Value → Sem Value} {g : PyData → PyData → Option PyData} {f1 f2 : XM} {t1 t2 : TE} {r : R2}
    (hr : ∀ (F H : Hp) (x y : V) (d e z : PyData) (Q : VK), Sub F H → Vw X.K F H x d → Vw X.K F H y e → g d e = some z → (∀ v H' F', Ext F H F' H' → Fz X.K F' v z → Q v H') → r x y H Q)
    (h1 : ∀ (bs : List Nat) (ρ : EV) (σ : L2.St) (os : List SV) (vs : List V) (P : Store) (H : Hp) (Q : VK) (r : SV) (P' : Store), Rel X.K bs ρ σ os vs P H → f1 ρ P = some (r, P') → (∀ v H', Rel X.K bs ρ σ (r :: os) (v :: vs) P' H' → Q v H') → t1 σ H Q)
    (h2 : ∀ (bs : List Nat) (ρ : EV) (σ : L2.St) (os : List SV) (vs : List V) (P : Store) (H : Hp) (Q : VK) (r : SV) (P' : Store), Rel X.K bs ρ σ os vs P H → f2 ρ P = some (r, P') → (∀ v H', Rel X.K bs ρ σ (r :: os) (v :: vs) P' H' → Q v H') → t2 σ H Q)
    (bs : List Nat) (ρ : EV) (σ : L2.St) (os : List SV) (vs : List V) (P : Store) (H : Hp) (Q : VK) (w : SV) (P' : Store) (R : Rel X.K bs ρ σ os vs P H) (e : mBin g f1 f2 ρ P = some (w, P'))
    (q : ∀ v H', Rel X.K bs ρ σ (w :: os) (v :: vs) P' H' → Q v H') : tOp r t1 t2 σ H Q := by
  simp only [mBin, Option.bind_eq_some_iff, Option.map_eq_some_iff, Prod.mk.injEq] at e
  obtain ⟨⟨s1, P1⟩, e1, ⟨s2, P2⟩, e2, d1, e3, d2, e4, z, e5, rfl, rfl⟩ := e
  refine h1 bs ρ σ os vs P H _ s1 P1 R e1 fun x H1 R1 => ?_
  refine h2 bs ρ σ _ _ P1 H1 _ s2 P2 R1 e2 fun y H2 R2 => ?_
  obtain ⟨F, ad, R2⟩ := R2
  obtain ⟨r2, R2⟩ := R2.pop
  obtain ⟨r1, R2⟩ := R2.pop
  refine hr F H2 x y d1 d2 z Q R2.sub (R2.view r1 e3) (R2.view r2 e4) e5 fun v H' F' x f => ?_
  exact q v H' ((R2.ext x).atom f)
theorem ped_bin {a b : Expr} {op : Operator} {g : PyData → PyData → Option PyData} {f1 f2 : XM} (ho : OpD X (binaryOp op) g) (ha : PEd X a f1) (hb : PEd X b f2) : PEd X (.BinOp a op b pos) (mBin g f1 f2) := by
  obtain ⟨r, h, hr⟩ := ho
  obtain ⟨t1, p1, h1⟩ := ha
  obtain ⟨t2, p2, h2⟩ := hb
  exact ⟨_, pe_op h p1 p2, bin_d (a := a) (b := b) (f := binaryOp op) hr h1 h2⟩
theorem ped_cmp {a b : Expr} {op : CmpOp} {g : PyData → PyData → Option PyData} {f1 f2 : XM} (ho : OpD X (compareOp op) g) (ha : PEd X a f1) (hb : PEd X b f2) (hm : behindInMarks op b = false) : PEd X (.Compare a [op] [b] pos) (mBin g f1 f2) := by
  obtain ⟨r, h, hr⟩ := ho
  obtain ⟨t1, p1, h1⟩ := ha
  obtain ⟨t2, p2, h2⟩ := hb
  exact ⟨_, pe_cmpR h p1 p2 hm, bin_d (a := a) (b := b) (f := compareOp op) hr h1 h2⟩
theorem OpD.or {f : Value → Value → Sem Value} {g g' : PyData → PyData → Option PyData} (h : OpD X f g) (h' : OpD X f g') : OpD X f (fun d e => (g d e).or (g' d e)) := by
  obtain ⟨r, h, hr⟩ := h
  obtain ⟨r', h', hr'⟩ := h'
  refine ⟨_, h.or h', fun F H x y d e z Q s vx vy eq q => ?_⟩
  have eq : (g d e).or (g' d e) = some z := eq
  cases hz : g d e with
  | some w =>
    rw [hz] at eq
    simp only [Option.some_or, Option.some.injEq] at eq
    subst eq
    exact .inl (hr F H x y d e w Q s vx vy hz q)
  | none =>
    rw [hz] at eq
    exact .inr (hr' F H x y d e z Q s vx vy (by simpa using eq) q)
end
end Pd

set_option Elab.async false
set_option linter.all false
set_option maxRecDepth 100000
set_option maxHeartbeats 1000000
/-! The layer Pd, part C: operations on data. -/
namespace Pd
open PySem PySem.Spec PyProof.Rows L2
section
variable {X : Cx}

/-- two ints -/
def dI (g : Int → Int → Option PyData) : PyData → PyData → Option PyData
  | .int i, .int j => g i j
  | _, _ => none
theorem dI_some {g : Int → Int → Option PyData} {d e z : PyData} (h : dI g d e = some z) : ∃ i j, d = .int i ∧ e = .int j ∧ g i j = some z := by
  unfold dI at h
  split at h
  · exact ⟨_, _, rfl, rfl, h⟩
  · cases h
def dIC (C : Int → Int → Bool) (g : Int → Int → PyData) : PyData → PyData → Option PyData := dI fun i j => if C i j = true then some (g i j) else none
theorem dIC_some {C : Int → Int → Bool} {g : Int → Int → PyData} {d e z : PyData} (h : dIC C g d e = some z) : ∃ i j, d = .int i ∧ e = .int j ∧ C i j = true ∧ z = g i j := by
  obtain ⟨i, j, e1, e2, h⟩ := dI_some h
  by_cases hc : C i j = true
  · rw [if_pos hc] at h
    exact ⟨i, j, e1, e2, hc, (Option.some.inj h).symm⟩
  · rw [if_neg hc] at h; cases h
theorem opd_int {f : Value → Value → Sem Value} {C : Int → Int → Prop} {c : Int → Int → Bool} {g : Int → Int → V} {g' : Int → Int → PyData} (h : OpR X f (rI C g)) (hc : ∀ i j, c i j = true → C i j) (hg : ∀ F i j, Fz X.K F (g i j) (g' i j)) : OpD X f (dIC c g') := by
  refine ⟨_, h, fun F H x y d e z Q s vx vy eq q => ?_⟩
  obtain ⟨i, j, rfl, rfl, hcc, rfl⟩ := dIC_some eq
  exact ⟨i, j, vx.ints, vy.ints, hc i j hcc, q _ _ _ .refl (hg F i j)⟩
theorem opd_int0 {f : Value → Value → Sem Value} {g : Int → Int → V} {g' : Int → Int → PyData} (h : OpR X f (rI0 g)) (hg : ∀ F i j, Fz X.K F (g i j) (g' i j)) : OpD X f (dI fun i j => some (g' i j)) := by
  refine ⟨_, h, fun F H x y d e z Q s vx vy eq q => ?_⟩
  obtain ⟨i, j, rfl, rfl, hz⟩ := dI_some eq
  cases hz
  exact ⟨i, j, vx.ints, vy.ints, q _ _ _ .refl (hg F i j)⟩

/-- two texts -/
def dS (g : Str → Str → Option PyData) : PyData → PyData → Option PyData
  | .str i, .str j => g i j
  | _, _ => none
theorem dS_some {g : Str → Str → Option PyData} {d e z : PyData} (h : dS g d e = some z) : ∃ i j, d = .str i ∧ e = .str j ∧ g i j = some z := by
  unfold dS at h
  split at h
  · exact ⟨_, _, rfl, rfl, h⟩
  · cases h

/-! ### + -/
def dAddS : PyData → PyData → Option PyData := dS fun x y => if x.length + y.length ≤ sizeLine then some (.str (x ++ y)) else none
def dAddL : PyData → PyData → Option PyData
  | .list xs, .list ys => if xs.length + ys.length ≤ sizeLine then some (.list (xs ++ ys)) else none
  | _, _ => none
def dAddT : PyData → PyData → Option PyData
  | .tuple xs, .tuple ys => if xs.length + ys.length ≤ sizeLine then some (.tuple (xs ++ ys)) else none
  | _, _ => none
def rCatR (K : PySem.W.Frag) : R2 := fun x y H Q => ∃ l b xs zs, x = .ref l ∧ y = .ref b ∧ SqL K H l xs ∧ SqL K H b zs ∧ xs.length + zs.length ≤ sizeLine ∧ ∀ p, H p = none → Q (.ref p) (upd H p (.lst (xs ++ zs)))
theorem op_catR : OpR X (binaryOp .Add) (rCatR X.K) := by
  intro pins s σ H x y v u Q I rx ry h
  obtain ⟨l, b, xs, zs, rfl, rfl, hH, hB, hz, q⟩ := h
  cases rx
  cases ry
  obtain ⟨vs, r, hl, z1⟩ := I.list hH
  obtain ⟨ws, r2, hb, z2⟩ := I.list hB
  have hlen := r.length
  have hlen2 := r2.length
  obtain ⟨⟨cls, dd, data, sl⟩, ho, hc, n, hd⟩ := hl.isList
  obtain ⟨⟨cls2, dd2, data2, sl2⟩, ho2, hc2, n2, hd2⟩ := hb.isList
  simp only at hc hd hc2 hd2
  subst hc hd hc2 hd2
  have ea : vs.toArray ++ ws.toArray = (vs ++ ws).toArray := by simp
  refine concat_meets ⟨_, ho, rfl⟩ ⟨_, ho2, rfl⟩ noFill_list_add seq_list_add PySem.F.slot_list_add PySem.F.entry_list_add (PySem.F.args_list_add_2 _ _) (list_addW l b vs.toArray ws.toArray n n2 dd dd2 sl sl2 (by simp; omega)) ⟨ho, ho2, ?_⟩
  rw [ea]
  exact ⟨.ref _, _, I.lnew (t' := s.toks) (r.append r2) (by rw [List.length_append]; omega), rfl, q _ I.fresh⟩
theorem opd_addS : OpD X (binaryOp .Add) dAddS := by
  refine ⟨_, op_add_str, fun F H x y d e z Q s vx vy eq q => ?_⟩
  obtain ⟨i, j, rfl, rfl, hz⟩ := dS_some eq
  by_cases hl : i.length + j.length ≤ sizeLine
  · rw [if_pos hl] at hz
    cases hz
    exact ⟨i, j, vx.strs, vy.strs, hl, q _ _ _ .refl (.str _)⟩
  · rw [if_neg hl] at hz; cases hz
theorem opd_addL : OpD X (binaryOp .Add) dAddL := by
  refine ⟨_, op_catR, fun F H x y d e z Q s vx vy eq q => ?_⟩
  unfold dAddL at eq
  split at eq
  · rename_i xs ys
    split at eq
    · rename_i hl
      cases eq
      obtain ⟨a, us, rfl, ha, ta⟩ := vx.lists s
      obtain ⟨b, ws, rfl, hb, tb⟩ := vy.lists s
      refine ⟨a, b, us, ws, rfl, rfl, ha, hb, by rw [ta.length, tb.length]; exact hl, fun p n => ?_⟩
      refine q _ _ _ (.one n) (.lst (.of upd_same) ?_)
      have fr : F p = none := by
        cases e : F p with
        | none => rfl
        | some u => rcases s p u e with z | ⟨_, o, z⟩ <;> (rw [n] at z; cases z)
      exact (ta.append tb).mono (upd_le fr)
    · cases eq
  · cases eq
theorem Sub.none {F H : Hp} (s : Sub F H) {p : Addr} (n : H p = none) : F p = none := by
  cases e : F p with
  | none => rfl
  | some u => rcases s p u e with z | ⟨_, o, z⟩ <;> (rw [n] at z; cases z)
theorem opd_addT : OpD X (binaryOp .Add) dAddT := by
  refine ⟨_, op_catA, fun F H x y d e z Q s vx vy eq q => ?_⟩
  unfold dAddT at eq
  split at eq
  · rename_i xs ys
    split at eq
    · rename_i hl
      cases eq
      obtain ⟨a, us, rfl, ha, ta, fa⟩ := vx.tups s
      obtain ⟨b, ws, rfl, hb, tb, fb⟩ := vy.tups s
      refine ⟨a, b, us, ws, rfl, rfl, .inl (.inl ha), .inl (.inl hb), by rw [ta.length, tb.length]; exact hl, fun e0 => ?_, fun _ e0 => ?_, fun _ _ p n => ?_⟩
      · have : xs = [] := List.eq_nil_of_length_eq_zero (by rw [← ta.length, e0]; rfl)
        subst this
        exact q _ _ _ .refl fb
      · have : ys = [] := List.eq_nil_of_length_eq_zero (by rw [← tb.length, e0]; rfl)
        subst this
        rw [List.append_nil] at q
        exact q _ _ _ .refl fa
      · exact q _ _ _ (.one n) (.tup upd_same ((ta.append tb).mono (upd_le (s.none n))))
    · cases eq
  · cases eq
def dAdd : PyData → PyData → Option PyData := fun d e => (dI (fun i j => some (.int (i + j))) d e).or ((dAddS d e).or ((dAddL d e).or (dAddT d e)))
theorem opd_add : OpD X (binaryOp .Add) dAdd := (opd_int0 op_add fun _ _ _ => .int _).or (opd_addS.or (opd_addL.or opd_addT))
def dSub : PyData → PyData → Option PyData := dI fun i j => some (.int (i - j))
theorem opd_sub : OpD X (binaryOp .Sub) dSub := opd_int0 op_sub fun _ _ _ => .int _
/-- * of ints of which one is below 2 ^ 64 -/
def cMul (i j : Int) : Bool := (decide (-(2 ^ 64) < i) && decide (i < 2 ^ 64)) || (decide (-(2 ^ 64) < j) && decide (j < 2 ^ 64))
def dMulI : PyData → PyData → Option PyData := dIC cMul fun i j => .int (i * j)
theorem opd_mulI : OpD X (binaryOp .Mult) dMulI := opd_int op_mul (fun i j h => by simpa [cMul, CMul] using h) fun _ _ _ => .int _
def cDiv (i j : Int) : Bool := decide (j ≠ 0) && decide (j.natAbs < 1073741824)
def dDiv : PyData → PyData → Option PyData := dIC cDiv fun i j => .int (i.fdiv j)
theorem opd_div : OpD X (binaryOp .FloorDiv) dDiv := opd_int op_fdivN (fun i j h => by simpa [cDiv, CDivN] using h) fun _ _ _ => .int _
def dMod : PyData → PyData → Option PyData := dIC (fun _ j => decide (j ≠ 0)) fun i j => .int (i.fmod j)
theorem opd_mod : OpD X (binaryOp .Mod) dMod := opd_int op_modN (fun i j h => by simpa using h) fun _ _ _ => .int _
def cPow (i j : Int) : Bool := decide (0 ≤ j) && (decide (j ≤ 1000000) && decide (i.natAbs < 2 ^ 64))
def dShl : PyData → PyData → Option PyData := dIC cPow fun i j => .int (i * 2 ^ j.toNat)
theorem opd_shl : OpD X (binaryOp .LShift) dShl := opd_int op_shl (fun i j h => by simpa [cPow, CPow] using h) fun _ _ _ => .int _

/-! ### order -/
def dLt : PyData → PyData → Option PyData := fun d e => (dI (fun i j => some (.bool (decide (i < j)))) d e).or (dS (fun x y => some (.bool (decide (x.cps.toList < y.cps.toList)))) d e)
def dLe : PyData → PyData → Option PyData := fun d e => (dI (fun i j => some (.bool (decide (i ≤ j)))) d e).or (dS (fun x y => some (.bool (!decide (y.cps.toList < x.cps.toList)))) d e)
def dGt : PyData → PyData → Option PyData := fun d e => (dI (fun i j => some (.bool (decide (j < i)))) d e)
def dGe : PyData → PyData → Option PyData := fun d e => (dI (fun i j => some (.bool (decide (j ≤ i)))) d e)
theorem opd_strs {f : Value → Value → Sem Value} {g : Str → Str → V} {g' : Str → Str → PyData} (h : OpR X f (fun x y H Q => ∃ i j, x = .str i ∧ y = .str j ∧ Q (g i j) H)) (hg : ∀ F i j, Fz X.K F (g i j) (g' i j)) : OpD X f (dS fun i j => some (g' i j)) := by
  refine ⟨_, h, fun F H x y d e z Q s vx vy eq q => ?_⟩
  obtain ⟨i, j, rfl, rfl, hz⟩ := dS_some eq
  cases hz
  exact ⟨i, j, vx.strs, vy.strs, q _ _ _ .refl (hg F i j)⟩
theorem opd_lt : OpD X (compareOp .Lt) dLt := (opd_int0 op_lt fun _ _ _ => .bl _).or (opd_strs op_lt_str fun _ _ _ => .bl _)
theorem opd_le : OpD X (compareOp .LtE) dLe := (opd_int0 op_le fun _ _ _ => .bl _).or (opd_strs op_le_str fun _ _ _ => .bl _)
theorem opd_gt : OpD X (compareOp .Gt) dGt := opd_int0 op_gt fun _ _ _ => .bl _
theorem opd_ge : OpD X (compareOp .GtE) dGe := opd_int0 op_ge fun _ _ _ => .bl _

/-! ### ==, is -/
def atom : PyData → Option V
  | .none => some .non
  | .bool b => some (.bl b)
  | .int i => some (.int i)
  | .str x => some (.str x)
  | _ => none
theorem Vw.atom {K : PySem.W.Frag} {F H : Hp} {v w : V} {d : PyData} (h : Vw K F H v d) (e : atom d = some w) : v = w := by
  cases d with
  | none => rw [h.nons]; exact Option.some.inj e
  | bool b => rw [h.bls]; exact Option.some.inj e
  | int i => rw [h.ints]; exact Option.some.inj e
  | str x => rw [h.strs]; exact Option.some.inj e
  | list _ => cases e
  | tuple _ => cases e
  | dict _ => cases e
def dEqA (n : Bool) : PyData → PyData → Option PyData := fun d e => match atom d, atom e with
  | some x, some y => if scal x y = true then some (.bool (n != decide (x = y))) else none
  | _, _ => none
def dEqD (n : Bool) : PyData → PyData → Option PyData := fun d e => if SeqAt.shaped d = true ∧ SeqAt.shaped e = true then some (.bool (n != PyData.eqv d e)) else none
def dEq : PyData → PyData → Option PyData := fun d e => (dEqA false d e).or (dEqD false d e)
def dNe : PyData → PyData → Option PyData := fun d e => (dEqA true d e).or (dEqD true d e)
theorem opd_eqA : OpD X (compareOp .Eq) (dEqA false) := by
  refine ⟨_, op_eq, fun F H x y d e z Q s vx vy eq q => ?_⟩
  unfold dEqA at eq
  split at eq
  · rename_i u w h1 h2
    split at eq
    · rename_i hs
      cases eq
      have e1 := vx.atom h1
      have e2 := vy.atom h2
      subst e1; subst e2
      exact ⟨hs, q _ _ _ .refl (by simpa using Fz.bl _)⟩
    · cases eq
  · cases eq
theorem opd_neA : OpD X (compareOp .NotEq) (dEqA true) := by
  refine ⟨_, op_ne, fun F H x y d e z Q s vx vy eq q => ?_⟩
  unfold dEqA at eq
  split at eq
  · rename_i u w h1 h2
    split at eq
    · rename_i hs
      cases eq
      have e1 := vx.atom h1
      have e2 := vy.atom h2
      subst e1; subst e2
      exact ⟨hs, q _ _ _ .refl (by simpa using Fz.bl _)⟩
    · cases eq
  · cases eq
theorem shaped_lay {d : PyData} (h : SeqAt.shaped d = true) : d.canLay0 = true := SeqAt.canLay_of_shaped h
theorem opd_eqD (hu : X.A.units + 65 < cLine) : OpD X (compareOp .Eq) (dEqD false) := by
  refine ⟨_, op_eqD (by omega), fun F H x y d e z Q s vx vy eq q => ?_⟩
  unfold dEqD at eq
  split at eq
  · rename_i h
    cases eq
    exact ⟨d, e, vx.dp s (shaped_lay h.1), vy.dp s (shaped_lay h.2), h.1, h.2, q _ _ _ .refl (by simpa using Fz.bl _)⟩
  · cases eq
theorem opd_neD (hu : X.A.units + 65 < cLine) : OpD X (compareOp .NotEq) (dEqD true) := by
  refine ⟨_, op_neD (by omega), fun F H x y d e z Q s vx vy eq q => ?_⟩
  unfold dEqD at eq
  split at eq
  · rename_i h
    cases eq
    exact ⟨d, e, vx.dp s (shaped_lay h.1), vy.dp s (shaped_lay h.2), h.1, h.2, q _ _ _ .refl (by simpa using Fz.bl _)⟩
  · cases eq
theorem opd_eq (hu : X.A.units + 65 < cLine) : OpD X (compareOp .Eq) dEq := opd_eqA.or (opd_eqD hu)
theorem opd_ne (hu : X.A.units + 65 < cLine) : OpD X (compareOp .NotEq) dNe := opd_neA.or (opd_neD hu)
def isNon : PyData → Bool
  | .none => true
  | _ => false
def dIs (n : Bool) : PyData → PyData → Option PyData
  | d, .none => some (.bool (n != isNon d))
  | .bool a, .bool b => some (.bool (n != decide (a = b)))
  | _, _ => none
theorem Fz.isNon {K : PySem.W.Frag} {F : Hp} {v : V} {d : PyData} (h : Fz K F v d) : decide (v = .non) = isNon d := by cases h <;> simp [Pd.isNon]
theorem Vw.isNon {K : PySem.W.Frag} {F H : Hp} {v : V} {d : PyData} (h : Vw K F H v d) : decide (v = .non) = Pd.isNon d := by
  cases h with
  | fz h => exact h.isNon
  | lst => simp [Pd.isNon]
  | dK => simp [Pd.isNon]
  | dT => simp [Pd.isNon]
theorem opd_is : OpD X (compareOp .Is) (dIs false) := by
  refine ⟨_, op_isN.or op_is_bl, fun F H x y d e z Q s vx vy eq q => ?_⟩
  unfold dIs at eq
  split at eq
  · cases eq
    refine .inl ⟨vy.nons, ?_⟩
    rw [vx.isNon]
    exact q _ _ _ .refl (by simpa using Fz.bl _)
  · cases eq
    exact .inr ⟨_, _, vx.bls, vy.bls, q _ _ _ .refl (by simpa using Fz.bl _)⟩
  · cases eq
theorem opd_isnot : OpD X (compareOp .IsNot) (dIs true) := by
  refine ⟨_, op_notN.or op_isnot_bl, fun F H x y d e z Q s vx vy eq q => ?_⟩
  unfold dIs at eq
  split at eq
  · cases eq
    refine .inl ⟨vy.nons, ?_⟩
    rw [vx.isNon]
    exact q _ _ _ .refl (by simpa using Fz.bl _)
  · cases eq
    exact .inr ⟨_, _, vx.bls, vy.bls, q _ _ _ .refl (by simpa using Fz.bl _)⟩
  · cases eq

/-! ### in -/
/-- an item of a list or tuple of data; a part of a text; a key of a dict -/
def dInS (n : Bool) : PyData → PyData → Option PyData
  | d, .list ds => if SeqAt.shaped d = true ∧ SeqAt.shaped (.list ds) = true then some (.bool (n != ds.any fun y => PyData.eqv y d)) else none
  | d, .tuple ds => if SeqAt.shaped d = true ∧ SeqAt.shaped (.tuple ds) = true then some (.bool (n != ds.any fun y => PyData.eqv y d)) else none
  | .str x, .str y => some (.bool (n != !(Builtin.Str.occurrences y x 0 y.length 1).isEmpty))
  | _, _ => none
def rInTD (K : PySem.W.Frag) (neg : Bool) : R2 := fun x y H Q => ∃ (d : PyData) (ds : List PyData), Dp K H x d ∧ Dp K H y (.tuple ds) ∧ SeqAt.shaped d = true ∧ SeqAt.shaped (.tuple ds) = true ∧ Q (.bl (neg != ds.any fun z => PyData.eqv z d)) H
theorem roomT {A : Around} {ds : List PyData} {d : PyData} (sd : SeqAt.shaped d = true) (hu : A.units + 65 < cLine) : A.units + 1 + min (PyData.depthAll ds) d.depth < cLine := by
  have h : d.depth ≤ 64 := by
    have := (Bool.and_eq_true_iff.mp sd).2
    simpa using this
  omega
theorem op_inTD (hu : X.A.units + 65 < cLine) : OpR X (compareOp .In) (rInTD X.K false) := by
  intro pins s σ H x y v u Q I rx ry h
  obtain ⟨d, ds, hd, he, sd, se, q⟩ := h
  obtain ⟨as, r1⟩ := Dp.reads I d x v hd rx
  obtain ⟨bs, r2⟩ := Dp.reads I (.tuple ds) y u he ry
  exact SeqAt.in_tuple_reads r2 r1 (by simpa [PyData.canLay0] using SeqAt.canLay_of_shaped se) (SeqAt.canLay_of_shaped sd) (roomT sd hu) ⟨.bl _, H, I, rfl, by simpa using q⟩
theorem op_notInTD (hu : X.A.units + 65 < cLine) : OpR X (compareOp .NotIn) (rInTD X.K true) := by
  intro pins s σ H x y v u Q I rx ry h
  obtain ⟨d, ds, hd, he, sd, se, q⟩ := h
  obtain ⟨as, r1⟩ := Dp.reads I d x v hd rx
  obtain ⟨bs, r2⟩ := Dp.reads I (.tuple ds) y u he ry
  exact SeqAt.notIn_tuple_reads r2 r1 (by simpa [PyData.canLay0] using SeqAt.canLay_of_shaped se) (SeqAt.canLay_of_shaped sd) (roomT sd hu) ⟨.bl _, H, I, rfl, by simpa using q⟩
theorem opd_in (hu : X.A.units + 65 < cLine) : OpD X (compareOp .In) (dInS false) := by
  refine ⟨_, (op_inD hu).or ((op_inTD hu).or op_in_str), fun F H x y d e z Q s vx vy eq q => ?_⟩
  unfold dInS at eq
  split at eq
  · split at eq
    · rename_i h
      cases eq
      exact .inl ⟨_, _, vx.dp s (shaped_lay h.1), vy.dp s (shaped_lay h.2), h.1, h.2, q _ _ _ .refl (by simpa using Fz.bl _)⟩
    · cases eq
  · split at eq
    · rename_i h
      cases eq
      exact .inr (.inl ⟨_, _, vx.dp s (shaped_lay h.1), vy.dp s (shaped_lay h.2), h.1, h.2, q _ _ _ .refl (by simpa using Fz.bl _)⟩)
    · cases eq
  · cases eq
    exact .inr (.inr ⟨_, _, vx.strs, vy.strs, q _ _ _ .refl (by simpa using Fz.bl _)⟩)
  · cases eq
theorem opd_notin (hu : X.A.units + 65 < cLine) : OpD X (compareOp .NotIn) (dInS true) := by
  refine ⟨_, (op_notInD hu).or ((op_notInTD hu).or L2.op_notin_str), fun F H x y d e z Q s vx vy eq q => ?_⟩
  unfold dInS at eq
  split at eq
  · split at eq
    · rename_i h
      cases eq
      exact .inl ⟨_, _, vx.dp s (shaped_lay h.1), vy.dp s (shaped_lay h.2), h.1, h.2, q _ _ _ .refl (by simpa using Fz.bl _)⟩
    · cases eq
  · split at eq
    · rename_i h
      cases eq
      exact .inr (.inl ⟨_, _, vx.dp s (shaped_lay h.1), vy.dp s (shaped_lay h.2), h.1, h.2, q _ _ _ .refl (by simpa using Fz.bl _)⟩)
    · cases eq
  · cases eq
    exact .inr (.inr ⟨_, _, vx.strs, vy.strs, q _ _ _ .refl (by simpa using Fz.bl _)⟩)
  · cases eq

/-! ### an item -/
def dIx : PyData → PyData → Option PyData
  | .list ds, .int i => atI ds i
  | .tuple ds, .int i => atI ds i
  | .str z, .int i => if z.length ≤ sizeLine then (atI z.cps.toList i).map fun c => .str ⟨#[c]⟩ else none
  | _, _ => none
theorem FzA.atI {K : PySem.W.Frag} {F : Hp} {vs : List V} {ds : List PyData} {i : Int} {d : PyData} (h : FzA K F vs ds) (e : L2.atI ds i = some d) : ∃ v, L2.atI vs i = some v ∧ Fz K F v d := by
  unfold L2.atI at e ⊢
  rw [h.length]
  cases hn : ixN ds.length i with
  | none => rw [hn] at e; cases e
  | some j =>
    rw [hn] at e
    exact h.getD e
def IxD (X : Cx) (g : PyData → PyData → Option PyData) : Prop := ∃ r, IxR X r ∧ ∀ (F H : Hp) (x y : V) (d e z : PyData) (Q : VK), Sub F H → Vw X.K F H x d → Vw X.K F H y e → g d e = some z →
  (∀ v H' F', Ext F H F' H' → Fz X.K F' v z → Q v H') → r x y H Q
theorem ixd_seq : IxD X dIx := by
  refine ⟨_, ix_seq, fun F H x y d e z Q s vx vy eq q => ?_⟩
  unfold dIx at eq
  split at eq
  · obtain ⟨a, us, rfl, ha, ta⟩ := vx.lists s
    obtain ⟨v, hv, fv⟩ := ta.atI eq
    exact .inl ⟨a, us, _, v, rfl, vy.ints, ha, hv, q _ _ _ .refl fv⟩
  · obtain ⟨a, us, rfl, ha, ta, _⟩ := vx.tups s
    obtain ⟨v, hv, fv⟩ := ta.atI eq
    exact .inr (.inl ⟨a, us, _, v, rfl, vy.ints, .inl (.inl ha), hv, q _ _ _ .refl fv⟩)
  · split at eq
    · rename_i hl
      simp only [Option.map_eq_some_iff] at eq
      obtain ⟨c, hc, rfl⟩ := eq
      exact .inr (.inr ⟨_, _, c, vx.strs, vy.ints, hl, hc, q _ _ _ .refl (.str _)⟩)
    · cases eq
  · cases eq
theorem ped_ix {a b : Expr} {g : PyData → PyData → Option PyData} {f1 f2 : XM} {pos : Pos} (ho : IxD X g) (ha : PEd X a f1) (hb : PEd X b f2) (hs : PlainIx b) : PEd X (.Subscript a b pos) (mBin g f1 f2) := by
  obtain ⟨r, h, hr⟩ := ho
  obtain ⟨t1, p1, h1⟩ := ha
  obtain ⟨t2, p2, h2⟩ := hb
  exact ⟨_, pe_ix h p1 p2 hs, bin_d (a := a) (b := b) (f := fun x y => getItem x y) hr h1 h2⟩

/-! ### one-place operations -/
def mUn (g : PyData → Option PyData) (f : XM) : XM := fun ρ P => (f ρ P).bind fun (a, P1) => (flat P1 a).bind fun d => (g d).map fun z => (.fz z, P1)
def dNeg : PyData → Option PyData
  | .int i => some (.int (-i))
  | _ => none
theorem ped_neg {a : Expr} {f : XM} {pos : Pos} (ha : PEd X a f) : PEd X (.UnaryOp .USub a pos) (mUn dNeg f) := by
  obtain ⟨t1, p1, h1⟩ := ha
  refine ⟨_, pe_un un_neg p1, fun bs ρ σ os vs P H Q r P' R e q => ?_⟩
  simp only [mUn, Option.bind_eq_some_iff, Option.map_eq_some_iff, Prod.mk.injEq] at e
  obtain ⟨⟨s1, P1⟩, e1, d1, e3, z, e5, rfl, rfl⟩ := e
  refine h1 bs ρ σ os vs P H _ s1 P1 R e1 fun x H1 R1 => ?_
  obtain ⟨F, ad, R1⟩ := R1
  obtain ⟨r1, R1⟩ := R1.pop
  have vw := R1.view r1 e3
  unfold dNeg at e5
  split at e5
  · cases e5
    exact ⟨_, vw.ints, q _ _ (R1.atom (.int _))⟩
  · cases e5

/-! ### conditions -/
def mTB (f : XM) : BM := fun ρ P => (f ρ P).bind fun (a, P1) => match a with
  | .fz (.bool b) => some (b, P1)
  | _ => none
/-- an expression whose value is True or False -/
theorem ptd_val {e : Expr} {f : XM} (h : PEd X e f) (he : ∀ whole, isTrue e X.env whole = (do let v ← whole; standAt e.pos; holding [v] (truthy v)) := by intro _; rfl) : PTd X e (mTB f) := by
  obtain ⟨t, p, h1⟩ := h
  refine ⟨_, pt_val p he, fun bs ρ σ os vs P H Q r P' R e q => ?_⟩
  simp only [mTB, Option.bind_eq_some_iff] at e
  obtain ⟨⟨s1, P1⟩, e1, e2⟩ := e
  refine h1 bs ρ σ os vs P H _ s1 P1 R e1 fun x H1 R1 => ?_
  simp only at e2
  split at e2
  · cases e2
    obtain ⟨F, ad, R0⟩ := R1
    obtain ⟨r1, R2⟩ := R0.pop
    cases r1
    exact ⟨_, rfl, q _ ⟨F, ad, R2⟩⟩
  · cases e2
theorem ptd_cmp {a b : Expr} {op : CmpOp} {g : PyData → PyData → Option PyData} {f1 f2 : XM} {pos : Pos} (ho : OpD X (compareOp op) g) (ha : PEd X a f1) (hb : PEd X b f2) (hm : behindInMarks op b = false) : PTd X (.Compare a [op] [b] pos) (mTB (mBin g f1 f2)) := by
  obtain ⟨r, h, hr⟩ := ho
  obtain ⟨t1, p1, h1⟩ := ha
  obtain ⟨t2, p2, h2⟩ := hb
  refine ⟨_, pt_cmpR h p1 p2 hm, fun bs ρ σ os vs P H Q w P' R e q => ?_⟩
  simp only [mTB, Option.bind_eq_some_iff] at e
  obtain ⟨⟨s1, P1⟩, e1, e2⟩ := e
  refine bin_d (a := a) (b := b) (f := compareOp op) hr h1 h2 bs ρ σ os vs P H _ s1 P1 R e1 fun x H1 R1 => ?_
  simp only at e2
  split at e2
  · cases e2
    obtain ⟨F, ad, R0⟩ := R1
    obtain ⟨r1, R2⟩ := R0.pop
    cases r1
    exact ⟨_, rfl, q _ ⟨F, ad, R2⟩⟩
  · cases e2
def mNotB (f : BM) : BM := fun ρ P => (f ρ P).map fun (a, P1) => (!a, P1)
def mAndB (f g : BM) : BM := fun ρ P => (f ρ P).bind fun (a, P1) => if a = true then g ρ P1 else some (false, P1)
def mOrB (f g : BM) : BM := fun ρ P => (f ρ P).bind fun (a, P1) => if a = true then some (true, P1) else g ρ P1
theorem ptd_not {a : Expr} {f : BM} {pos : Pos} (h : PTd X a f) : PTd X (.UnaryOp .Not a pos) (mNotB f) := by
  obtain ⟨t, p, h1⟩ := h
  refine ⟨_, pt_not p, fun bs ρ σ os vs P H Q r P' R e q => ?_⟩
  simp only [mNotB, Option.map_eq_some_iff, Prod.mk.injEq] at e
  obtain ⟨⟨s1, P1⟩, e1, rfl, rfl⟩ := e
  exact h1 bs ρ σ os vs P H _ s1 P1 R e1 fun H1 R1 => q _ R1
/-- a chain of and, of or, as a test -/
def PWd (X : Cx) (e : Expr) (f : BM) : Prop := ∃ t, PW X e t ∧ ∀ (bs : List Nat) (ρ : EV) (σ : L2.St) (os : List SV) (vs : List V) (P : Store) (H : Hp) (Q : Bool → Hp → Prop) (r : Bool) (P' : Store), Rel X.K bs ρ σ os vs P H → f ρ P = some (r, P') →
  (∀ H', Rel X.K bs ρ σ os vs P' H' → Q r H') → t σ H Q
theorem PWd.pt {e : Expr} {f : BM} (h : PWd X e f) : PTd X e f := let ⟨t, p, q⟩ := h; ⟨t, p.pt, q⟩
theorem pwd_and1 {a : Expr} {f : BM} {pos : Pos} (h : PTd X a f) : PWd X (.BoolOp .And [a] pos) f := let ⟨t, p, q⟩ := h; ⟨t, pw_and1 p, q⟩
theorem pwd_or1 {a : Expr} {f : BM} {pos : Pos} (h : PTd X a f) : PWd X (.BoolOp .Or [a] pos) f := let ⟨t, p, q⟩ := h; ⟨t, pw_or1 p, q⟩
theorem and_d {f g : BM} {t u : TT}
    (h1 : ∀ (bs : List Nat) (ρ : EV) (σ : L2.St) (os : List SV) (vs : List V) (P : Store) (H : Hp) (Q : Bool → Hp → Prop) (r : Bool) (P' : Store), Rel X.K bs ρ σ os vs P H → f ρ P = some (r, P') → (∀ H', Rel X.K bs ρ σ os vs P' H' → Q r H') → t σ H Q)
    (h2 : ∀ (bs : List Nat) (ρ : EV) (σ : L2.St) (os : List SV) (vs : List V) (P : Store) (H : Hp) (Q : Bool → Hp → Prop) (r : Bool) (P' : Store), Rel X.K bs ρ σ os vs P H → g ρ P = some (r, P') → (∀ H', Rel X.K bs ρ σ os vs P' H' → Q r H') → u σ H Q)
    (bs : List Nat) (ρ : EV) (σ : L2.St) (os : List SV) (vs : List V) (P : Store) (H : Hp) (Q : Bool → Hp → Prop) (r : Bool) (P' : Store) (R : Rel X.K bs ρ σ os vs P H) (e : mAndB f g ρ P = some (r, P')) (q : ∀ H', Rel X.K bs ρ σ os vs P' H' → Q r H') : tAnd t u σ H Q := by
  simp only [mAndB, Option.bind_eq_some_iff] at e
  obtain ⟨⟨s1, P1⟩, e1, e2⟩ := e
  refine h1 bs ρ σ os vs P H _ s1 P1 R e1 fun H1 R1 => ?_
  simp only at e2
  cases s1 with
  | true =>
    rw [if_pos rfl] at e2 ⊢
    exact h2 bs ρ σ os vs P1 H1 _ r P' R1 e2 q
  | false =>
    rw [if_neg Bool.false_ne_true] at e2 ⊢
    cases e2
    exact q _ R1
theorem or_d {f g : BM} {t u : TT}
    (h1 : ∀ (bs : List Nat) (ρ : EV) (σ : L2.St) (os : List SV) (vs : List V) (P : Store) (H : Hp) (Q : Bool → Hp → Prop) (r : Bool) (P' : Store), Rel X.K bs ρ σ os vs P H → f ρ P = some (r, P') → (∀ H', Rel X.K bs ρ σ os vs P' H' → Q r H') → t σ H Q)
    (h2 : ∀ (bs : List Nat) (ρ : EV) (σ : L2.St) (os : List SV) (vs : List V) (P : Store) (H : Hp) (Q : Bool → Hp → Prop) (r : Bool) (P' : Store), Rel X.K bs ρ σ os vs P H → g ρ P = some (r, P') → (∀ H', Rel X.K bs ρ σ os vs P' H' → Q r H') → u σ H Q)
    (bs : List Nat) (ρ : EV) (σ : L2.St) (os : List SV) (vs : List V) (P : Store) (H : Hp) (Q : Bool → Hp → Prop) (r : Bool) (P' : Store) (R : Rel X.K bs ρ σ os vs P H) (e : mOrB f g ρ P = some (r, P')) (q : ∀ H', Rel X.K bs ρ σ os vs P' H' → Q r H') : tOr t u σ H Q := by
  simp only [mOrB, Option.bind_eq_some_iff] at e
  obtain ⟨⟨s1, P1⟩, e1, e2⟩ := e
  refine h1 bs ρ σ os vs P H _ s1 P1 R e1 fun H1 R1 => ?_
  simp only at e2
  cases s1 with
  | false =>
    rw [if_neg Bool.false_ne_true] at e2 ⊢
    exact h2 bs ρ σ os vs P1 H1 _ r P' R1 e2 q
  | true =>
    rw [if_pos rfl] at e2 ⊢
    cases e2
    exact q _ R1
theorem pwd_and {a b : Expr} {rest : List Expr} {f g : BM} {pos : Pos} (h : PTd X a f) (h' : PWd X (.BoolOp .And (b :: rest) pos) g) : PWd X (.BoolOp .And (a :: b :: rest) pos) (mAndB f g) := by
  obtain ⟨t, p, h1⟩ := h
  obtain ⟨u, p', h2⟩ := h'
  exact ⟨_, pw_and p p', and_d h1 h2⟩
theorem pwd_or {a b : Expr} {rest : List Expr} {f g : BM} {pos : Pos} (h : PTd X a f) (h' : PWd X (.BoolOp .Or (b :: rest) pos) g) : PWd X (.BoolOp .Or (a :: b :: rest) pos) (mOrB f g) := by
  obtain ⟨t, p, h1⟩ := h
  obtain ⟨u, p', h2⟩ := h'
  exact ⟨_, pw_or p p', or_d h1 h2⟩
/-- .. as values (bools) -/
def mAndV (f g : XM) : XM := fun ρ P => (f ρ P).bind fun (a, P1) => match a with
  | .fz (.bool true) => g ρ P1
  | .fz (.bool false) => some (.fz (.bool false), P1)
  | _ => none
def mOrV (f g : XM) : XM := fun ρ P => (f ρ P).bind fun (a, P1) => match a with
  | .fz (.bool false) => g ρ P1
  | .fz (.bool true) => some (.fz (.bool true), P1)
  | _ => none
def mNotV (f : XM) : XM := fun ρ P => (f ρ P).bind fun (a, P1) => match a with
  | .fz (.bool b) => some (.fz (.bool (!b)), P1)
  | _ => none
theorem ped_one {op} {a : Expr} {f : XM} {pos : Pos} (h : PEd X a f) : PEd X (.BoolOp op [a] pos) f := let ⟨t, p, q⟩ := h; ⟨t, pe_one p, q⟩
theorem ped_and {a b : Expr} {rest : List Expr} {f g : XM} {pos : Pos} (h : PEd X a f) (h' : PEd X (.BoolOp .And (b :: rest) pos) g) : PEd X (.BoolOp .And (a :: b :: rest) pos) (mAndV f g) := by
  obtain ⟨t, p, h1⟩ := h
  obtain ⟨u, p', h2⟩ := h'
  refine ⟨_, pe_and p p', fun bs ρ σ os vs P H Q r P' R e q => ?_⟩
  simp only [mAndV, Option.bind_eq_some_iff] at e
  obtain ⟨⟨s1, P1⟩, e1, e2⟩ := e
  refine h1 bs ρ σ os vs P H _ s1 P1 R e1 fun x H1 R1 => ?_
  simp only at e2
  obtain ⟨F, ad, R0⟩ := R1
  obtain ⟨r1, R2⟩ := R0.pop
  split at e2
  · cases r1
    exact ⟨true, rfl, by rw [if_pos rfl]; exact h2 bs ρ σ os vs P1 H1 _ r P' ⟨F, ad, R2⟩ e2 q⟩
  · cases r1
    cases e2
    exact ⟨false, rfl, by rw [if_neg Bool.false_ne_true]; exact q _ _ (R2.atom (.bl _))⟩
  · cases e2
theorem ped_or {a b : Expr} {rest : List Expr} {f g : XM} {pos : Pos} (h : PEd X a f) (h' : PEd X (.BoolOp .Or (b :: rest) pos) g) : PEd X (.BoolOp .Or (a :: b :: rest) pos) (mOrV f g) := by
  obtain ⟨t, p, h1⟩ := h
  obtain ⟨u, p', h2⟩ := h'
  refine ⟨_, pe_or p p', fun bs ρ σ os vs P H Q r P' R e q => ?_⟩
  simp only [mOrV, Option.bind_eq_some_iff] at e
  obtain ⟨⟨s1, P1⟩, e1, e2⟩ := e
  refine h1 bs ρ σ os vs P H _ s1 P1 R e1 fun x H1 R1 => ?_
  simp only at e2
  obtain ⟨F, ad, R0⟩ := R1
  obtain ⟨r1, R2⟩ := R0.pop
  split at e2
  · cases r1
    exact ⟨false, rfl, by rw [if_neg Bool.false_ne_true]; exact h2 bs ρ σ os vs P1 H1 _ r P' ⟨F, ad, R2⟩ e2 q⟩
  · cases r1
    cases e2
    exact ⟨true, rfl, by rw [if_pos rfl]; exact q _ _ (R2.atom (.bl _))⟩
  · cases e2
theorem ped_not {a : Expr} {f : XM} {pos : Pos} (h : PEd X a f) : PEd X (.UnaryOp .Not a pos) (mNotV f) := by
  obtain ⟨t, p, h1⟩ := h
  refine ⟨_, pe_not p, fun bs ρ σ os vs P H Q r P' R e q => ?_⟩
  simp only [mNotV, Option.bind_eq_some_iff] at e
  obtain ⟨⟨s1, P1⟩, e1, e2⟩ := e
  refine h1 bs ρ σ os vs P H _ s1 P1 R e1 fun x H1 R1 => ?_
  simp only at e2
  obtain ⟨F, ad, R0⟩ := R1
  obtain ⟨r1, R2⟩ := R0.pop
  split at e2
  · cases r1
    cases e2
    exact ⟨_, rfl, q _ _ (R2.atom (.bl _))⟩
  · cases e2
def mIfE (c : BM) (f g : XM) : XM := fun ρ P => (c ρ P).bind fun (b, P1) => if b = true then f ρ P1 else g ρ P1
theorem ped_if {c a b : Expr} {fc : BM} {f g : XM} {pos : Pos} (hc : PTd X c fc) (ha : PEd X a f) (hb : PEd X b g) : PEd X (.IfExp c a b pos) (mIfE fc f g) := by
  obtain ⟨t0, p0, h0⟩ := hc
  obtain ⟨t, p, h1⟩ := ha
  obtain ⟨u, p', h2⟩ := hb
  refine ⟨_, pe_ifExp p0 p p', fun bs ρ σ os vs P H Q r P' R e q => ?_⟩
  simp only [mIfE, Option.bind_eq_some_iff] at e
  obtain ⟨⟨s1, P1⟩, e1, e2⟩ := e
  refine h0 bs ρ σ os vs P H _ s1 P1 R e1 fun H1 R1 => ?_
  simp only at e2
  cases s1 with
  | true => rw [if_pos rfl] at e2 ⊢; exact h1 bs ρ σ os vs P1 H1 _ r P' R1 e2 q
  | false => rw [if_neg Bool.false_ne_true] at e2 ⊢; exact h2 bs ρ σ os vs P1 H1 _ r P' R1 e2 q
/-- a < b < c -/
def mChain (g g' : PyData → PyData → Option PyData) (f1 f2 f3 : XM) : XM := fun ρ P => (f1 ρ P).bind fun (a, P1) => (f2 ρ P1).bind fun (b, P2) => (flat P2 a).bind fun d => (flat P2 b).bind fun e => (g d e).bind fun z => match z with
  | .bool true => (f3 ρ P2).bind fun (c, P3) => (flat P3 b).bind fun e' => (flat P3 c).bind fun k => (g' e' k).map fun z' => (.fz z', P3)
  | .bool false => some (.fz (.bool false), P2)
  | _ => none
theorem chain_d {g g' : PyData → PyData → Option PyData} {f1 f2 f3 : XM} {t1 t2 t3 : TE} {r r' : R2}
    (hr : ∀ (F H : Hp) (x y : V) (d e z : PyData) (Q : VK), Sub F H → Vw X.K F H x d → Vw X.K F H y e → g d e = some z → (∀ v H' F', Ext F H F' H' → Fz X.K F' v z → Q v H') → r x y H Q)
    (hr' : ∀ (F H : Hp) (x y : V) (d e z : PyData) (Q : VK), Sub F H → Vw X.K F H x d → Vw X.K F H y e → g' d e = some z → (∀ v H' F', Ext F H F' H' → Fz X.K F' v z → Q v H') → r' x y H Q)
    (h1 : ∀ (bs : List Nat) (ρ : EV) (σ : L2.St) (os : List SV) (vs : List V) (P : Store) (H : Hp) (Q : VK) (r : SV) (P' : Store), Rel X.K bs ρ σ os vs P H → f1 ρ P = some (r, P') → (∀ v H', Rel X.K bs ρ σ (r :: os) (v :: vs) P' H' → Q v H') → t1 σ H Q)
    (h2 : ∀ (bs : List Nat) (ρ : EV) (σ : L2.St) (os : List SV) (vs : List V) (P : Store) (H : Hp) (Q : VK) (r : SV) (P' : Store), Rel X.K bs ρ σ os vs P H → f2 ρ P = some (r, P') → (∀ v H', Rel X.K bs ρ σ (r :: os) (v :: vs) P' H' → Q v H') → t2 σ H Q)
    (h3 : ∀ (bs : List Nat) (ρ : EV) (σ : L2.St) (os : List SV) (vs : List V) (P : Store) (H : Hp) (Q : VK) (r : SV) (P' : Store), Rel X.K bs ρ σ os vs P H → f3 ρ P = some (r, P') → (∀ v H', Rel X.K bs ρ σ (r :: os) (v :: vs) P' H' → Q v H') → t3 σ H Q)
    (bs : List Nat) (ρ : EV) (σ : L2.St) (os : List SV) (vs : List V) (P : Store) (H : Hp) (Q : VK) (w : SV) (P' : Store) (R : Rel X.K bs ρ σ os vs P H) (e : mChain g g' f1 f2 f3 ρ P = some (w, P'))
    (q : ∀ v H', Rel X.K bs ρ σ (w :: os) (v :: vs) P' H' → Q v H') : tChain r r' t1 t2 t3 σ H Q := by
  simp only [mChain, Option.bind_eq_some_iff] at e
  obtain ⟨⟨s1, P1⟩, e1, ⟨s2, P2⟩, e2, d1, e3, d2, e4, z, e5, e6⟩ := e
  refine h1 bs ρ σ os vs P H _ s1 P1 R e1 fun x H1 R1 => ?_
  refine h2 bs ρ σ _ _ P1 H1 _ s2 P2 R1 e2 fun y H2 R2 => ?_
  obtain ⟨F, ad, R2⟩ := R2
  obtain ⟨r2, R3⟩ := R2.pop
  obtain ⟨r1, R4⟩ := R3.pop
  refine hr F H2 x y d1 d2 z _ R2.sub (R2.view r1 e3) (R2.view r2 e4) e5 fun v H' F' xx f => ?_
  simp only at e6
  split at e6
  · cases f
    refine ⟨true, rfl, ?_⟩
    rw [if_pos rfl]
    simp only [Option.bind_eq_some_iff, Option.map_eq_some_iff, Prod.mk.injEq] at e6
    obtain ⟨⟨s3, P3⟩, e7, d3, e8, d4, e9, z', e10, rfl, rfl⟩ := e6
    refine h3 bs ρ σ _ _ P2 H' _ s3 P3 ⟨F', ad, R2.ext xx⟩ e7 fun y3 H3 R5 => ?_
    obtain ⟨F3, ad3, R5⟩ := R5
    obtain ⟨r3, R6⟩ := R5.pop
    obtain ⟨r4, R7⟩ := R6.pop
    obtain ⟨_, R8⟩ := R7.pop
    exact hr' F3 H3 y y3 d3 d4 z' _ R5.sub (R5.view r4 e8) (R5.view r3 e9) e10 fun v H' F' x f => q v H' ((R8.ext x).atom f)
  · cases f
    refine ⟨false, rfl, ?_⟩
    rw [if_neg Bool.false_ne_true]
    cases e6
    exact q _ _ ((R4.ext xx).atom (.bl _))
  · cases e6
theorem ped_chain {a b c : Expr} {op op' : CmpOp} {g g' : PyData → PyData → Option PyData} {f1 f2 f3 : XM} {pos : Pos} (ho : OpD X (compareOp op) g) (ho' : OpD X (compareOp op') g') (ha : PEd X a f1) (hb : PEd X b f2) (hc : PEd X c f3)
    (hm : lastMarks [op, op'] [b, c] = false := by with_unfolding_all rfl) : PEd X (.Compare a [op, op'] [b, c] pos) (mChain g g' f1 f2 f3) := by
  obtain ⟨r, h, hr⟩ := ho
  obtain ⟨r', h', hr'⟩ := ho'
  obtain ⟨t1, p1, h1⟩ := ha
  obtain ⟨t2, p2, h2⟩ := hb
  obtain ⟨t3, p3, h3⟩ := hc
  exact ⟨_, pe_chain h h' p1 p2 p3 hm, chain_d hr hr' h1 h2 h3⟩
theorem ptd_chain {a b c : Expr} {op op' : CmpOp} {g g' : PyData → PyData → Option PyData} {f1 f2 f3 : XM} {pos : Pos} (ho : OpD X (compareOp op) g) (ho' : OpD X (compareOp op') g') (ha : PEd X a f1) (hb : PEd X b f2) (hc : PEd X c f3)
    (hm : lastMarks [op, op'] [b, c] = false := by with_unfolding_all rfl) : PTd X (.Compare a [op, op'] [b, c] pos) (mTB (mChain g g' f1 f2 f3)) := by
  obtain ⟨r, h, hr⟩ := ho
  obtain ⟨r', h', hr'⟩ := ho'
  obtain ⟨t1, p1, h1⟩ := ha
  obtain ⟨t2, p2, h2⟩ := hb
  obtain ⟨t3, p3, h3⟩ := hc
  refine ⟨_, pt_chain h h' p1 p2 p3 hm, fun bs ρ σ os vs P H Q w P' R e q => ?_⟩
  simp only [mTB, Option.bind_eq_some_iff] at e
  obtain ⟨⟨s1, P1⟩, e1, e2⟩ := e
  refine chain_d hr hr' h1 h2 h3 bs ρ σ os vs P H _ s1 P1 R e1 fun x H1 R1 => ?_
  simp only at e2
  split at e2
  · cases e2
    obtain ⟨F, ad, R0⟩ := R1
    obtain ⟨r1, R2⟩ := R0.pop
    cases r1
    exact ⟨_, rfl, q _ ⟨F, ad, R2⟩⟩
  · cases e2
end
end Pd

set_option Elab.async false
set_option linter.all false
set_option maxRecDepth 100000
set_option maxHeartbeats 1000000
/-! The layer Pd, part D: arguments, displays, built-in calls, slices. -/
namespace Pd
open PySem PySem.Spec PyProof.Rows L2
section
variable {X : Cx} {pos : Pos}

/-- the value is frozen -/
def mFz (f : XM) : XM := fun ρ P => (f ρ P).bind fun (a, P1) => (frz P1 a).map fun (d, P2) => (.fz d, P2)
theorem ped_fz {e : Expr} {f : XM} (h : PEd X e f) : PEd X e (mFz f) := by
  obtain ⟨t, p, h1⟩ := h
  refine ⟨t, p, fun bs ρ σ os vs P H Q r P' R e q => ?_⟩
  simp only [mFz, Option.bind_eq_some_iff, Option.map_eq_some_iff, Prod.mk.injEq] at e
  obtain ⟨⟨s1, P1⟩, e1, ⟨d, P2⟩, e2, rfl, rfl⟩ := e
  refine h1 bs ρ σ os vs P H _ s1 P1 R e1 fun x H1 R1 => ?_
  obtain ⟨F, ad, R0⟩ := R1
  obtain ⟨r1, R2⟩ := R0.pop
  obtain ⟨G, R3, _, fd⟩ := R2.freeze r1 e2
  exact q _ _ ⟨G, ad, R3.push fd⟩

def aNil : AM := fun _ P => some ([], P)
def aCons (f : XM) (g : AM) : AM := fun ρ P => (f ρ P).bind fun (a, P1) => (g ρ P1).map fun (l, P2) => (a :: l, P2)
theorem pad_nil : PAd X [] aNil := ⟨_, pa_nil, fun bs ρ σ os vs P H Q r P' R e q => by
  simp only [aNil, Option.some.injEq, Prod.mk.injEq] at e
  obtain ⟨rfl, rfl⟩ := e
  exact q [] H rfl R⟩
theorem pad_cons {e : Expr} {es : List Expr} {f : XM} {g : AM} (h : PEd X e f) (h' : PAd X es g) (hs : starEach (e :: es) X.env = (false, eval e X.env) :: starEach es X.env := by rfl) : PAd X (e :: es) (aCons f g) := by
  obtain ⟨t, p, h1⟩ := h
  obtain ⟨u, p', h2⟩ := h'
  refine ⟨_, pa_cons p p' hs, fun bs ρ σ os vs P H Q r P' R e q => ?_⟩
  simp only [aCons, Option.bind_eq_some_iff, Option.map_eq_some_iff, Prod.mk.injEq] at e
  obtain ⟨⟨s1, P1⟩, e1, ⟨l, P2⟩, e2, rfl, rfl⟩ := e
  refine h1 bs ρ σ os vs P H _ s1 P1 R e1 fun x H1 R1 => ?_
  refine h2 bs ρ σ _ _ P1 H1 _ l P2 R1 e2 fun ws H2 hl R2 => ?_
  refine q (x :: ws) H2 (by simp [hl]) ?_
  simpa using R2
theorem SVA.rev {K : PySem.W.Frag} {F : Hp} {ad : List Addr} : ∀ {l : List SV} {ws : List V} {os : List SV} {vs : List V}, ws.length = l.length → SVA K F ad (ws.reverse ++ vs) (l.reverse ++ os) → SVA K F ad ws l ∧ SVA K F ad vs os
  | [], [], os, vs, _, h => ⟨.nil, by simpa using h⟩
  | a :: l, w :: ws, os, vs, e, h => by
    have h' : SVA K F ad (ws.reverse ++ (w :: vs)) (l.reverse ++ (a :: os)) := by simpa using h
    obtain ⟨h1, h2⟩ := SVA.rev (l := l) (ws := ws) (by simpa using e) h'
    cases h2 with
    | cons a b => exact ⟨.cons a h1, b⟩
  | [], _ :: _, _, _, e, _ => by simp at e
  | _ :: _, [], _, _, e, _ => by simp at e
theorem RelX.args {K : PySem.W.Frag} {bs : List Nat} {ρ : EV} {σ : L2.St} {os : List SV} {vs : List V} {P : Store} {H F : Hp} {ad : List Addr} {l : List SV} {ws : List V} (R : RelX K bs ρ σ (l.reverse ++ os) (ws.reverse ++ vs) P H F ad) (e : ws.length = l.length) :
    SVA K F ad ws l ∧ RelX K bs ρ σ os vs P H F ad := let ⟨a, b⟩ := SVA.rev e R.tops; ⟨a, R.tops_of b⟩

/-! ### displays -/
def mTup (g : AM) : XM := fun ρ P => (g ρ P).bind fun (l, P1) => (fzs l).bind fun ds => if ds.length ≤ sizeLine then some (.fz (.tuple ds), P1) else none
def mLst (g : AM) : XM := fun ρ P => (g ρ P).bind fun (l, P1) => (fzs l).bind fun ds => if ds.length ≤ sizeLine then some (.fz (.list ds), P1) else none
/-- a list that may change -/
def mLstC (g : AM) : XM := fun ρ P => (g ρ P).bind fun (l, P1) => if l.length ≤ sizeLine then some (.ptr P1.length, P1 ++ [.lst l]) else none
theorem ped_tup {es : List Expr} {x1} {g : AM} (h : PAd X es g) : PEd X (.Tuple es x1 pos) (mTup g) := by
  obtain ⟨t, p, h1⟩ := h
  refine ⟨_, pe_tup p, fun bs ρ σ os vs P H Q r P' R e q => ?_⟩
  simp only [mTup, Option.bind_eq_some_iff] at e
  obtain ⟨⟨l, P1⟩, e1, ds, e2, e3⟩ := e
  split at e3
  · rename_i hz
    cases e3
    refine h1 bs ρ σ os vs P H _ l P1 R e1 fun ws H1 hl R1 => ?_
    obtain ⟨F, ad, R1⟩ := R1
    obtain ⟨a, R2⟩ := R1.args hl
    have fa := fzs_some a e2
    refine ⟨by rw [fa.length]; exact hz, fun p n => q _ _ ⟨_, ad, (R2.lay n).push ?_⟩⟩
    exact .tup upd_same (fa.mono (upd_le (R2.free n)))
  · cases e3
theorem ped_lst {es : List Expr} {g : AM} (h : PAd X es g) : PEd X (.List es pos) (mLst g) := by
  obtain ⟨t, p, h1⟩ := h
  refine ⟨_, pe_lst p, fun bs ρ σ os vs P H Q r P' R e q => ?_⟩
  simp only [mLst, Option.bind_eq_some_iff] at e
  obtain ⟨⟨l, P1⟩, e1, ds, e2, e3⟩ := e
  split at e3
  · rename_i hz
    cases e3
    refine h1 bs ρ σ os vs P H _ l P1 R e1 fun ws H1 hl R1 => ?_
    obtain ⟨F, ad, R1⟩ := R1
    obtain ⟨a, R2⟩ := R1.args hl
    have fa := fzs_some a e2
    refine ⟨by rw [fa.length]; exact hz, fun p n => q _ _ ⟨_, ad, (R2.lay n).push ?_⟩⟩
    exact .lst (.of upd_same) (fa.mono (upd_le (R2.free n)))
  · cases e3
theorem ped_lstC {es : List Expr} {g : AM} (h : PAd X es g) : PEd X (.List es pos) (mLstC g) := by
  obtain ⟨t, p, h1⟩ := h
  refine ⟨_, pe_lst p, fun bs ρ σ os vs P H Q r P' R e q => ?_⟩
  simp only [mLstC, Option.bind_eq_some_iff] at e
  obtain ⟨⟨l, P1⟩, e1, e3⟩ := e
  split at e3
  · rename_i hz
    cases e3
    refine h1 bs ρ σ os vs P H _ l P1 R e1 fun ws H1 hl R1 => ?_
    obtain ⟨F, ad, R1⟩ := R1
    obtain ⟨a, R2⟩ := R1.args hl
    refine ⟨by rw [a.length]; exact hz, fun p n => q _ _ ⟨F, ad ++ [p], R2.cell n fun ad' pr => ⟨R2.free n, ws, upd_same, a.mono (.refl _) pr⟩⟩⟩
  · cases e3

/-! ### calls of built-ins -/
inductive VwA (K : PySem.W.Frag) (F H : Hp) : List V → List PyData → Prop
  | nil : VwA K F H [] []
  | cons {v : V} {vs : List V} {d : PyData} {ds : List PyData} : Vw K F H v d → VwA K F H vs ds → VwA K F H (v :: vs) (d :: ds)
def flats (P : Store) : List SV → Option (List PyData)
  | [] => some []
  | a :: l => (flat P a).bind fun d => (flats P l).map (d :: ·)
theorem RelX.views {K : PySem.W.Frag} {bs : List Nat} {ρ : EV} {σ : L2.St} {os : List SV} {vs : List V} {P : Store} {H F : Hp} {ad : List Addr} (R : RelX K bs ρ σ os vs P H F ad) :
    ∀ {ws : List V} {l : List SV} {ds : List PyData}, SVA K F ad ws l → flats P l = some ds → VwA K F H ws ds
  | _, _, _, .nil, e => by simp only [flats, Option.some.injEq] at e; subst e; exact .nil
  | _, _, _, .cons a t, e => by
    simp only [flats, Option.bind_eq_some_iff, Option.map_eq_some_iff] at e
    obtain ⟨d, e1, r, e2, rfl⟩ := e
    exact .cons (R.view a e1) (R.views t e2)
def CallD (X : Cx) (f : Value) (g : List PyData → Option PyData) : Prop := ∃ r, CallR X f r ∧ ∀ (F H : Hp) (xs : List V) (ds : List PyData) (z : PyData) (Q : VK), Sub F H → VwA X.K F H xs ds → g ds = some z →
  (∀ v H' F', Ext F H F' H' → Fz X.K F' v z → Q v H') → r xs H Q
def mCall (g : List PyData → Option PyData) (fs : AM) : XM := fun ρ P => (fs ρ P).bind fun (l, P1) => (flats P1 l).bind fun ds => (g ds).map fun z => (.fz z, P1)
theorem CallD.or {f : Value} {g g' : List PyData → Option PyData} (h : CallD X f g) (h' : CallD X f g') : CallD X f (fun ds => (g ds).or (g' ds)) := by
  obtain ⟨r, h, hr⟩ := h
  obtain ⟨r', h', hr'⟩ := h'
  refine ⟨_, h.or h', fun F H xs ds z Q s vx eq q => ?_⟩
  have eq : (g ds).or (g' ds) = some z := eq
  cases hz : g ds with
  | some w =>
    rw [hz] at eq
    simp only [Option.some_or, Option.some.injEq] at eq
    subst eq
    exact .inl (hr F H xs ds w Q s vx hz q)
  | none =>
    rw [hz] at eq
    exact .inr (hr' F H xs ds z Q s vx (by simpa using eq) q)
theorem call_d {g : List PyData → Option PyData} {fs : AM} {t : TA} {r : List V → Hp → VK → Prop}
    (hr : ∀ (F H : Hp) (xs : List V) (ds : List PyData) (z : PyData) (Q : VK), Sub F H → VwA X.K F H xs ds → g ds = some z → (∀ v H' F', Ext F H F' H' → Fz X.K F' v z → Q v H') → r xs H Q)
    (h1 : ∀ (bs : List Nat) (ρ : EV) (σ : L2.St) (os : List SV) (vs : List V) (P : Store) (H : Hp) (Q : List V → Hp → Prop) (r : List SV) (P' : Store), Rel X.K bs ρ σ os vs P H → fs ρ P = some (r, P') →
      (∀ ws H', ws.length = r.length → Rel X.K bs ρ σ (r.reverse ++ os) (ws.reverse ++ vs) P' H' → Q ws H') → t σ H Q)
    (bs : List Nat) (ρ : EV) (σ : L2.St) (os : List SV) (vs : List V) (P : Store) (H : Hp) (Q : VK) (w : SV) (P' : Store) (R : Rel X.K bs ρ σ os vs P H) (e : mCall g fs ρ P = some (w, P'))
    (q : ∀ v H', Rel X.K bs ρ σ (w :: os) (v :: vs) P' H' → Q v H') : t σ H fun xs H1 => r xs H1 Q := by
  simp only [mCall, Option.bind_eq_some_iff, Option.map_eq_some_iff, Prod.mk.injEq] at e
  obtain ⟨⟨l, P1⟩, e1, ds, e2, z, e3, rfl, rfl⟩ := e
  refine h1 bs ρ σ os vs P H _ l P1 R e1 fun ws H1 hl R1 => ?_
  obtain ⟨F, ad, R1⟩ := R1
  obtain ⟨a, R2⟩ := R1.args hl
  exact hr F H1 ws ds z Q R2.sub (R2.views a e2) e3 fun v H' F' x f => q v H' ((R2.ext x).atom f)
theorem ped_callB {x : Str} {id : String} {e : Expr} {es : List Expr} {g : List PyData → Option PyData} {fs : AM} {p : Pos} (hc : CallD X (.builtin id) g) (hg : Gl X x) (hm : X.mg x = none) (hv : bootBuiltins x = some (.builtin id)) (ha : PAd X (e :: es) fs)
    (hn : x ≠ "__name__" := by decide) (hdb : (x == ("__debug__" : Str)) = false := by decide)
    (he : starEach (e :: es) X.env = (false, eval e X.env) :: starEach es X.env := by rfl) (hpl : (backTo pos (starEach es X.env)).any (·.1) = false := by rfl) : PEd X (.Call (.Name x p) (e :: es) [] pos) (mCall g fs) := by
  obtain ⟨r, h, hr⟩ := hc
  obtain ⟨t, p, h1⟩ := ha
  exact ⟨_, pe_callB h hg hm hv p hn hdb he hpl, call_d hr h1⟩
theorem ped_callT {x : Str} {T : String} {e : Expr} {es : List Expr} {g : List PyData → Option PyData} {fs : AM} {p : Pos} (hc : CallD X (.type T) g) (hg : Gl X x) (hm : X.mg x = none) (hv : bootBuiltins x = some (.type T)) (ha : PAd X (e :: es) fs)
    (hn : x ≠ "__name__" := by decide) (hdb : (x == ("__debug__" : Str)) = false := by decide)
    (he : starEach (e :: es) X.env = (false, eval e X.env) :: starEach es X.env := by rfl) (hpl : (backTo pos (starEach es X.env)).any (·.1) = false := by rfl) : PEd X (.Call (.Name x p) (e :: es) [] pos) (mCall g fs) := by
  obtain ⟨r, h, hr⟩ := hc
  obtain ⟨t, p, h1⟩ := ha
  exact ⟨_, pe_callTy h hg hm hv p hn hdb he hpl, call_d hr h1⟩

/-! the built-ins -/
def gLen : List PyData → Option PyData
  | [.list ds] => some (.int ds.length)
  | [.tuple ds] => some (.int ds.length)
  | [.str z] => if z.length ≤ sizeLine then some (.int z.length) else none
  | _ => none
theorem calld_len : CallD X (.builtin "len") gLen := by
  refine ⟨_, call_len_seq.or call_len_str, fun F H xs ds z Q s vx eq q => ?_⟩
  unfold gLen at eq
  split at eq
  · cases eq
    cases vx with | cons a t => cases t; obtain ⟨p, us, rfl, hp, t⟩ := a.lists s; exact .inl ⟨p, us, rfl, .inl hp, by rw [t.length]; exact q _ _ _ .refl (.int _)⟩
  · cases eq
    cases vx with | cons a t => cases t; obtain ⟨p, us, rfl, hp, t, _⟩ := a.tups s; exact .inl ⟨p, us, rfl, .inr (.inl (.inl hp)), by rw [t.length]; exact q _ _ _ .refl (.int _)⟩
  · split at eq
    · rename_i hl
      cases eq
      cases vx with | cons a t => cases t; exact .inr ⟨_, by rw [a.strs], hl, q _ _ _ .refl (.int _)⟩
    · cases eq
  · cases eq
def gList : List PyData → Option PyData
  | [.list ds] => some (.list ds)
  | [.tuple ds] => some (.list ds)
  | _ => none
theorem calld_list : CallD X (.type "list") gList := by
  refine ⟨_, call_list_of, fun F H xs ds z Q s vx eq q => ?_⟩
  unfold gList at eq
  split at eq
  · cases eq
    cases vx with | cons a t => cases t; obtain ⟨p, us, rfl, hp, t⟩ := a.lists s; exact ⟨p, us, rfl, .inl hp, fun l n => q _ _ _ (.one n) (.lst (.of upd_same) (t.mono (upd_le (s.none n))))⟩
  · cases eq
    cases vx with | cons a t => cases t; obtain ⟨p, us, rfl, hp, t, _⟩ := a.tups s; exact ⟨p, us, rfl, .inr (.inl (.inl hp)), fun l n => q _ _ _ (.one n) (.lst (.of upd_same) (t.mono (upd_le (s.none n))))⟩
  · cases eq
def gTuple : List PyData → Option PyData
  | [.list ds] => some (.tuple ds)
  | [.tuple ds] => some (.tuple ds)
  | _ => none
theorem calld_tuple : CallD X (.type "tuple") gTuple := by
  refine ⟨_, call_tuple_of, fun F H xs ds z Q s vx eq q => ?_⟩
  unfold gTuple at eq
  split at eq
  · cases eq
    cases vx with | cons a t => cases t; obtain ⟨p, us, rfl, hp, t⟩ := a.lists s; exact ⟨p, us, rfl, .inl ⟨hp, fun l n => q _ _ _ (.one n) (.tup upd_same (t.mono (upd_le (s.none n))))⟩⟩
  · cases eq
    cases vx with | cons a t => cases t; obtain ⟨p, us, rfl, hp, t, f⟩ := a.tups s; exact ⟨p, us, rfl, .inr ⟨.inl (.inl hp), q _ _ _ .refl f⟩⟩
  · cases eq
def gInt : List PyData → Option PyData
  | [.int i] => some (.int i)
  | _ => none
theorem calld_int : CallD X (.type "int") gInt := by
  refine ⟨_, call_int1, fun F H xs ds z Q s vx eq q => ?_⟩
  unfold gInt at eq
  split at eq
  · cases eq
    cases vx with | cons a t => cases t; exact .inl ⟨_, by rw [a.ints], q _ _ _ .refl (.int _)⟩
  · cases eq
def bools : List PyData → Option (List Bool)
  | [] => some []
  | .bool b :: r => (bools r).map (b :: ·)
  | _ :: _ => none
def intsD : List PyData → Option (List Int)
  | [] => some []
  | .int b :: r => (intsD r).map (b :: ·)
  | _ :: _ => none
def strsD : List PyData → Option (List Str)
  | [] => some []
  | .str b :: r => (strsD r).map (b :: ·)
  | _ :: _ => none
theorem FzA.bools {K : PySem.W.Frag} {F : Hp} : ∀ {ds : List PyData} {vs : List V} {bs : List Bool}, FzA K F vs ds → Pd.bools ds = some bs → vs = bs.map V.bl
  | [], _, _, .nil, e => by simp only [Pd.bools, Option.some.injEq] at e; subst e; rfl
  | .bool b :: r, _, _, .cons a t, e => by
    simp only [Pd.bools, Option.map_eq_some_iff] at e
    obtain ⟨l, e1, rfl⟩ := e
    cases a
    rw [FzA.bools t e1]; rfl
  | .none :: _, _, _, _, e => by simp [Pd.bools] at e
  | .int _ :: _, _, _, _, e => by simp [Pd.bools] at e
  | .str _ :: _, _, _, _, e => by simp [Pd.bools] at e
  | .list _ :: _, _, _, _, e => by simp [Pd.bools] at e
  | .tuple _ :: _, _, _, _, e => by simp [Pd.bools] at e
  | .dict _ :: _, _, _, _, e => by simp [Pd.bools] at e
theorem FzA.intsD {K : PySem.W.Frag} {F : Hp} : ∀ {ds : List PyData} {vs : List V} {bs : List Int}, FzA K F vs ds → Pd.intsD ds = some bs → vs = bs.map V.int
  | [], _, _, .nil, e => by simp only [Pd.intsD, Option.some.injEq] at e; subst e; rfl
  | .int b :: r, _, _, .cons a t, e => by
    simp only [Pd.intsD, Option.map_eq_some_iff] at e
    obtain ⟨l, e1, rfl⟩ := e
    cases a
    rw [FzA.intsD t e1]; rfl
  | .none :: _, _, _, _, e => by simp [Pd.intsD] at e
  | .bool _ :: _, _, _, _, e => by simp [Pd.intsD] at e
  | .str _ :: _, _, _, _, e => by simp [Pd.intsD] at e
  | .list _ :: _, _, _, _, e => by simp [Pd.intsD] at e
  | .tuple _ :: _, _, _, _, e => by simp [Pd.intsD] at e
  | .dict _ :: _, _, _, _, e => by simp [Pd.intsD] at e
theorem FzA.strs {K : PySem.W.Frag} {F : Hp} : ∀ {ds : List PyData} {vs : List V} {bs : List Str}, FzA K F vs ds → Pd.strsD ds = some bs → vs = bs.map V.str
  | [], _, _, .nil, e => by simp only [Pd.strsD, Option.some.injEq] at e; subst e; rfl
  | .str b :: r, _, _, .cons a t, e => by
    simp only [Pd.strsD, Option.map_eq_some_iff] at e
    obtain ⟨l, e1, rfl⟩ := e
    cases a
    rw [FzA.strs t e1]; rfl
  | .none :: _, _, _, _, e => by simp [Pd.strsD] at e
  | .bool _ :: _, _, _, _, e => by simp [Pd.strsD] at e
  | .int _ :: _, _, _, _, e => by simp [Pd.strsD] at e
  | .list _ :: _, _, _, _, e => by simp [Pd.strsD] at e
  | .tuple _ :: _, _, _, _, e => by simp [Pd.strsD] at e
  | .dict _ :: _, _, _, _, e => by simp [Pd.strsD] at e
def gAll : List PyData → Option PyData
  | [.list ds] => (bools ds).map fun bs => .bool (bs.all id)
  | _ => none
theorem calld_all (hc : X.calm = true) : CallD X (.builtin "all") gAll := by
  refine ⟨_, cr_all hc, fun F H xs ds z Q s vx eq q => ?_⟩
  unfold gAll at eq
  split at eq
  · simp only [Option.map_eq_some_iff] at eq
    obtain ⟨bs, e1, rfl⟩ := eq
    cases vx with | cons a t => cases t; obtain ⟨p, us, rfl, hp, t⟩ := a.lists s; exact ⟨p, bs, rfl, by rw [← t.bools e1]; exact hp, q _ _ _ .refl (.bl _)⟩
  · cases eq
def gAny : List PyData → Option PyData
  | [.list ds] => (bools ds).map fun bs => .bool (bs.any id)
  | _ => none
theorem calld_any (hc : X.calm = true) : CallD X (.builtin "any") gAny := by
  refine ⟨_, cr_any hc, fun F H xs ds z Q s vx eq q => ?_⟩
  unfold gAny at eq
  split at eq
  · simp only [Option.map_eq_some_iff] at eq
    obtain ⟨bs, e1, rfl⟩ := eq
    cases vx with | cons a t => cases t; obtain ⟨p, us, rfl, hp, t⟩ := a.lists s; exact ⟨p, bs, rfl, by rw [← t.bools e1]; exact hp, q _ _ _ .refl (.bl _)⟩
  · cases eq
def gSum : List PyData → Option PyData
  | [.list ds] => (intsD ds).map fun bs => .int bs.sum
  | _ => none
theorem calld_sum (hc : X.calm = true) : CallD X (.builtin "sum") gSum := by
  refine ⟨_, cr_sum hc, fun F H xs ds z Q s vx eq q => ?_⟩
  unfold gSum at eq
  split at eq
  · simp only [Option.map_eq_some_iff] at eq
    obtain ⟨bs, e1, rfl⟩ := eq
    cases vx with | cons a t => cases t; obtain ⟨p, us, rfl, hp, t⟩ := a.lists s; exact ⟨p, bs, rfl, by rw [← t.intsD e1]; exact hp, q _ _ _ .refl (.int _)⟩
  · cases eq
def gMax2 : List PyData → Option PyData
  | [.int i, .int j] => some (.int (if j > i then j else i))
  | _ => none
theorem calld_max2 (hc : X.calm = true) : CallD X (.builtin "max") gMax2 := by
  refine ⟨_, call_max2 hc, fun F H xs ds z Q s vx eq q => ?_⟩
  unfold gMax2 at eq
  split at eq
  · cases eq
    cases vx with | cons a t => cases t with | cons b t => cases t; exact ⟨_, _, by rw [a.ints, b.ints], q _ _ _ .refl (.int _)⟩
  · cases eq
def gMin2 : List PyData → Option PyData
  | [.int i, .int j] => some (.int (if j < i then j else i))
  | _ => none
theorem calld_min2 (hc : X.calm = true) : CallD X (.builtin "min") gMin2 := by
  refine ⟨_, call_min2 hc, fun F H xs ds z Q s vx eq q => ?_⟩
  unfold gMin2 at eq
  split at eq
  · cases eq
    cases vx with | cons a t => cases t with | cons b t => cases t; exact ⟨_, _, by rw [a.ints, b.ints], q _ _ _ .refl (.int _)⟩
  · cases eq

/-! ### isinstance -/
def tyOf : PyData → String
  | .none => "NoneType"
  | .bool _ => "bool"
  | .int _ => "int"
  | .str _ => "str"
  | .list _ => "list"
  | .tuple _ => "tuple"
  | .dict _ => "dict"
theorem Vw.ty {K : PySem.W.Frag} {F H : Hp} {v : V} {d : PyData} (h : Vw K F H v d) (s : Sub F H) : TyX K H v (.type (tyOf d)) := by
  cases d with
  | none => rw [h.nons]; exact .base .non
  | bool b => rw [h.bls]; exact .base (.bl b)
  | int i => rw [h.ints]; exact .base (.int i)
  | str x => rw [h.strs]; exact .base (.str x)
  | list ds =>
    obtain ⟨a, xs, rfl, hp, _⟩ := h.lists s
    rcases hp with (hp | ⟨o, hp⟩) | ⟨o, _, _, hp, hc, _⟩
    · exact .base (.lst hp)
    · exact .base (.frz hp)
    · exact .kList hp hc
  | tuple ds =>
    obtain ⟨a, xs, rfl, hp, _⟩ := h.tups s
    exact .base (.tup hp)
  | dict ds =>
    cases h with
    | fz h =>
      cases h with
      | dK h _ _ =>
        rcases s.rd (fun _ _ z => by cases z) h with e | ⟨o, e⟩
        · exact .base (.dK e)
        · exact .fDict e
      | dT h _ _ _ =>
        rcases s _ _ h with e | ⟨z, _⟩
        · exact .base (.dT e)
        · cases z
    | dK h _ _ =>
      rcases h with e | ⟨o, e⟩
      · exact .base (.dK e)
      · exact .fDict e
    | dT h _ _ _ => exact .base (.dT h)
end
end Pd

set_option Elab.async false
set_option linter.all false
set_option maxRecDepth 100000
set_option maxHeartbeats 1000000
/-! The layer Pd, part E: isinstance, slices, methods, statements. -/
namespace Pd
open PySem PySem.Spec PyProof.Rows L2
theorem _root_.List.mem_of_mem_dropLast' {α : Type} {a : α} : ∀ {l : List α}, a ∈ l.dropLast → a ∈ l := fun {l} h => (List.dropLast_sublist l).subset h
section
variable {X : Cx} {pos : Pos}

/-! ### isinstance -/
inductive Ty | int | str | bool | list | tuple | dict
def Ty.nm : Ty → String
  | .int => "int" | .str => "str" | .bool => "bool" | .list => "list" | .tuple => "tuple" | .dict => "dict"
def inst : Ty → PyData → Bool
  | .int, .int _ => true
  | .int, .bool _ => true
  | .str, .str _ => true
  | .bool, .bool _ => true
  | .list, .list _ => true
  | .tuple, .tuple _ => true
  | .dict, .dict _ => true
  | _, _ => false
theorem kit_inst (T : Ty) (d : PyData) : kitB (tyOf d) T.nm = some (inst T d) := by
  cases T <;> cases d <;> (simp only [tyOf, Ty.nm, inst]; decide +kernel)
theorem kitAny_inst {K : PySem.W.Frag} (d : PyData) : ∀ Ts : List Ty, PySem.W.kitAny K (.type (tyOf d)) (Ts.map fun T => .type T.nm) = some (Ts.any fun T => inst T d)
  | [] => rfl
  | T :: r => by
    have h := kit_ty (K := K) (kit_inst T d)
    refine kitAny_cons (b := inst T d) h (fun e => ?_) fun e => by simp [e]
    rw [kitAny_inst d r]; simp [e]
def mIs (g : PyData → Bool) (f : XM) : XM := fun ρ P => (f ρ P).bind fun (a, P1) => (flat P1 a).map fun d => (.fz (.bool (g d)), P1)
theorem ped_isi {a : Expr} {f : XM} {p q : Pos} (T : Ty) (hg : Gl X "isinstance") (hm : X.mg "isinstance" = none) (hgT : Gl X T.nm) (hmT : X.mg T.nm = none) (hv : bootBuiltins T.nm = some (.type T.nm)) (ha : PEd X a f)
    (he : starEach [a, .Name T.nm q] X.env = (false, eval a X.env) :: starEach [.Name T.nm q] X.env := by rfl) (hpl : (backTo pos (starEach [.Name T.nm q] X.env)).any (·.1) = false := by rfl)
    (hs2 : starEach [.Name T.nm q] X.env = (false, eval (.Name T.nm q) X.env) :: starEach [] X.env := by rfl) (hn : (T.nm : Str) ≠ "__name__" := by decide) (hdb : ((T.nm : Str) == ("__debug__" : Str)) = false := by decide) :
    PEd X (.Call (.Name "isinstance" p) [a, .Name T.nm q] [] pos) (mIs (inst T) f) := by
  obtain ⟨t, pa, h1⟩ := ha
  refine ⟨_, pe_callB call_isi hg hm (by decide +kernel) (pa_cons pa (pa_cons (pe_bltn (v := .ty T.nm) hgT hmT hv rfl hn hdb) pa_nil hs2) he) (he := he) (hpl := hpl), fun bs ρ σ os vs P H Q r P' R e q => ?_⟩
  simp only [mIs, Option.bind_eq_some_iff, Option.map_eq_some_iff, Prod.mk.injEq] at e
  obtain ⟨⟨s1, P1⟩, e1, d, e2, rfl, rfl⟩ := e
  refine h1 bs ρ σ os vs P H _ s1 P1 R e1 fun x H1 R1 => ?_
  obtain ⟨F, ad, R1⟩ := R1
  obtain ⟨r1, R2⟩ := R1.pop
  exact ⟨x, .ty T.nm, _, _, _, rfl, .ty _, (R1.view r1 e2).ty R1.sub, kit_ty (kit_inst T d), q _ _ (R2.atom (.bl _))⟩

/-! ### slices -/
abbrev OM := EV → Store → Option (Option Int × Store)
def POd (X : Cx) (e : Option Expr) (f : OM) : Prop := ∃ t, PO X e t ∧ ∀ (bs : List Nat) (ρ : EV) (σ : L2.St) (os : List SV) (vs : List V) (P : Store) (H : Hp) (Q : Option Int → Hp → Prop) (r : Option Int) (P' : Store), Rel X.K bs ρ σ os vs P H → f ρ P = some (r, P') →
  (∀ H', Rel X.K bs ρ σ os vs P' H' → Q r H') → t σ H Q
def oNone : OM := fun _ P => some (none, P)
def oSome (f : XM) : OM := fun ρ P => (f ρ P).bind fun (a, P1) => match a with
  | .fz (.int i) => some (some i, P1)
  | _ => none
theorem pod_none : POd X none oNone := ⟨_, po_none, fun bs ρ σ os vs P H Q r P' R e q => by
  simp only [oNone, Option.some.injEq, Prod.mk.injEq] at e
  obtain ⟨rfl, rfl⟩ := e
  exact q H R⟩
theorem pod_some {e : Expr} {f : XM} (h : PEd X e f) : POd X (some e) (oSome f) := by
  obtain ⟨t, p, h1⟩ := h
  refine ⟨_, po_some p, fun bs ρ σ os vs P H Q r P' R e q => ?_⟩
  simp only [oSome, Option.bind_eq_some_iff] at e
  obtain ⟨⟨s1, P1⟩, e1, e2⟩ := e
  refine h1 bs ρ σ os vs P H _ s1 P1 R e1 fun x H1 R1 => ?_
  obtain ⟨F, ad, R1⟩ := R1
  obtain ⟨r1, R2⟩ := R1.pop
  simp only at e2
  split at e2
  · cases r1
    cases e2
    exact ⟨_, rfl, q _ ⟨F, ad, R2⟩⟩
  · cases e2
def cutL {α : Type} (xs : List α) (lo hi : Option Int) : List α := (xs.drop (HT.sIx xs.length 0 lo)).take (HT.sIx xs.length xs.length hi - HT.sIx xs.length 0 lo)
theorem FzA.cut {K : PySem.W.Frag} {F : Hp} {vs : List V} {ds : List PyData} (h : FzA K F vs ds) (lo hi : Option Int) : FzA K F (cutV vs lo hi) (cutL ds lo hi) := by
  unfold cutV cutL
  rw [h.length]
  exact (h.drop _).take _
def dSl : PyData → Option Int → Option Int → Option PyData
  | .list ds, lo, hi => some (.list (cutL ds lo hi))
  | .tuple ds, lo, hi => some (.tuple (cutL ds lo hi))
  | .str z, lo, hi => if z.length ≤ sizeLine then some (.str (cutS z lo hi)) else none
  | _, _, _ => none
def mSl (f : XM) (lo hi : OM) : XM := fun ρ P => (f ρ P).bind fun (a, P1) => (lo ρ P1).bind fun (l, P2) => (hi ρ P2).bind fun (u, P3) => (flat P3 a).bind fun d => (dSl d l u).map fun z => (.fz z, P3)
theorem cut_whole {ds : List PyData} {lo hi : Option Int} (h : HT.sIx ds.length 0 lo = 0 ∧ HT.sIx ds.length ds.length hi = ds.length) : cutL ds lo hi = ds := by
  unfold cutL
  rw [h.1, h.2]
  simp
theorem ped_sl {e : Expr} {lo hi : Option Expr} {f : XM} {g h : OM} {p2 : Pos} (he : PEd X e f) (hl : POd X lo g) (hh : POd X hi h) : PEd X (.Subscript e (.Slice lo hi none p2) pos) (mSl f g h) := by
  obtain ⟨t, p, h1⟩ := he
  obtain ⟨u, pl, h2⟩ := hl
  obtain ⟨w, ph, h3⟩ := hh
  refine ⟨_, pe_slice (sl_list.or (sl_tupA.or sl_str)) p pl ph, fun bs ρ σ os vs P H Q r P' R e q => ?_⟩
  simp only [mSl, Option.bind_eq_some_iff, Option.map_eq_some_iff, Prod.mk.injEq] at e
  obtain ⟨⟨s1, P1⟩, e1, ⟨l, P2⟩, e2, ⟨u, P3⟩, e3, d, e4, z, e5, rfl, rfl⟩ := e
  refine h1 bs ρ σ os vs P H _ s1 P1 R e1 fun x H1 R1 => ?_
  refine h2 bs ρ σ _ _ P1 H1 _ l P2 R1 e2 fun H2 R2 => ?_
  refine h3 bs ρ σ _ _ P2 H2 _ u P3 R2 e3 fun H3 R3 => ?_
  obtain ⟨F, ad, R3⟩ := R3
  obtain ⟨r3, R4⟩ := R3.pop
  have vw := R3.view r3 e4
  unfold dSl at e5
  split at e5
  · cases e5
    obtain ⟨a, xs, rfl, hp, t⟩ := vw.lists R3.sub
    exact .inl ⟨a, xs, rfl, hp, fun p n => q _ _ ⟨_, ad, (R4.lay n).push (show Fz X.K _ _ _ from .lst (.of upd_same) ((t.cut l u).mono (upd_le (R4.free n))))⟩⟩
  · cases e5
    obtain ⟨a, xs, rfl, hp, t, ff⟩ := vw.tups R3.sub
    refine .inr (.inl ⟨a, xs, rfl, .inl (.inl hp), fun hw => ?_, fun _ p n => q _ _ ⟨_, ad, (R4.lay n).push (show Fz X.K _ _ _ from .tup upd_same ((t.cut l u).mono (upd_le (R4.free n))))⟩⟩)
    rw [t.length] at hw
    rw [cut_whole hw] at q
    exact q _ _ (R4.atom ff)
  · split at e5
    · rename_i hz
      cases e5
      exact .inr (.inr ⟨_, vw.strs, hz, q _ _ (R4.atom (.str _))⟩)
    · cases e5
  · cases e5

/-! ### x.append(e), x.pop() of a cell -/
def okPtr (b k : Nat) : SV → Bool
  | .fz _ => true
  | .ptr _ => decide (b ≤ k)
  | .lk _ _ _ => false
theorem okPtr_ps {b k : Nat} {s : SV} (h : okPtr b k s = true) : ∀ j ∈ s.ps, b ≤ k := by
  cases s with
  | fz d => intro j hj; simp [SV.ps] at hj
  | ptr i => intro j _; simpa [okPtr] using h
  | lk _ _ _ => simp [okPtr] at h
def isLst : Option Cell → Bool
  | some (.lst _) => true
  | _ => false
def mApp (fo fe : XM) : XM := fun ρ P => (fo ρ P).bind fun (o, P1) => (fe ρ P1).bind fun (r, P2) => match o with
  | .ptr k => match P2[k]? with
    | some (.lst l) => if l.length < sizeLine ∧ okPtr ρ.b k r = true ∧ isLst P1[k]? = true then some (.fz .none, P2.set k (.lst (l ++ [r]))) else none
    | _ => none
  | _ => none
theorem lst_at {K : PySem.W.Frag} {bs : List Nat} {ρ : EV} {σ : L2.St} {os : List SV} {x : V} {vs : List V} {P : Store} {H : Hp} {k : Nat} (R : Rel K bs ρ σ (.ptr k :: os) (x :: vs) P H) (h : isLst P[k]? = true) : ∃ a, tyV K "list" (.ref a) H ∧ x = .ref a := by
  obtain ⟨F, ad, R⟩ := R
  obtain ⟨r, R1⟩ := R.pop
  cases e : P[k]? with
  | none => rw [e] at h; cases h
  | some c =>
    cases c with
    | lst l =>
      obtain ⟨a, _, rfl, _, xs, hx, _⟩ := R1.at r e
      exact ⟨a, .inl ⟨rfl, xs, .of hx⟩, rfl⟩
    | fz => rw [e] at h; cases h
    | dK => rw [e] at h; cases h
    | dT => rw [e] at h; cases h
def mPop (fo : XM) : XM := fun ρ P => (fo ρ P).bind fun (o, P1) => match o with
  | .ptr k => match P1[k]? with
    | some (.lst l) => (l[l.length - 1]?).map fun r => (r, P1.set k (.lst l.dropLast))
    | _ => none
  | _ => none
theorem ped_pop {o : Expr} {fo : XM} {apos cpos : Pos} (ho : PEd X o fo)
    (hbase : attributeBase o "pop" X.env (eval o X.env) = eval o X.env := by rfl) (hline : (apos.endLine == cpos.line) = true := by rfl) :
    PEd X (.Call (.Attribute o "pop" apos) [] [] cpos) (mPop fo) := by
  obtain ⟨t, p, h1⟩ := ho
  refine ⟨_, pe_bm0 PySem.F.plainAttrs_list PySem.F.slot_list_pop PySem.F.type_list_pop mt_pop p (hbase := hbase) (hline := hline), fun bs ρ σ os vs P H Q r P' R e q => ?_⟩
  simp only [mPop, Option.bind_eq_some_iff] at e
  obtain ⟨⟨s1, P1⟩, e1, e3⟩ := e
  simp only at e3
  split at e3
  · rename_i k
    split at e3
    · rename_i l hk
      simp only [Option.map_eq_some_iff, Prod.mk.injEq] at e3
      obtain ⟨s, hl, rfl, rfl⟩ := e3
      refine h1 bs ρ σ os vs P H _ _ P1 R e1 fun x H1 R1 => ?_
      obtain ⟨a, ty, rfl⟩ := lst_at R1 (by rw [hk]; rfl)
      refine ⟨ty, ?_⟩
      obtain ⟨F, ad, R2⟩ := R1
      obtain ⟨r1, R4⟩ := R2.pop
      obtain ⟨a', ha, e', hc⟩ := R4.at r1 hk
      cases e'
      obtain ⟨hF, xs, hx, tx⟩ := hc
      obtain ⟨v, hv, rv⟩ := tx.get hl
      refine ⟨a, xs, v, rfl, rfl, hx, by rw [tx.length]; exact hv, q _ _ ⟨F, ad, (R4.put (c := .lst l.dropLast) hk ha hF ⟨hF, _, upd_same, tx.dropLast⟩ ?_).push rv⟩⟩
      intro j hj
      simp only [Cell.ps, List.mem_flatMap] at hj ⊢
      obtain ⟨x, hx, hj⟩ := hj
      exact .inl ⟨x, List.mem_of_mem_dropLast' hx, hj⟩
    · cases e3
  · cases e3
theorem ped_append {o e : Expr} {fo fe : XM} {apos cpos : Pos} (ho : PEd X o fo) (he : PEd X e fe)
    (hbase : attributeBase o "append" X.env (eval o X.env) = eval o X.env := by rfl)
    (hfew : ((backTo cpos (starEach [e] X.env)).all (fun x => !x.1) && (backToKw cpos (keywordEach [] X.env)).all (fun x => x.1.isSome)
      && decide ([e].length + ([] : List Keyword).length + (if ([] : List Keyword).isEmpty then 0 else 1) < 30)) = true := by rfl)
    (hline : (apos.endLine == cpos.line) = true := by rfl) (hs : starEach [e] X.env = (false, eval e X.env) :: starEach [] X.env := by rfl) (hplain : (backTo cpos (starEach [] X.env)).any (·.1) = false := by rfl) :
    PEd X (.Call (.Attribute o "append" apos) [e] [] cpos) (mApp fo fe) := by
  obtain ⟨t, p, h1⟩ := ho
  obtain ⟨u, p', h2⟩ := he
  refine ⟨_, pe_bm PySem.F.plainAttrs_list PySem.F.slot_list_append PySem.F.type_list_append mt_append p (pa_cons p' pa_nil hs) (hbase := hbase) (hfew := hfew) (hline := hline) (hs := hs) (hplain := hplain), fun bs ρ σ os vs P H Q r P' R e q => ?_⟩
  simp only [mApp, Option.bind_eq_some_iff] at e
  obtain ⟨⟨s1, P1⟩, e1, ⟨s2, P2⟩, e2, e3⟩ := e
  simp only at e3
  split at e3
  · rename_i k
    split at e3
    · rename_i l hk
      split at e3
      · rename_i hz
        cases e3
        refine h1 bs ρ σ os vs P H _ _ P1 R e1 fun x H1 R1 => ?_
        obtain ⟨a, ty, rfl⟩ := lst_at R1 hz.2.2
        refine ⟨ty, ?_⟩
        refine h2 bs ρ σ _ _ P1 H1 _ s2 P2 R1 e2 fun y H2 R2 => ?_
        obtain ⟨F, ad, R2⟩ := R2
        obtain ⟨r2, R3⟩ := R2.pop
        obtain ⟨r1, R4⟩ := R3.pop
        obtain ⟨a', ha, e', hc⟩ := R4.at r1 hk
        cases e'
        obtain ⟨hF, xs, hx, tx⟩ := hc
        refine ⟨a, xs, y, rfl, rfl, hx, by rw [tx.length]; exact hz.1, q _ _ ⟨F, ad, (R4.put (c := .lst (l ++ [s2])) hk ha hF ⟨hF, _, upd_same, tx.append (.cons r2 .nil)⟩ ?_).push (show Fz X.K F _ _ from .non)⟩⟩
        intro j hj
        simp only [Cell.ps, List.flatMap_append, List.flatMap_cons, List.flatMap_nil, List.append_nil, List.mem_append] at hj
        rcases hj with hj | hj
        · exact .inl hj
        · exact .inr (okPtr_ps hz.2.1 j hj)
      · cases e3
    · cases e3
  · cases e3
end
end Pd

set_option Elab.async false
set_option linter.all false
set_option maxRecDepth 100000
set_option maxHeartbeats 1000000
/-! The layer Pd, part F: statements. -/
namespace Pd
open PySem PySem.Spec PyProof.Rows L2

inductive Fl
  | nx | rt (r : SV) | bk | ct
abbrev SM := EV → Store → Option (Fl × EV × Store)
def EV.put (ρ : EV) (i : Nat) (s : SV) : EV := { ρ with sl := ρ.sl.set i (some s) }
/-- what is asked behind a statement -/
def After (K : PySem.W.Frag) (bs : List Nat) (os : List SV) (vs : List V) (D : Ends) : Fl × EV × Store → Prop
  | (.nx, ρ, P) => ∀ σ H, Rel K bs ρ σ os vs P H → D.nx σ H
  | (.bk, ρ, P) => ∀ σ H, Rel K bs ρ σ os vs P H → D.bk σ H
  | (.ct, ρ, P) => ∀ σ H, Rel K bs ρ σ os vs P H → D.ct σ H
  | (.rt r, ρ, P) => ∀ σ v H, Rel K bs ρ σ (r :: os) (v :: vs) P H → D.rt v H
def PSd (X : Cx) (st : Stmt) (m : SM) : Prop := ∃ t, PS X st t ∧ ∀ (bs : List Nat) (ρ : EV) (σ : L2.St) (os : List SV) (vs : List V) (P : Store) (H : Hp) (D : Ends) (r : Fl × EV × Store), Rel X.K bs ρ σ os vs P H → m ρ P = some r → After X.K bs os vs D r → t D σ H
def PSsd (X : Cx) (st : List Stmt) (m : SM) : Prop := ∃ t, PSs X st t ∧ ∀ (bs : List Nat) (ρ : EV) (σ : L2.St) (os : List SV) (vs : List V) (P : Store) (H : Hp) (D : Ends) (r : Fl × EV × Store), Rel X.K bs ρ σ os vs P H → m ρ P = some r → After X.K bs os vs D r → t D σ H
section
variable {K : PySem.W.Frag} {bs : List Nat} {ρ : EV} {σ : L2.St} {os : List SV} {vs : List V} {P : Store} {H F : Hp} {ad : List Addr}
theorem RelX.store (R : RelX K bs ρ σ os vs P H F ad) {s : SV} {v : V} (h : SVR K F ad v s) (i : Nat) : RelX K bs (ρ.put i s) (σ.set i (some v)) os vs P H F ad := by
  refine { R with slots := ⟨by simp [EV.put, R.slots.1], fun j t e => ?_⟩, bb := R.bb }
  by_cases hj : i = j
  · subst hj
    by_cases hl : i < ρ.sl.length
    · have e : (ρ.sl.set i (some s))[i]? = some (some t) := e
      rw [List.getElem?_set_self hl] at e
      cases e
      exact ⟨v, by rw [List.getElem?_set_self (by rw [R.slots.1]; exact hl)], h⟩
    · have e : (ρ.sl.set i (some s))[i]? = some (some t) := e
      rw [List.getElem?_eq_none (by simpa using hl)] at e; cases e
  · have e : (ρ.sl.set i (some s))[j]? = some (some t) := e
    rw [List.getElem?_set_ne hj] at e
    obtain ⟨w, hw, r⟩ := R.slots.2 j t e
    exact ⟨w, by rw [List.getElem?_set_ne hj]; exact hw, r⟩
theorem Rel.store {s : SV} {v : V} (R : Rel K bs ρ σ (s :: os) (v :: vs) P H) (i : Nat) : Rel K bs (ρ.put i s) (σ.set i (some v)) os vs P H := by
  obtain ⟨F, ad, R⟩ := R
  obtain ⟨r, R1⟩ := R.pop
  exact ⟨F, ad, R1.store r i⟩
theorem Rel.pop {s : SV} {v : V} (R : Rel K bs ρ σ (s :: os) (v :: vs) P H) : Rel K bs ρ σ os vs P H := by
  obtain ⟨F, ad, R⟩ := R
  exact ⟨F, ad, R.pop.2⟩
end

section
variable {X : Cx} {pos : Pos}
def sNx : SM := fun ρ P => some (.nx, ρ, P)
def sSeq (m n : SM) : SM := fun ρ P => (m ρ P).bind fun r => match r with
  | (.nx, ρ1, P1) => n ρ1 P1
  | r => some r
theorem pssd_nil : PSsd X [] sNx := ⟨_, pss_nil, fun bs ρ σ os vs P H D r R e q => by
  simp only [sNx, Option.some.injEq] at e
  subst e
  exact q σ H R⟩
theorem pssd_one {st : Stmt} {m : SM} (h : PSd X st m) : PSsd X [st] m := let ⟨t, p, q⟩ := h; ⟨t, pss_one p, q⟩
theorem pssd_cons {st : Stmt} {rest : List Stmt} {m n : SM} (h : PSd X st m) (h' : PSsd X rest n) : PSsd X (st :: rest) (sSeq m n) := by
  obtain ⟨t, p, h1⟩ := h
  obtain ⟨u, p', h2⟩ := h'
  refine ⟨_, pss_cons p p', fun bs ρ σ os vs P H D r R e q => ?_⟩
  simp only [sSeq, Option.bind_eq_some_iff] at e
  obtain ⟨⟨f, ρ1, P1⟩, e1, e2⟩ := e
  refine h1 bs ρ σ os vs P H { D with nx := u D } _ R e1 ?_
  cases f with
  | nx => exact fun σ1 H1 R1 => h2 bs ρ1 σ1 os vs P1 H1 D r R1 e2 q
  | rt s => cases e2; exact q
  | bk => cases e2; exact q
  | ct => cases e2; exact q
def sRet (f : XM) : SM := fun ρ P => (f ρ P).map fun (s, P1) => (.rt s, ρ, P1)
theorem psd_ret {e : Expr} {f : XM} (h : PEd X e f) : PSd X (.Return (some e) pos) (sRet f) := by
  obtain ⟨t, p, h1⟩ := h
  refine ⟨_, ps_ret p, fun bs ρ σ os vs P H D r R e q => ?_⟩
  simp only [sRet, Option.map_eq_some_iff] at e
  obtain ⟨⟨s, P1⟩, e1, rfl⟩ := e
  exact h1 bs ρ σ os vs P H D.rt s P1 R e1 fun v H1 R1 => q σ v H1 R1
theorem psd_retN : PSd X (.Return none pos) (sRet (mC .none)) := ⟨_, ps_retN, fun bs ρ σ os vs P H D r R e q => by
  simp only [sRet, mC, Option.map_some, Option.some.injEq] at e
  subst e
  obtain ⟨F, ad, R⟩ := R
  exact q σ .non H (R.atom .non)⟩
def sEx (f : XM) : SM := fun ρ P => (f ρ P).map fun (_, P1) => (.nx, ρ, P1)
theorem psd_expr {e : Expr} {f : XM} (h : PEd X e f) (hs : swapsWith e none pos.line X.env = pure false := by rfl) : PSd X (.Expr e pos) (sEx f) := by
  obtain ⟨t, p, h1⟩ := h
  refine ⟨_, ps_expr p hs, fun bs ρ σ os vs P H D r R e q => ?_⟩
  simp only [sEx, Option.map_eq_some_iff] at e
  obtain ⟨⟨s, P1⟩, e1, rfl⟩ := e
  exact h1 bs ρ σ os vs P H _ s P1 R e1 fun v H1 R1 => q σ H1 R1.pop
theorem psd_pass : PSd X (.Pass pos) sNx := ⟨_, ps_pass, fun bs ρ σ os vs P H D r R e q => by
  simp only [sNx, Option.some.injEq] at e
  subst e
  exact q σ H R⟩
def sBk : SM := fun ρ P => some (.bk, ρ, P)
def sCt : SM := fun ρ P => some (.ct, ρ, P)
theorem psd_break : PSd X (.Break pos) sBk := ⟨_, ps_break, fun bs ρ σ os vs P H D r R e q => by
  simp only [sBk, Option.some.injEq] at e
  subst e
  exact q σ H R⟩
theorem psd_continue : PSd X (.Continue pos) sCt := ⟨_, ps_continue, fun bs ρ σ os vs P H D r R e q => by
  simp only [sCt, Option.some.injEq] at e
  subst e
  exact q σ H R⟩
/-- code that is never come to -/
def sNo : SM := fun _ _ => none
theorem psd_never {st : Stmt} : PSd X st sNo := ⟨_, ps_never, fun bs ρ σ os vs P H D r R e q => by simp [sNo] at e⟩
theorem pssd_never {st : List Stmt} : PSsd X st sNo := ⟨_, pss_never, fun bs ρ σ os vs P H D r R e q => by simp [sNo] at e⟩
def sIf (c : BM) (m n : SM) : SM := fun ρ P => (c ρ P).bind fun (b, P1) => if b = true then m ρ P1 else n ρ P1
theorem psd_if {c : Expr} {a b : List Stmt} {fc : BM} {m n : SM} (hc : PTd X c fc) (ha : PSsd X a m) (hb : PSsd X b n) : PSd X (.If c a b pos) (sIf fc m n) := by
  obtain ⟨t0, p0, h0⟩ := hc
  obtain ⟨t, p, h1⟩ := ha
  obtain ⟨u, p', h2⟩ := hb
  refine ⟨_, ps_if p0 p p', fun bs ρ σ os vs P H D r R e q => ?_⟩
  simp only [sIf, Option.bind_eq_some_iff] at e
  obtain ⟨⟨s1, P1⟩, e1, e2⟩ := e
  refine h0 bs ρ σ os vs P H _ s1 P1 R e1 fun H1 R1 => ?_
  simp only at e2
  cases s1 with
  | true => rw [if_pos rfl] at e2 ⊢; exact h1 bs ρ σ os vs P1 H1 D r R1 e2 q
  | false => rw [if_neg Bool.false_ne_true] at e2 ⊢; exact h2 bs ρ σ os vs P1 H1 D r R1 e2 q

/-! ### assignments -/
def sSet (i : Nat) (f : XM) : SM := fun ρ P => (f ρ P).map fun (s, P1) => (.nx, ρ.put i s, P1)
theorem psd_set {i : Nat} {x : Str} {e : Expr} {f : XM} {pos' : Pos} (hN : X.N.Nodup) (hi : X.N[i]? = some x) (hx : Loc X.env.scope x) (h : PEd X e f) (hs : swapsWith e (some (.Name x pos')) pos.line X.env = pure false := by rfl)
    (hf : X.fn x = true ∨ X.env.scope.names.lookup x = some .local := by first | exact .inl rfl | exact .inr rfl | assumption) : PSd X (.Assign [.Name x pos'] e pos) (sSet i f) := by
  obtain ⟨t, p, h1⟩ := h
  refine ⟨_, ps_set hN hi hx p hs hf, fun bs ρ σ os vs P H D r R e q => ?_⟩
  simp only [sSet, Option.map_eq_some_iff] at e
  obtain ⟨⟨s, P1⟩, e1, rfl⟩ := e
  exact h1 bs ρ σ os vs P H _ s P1 R e1 fun v H1 R1 => q _ H1 (R1.store i)
/-- targets: a value, the slots and the store behind -/
abbrev GM := SV → EV → Store → Option (EV × Store)
def Keeps (ts : List Nat) (σ σ' : L2.St) : Prop := σ'.length = σ.length ∧ ∀ i, i ∉ ts → σ'[i]? = σ[i]?
def PGd (X : Cx) (tg : Expr) (ts : List Nat) (g : GM) : Prop := ∃ t, PG X tg t ∧ ∀ (bs : List Nat) (ρ : EV) (σ : L2.St) (os : List SV) (vs : List V) (P : Store) (H : Hp) (s : SV) (v : V) (Q : L2.St → Hp → Prop) (ρ' : EV) (P' : Store), Rel X.K bs ρ σ (s :: os) (v :: vs) P H → g s ρ P = some (ρ', P') →
  (∀ σ' H', Rel X.K bs ρ' σ' os vs P' H' → Keeps ts σ σ' → Q σ' H') → t v σ H Q
def PGsd (X : Cx) (tgs : List Expr) (ts : List Nat) (g : List PyData → EV → Store → Option (EV × Store)) : Prop := ∃ t, PGs X tgs t ∧ ∀ (bs : List Nat) (ρ : EV) (σ : L2.St) (os : List SV) (vs : List V) (P : Store) (H : Hp) (ds : List PyData) (ws : List V) (Q : L2.St → Hp → Prop) (ρ' : EV) (P' : Store),
  Rel X.K bs ρ σ ((ds.map SV.fz) ++ os) (ws ++ vs) P H → ws.length = ds.length → g ds ρ P = some (ρ', P') → (∀ σ' H', Rel X.K bs ρ' σ' os vs P' H' → Keeps ts σ σ' → Q σ' H') → t ws σ H Q
def gNm (i : Nat) : GM := fun s ρ P => some (ρ.put i s, P)
theorem pgd_name {i : Nat} {x : Str} (hN : X.N.Nodup) (hi : X.N[i]? = some x) (hx : Loc X.env.scope x) (hf : X.fn x = true ∨ X.env.scope.names.lookup x = some .local := by first | exact .inl rfl | exact .inr rfl | assumption) : PGd X (.Name x pos) [i] (gNm i) :=
  ⟨_, pg_name hN hi hx hf, fun bs ρ σ os vs P H s v Q ρ' P' R e q => by
    simp only [gNm, Option.some.injEq, Prod.mk.injEq] at e
    obtain ⟨rfl, rfl⟩ := e
    exact q _ H (R.store i) ⟨List.length_set, fun j hj => List.getElem?_set_ne (fun z => hj (by simp [z]))⟩⟩
def gsNil : List PyData → EV → Store → Option (EV × Store)
  | [], ρ, P => some (ρ, P)
  | _, _, _ => none
def gsCons (g : GM) (h : List PyData → EV → Store → Option (EV × Store)) : List PyData → EV → Store → Option (EV × Store)
  | d :: r, ρ, P => (g (.fz d) ρ P).bind fun (ρ1, P1) => h r ρ1 P1
  | _, _, _ => none
theorem pgsd_nil : PGsd X [] [] gsNil := ⟨_, pgs_nil, fun bs ρ σ os vs P H ds ws Q ρ' P' R hl e q => by
  cases ds with
  | nil =>
    simp only [gsNil, Option.some.injEq, Prod.mk.injEq] at e
    obtain ⟨rfl, rfl⟩ := e
    have : ws = [] := List.eq_nil_of_length_eq_zero hl
    subst this
    exact ⟨rfl, q σ H (by simpa using R) ⟨rfl, fun _ _ => rfl⟩⟩
  | cons => cases e⟩
theorem pgsd_cons {e : Expr} {es : List Expr} {g : GM} {h : List PyData → EV → Store → Option (EV × Store)} {ts1 ts2 : List Nat} (h1 : PGd X e ts1 g) (h2 : PGsd X es ts2 h)
    (hs : (assignEach (e :: es) X.env).map (·.2) = assign e X.env :: (assignEach es X.env).map (·.2) := by rfl) : PGsd X (e :: es) (ts1 ++ ts2) (gsCons g h) := by
  obtain ⟨t, p, q1⟩ := h1
  obtain ⟨u, p', q2⟩ := h2
  refine ⟨_, pgs_cons p p' hs, fun bs ρ σ os vs P H ds ws Q ρ' P' R hl e q => ?_⟩
  cases ds with
  | nil => cases e
  | cons d ds =>
    cases ws with
    | nil => simp at hl
    | cons w ws =>
      simp only [gsCons, Option.bind_eq_some_iff] at e
      obtain ⟨⟨ρ1, P1⟩, e1, e2⟩ := e
      refine ⟨w, ws, rfl, q1 bs ρ σ (ds.map SV.fz ++ os) (ws ++ vs) P H (.fz d) w _ ρ1 P1 R e1 fun σ1 H1 R1 k1 => ?_⟩
      exact q2 bs ρ1 σ1 os vs P1 H1 ds ws Q ρ' P' R1 (by simpa using hl) e2 fun σ2 H2 R2 k2 => q σ2 H2 R2 ⟨k2.1.trans k1.1, fun i hi => (k2.2 i fun z => hi (List.mem_append_right _ z)).trans (k1.2 i fun z => hi (List.mem_append_left _ z))⟩
def gTu (n : Nat) (h : List PyData → EV → Store → Option (EV × Store)) : GM := fun s ρ P => match s with
  | .fz (.tuple ds) => if ds.length = n then h ds ρ P else none
  | _ => none
theorem pgd_tup {es : List Expr} {k : Nat} {h : List PyData → EV → Store → Option (EV × Store)} {n : Nat} {ts : List Nat} (hc : X.calm = true) (h1 : PGsd X es ts h)
    (hn : (assignEach es X.env).length = n := by rfl) (hst : (assignEach es X.env).findIdx? (·.1) = none := by rfl) : PGd X (.Tuple es k pos) ts (gTu n h) := by
  obtain ⟨t, p, q1⟩ := h1
  refine ⟨_, pg_tup hc p hn hst, fun bs ρ σ os vs P H s v Q ρ' P' R e q => ?_⟩
  unfold gTu at e
  split at e
  · split at e
    · rename_i ds hl
      obtain ⟨F, ad, R⟩ := R
      obtain ⟨r, R1⟩ := R.pop
      cases r with
      | tup ht tt =>
        refine ⟨_, _, rfl, .inl (.inl (R.sub.tup ht)), by rw [tt.length]; exact hl, q1 bs ρ σ os vs P H ds _ Q ρ' P' ⟨F, ad, R1.tops_of ?_⟩ tt.length e q⟩
        have : ∀ {xs : List V} {ds : List PyData}, FzA X.K F xs ds → SVA X.K F ad (xs ++ vs) (ds.map SV.fz ++ os) := by
          intro xs ds h
          induction xs generalizing ds with
          | nil => cases h; exact R1.tops
          | cons x xs ih => cases h with | cons a b => exact .cons a (ih b)
        exact this tt
    · cases e
  · cases e
def sAsg (f : XM) (g : GM) : SM := fun ρ P => (f ρ P).bind fun (s, P1) => (g s ρ P1).map fun (ρ2, P2) => (.nx, ρ2, P2)
theorem psd_asg {tg e : Expr} {f : XM} {g : GM} {ts : List Nat} (he : PEd X e f) (hg : PGd X tg ts g) (hs : swapsWithSole [tg] e pos.line X.env = pure false := by rfl) (hw : swappedStores [tg] e X.env = pure none := by rfl)
    (h1 : (assignEach [tg] X.env).map (·.2) = [assign tg X.env] := by rfl) : PSd X (.Assign [tg] e pos) (sAsg f g) := by
  obtain ⟨t, p, q1⟩ := he
  obtain ⟨u, p', q2⟩ := hg
  refine ⟨_, ps_asg p p' hs hw h1, fun bs ρ σ os vs P H D r R e q => ?_⟩
  simp only [sAsg, Option.bind_eq_some_iff, Option.map_eq_some_iff] at e
  obtain ⟨⟨s, P1⟩, e1, ⟨ρ2, P2⟩, e2, rfl⟩ := e
  exact q1 bs ρ σ os vs P H _ s P1 R e1 fun v H1 R1 => q2 bs ρ σ os vs P1 H1 s v D.nx ρ2 P2 R1 e2 fun σ' H' R' _ => q σ' H' R'
/-- a, b = x, y: names -/
def sPar (i j : Nat) (g : AM) : SM := fun ρ P => (g ρ P).bind fun (l, P1) => match l with
  | [a, b] => some (.nx, (ρ.put i a).put j b, P1)
  | _ => none
theorem psd_par {i j : Nat} {x y : Str} {a b : Expr} {g : AM} {px py pt : Pos} {kt k2 pt2} (hc : X.calm = true) (hN : X.N.Nodup) (hi : X.N[i]? = some x) (hj : X.N[j]? = some y) (hij : i ≠ j)
    (hx : X.env.scope.names.lookup x = some .local) (hy : X.env.scope.names.lookup y = some .local) (ha : PAd X [a, b] g)
    (hw : swappedStores [.Tuple [.Name x px, .Name y py] kt pt] (.Tuple [a, b] k2 pt2) X.env = pure (some [x, y]))
    (hs : swapsWithSole [.Tuple [.Name x px, .Name y py] kt pt] (.Tuple [a, b] k2 pt2) pos.line X.env = pure false := by rfl) :
    PSd X (.Assign [.Tuple [.Name x px, .Name y py] kt pt] (.Tuple [a, b] k2 pt2) pos) (sPar i j g) := by
  obtain ⟨t, p, q1⟩ := ha
  refine ⟨_, ps_par hc hN hi hj hij hx hy p hw hs, fun bs ρ σ os vs P H D r R e q => ?_⟩
  simp only [sPar, Option.bind_eq_some_iff] at e
  obtain ⟨⟨l, P1⟩, e1, e2⟩ := e
  refine q1 bs ρ σ os vs P H _ l P1 R e1 fun ws H1 hl R1 => ?_
  simp only at e2
  split at e2
  · cases e2
    match ws, hl with
    | [u, w], _ =>
      obtain ⟨F, ad, R1⟩ := R1
      obtain ⟨ra, R2⟩ := R1.args rfl
      cases ra with
      | cons r1 ra =>
        cases ra with
        | cons r2 _ => exact ⟨u, w, rfl, q _ H1 ⟨F, ad, (R2.store r1 i).store r2 j⟩⟩
  · cases e2
/-- x op= e -/
def sAug (i : Nat) (g : PyData → PyData → Option PyData) (f : XM) : SM := fun ρ P => match ρ.sl[i]? with
  | some (some (.fz d)) => (f ρ P).bind fun (a, P1) => (flat P1 a).bind fun e => (g d e).map fun z => (.nx, ρ.put i (.fz z), P1)
  | _ => none
theorem psd_augI {i : Nat} {x : Str} {e : Expr} {op : Operator} {f : XM} {h : Int → Int → Int} {pos' : Pos} (hN : X.N.Nodup) (hi : X.N[i]? = some x) (hx : Loc X.env.scope x) (he : PEd X e f) (ho : PIp X op (ipI h))
    (hf : X.fn x = true ∨ X.env.scope.names.lookup x = some .local := by first | exact .inl rfl | exact .inr rfl | assumption) : PSd X (.AugAssign (.Name x pos') op e pos) (sAug i (dI fun a b => some (.int (h a b))) f) := by
  obtain ⟨t, p, q1⟩ := he
  refine ⟨_, ps_aug hN hi hx p ho hf, fun bs ρ σ os vs P H D r R e q => ?_⟩
  unfold sAug at e
  split at e
  · rename_i d hd
    simp only [Option.bind_eq_some_iff, Option.map_eq_some_iff] at e
    obtain ⟨⟨s, P1⟩, e1, d2, e2, z, e3, rfl⟩ := e
    obtain ⟨a, b, rfl, rfl, hz⟩ := dI_some e3
    cases hz
    have hv : ∃ v, σ[i]? = some (some v) ∧ v = .int a := by
      obtain ⟨F, ad, R⟩ := R
      obtain ⟨v, hv, r⟩ := R.slots.2 i _ hd
      cases r
      exact ⟨_, hv, rfl⟩
    obtain ⟨_, hv, rfl⟩ := hv
    refine ⟨_, hv, q1 bs ρ σ os vs P H _ s P1 R e1 fun v H1 R1 => ?_⟩
    obtain ⟨F, ad, R1⟩ := R1
    obtain ⟨r1, R2⟩ := R1.pop
    exact ⟨a, b, rfl, (R1.view r1 e2).ints, q _ H1 ⟨F, ad, R2.store (s := .fz (.int (h a b))) (v := .int (h a b)) (show Fz X.K F _ _ from .int _) i⟩⟩
  · cases e

/-! ### loops -/
/-- what a loop walks: its items, as data -/
abbrev IM := EV → Store → Option (List PyData × SV × Store)
def ItOk (K : PySem.W.Frag) (J : It) (items : List PyData) (src : SV) (v : V) : Prop := ∀ (bs : List Nat) (ρ : EV) (σ : L2.St) (os : List SV) (vs : List V) (P : Store) (H : Hp) (i : Nat), Rel K bs ρ σ (src :: os) (v :: vs) P H →
  (i < items.length → J.go i H ∧ ∀ x H', J.yld i H x H' → ∃ d, items[i]? = some d ∧ Rel K bs ρ σ (.fz d :: src :: os) (x :: v :: vs) P H') ∧ (items.length ≤ i → J.stop i H)
def PId (X : Cx) (tg iter : Expr) (f : IM) : Prop := ∃ wi, PI X tg iter wi ∧ ∀ (bs : List Nat) (ρ : EV) (σ : L2.St) (os : List SV) (vs : List V) (P : Store) (H : Hp) (R : It → Hp → Prop) (items : List PyData) (src : SV) (P' : Store), Rel X.K bs ρ σ os vs P H → f ρ P = some (items, src, P') →
  (∀ J v H' sr, Rel X.K bs ρ σ (sr :: os) (v :: vs) P' H' → ItOk X.K J items sr v → R J H') → wi σ H R
def forGo (g : GM) (body : SM) : List PyData → SM
  | [], ρ, P => some (.nx, ρ, P)
  | d :: r, ρ, P => (g (.fz d) ρ P).bind fun (ρ1, P1) => (body ρ1 P1).bind fun (fl, ρ2, P2) => match fl with
    | .nx => forGo g body r ρ2 P2
    | .ct => forGo g body r ρ2 P2
    | .bk => some (.nx, ρ2, P2)
    | .rt s => some (.rt s, ρ2, P2)
def sFor (f : IM) (g : GM) (body : SM) : SM := fun ρ P => (f ρ P).bind fun (items, _, P1) => forGo g body items ρ P1
theorem Rel.pop2 {K : PySem.W.Frag} {bs : List Nat} {ρ : EV} {σ : L2.St} {s s2 : SV} {v v2 : V} {os : List SV} {vs : List V} {P : Store} {H : Hp} (R : Rel K bs ρ σ (s :: s2 :: os) (v :: v2 :: vs) P H) : Rel K bs ρ σ (s :: os) (v :: vs) P H := by
  obtain ⟨F, ad, R⟩ := R
  obtain ⟨r, R1⟩ := R.pop
  obtain ⟨_, R2⟩ := R1.pop
  exact ⟨F, ad, R2.push r⟩
theorem psd_for {tg iter : Expr} {body : List Stmt} {f : IM} {g : GM} {m : SM} {ts : List Nat} (hp : PassesOwn (model X.prog X.w) X.A X.env X.xe) (hc : X.calm = true) (hi : PId X tg iter f) (hg : PGd X tg ts g) (hb : PSsd X body m)
    (hs : ∀ x, foldedSetIterable iter X.env x = pure x := by intro _; rfl) : PSd X (.For tg iter body [] pos) (sFor f g m) := by
  obtain ⟨wi, p0, h0⟩ := hi
  obtain ⟨t, p1, h1⟩ := hg
  obtain ⟨u, p2, h2⟩ := hb
  refine ⟨_, ps_for hp hc p0 p1 p2 hs, fun bs ρ σ os vs P H D r R e q => ?_⟩
  simp only [sFor, Option.bind_eq_some_iff] at e
  obtain ⟨⟨items, src, P1⟩, e0, e1⟩ := e
  refine h0 bs ρ σ os vs P H _ items src P1 R e0 fun J v H1 src R1 ok => ?_
  refine ⟨fun i n σ H => ∃ ρ P, n = items.length - i ∧ i ≤ items.length ∧ Rel X.K bs ρ σ (src :: os) (v :: vs) P H ∧ forGo g m (items.drop i) ρ P = some r, ⟨_, ρ, P1, rfl, Nat.zero_le _, R1, by simpa using e1⟩, ?_⟩
  rintro i n σ2 H2 ⟨ρ2, P2, rfl, hle, R2, e2⟩
  obtain ⟨ok1, ok2⟩ := ok bs ρ2 σ2 os vs P2 H2 i R2
  by_cases hlt : i < items.length
  · obtain ⟨go, yl⟩ := ok1 hlt
    refine .inr ⟨go, fun σ H => ∃ ρ P, Rel X.K bs ρ σ (src :: os) (v :: vs) P H ∧ forGo g m (items.drop (i + 1)) ρ P = some r, fun σ3 H3 ⟨ρ3, P3, R3, e3⟩ => ⟨items.length - (i + 1), by omega, ρ3, P3, rfl, hlt, R3, e3⟩, fun x H' hy => ?_⟩
    obtain ⟨d, hd, R3⟩ := yl x H' hy
    rw [List.drop_eq_getElem_cons hlt] at e2
    have ed : items[i] = d := by rw [List.getElem?_eq_getElem hlt] at hd; exact Option.some.inj hd
    rw [ed] at e2
    simp only [forGo, Option.bind_eq_some_iff] at e2
    obtain ⟨⟨ρ4, P4⟩, e4, ⟨fl, ρ5, P5⟩, e5, e6⟩ := e2
    refine h1 bs ρ2 σ2 (src :: os) (v :: vs) P2 H' (.fz d) x _ ρ4 P4 R3 e4 fun σ4 H4 R4 _ => ?_
    refine h2 bs ρ4 σ4 (src :: os) (v :: vs) P4 H4 _ (fl, ρ5, P5) R4 e5 ?_
    cases fl with
    | nx => exact fun σ5 H5 R5 => ⟨ρ5, P5, R5, e6⟩
    | ct => exact fun σ5 H5 R5 => ⟨ρ5, P5, R5, e6⟩
    | bk => cases e6; exact fun σ5 H5 R5 => q σ5 H5 R5.pop
    | rt s => cases e6; exact fun σ5 w H5 R5 => q σ5 w H5 R5.pop2
  · have : i = items.length := by omega
    subst this
    rw [List.drop_length] at e2
    simp only [forGo, Option.some.injEq] at e2
    subst e2
    exact .inl ⟨ok2 (Nat.le_refl _), q σ2 H2 R2.pop⟩
/-- the items of a list or tuple that stands -/
def iSeq (f : XM) : IM := fun ρ P => (f ρ P).bind fun (a, P1) => match a with
  | .fz (.list ds) => some (ds, a, P1)
  | .fz (.tuple ds) => some (ds, a, P1)
  | _ => none
theorem RelX.push2 {K : PySem.W.Frag} {bs : List Nat} {ρ : EV} {σ : L2.St} {os : List SV} {vs : List V} {P : Store} {H F : Hp} {ad : List Addr} (R : RelX K bs ρ σ os vs P H F ad) {d : PyData} {v : V} (h : Fz K F v d) : Rel K bs ρ σ (.fz d :: os) (v :: vs) P H := ⟨F, ad, R.push h⟩
theorem pid_list {tg e : Expr} {f : XM} (h : PEd X e f) : PId X tg e (fun ρ P => (f ρ P).bind fun (a, P1) => match a with | .fz (.list ds) => some (ds, a, P1) | _ => none) := by
  obtain ⟨t, p, h1⟩ := h
  refine ⟨_, pi_list p, fun bs ρ σ os vs P H R items src P' Rl e q => ?_⟩
  simp only [Option.bind_eq_some_iff] at e
  obtain ⟨⟨a, P1⟩, e1, e2⟩ := e
  refine h1 bs ρ σ os vs P H _ a P1 Rl e1 fun v H1 R1 => ?_
  simp only at e2
  split at e2
  · rename_i ds
    cases e2
    have R1' := R1
    obtain ⟨F, ad, R1⟩ := R1
    obtain ⟨r1, R2⟩ := R1.pop
    have hv : ∃ l, v = .ref l := by cases r1; exact ⟨_, rfl⟩
    obtain ⟨l, rfl⟩ := hv
    have hl : ∃ xs, SqL X.K H1 l xs := by
      cases r1 with
      | lst hp _ => exact ⟨_, R1.sub.sqL hp⟩
    refine ⟨l, rfl, hl, q (Itl X.K l) (.ref l) H1 _ R1' fun bs ρ σ os vs P H i R => ?_⟩
    obtain ⟨F, ad, R⟩ := R
    obtain ⟨r, R3⟩ := R.pop
    cases r with
    | lst hp tt =>
      rename_i xs
      have hs : SqL X.K H l xs := R.sub.sqL hp
      have hln := tt.length
      refine ⟨fun hi => ?_, fun hi => ⟨xs, hs, by omega⟩⟩
      have hx : xs[i]? = some xs[i] := List.getElem?_eq_getElem (by omega)
      refine ⟨⟨xs, xs[i], hs, hx⟩, fun x H' ⟨e1, e2⟩ => ?_⟩
      subst e1
      have ex : x = xs[i] := Option.some.inj ((e2 xs hs).symm.trans hx)
      subst ex
      obtain ⟨d, hd, fd⟩ := tt.get hx
      exact ⟨d, hd, R.push2 fd⟩
  · cases e2
theorem pid_tup {tg e : Expr} {f : XM} (h : PEd X e f) : PId X tg e (fun ρ P => (f ρ P).bind fun (a, P1) => match a with | .fz (.tuple ds) => some (ds, a, P1) | _ => none) := by
  obtain ⟨t, p, h1⟩ := h
  refine ⟨_, pi_tup p, fun bs ρ σ os vs P H R items src P' Rl e q => ?_⟩
  simp only [Option.bind_eq_some_iff] at e
  obtain ⟨⟨a, P1⟩, e1, e2⟩ := e
  refine h1 bs ρ σ os vs P H _ a P1 Rl e1 fun v H1 R1 => ?_
  simp only at e2
  split at e2
  · rename_i ds
    cases e2
    have R1' := R1
    obtain ⟨F, ad, R1⟩ := R1
    obtain ⟨r1, R2⟩ := R1.pop
    have hv : ∃ l, v = .ref l := by cases r1; exact ⟨_, rfl⟩
    obtain ⟨l, rfl⟩ := hv
    have hl : ∃ xs, SqT X.K H1 l xs := by
      cases r1 with
      | tup hp _ => exact ⟨_, .inl (.inl (R1.sub.tup hp))⟩
    refine ⟨l, rfl, hl, q (Itt X.K l) (.ref l) H1 _ R1' fun bs ρ σ os vs P H i R => ?_⟩
    obtain ⟨F, ad, R⟩ := R
    obtain ⟨r, R3⟩ := R.pop
    cases r with
    | tup hp tt =>
      rename_i xs
      have hs : SqT X.K H l xs := .inl (.inl (R.sub.tup hp))
      have hln := tt.length
      refine ⟨fun hi => ?_, fun hi => ⟨xs, hs, by omega⟩⟩
      have hx : xs[i]? = some xs[i] := List.getElem?_eq_getElem (by omega)
      refine ⟨⟨xs, xs[i], hs, hx⟩, fun x H' ⟨e1, e2⟩ => ?_⟩
      subst e1
      have ex : x = xs[i] := Option.some.inj ((e2 xs hs).symm.trans hx)
      subst ex
      obtain ⟨d, hd, fd⟩ := tt.get hx
      exact ⟨d, hd, R.push2 fd⟩
  · cases e2
def whGo (c : BM) (body : SM) : Nat → SM
  | 0, _, _ => none
  | n + 1, ρ, P => (c ρ P).bind fun (b, P1) => if b = true then (body ρ P1).bind fun (fl, ρ2, P2) => match fl with
      | .nx => whGo c body n ρ2 P2
      | .ct => whGo c body n ρ2 P2
      | .bk => some (.nx, ρ2, P2)
      | .rt s => some (.rt s, ρ2, P2)
    else some (.nx, ρ, P1)
theorem psd_while (n : Nat) {c : Expr} {body : List Stmt} {fc : BM} {m : SM} (hp : PassesOwn (model X.prog X.w) X.A X.env X.xe) (hc : PTd X c fc) (hb : PSsd X body m) : PSd X (.While c body [] pos) (whGo fc m n) := by
  obtain ⟨t, p1, h1⟩ := hc
  obtain ⟨u, p2, h2⟩ := hb
  refine ⟨_, ps_while hp p1 p2, fun bs ρ σ os vs P H D r R e q => ?_⟩
  refine ⟨fun k σ H => ∃ ρ P, Rel X.K bs ρ σ os vs P H ∧ whGo fc m k ρ P = some r, ⟨n, ρ, P, R, e⟩, ?_⟩
  rintro k σ2 H2 ⟨ρ2, P2, R2, e2⟩
  cases k with
  | zero => simp [whGo] at e2
  | succ k =>
    simp only [whGo, Option.bind_eq_some_iff] at e2
    obtain ⟨⟨b, P3⟩, e3, e4⟩ := e2
    refine h1 bs ρ2 σ2 os vs P2 H2 _ b P3 R2 e3 fun H3 R3 => ?_
    cases b with
    | true =>
      simp only [if_true, Option.bind_eq_some_iff] at e4
      obtain ⟨⟨fl, ρ5, P5⟩, e5, e6⟩ := e4
      rw [if_pos rfl]
      refine ⟨fun σ H => ∃ ρ P, Rel X.K bs ρ σ os vs P H ∧ whGo fc m k ρ P = some r, fun σ' H' h => ⟨k, Nat.lt_succ_self k, h⟩, ?_⟩
      refine h2 bs ρ2 σ2 os vs P3 H3 _ (fl, ρ5, P5) R3 e5 ?_
      cases fl with
      | nx => exact fun σ5 H5 R5 => ⟨ρ5, P5, R5, e6⟩
      | ct => exact fun σ5 H5 R5 => ⟨ρ5, P5, R5, e6⟩
      | bk => cases e6; exact q
      | rt s => cases e6; exact q
    | false =>
      rw [if_neg Bool.false_ne_true] at e4 ⊢
      cases e4
      exact q σ2 H3 R3
end
end Pd

set_option Elab.async false
set_option linter.all false
set_option maxRecDepth 100000
set_option maxHeartbeats 1000000
/-! The layer Pd, part G: what a loop walks, comprehensions. -/
namespace Pd
open PySem PySem.Spec PyProof.Rows L2

/-! ### cutting the store -/
section
variable {K : PySem.W.Frag} {bs : List Nat} {ρ : EV} {σ : L2.St} {os : List SV} {vs : List V} {P : Store} {H F : Hp} {ad : List Addr} {n : Nat}
def SV.lt (n : Nat) : SV → Prop
  | .fz _ => True
  | .ptr k => k < n
  | .lk _ _ _ => True
theorem SVR.ltOf {v : V} {s : SV} (h : SVR K F ad v s) : s.lt ad.length := by
  cases s with
  | fz d => trivial
  | ptr k => obtain ⟨a, e, _⟩ := h; exact (List.getElem?_eq_some_iff.mp e).1
  | lk _ _ _ => trivial
theorem SVR.take {v : V} {s : SV} (h : SVR K F ad v s) (l : s.lt n) : SVR K F (ad.take n) v s := by
  cases s with
  | fz d => exact h
  | ptr k => obtain ⟨a, e, q⟩ := h; exact ⟨a, by rw [List.getElem?_take_of_lt l]; exact e, q⟩
  | lk _ _ _ => exact h
theorem SVA.ltOf : ∀ {vs : List V} {l : List SV}, SVA K F ad vs l → ∀ s ∈ l, s.lt ad.length
  | _, _, .nil, s, h => by simp at h
  | _, _, .cons a t, s, h => by
    rcases List.mem_cons.mp h with rfl | h
    · exact a.ltOf
    · exact SVA.ltOf t s h
theorem SVA.take : ∀ {vs : List V} {l : List SV}, SVA K F ad vs l → (∀ s ∈ l, s.lt n) → SVA K F (ad.take n) vs l
  | _, _, .nil, _ => .nil
  | _, _, .cons a t, h => .cons (a.take (h _ List.mem_cons_self)) (SVA.take t fun s hs => h s (List.mem_cons_of_mem _ hs))
theorem ps_lt {l : List SV} (h : ∀ j ∈ l.flatMap SV.ps, j < n) : ∀ s ∈ l, s.lt n := fun s hs => by
  cases s with
  | fz d => trivial
  | ptr k => exact h k (List.mem_flatMap.mpr ⟨_, hs, by simp [SV.ps]⟩)
  | lk _ _ _ => trivial
theorem lt_ps {l : List SV} (h : ∀ s ∈ l, s.lt n) : ∀ j ∈ l.flatMap SV.ps, j < n := fun j hj => by
  obtain ⟨s, hs, q⟩ := List.mem_flatMap.mp hj
  cases s with
  | fz d => simp [SV.ps] at q
  | ptr k => simp only [SV.ps, List.mem_singleton] at q; subst q; exact h _ hs
  | lk _ _ _ => simp [SV.ps] at q
theorem CellR.lows {a : Addr} {c : Cell} (h : CellR K F H ad a c) : ∀ j ∈ c.ps, j < ad.length := by
  cases c with
  | fz d => intro j hj; simp [Cell.ps] at hj
  | lst l => obtain ⟨_, xs, _, t⟩ := h; exact lt_ps t.ltOf
  | dK l =>
    obtain ⟨_, xs, _, t⟩ := h
    intro j hj
    refine lt_ps t.ltOf j ?_
    simpa [Cell.ps, List.flatMap_map] using hj
  | dT l =>
    obtain ⟨_, xs, _, t⟩ := h
    intro j hj
    refine lt_ps t.ltOf j ?_
    simpa [Cell.ps, List.flatMap_map] using hj
theorem CellR.take {a : Addr} {c : Cell} (h : CellR K F H ad a c) (l : ∀ j ∈ c.ps, j < n) : CellR K F H (ad.take n) a c := by
  cases c with
  | fz d => exact h
  | lst r => obtain ⟨f, xs, e, t⟩ := h; exact ⟨f, xs, e, t.take (ps_lt l)⟩
  | dK r =>
    obtain ⟨f, xs, e, t⟩ := h
    exact ⟨f, xs, e, t.take (ps_lt (by simpa [Cell.ps, List.flatMap_map] using l))⟩
  | dT r =>
    obtain ⟨f, xs, e, t⟩ := h
    exact ⟨f, xs, e, t.take (ps_lt (by simpa [Cell.ps, List.flatMap_map] using l))⟩
/-- a new base at the store's end -/
theorem RelX.enter (R : RelX K bs ρ σ os vs P H F ad) : RelX K (P.length :: bs) { ρ with b := P.length } σ os vs P H F ad := by
  refine { R with slots := R.slots, bas := ⟨fun c hc => ?_, fun c hc k x hk e j hj => ?_⟩, bb := fun c hc => ?_ }
  · rcases List.mem_cons.mp hc with rfl | hc
    · exact Nat.le_refl _
    · exact R.bas.le c hc
  · rcases List.mem_cons.mp hc with rfl | hc
    · have hl : k < ad.length := by rw [R.len]; exact hk
      have := (R.cells k x ad[k] e (List.getElem?_eq_getElem hl)).lows j hj
      rw [R.len] at this; exact this
    · exact R.bas.low c hc k x hk e j hj
  · rcases List.mem_cons.mp hc with rfl | hc
    · exact Nat.le_refl _
    · exact R.bas.le c hc
theorem RelX.slotsLt (R : RelX K bs ρ σ os vs P H F ad) : ∀ (i : Nat) (s : SV), ρ.sl[i]? = some (some s) → s.lt P.length := fun i s e => by
  obtain ⟨v, _, r⟩ := R.slots.2 i s e
  rw [← R.len]; exact r.ltOf
theorem RelX.topsLt (R : RelX K bs ρ σ os vs P H F ad) : ∀ s ∈ os, s.lt P.length := by rw [← R.len]; exact R.tops.ltOf
/-- .. and back to it -/
theorem RelX.cut (R : RelX K (n :: bs) ρ σ os vs P H F ad) {ρ' : EV} {σ' : L2.St} {os' : List SV} {vs' : List V} (hs : SlR K F ad ρ'.sl σ') (hl : ∀ (i : Nat) (s : SV), ρ'.sl[i]? = some (some s) → s.lt n) (ht : SVA K F ad vs' os') (hlt : ∀ s ∈ os', s.lt n) (hb : ∀ c ∈ bs, c ≤ ρ'.b) (hbn : ∀ c ∈ bs, c ≤ n) :
    RelX K bs ρ' σ' os' vs' (P.take n) H F (ad.take n) := by
  refine ⟨R.sub, by simp [R.len], R.nd.sublist (List.take_sublist _ _), fun a ha => R.there a (List.mem_of_mem_take ha), fun k c a e1 e2 => ?_, ⟨hs.1, fun i s e => ?_⟩, ht.take hlt, ⟨fun c hc => ?_, fun c hc k x hk e j hj => ?_⟩, hb⟩
  · have hk : k < n := by
      have := (List.getElem?_eq_some_iff.mp e1).1
      rw [List.length_take] at this; omega
    rw [List.getElem?_take_of_lt hk] at e1 e2
    exact (R.cells k c a e1 e2).take (R.bas.low n List.mem_cons_self k c hk e1)
  · obtain ⟨v, e1, r⟩ := hs.2 i s e
    exact ⟨v, e1, r.take (hl i s e)⟩
  · have h1 := R.bas.le c (List.mem_cons_of_mem _ hc)
    have h2 := hbn c hc
    rw [List.length_take]; omega
  · have h2 := hbn c hc
    rw [List.getElem?_take_of_lt (by omega)] at e
    exact R.bas.low c (List.mem_cons_of_mem _ hc) k x hk e j hj
end

/-! ### what is walked -/
section
variable {X : Cx} {tg : Expr}
theorem PI.or {iter : Expr} {w w' : TI} (h : PI X tg iter w) (h' : PI X tg iter w') : PI X tg iter (fun σ H R => w σ H R ∨ w' σ H R) :=
  ⟨fun pins s σ H R I q => q.elim (h.run pins s σ H R I) (h'.run pins s σ H R I)⟩
theorem PId.or {iter : Expr} {f g : IM} (h : PId X tg iter f) (h' : PId X tg iter g) : PId X tg iter (fun ρ P => (f ρ P).or (g ρ P)) := by
  obtain ⟨w, p, h1⟩ := h
  obtain ⟨w', p', h2⟩ := h'
  refine ⟨_, PI.or p p', fun bs ρ σ os vs P H R items src P' Rl e q => ?_⟩
  have e : (f ρ P).or (g ρ P) = some (items, src, P') := e
  cases hf : f ρ P with
  | some z =>
    rw [hf] at e
    simp only [Option.some_or, Option.some.injEq] at e
    subst e
    exact .inl (h1 bs ρ σ os vs P H R items src P' Rl hf q)
  | none =>
    rw [hf] at e
    exact .inr (h2 bs ρ σ os vs P H R items src P' Rl (by simpa using e) q)
def signsD (x : Str) : List PyData := x.cps.toList.map fun c => .str ⟨#[c]⟩
theorem pid_str {e : Expr} {f : XM} (h : PEd X e f) : PId X tg e (fun ρ P => (f ρ P).bind fun (a, P1) => match a with | .fz (.str x) => some (signsD x, a, P1) | _ => none) := by
  obtain ⟨t, p, h1⟩ := h
  refine ⟨_, pi_str p, fun bs ρ σ os vs P H R items src P' Rl e q => ?_⟩
  simp only [Option.bind_eq_some_iff] at e
  obtain ⟨⟨a, P1⟩, e1, e2⟩ := e
  refine h1 bs ρ σ os vs P H _ a P1 Rl e1 fun v H1 R1 => ?_
  simp only at e2
  split at e2
  · rename_i x
    cases e2
    have hv : v = .str x := by
      obtain ⟨F, ad, R1⟩ := R1
      obtain ⟨r1, _⟩ := R1.pop
      cases r1; rfl
    subst hv
    refine ⟨x, rfl, q (Its x) (.str x) H1 _ R1 fun bs ρ σ os vs P H i R => ⟨fun hi => ?_, fun hi => ?_⟩⟩
    · have hi' : i < x.cps.size := by simpa [signsD] using hi
      refine ⟨hi', fun y H' ⟨e1, c, hc, ey⟩ => ?_⟩
      subst e1; subst ey
      obtain ⟨F, ad, R⟩ := R
      refine ⟨.str ⟨#[c]⟩, ?_, ⟨F, ad, R.push (show Fz X.K F _ _ from .str _)⟩⟩
      unfold signsD
      rw [List.getElem?_map, Array.getElem?_toList, hc]; rfl
    · show x.cps.size ≤ i
      simpa [signsD] using hi
  · cases e2
/-! ### the keys of a dict: it stays locked -/
def iKeysL (td : TE) : TI := fun σ H R => td σ H fun x H1 => ∃ d kvs, x = .ref d ∧ ((∃ o, H1 d = some (.frz o (.dK kvs)) ∧ R (Itk d o kvs) H1) ∨ (H1 d = some (.dK kvs) ∧ ∀ o, R (Itk d o kvs) (upd H1 d (.frz o (.dK kvs)))))
theorem pi_keysL {e : Expr} {td : TE} (he : PE X e td) : PI X tg e (iKeysL td) := by
  refine ⟨fun pins s σ H R I h => ?_⟩
  refine thn (he.run pins s σ H _ I h) fun u s1 ⟨x, H1, I1, rx, d, kvs, ex, q⟩ => ?_
  subst ex
  obtain rfl : u = Value.ref d := rx
  have key : ∃ (H2 : Hp) (o : Obj), L2.Inv X pins σ H2 s1 ∧ H2 d = some (.frz o (.dK kvs)) ∧ R (Itk d o kvs) H2 := by
    rcases q with ⟨o, hd, q⟩ | ⟨hd, q⟩
    · exact ⟨H1, o, I1, hd, q⟩
    · obtain ⟨o, I2⟩ := I1.lock hd trivial
      exact ⟨_, o, I2, upd_same, q o⟩
  obtain ⟨H2, o, I2, hd, q⟩ := key
  obtain ⟨f1, f2, f3, es, ep, ws, f4, f5, f6, f7⟩ := I2.frzK hd
  refine iter_keys f1 f2 f3 f4 (pi_one (tk := s1.toks) I2 _ (turn_keys _ f4) ⟨_, Heap.get?_push_size _ rfl, rfl, ?_⟩ q)
  rw [f5] <;> rfl
theorem RelX.lockD {K : PySem.W.Frag} {bs : List Nat} {ρ : EV} {σ : L2.St} {os : List SV} {vs : List V} {P : Store} {H F : Hp} {ad : List Addr} (R : RelX K bs ρ σ os vs P H F ad) {d : Addr} {o : Obj} {kvs : List (Key × V)} (hF : F d = some (.dK kvs)) :
    RelX K bs ρ σ os vs P (upd H d (.frz o (.dK kvs))) (upd F d (.frz o (.dK kvs))) ad := by
  have l : Le F (upd F d (.frz o (.dK kvs))) := fun a u e => by
    by_cases h : a = d
    · subst h
      rw [hF] at e
      cases e
      exact .inr ⟨rfl, o, upd_same⟩
    · exact .inl (by rw [upd_ne h]; exact e)
  refine ⟨fun a u e => ?_, R.len, R.nd, fun a ha => ?_, fun k c a e1 e2 => ?_, R.slots.mono l (.refl _), R.tops.mono l (.refl _), R.bas, R.bb⟩
  · by_cases h : a = d
    · subst h
      rw [upd_same] at e ⊢
      exact .inl e
    · rw [upd_ne h] at e ⊢
      exact R.sub a u e
  · by_cases h : a = d
    · subst h; exact ⟨_, upd_same⟩
    · obtain ⟨u, e⟩ := R.there a ha
      exact ⟨u, by rw [upd_ne h]; exact e⟩
  · have hc := R.cells k c a e1 e2
    cases c with
    | fz z => exact Fz.mono l hc
    | lst z =>
      obtain ⟨n, xs, e, t⟩ := hc
      have ne : a ≠ d := fun q => by subst q; rw [hF] at n; cases n
      exact ⟨by rw [upd_ne ne]; exact n, xs, by rw [upd_ne ne]; exact e, t.mono l (.refl _)⟩
    | dK z =>
      obtain ⟨n, xs, e, t⟩ := hc
      have ne : a ≠ d := fun q => by subst q; rw [hF] at n; cases n
      exact ⟨by rw [upd_ne ne]; exact n, xs, by rw [upd_ne ne]; exact e, t.mono l (.refl _)⟩
    | dT z =>
      obtain ⟨n, xs, e, t⟩ := hc
      have ne : a ≠ d := fun q => by subst q; rw [hF] at n; cases n
      exact ⟨by rw [upd_ne ne]; exact n, xs, by rw [upd_ne ne]; exact e, t.mono l (.refl _)⟩
/-- an int or a text -/
def isKD : PyData → Bool
  | .int _ => true
  | .str _ => true
  | _ => false
def keysD (kvs : List (PyData × PyData)) : List PyData := kvs.map (·.1)
theorem keysD_zip (ks : List Key) : ∀ ds : List PyData, ks.length = ds.length → keysD ((ks.map keyD).zip ds) = ks.map keyD := by
  induction ks with
  | nil => intro ds _; rfl
  | cons k ks ih =>
    intro ds h
    cases ds with
    | nil => simp at h
    | cons d ds =>
      have := ih ds (by simpa using h)
      simpa [keysD] using this
theorem Fz.dct {K : PySem.W.Frag} {F : Hp} {v : V} {kvs : List (PyData × PyData)} (h : Fz K F v (.dict kvs)) (hk : kvs.all (fun p => isKD p.1) = true) : ∃ (a : Addr) (ks : List Key) (xs : List V), v = .ref a ∧ Rd F a (.dK (ks.zip xs)) ∧ ks.length = xs.length ∧ keysD kvs = ks.map keyD := by
  cases h with
  | @dK a ks xs ds hp hl t => exact ⟨a, ks, xs, rfl, hp, hl, keysD_zip ks ds (by have := t.length; omega)⟩
  | @dT a ks xs ds hp hl n t =>
    have hn := t.length
    cases ks with
    | nil => exact absurd rfl n
    | cons k ks =>
      cases ds with
      | nil => simp at hn; simp [hn] at hl
      | cons d ds => simp [isKD] at hk
theorem itok_keys {K : PySem.W.Frag} {d : Addr} {o : Obj} {ks : List Key} {xs : List V} {v : V} (hl : ks.length = xs.length) : ItOk K (Itk d o (ks.zip xs)) (ks.map keyD) (.lk d o (.dK (ks.zip xs))) v := fun bs ρ σ os vs P H i R => by
  have hz : (ks.zip xs).length = ks.length := by simp; omega
  have hH : H d = some (.frz o (.dK (ks.zip xs))) := by
    obtain ⟨F, ad, R⟩ := R
    obtain ⟨r, _⟩ := R.pop
    have r : F d = some (.frz o (.dK (ks.zip xs))) := r
    rcases R.sub d _ r with e | ⟨n, _⟩
    · exact e
    · cases n
  refine ⟨fun hi => ?_, fun hi => ⟨hH, by rw [hz]; simpa using hi⟩⟩
  have hi' : i < ks.length := by simpa using hi
  refine ⟨⟨hH, by rw [hz]; exact hi'⟩, fun y H' ⟨e1, k, w, hk, ey⟩ => ?_⟩
  subst e1; subst ey
  obtain ⟨F, ad, R⟩ := R
  have hk2 : ks[i]? = some k := by
    have h3 := congrArg (Option.map Prod.fst) hk
    rw [← List.getElem?_map, List.map_fst_zip (by omega)] at h3
    simpa using h3
  refine ⟨keyD k, by rw [List.getElem?_map, hk2]; rfl, ⟨F, ad, R.push ?_⟩⟩
  cases k with
  | inl n => exact (show Fz K F _ _ from .int _)
  | inr n => exact (show Fz K F _ _ from .str _)
theorem pid_dict {e : Expr} {f : XM} (h : PEd X e f) : PId X tg e (fun ρ P => (f ρ P).bind fun (a, P1) => match a with | .fz (.dict kvs) => if kvs.all (fun p => isKD p.1) = true then some (keysD kvs, a, P1) else none | _ => none) := by
  obtain ⟨t, p, h1⟩ := h
  refine ⟨_, pi_keysL p, fun bs ρ σ os vs P H R items src P' Rl e q => ?_⟩
  simp only [Option.bind_eq_some_iff] at e
  obtain ⟨⟨a, P1⟩, e1, e2⟩ := e
  refine h1 bs ρ σ os vs P H _ a P1 Rl e1 fun v H1 R1 => ?_
  simp only at e2
  split at e2
  · rename_i kvs
    split at e2
    · rename_i hk
      cases e2
      obtain ⟨F, ad, R1⟩ := R1
      obtain ⟨r1, R2⟩ := R1.pop
      obtain ⟨a, ks, xs, rfl, hp, hl, hkeys⟩ := Fz.dct r1 hk
      rw [hkeys] at q
      refine ⟨a, ks.zip xs, rfl, ?_⟩
      rcases hp with hp | ⟨o, hp⟩
      · rcases R1.sub a _ hp with e | ⟨_, o, e⟩
        · refine .inr ⟨e, fun o => ?_⟩
          exact q (Itk a o (ks.zip xs)) (.ref a) _ (.lk a o (.dK (ks.zip xs))) ⟨_, ad, (R2.lockD (o := o) hp).push (show upd F a _ a = _ from upd_same)⟩ (itok_keys hl)
        · refine .inl ⟨o, e, ?_⟩
          have hH : upd H1 a (.frz o (.dK (ks.zip xs))) = H1 := by
            funext b
            by_cases h : b = a
            · subst h; rw [upd_same, e]
            · rw [upd_ne h]
          have R3 := R2.lockD (o := o) hp
          rw [hH] at R3
          exact q (Itk a o (ks.zip xs)) (.ref a) _ (.lk a o (.dK (ks.zip xs))) ⟨_, ad, R3.push (show upd F a _ a = _ from upd_same)⟩ (itok_keys hl)
      · have e : H1 a = some (.frz o (.dK (ks.zip xs))) := by
          rcases R1.sub a _ hp with e | ⟨n, _⟩
          · exact e
          · cases n
        exact .inl ⟨o, e, q (Itk a o (ks.zip xs)) (.ref a) _ (.lk a o (.dK (ks.zip xs))) ⟨_, ad, R2.push (show F a = _ from hp)⟩ (itok_keys hl)⟩
    · cases e2
  · cases e2
/-- a list, a tuple, a text, the keys of a dict -/
def iAny (f : XM) : IM := fun ρ P => (f ρ P).bind fun (a, P1) => match a with
  | .fz (.list ds) => some (ds, a, P1)
  | .fz (.tuple ds) => some (ds, a, P1)
  | .fz (.str x) => some (signsD x, a, P1)
  | .fz (.dict kvs) => if kvs.all (fun p => isKD p.1) = true then some (keysD kvs, a, P1) else none
  | _ => none
theorem pid_any {e : Expr} {f : XM} (h : PEd X e f) : PId X tg e (iAny f) := by
  have h1 := (pid_list (tg := tg) h).or ((pid_tup h).or ((pid_str h).or (pid_dict h)))
  have e1 : (fun ρ P => ((f ρ P).bind fun (a, P1) => match a with | .fz (.list ds) => some (ds, a, P1) | _ => none).or (((f ρ P).bind fun (a, P1) => match a with | .fz (.tuple ds) => some (ds, a, P1) | _ => none).or
      (((f ρ P).bind fun (a, P1) => match a with | .fz (.str x) => some (signsD x, a, P1) | _ => none).or ((f ρ P).bind fun (a, P1) => match a with | .fz (.dict kvs) => if kvs.all (fun p => isKD p.1) = true then some (keysD kvs, a, P1) else none | _ => none)))) = iAny f := by
    funext ρ P
    unfold iAny
    cases f ρ P with
    | none => rfl
    | some z =>
      obtain ⟨a, P1⟩ := z
      cases a with
      | ptr k => rfl
      | lk _ _ _ => rfl
      | fz d => cases d <;> rfl
  rw [← e1]; exact h1
def rangeD (lo : Int) (n : Nat) : List PyData := (List.range n).map fun i => .int (lo + (i : Nat))
theorem rangeD_len (lo : Int) (n : Nat) : (rangeD lo n).length = n := by simp [rangeD]
theorem itok_range {K : PySem.W.Frag} {lo : Int} {n : Nat} {d : SV} {v : V} : ItOk K (Itr lo n) (rangeD lo n) d v := fun bs ρ σ os vs P H i R => by
  refine ⟨fun hi => ?_, fun hi => by rw [rangeD_len] at hi; exact hi⟩
  rw [rangeD_len] at hi
  refine ⟨hi, fun x H' ⟨e1, e2⟩ => ?_⟩
  subst e1; subst e2
  obtain ⟨F, ad, R⟩ := R
  exact ⟨.int (lo + i), by simp [rangeD, hi], ⟨F, ad, R.push (show Fz K F _ _ from .int _)⟩⟩
def iRange (g : AM) : IM := fun ρ P => (g ρ P).bind fun (l, P1) => match l with
  | [.fz (.int j)] => if -(2 ^ 62) ≤ j ∧ j < 2 ^ 62 then some (rangeD 0 j.toNat, .fz .none, P1) else none
  | [.fz (.int i), .fz (.int j)] => if -(2 ^ 62) ≤ i ∧ i < 2 ^ 62 ∧ -(2 ^ 62) ≤ j ∧ j < 2 ^ 62 then some (rangeD i (j - i).toNat, .fz .none, P1) else none
  | _ => none
theorem pid_range1 {a : Expr} {f : XM} {p pos : Pos} (hg : Gl X "range") (hm : X.mg "range" = none) (ha : PEd X a f) (hs : starEach [a] X.env = [(false, eval a X.env)] := by rfl) : PId X tg (.Call (.Name "range" p) [a] [] pos) (iRange (aCons f aNil)) := by
  obtain ⟨t, pa, h1⟩ := pad_cons ha pad_nil (by rw [hs]; rfl)
  refine ⟨_, pi_range1 hg hm pa hs, fun bs ρ σ os vs P H R items src P' Rl e q => ?_⟩
  simp only [iRange, Option.bind_eq_some_iff] at e
  obtain ⟨⟨l, P1⟩, e1, e2⟩ := e
  refine h1 bs ρ σ os vs P H _ l P1 Rl e1 fun ws H1 hl R1 => ?_
  obtain ⟨F, ad, R1⟩ := R1
  obtain ⟨ra, R2⟩ := R1.args hl
  simp only at e2
  split at e2
  · split at e2
    · rename_i hz
      cases e2
      cases ra with
      | cons r1 ra =>
        cases ra
        cases r1
        exact ⟨_, rfl, hz.1, hz.2, q _ .non H1 (.fz .none) ⟨F, ad, R2.push (show Fz X.K F _ _ from .non)⟩ itok_range⟩
    · cases e2
  · simp [aCons, aNil, Option.bind_eq_some_iff] at e1
  · cases e2
theorem pid_range2 {a b : Expr} {f g : XM} {p pos : Pos} (hg : Gl X "range") (hm : X.mg "range" = none) (ha : PEd X a f) (hb : PEd X b g) (hs : starEach [a, b] X.env = [(false, eval a X.env), (false, eval b X.env)] := by rfl) (hs2 : starEach [b] X.env = [(false, eval b X.env)] := by rfl) :
    PId X tg (.Call (.Name "range" p) [a, b] [] pos) (iRange (aCons f (aCons g aNil))) := by
  obtain ⟨t, pa, h1⟩ := pad_cons ha (pad_cons hb pad_nil (by rw [hs2]; rfl)) (by rw [hs, hs2])
  refine ⟨_, pi_range2 hg hm pa hs hs2, fun bs ρ σ os vs P H R items src P' Rl e q => ?_⟩
  simp only [iRange, Option.bind_eq_some_iff] at e
  obtain ⟨⟨l, P1⟩, e1, e2⟩ := e
  refine h1 bs ρ σ os vs P H _ l P1 Rl e1 fun ws H1 hl R1 => ?_
  obtain ⟨F, ad, R1⟩ := R1
  obtain ⟨ra, R2⟩ := R1.args hl
  simp only at e2
  split at e2
  · simp [aCons, aNil, Option.bind_eq_some_iff] at e1
  · split at e2
    · rename_i hz
      cases e2
      cases ra with
      | cons r1 ra =>
        cases ra with
        | cons r2 ra =>
          cases ra
          cases r1
          cases r2
          exact ⟨_, _, rfl, hz, q _ .non H1 (.fz .none) ⟨F, ad, R2.push (show Fz X.K F _ _ from .non)⟩ itok_range⟩
    · cases e2
  · cases e2
end

/-! ### comprehensions -/
def EV.wipe (ρ : EV) (vs : List Nat) : EV := { ρ with sl := vs.foldr (fun v l => l.set v none) ρ.sl }
theorem SlR.wipe {K : PySem.W.Frag} {F : Hp} {ad : List Addr} {sl : List (Option SV)} {σ : L2.St} (h : SlR K F ad sl σ) : ∀ vs : List Nat, SlR K F ad (vs.foldr (fun v l => l.set v none) sl) (L2.wipe σ vs)
  | [] => h
  | v :: vs => by
    have ih := SlR.wipe h vs
    refine ⟨by simp [L2.wipe, ih.1], fun i s e => ?_⟩
    simp only [List.foldr_cons] at e
    by_cases hi : v = i
    · subst hi
      by_cases hl : v < (vs.foldr (fun v l => l.set v none) sl).length
      · rw [List.getElem?_set_self hl] at e; cases e
      · rw [List.getElem?_eq_none (by simpa using hl)] at e; cases e
    · rw [List.getElem?_set_ne hi] at e
      obtain ⟨w, hw, r⟩ := ih.2 i s e
      exact ⟨w, by show ((L2.wipe σ vs).set v none)[i]? = _; rw [List.getElem?_set_ne hi]; exact hw, r⟩
def lcGo (g : GM) (tt : BM) (te : XM) (ρ : EV) (n : Nat) : List PyData → Store → Option Store
  | [], S => some S
  | d :: r, S => (g (.fz d) ρ S).bind fun (ρ1, S1) => (tt ρ1 S1).bind fun (b, S2) =>
    if b = true then (te ρ1 S2).bind fun (s, S3) => match s, S3[n]? with
      | .fz z, some (.lst acc) => if acc.length < sizeLine then lcGo g tt te ρ n r (S3.set n (.lst (acc ++ [.fz z]))) else none
      | _, _ => none
    else lcGo g tt te ρ n r S2
def mLC (own : List Nat) (f : IM) (g : GM) (tt : BM) (te : XM) : XM := fun ρ P => (f ρ P).bind fun (items, _, P1) =>
  (lcGo g tt te { ρ.wipe own with b := P1.length } P1.length items (P1 ++ [.lst []])).bind fun S => match S[P1.length]? with
    | some (.lst acc) => (fzs acc).map fun ds => (.fz (.list ds), S.take P1.length)
    | _ => none
def PTsd (X : Cx) (ifs : List Expr) (f : BM) : Prop := ∃ t, PTs X ifs t ∧ ∀ (bs : List Nat) (ρ : EV) (σ : L2.St) (os : List SV) (vs : List V) (P : Store) (H : Hp) (Q : Bool → Hp → Prop) (r : Bool) (P' : Store), Rel X.K bs ρ σ os vs P H → f ρ P = some (r, P') →
  (∀ H', Rel X.K bs ρ σ os vs P' H' → Q r H') → t σ H Q
def bYes : BM := fun _ P => some (true, P)
theorem ptsd_nil {X : Cx} : PTsd X [] bYes := ⟨_, pts_nil, fun bs ρ σ os vs P H Q r P' R e q => by
  simp only [bYes, Option.some.injEq, Prod.mk.injEq] at e
  obtain ⟨rfl, rfl⟩ := e
  exact q H R⟩
theorem ptsd_one {X : Cx} {c : Expr} {f : BM} (h : PTd X c f) : PTsd X [c] f := let ⟨t, p, q⟩ := h; ⟨t, pts_one p, q⟩
end Pd

set_option Elab.async false
set_option linter.all false
set_option maxRecDepth 100000
set_option maxHeartbeats 1000000
/-! The layer Pd, part H: comprehensions' proof. -/
namespace Pd
open PySem PySem.Spec PyProof.Rows L2

def tM (K : PySem.W.Frag) (f : XM) : TE := fun σ H Q => ∃ (bs : List Nat) (ρ : EV) (os : List SV) (vs : List V) (P : Store) (r : SV) (P' : Store), Rel K bs ρ σ os vs P H ∧ f ρ P = some (r, P') ∧ ∀ v H', Rel K bs ρ σ (r :: os) (v :: vs) P' H' → Q v H'
def tMT (K : PySem.W.Frag) (f : BM) : TT := fun σ H Q => ∃ (bs : List Nat) (ρ : EV) (os : List SV) (vs : List V) (P : Store) (r : Bool) (P' : Store), Rel K bs ρ σ os vs P H ∧ f ρ P = some (r, P') ∧ ∀ H', Rel K bs ρ σ os vs P' H' → Q r H'
def tMG (K : PySem.W.Frag) (ts : List Nat) (g : GM) : TG := fun v σ H Q => ∃ (bs : List Nat) (ρ : EV) (os : List SV) (vs : List V) (P : Store) (s : SV) (ρ' : EV) (P' : Store), Rel K bs ρ σ (s :: os) (v :: vs) P H ∧ g s ρ P = some (ρ', P') ∧
  ∀ σ' H', Rel K bs ρ' σ' os vs P' H' → Keeps ts σ σ' → Q σ' H'
theorem PEd.canon {X : Cx} {e : Expr} {f : XM} (h : PEd X e f) : PE X e (tM X.K f) := by
  obtain ⟨t, p, h1⟩ := h
  exact ⟨fun pins s σ H Q I ⟨bs, ρ, os, vs, P, r, P', R, e, q⟩ => p.run pins s σ H Q I (h1 bs ρ σ os vs P H Q r P' R e q)⟩
theorem PTsd.canon {X : Cx} {e : List Expr} {f : BM} (h : PTsd X e f) : PTs X e (tMT X.K f) := by
  obtain ⟨t, p, h1⟩ := h
  exact ⟨fun pins s σ H Q I ⟨bs, ρ, os, vs, P, r, P', R, e, q⟩ => p.run pins s σ H Q I (h1 bs ρ σ os vs P H Q r P' R e q)⟩
theorem PGd.canon {X : Cx} {e : Expr} {ts : List Nat} {g : GM} (h : PGd X e ts g) : PG X e (tMG X.K ts g) := by
  obtain ⟨t, p, h1⟩ := h
  exact ⟨fun pins s σ H v u Q I r ⟨bs, ρ, os, vs, P, sv, ρ', P', R, e, q⟩ => p.run pins s σ H v u Q I r (h1 bs ρ σ os vs P H sv v Q ρ' P' R e q)⟩

theorem wipe_at {σ : L2.St} {i : Nat} : ∀ {vs : List Nat}, i ∈ vs → (L2.wipe σ vs)[i]? = if i < σ.length then some none else none
  | v :: vs, h => by
    show ((L2.wipe σ vs).set v none)[i]? = _
    by_cases hv : v = i
    · subst hv
      by_cases hl : v < σ.length
      · rw [List.getElem?_set_self (by rw [L2.wipe_length]; exact hl), if_pos hl]
      · rw [List.getElem?_eq_none (by rw [List.length_set, L2.wipe_length]; omega), if_neg hl]
    · rw [List.getElem?_set_ne hv]
      rcases List.mem_cons.mp h with e | h
      · exact absurd e.symm hv
      · exact wipe_at h
theorem wipe_keeps {σ σ' : L2.St} {own ts : List Nat} (h : ∀ i ∈ ts, i ∈ own) (k : Keeps ts (L2.wipe σ own) σ') : L2.wipe σ' own = L2.wipe σ own := by
  have hl : σ'.length = σ.length := k.1.trans (L2.wipe_length _ _)
  apply List.ext_getElem?
  intro i
  by_cases hi : i ∈ own
  · rw [wipe_at hi, wipe_at hi, hl]
  · rw [L2.wipe_out hi, k.2 i fun z => hi (h i z)]
theorem SVA.split {K : PySem.W.Frag} {F : Hp} {ad : List Addr} : ∀ {ws vs : List V} {ls os : List SV}, ws.length = ls.length → SVA K F ad (ws ++ vs) (ls ++ os) → SVA K F ad ws ls ∧ SVA K F ad vs os
  | [], _, [], _, _, h => ⟨.nil, h⟩
  | w :: ws, vs, l :: ls, os, e, h => by
    cases h with
    | cons a t =>
      obtain ⟨h1, h2⟩ := SVA.split (ws := ws) (ls := ls) (by simpa using e) t
      exact ⟨.cons a h1, h2⟩
  | [], _, _ :: _, _, e, _ => by simp at e
  | _ :: _, _, [], _, e, _ => by simp at e
/-- what the slots hold, as a list -/
theorem SlR.list {K : PySem.W.Frag} : ∀ {sl : List (Option SV)} {σ : L2.St} {F : Hp} {ad : List Addr}, SlR K F ad sl σ → ∃ (ls : List SV) (ws : List V), SVA K F ad ws ls ∧ ∀ F' ad', SVA K F' ad' ws ls → SlR K F' ad' sl σ
  | [], σ, F, ad, h => ⟨[], [], .nil, fun F' ad' _ => ⟨h.1, fun i s e => by simp at e⟩⟩
  | o :: sl, [], F, ad, h => by have := h.1; simp at this
  | o :: sl, v :: σ, F, ad, h => by
    have h' : SlR K F ad sl σ := ⟨by simpa using h.1, fun i s e => h.2 (i + 1) s e⟩
    obtain ⟨ls, ws, a, b⟩ := SlR.list h'
    cases o with
    | none =>
      refine ⟨ls, ws, a, fun F' ad' x => ?_⟩
      obtain ⟨c, d⟩ := b F' ad' x
      refine ⟨by simp [c], fun i s e => ?_⟩
      cases i with
      | zero => simp at e
      | succ i => exact d i s (by simpa using e)
    | some s =>
      obtain ⟨w, hw, r⟩ := h.2 0 s rfl
      have hv : v = some w := by simpa using hw
      subst hv
      refine ⟨s :: ls, w :: ws, .cons r a, fun F' ad' x => ?_⟩
      cases x with
      | cons r' x =>
        obtain ⟨c, d⟩ := b F' ad' x
        refine ⟨by simp [c], fun i t e => ?_⟩
        cases i with
        | zero =>
          have : s = t := by simpa using e
          subst this
          exact ⟨w, rfl, r'⟩
        | succ i => exact d i t (by simpa using e)
/-- the turns of a comprehension -/
theorem lc_go {K : PySem.W.Frag} {J : It} {items : List PyData} {src : SV} {w : V} (ok : ItOk K J items src w) {g : GM} {ts : List Nat} {tt : BM} {te : XM} {own : List Nat} {bs : List Nat} {ρ : EV} {σ : L2.St} {os : List SV} {vs : List V} {P : Store} {H1 : Hp} {S : Store} {Df : Hp → Prop} {D : Addr}
    (hts : ∀ i ∈ ts, i ∈ own)
    (R : Rel K bs ρ σ (src :: os) (w :: vs) P H1) (hD : H1 D = none) (e : lcGo g tt te { ρ.wipe own with b := P.length } P.length items (P ++ [.lst []]) = some S)
    (q : ∀ H, Rel K (P.length :: bs) { ρ with b := P.length } σ (.ptr P.length :: src :: os) (.ref D :: w :: vs) S H → Df H) :
    ∃ W : Nat → Nat → Hp → Prop, (∃ m, W 0 m (upd H1 D (.lst []))) ∧ ∀ i m H, W i m H →
      (J.stop i H ∧ Df H) ∨ (J.go i H ∧ ∃ Nx : Hp → Prop, (∀ H', Nx H' → ∃ m', m' < m ∧ W (i + 1) m' H') ∧ ∀ x H', J.yld i H x H' → tMG K ts g x (L2.wipe σ own) H' fun σ2 H2 => L2.wipe σ2 own = L2.wipe σ own ∧ tMT K tt σ2 H2 fun b H3 =>
        if b = true then tM K te σ2 H3 fun y H4 => ∃ acc, H4 D = some (.lst acc) ∧ acc.length < sizeLine ∧ Nx (upd H4 D (.lst (acc ++ [y]))) else Nx H3) := by
  -- what the def's slots hold, on the stack
  have hls : ∃ (ls : List SV) (ws : List V), ws.length = ls.length ∧ (∀ F ad, SVA K F ad ws ls → SlR K F ad ρ.sl σ) ∧ Rel K bs ρ σ (src :: (ls ++ os)) (w :: (ws ++ vs)) P H1 := by
    obtain ⟨F, ad, R⟩ := R
    obtain ⟨ls, ws, a, b⟩ := R.slots.list
    obtain ⟨r, R1⟩ := R.pop
    exact ⟨ls, ws, a.length, b, F, ad, R.tops_of (.cons r (a.append R1.tops))⟩
  obtain ⟨ls, ws, hlen, hb, Rl⟩ := hls
  have start : ∃ ρx σx, ρx.b = P.length ∧ Rel K (P.length :: bs) ρx σx (.ptr P.length :: src :: (ls ++ os)) (.ref D :: w :: (ws ++ vs)) (P ++ [.lst []]) (upd H1 D (.lst [])) := by
    obtain ⟨F, ad, R⟩ := Rl
    exact ⟨_, _, rfl, F, ad ++ [D], R.enter.cell hD fun ad' pr => ⟨R.free hD, [], upd_same, .nil⟩⟩
  refine ⟨fun i m H => m = items.length - i ∧ i ≤ items.length ∧ ∃ T ρx σx, ρx.b = P.length ∧ Rel K (P.length :: bs) ρx σx (.ptr P.length :: src :: (ls ++ os)) (.ref D :: w :: (ws ++ vs)) T H ∧ lcGo g tt te { ρ.wipe own with b := P.length } P.length (items.drop i) T = some S, ⟨_, rfl, Nat.zero_le _, _, start.choose, start.choose_spec.choose, start.choose_spec.choose_spec.1, start.choose_spec.choose_spec.2, by simpa using e⟩, ?_⟩
  rintro i m H ⟨rfl, hle, T, ρx, σx, hbx, RT, eT⟩
  have under : Rel K (P.length :: bs) ρx σx (src :: .ptr P.length :: (ls ++ os)) (w :: .ref D :: (ws ++ vs)) T H := by
    obtain ⟨F, ad, R⟩ := RT
    obtain ⟨r1, R1⟩ := R.pop
    obtain ⟨r2, R2⟩ := R1.pop
    exact ⟨F, ad, (R2.push r1).push r2⟩
  obtain ⟨ok1, ok2⟩ := ok _ _ _ _ _ _ _ i under
  by_cases hlt : i < items.length
  · obtain ⟨go, yl⟩ := ok1 hlt
    refine .inr ⟨go, fun H => ∃ T ρx σx, ρx.b = P.length ∧ Rel K (P.length :: bs) ρx σx (.ptr P.length :: src :: (ls ++ os)) (.ref D :: w :: (ws ++ vs)) T H ∧ lcGo g tt te { ρ.wipe own with b := P.length } P.length (items.drop (i + 1)) T = some S, fun H' ⟨T', ρ', σ', b', R', e'⟩ => ⟨items.length - (i + 1), by omega, rfl, hlt, T', ρ', σ', b', R', e'⟩, fun x H' hy => ?_⟩
    obtain ⟨d, hd, R3⟩ := yl x H' hy
    rw [List.drop_eq_getElem_cons hlt] at eT
    have ed : items[i] = d := by rw [List.getElem?_eq_getElem hlt] at hd; exact Option.some.inj hd
    rw [ed] at eT
    simp only [lcGo, Option.bind_eq_some_iff] at eT
    obtain ⟨⟨ρ4, P4⟩, e4, ⟨b, P5⟩, e5, e6⟩ := eT
    have R4 : Rel K (P.length :: bs) { ρ.wipe own with b := P.length } (L2.wipe σ own) (.fz d :: .ptr P.length :: src :: (ls ++ os)) (x :: .ref D :: w :: (ws ++ vs)) T H' := by
      obtain ⟨F, ad, R⟩ := R3
      obtain ⟨r0, R1⟩ := R.pop
      obtain ⟨r1, R2⟩ := R1.pop
      obtain ⟨r2, R3⟩ := R2.pop
      have sp := (SVA.split hlen R3.tops).1
      refine ⟨F, ad, { R with slots := (hb F ad sp).wipe own, tops := .cons r0 (.cons r2 (.cons r1 R3.tops)), bb := fun c hc => ?_ }⟩
      have := R.bb c hc
      show c ≤ P.length
      rw [hbx] at this; exact this
    refine ⟨_, _, _, _, _, _, ρ4, P4, R4, e4, fun σ4 H4 R5 k4 => ⟨wipe_keeps hts k4, _, _, _, _, _, b, P5, R5, e5, fun H5 R6 => ?_⟩⟩
    simp only at e6
    have hb4 : ∀ {bs : List Nat} {os : List SV} {vs : List V} {P' : Store} {H : Hp}, Rel K (P.length :: bs) ρ4 σ4 os vs P' H → P.length ≤ ρ4.b := fun ⟨F, ad, R⟩ => R.bb _ List.mem_cons_self
    cases b with
    | true =>
      rw [if_pos rfl] at e6 ⊢
      simp only [Option.bind_eq_some_iff] at e6
      obtain ⟨⟨s, P6⟩, e7, e8⟩ := e6
      refine ⟨_, _, _, _, _, s, P6, R6, e7, fun y H6 R7 => ?_⟩
      simp only at e8
      split at e8
      · rename_i z acc hacc
        split at e8
        · rename_i hz
          obtain ⟨F, ad, R7⟩ := R7
          obtain ⟨ry, R8⟩ := R7.pop
          obtain ⟨rD, R9⟩ := R8.pop
          obtain ⟨a, ha, ea, hc⟩ := R8.at rD hacc
          cases ea
          obtain ⟨hF, xs, hx, tx⟩ := hc
          refine ⟨xs, hx, by rw [tx.length]; exact hz, P6.set P.length (.lst (acc ++ [.fz z])), { ρ4 with b := P.length }, σ4, rfl, ⟨F, ad, ?_⟩, e8⟩
          have R10 := R8.put (c := .lst (acc ++ [.fz z])) hacc ha hF ⟨hF, _, upd_same, tx.append (.cons ry .nil)⟩ (fun j hj => by
            refine .inl ?_
            simpa [Cell.ps, SV.ps] using hj)
          refine { R10 with slots := R10.slots, bb := fun c hc => ?_ }
          rcases List.mem_cons.mp hc with rfl | hc
          · exact Nat.le_refl _
          · obtain ⟨F0, ad0, R0⟩ := R
            exact R0.bas.le c hc
        · cases e8
      · cases e8
    | false =>
      rw [if_neg Bool.false_ne_true] at e6 ⊢
      refine ⟨P5, { ρ4 with b := P.length }, σ4, rfl, ?_, e6⟩
      obtain ⟨F, ad, R6⟩ := R6
      refine ⟨F, ad, { R6 with slots := R6.slots, bb := fun c hc => ?_ }⟩
      rcases List.mem_cons.mp hc with rfl | hc
      · exact Nat.le_refl _
      · obtain ⟨F0, ad0, R0⟩ := R
        exact R0.bas.le c hc
  · have : i = items.length := by omega
    subst this
    rw [List.drop_length] at eT
    simp only [lcGo, Option.some.injEq] at eT
    subst eT
    refine .inl ⟨ok2 (Nat.le_refl _), q H ?_⟩
    obtain ⟨F, ad, RX⟩ := RT
    obtain ⟨r1, R1⟩ := RX.pop
    obtain ⟨r2, R2⟩ := R1.pop
    obtain ⟨sp, so⟩ := SVA.split hlen R2.tops
    refine ⟨F, ad, { RX with slots := hb F ad sp, tops := .cons r1 (.cons r2 so), bb := fun c hc => ?_ }⟩
    have := RX.bb c hc
    show c ≤ P.length
    rw [hbx] at this; exact this

section
variable {X : Cx} {pos : Pos}
theorem lc_d {f : IM} {g : GM} {tt : BM} {te : XM} {ts own : List Nat} {wi : TI} (hts : ∀ i ∈ ts, i ∈ own)
    (h0 : ∀ (bs : List Nat) (ρ : EV) (σ : L2.St) (os : List SV) (vs : List V) (P : Store) (H : Hp) (R : It → Hp → Prop) (items : List PyData) (src : SV) (P' : Store), Rel X.K bs ρ σ os vs P H → f ρ P = some (items, src, P') →
      (∀ J v H' sr, Rel X.K bs ρ σ (sr :: os) (v :: vs) P' H' → ItOk X.K J items sr v → R J H') → wi σ H R)
    (bs : List Nat) (ρ : EV) (σ : L2.St) (os : List SV) (vs : List V) (P : Store) (H : Hp) (Q : VK) (r : SV) (P' : Store) (R : Rel X.K bs ρ σ os vs P H) (e : mLC own f g tt te ρ P = some (r, P'))
    (q : ∀ v H', Rel X.K bs ρ σ (r :: os) (v :: vs) P' H' → Q v H') : tLc wi (tMG X.K ts g) (tMT X.K tt) (tM X.K te) own σ H Q := by
  simp only [mLC, Option.bind_eq_some_iff] at e
  obtain ⟨⟨items, src, P1⟩, e0, S, e1, e2⟩ := e
  refine h0 bs ρ σ os vs P H _ items src P1 R e0 fun J w H1 src R1 ok => fun D hD => ?_
  refine lc_go (Df := fun H => Q (.ref D) H) ok hts R1 hD e1 fun H2 R2 => ?_
  simp only at e2
  split at e2
  · rename_i acc hacc
    simp only [Option.map_eq_some_iff, Prod.mk.injEq] at e2
    obtain ⟨ds, hds, rfl, rfl⟩ := e2
    obtain ⟨F, ad, R2⟩ := R2
    obtain ⟨F1, ad1, R1⟩ := R1
    obtain ⟨rD, R3⟩ := R2.pop
    obtain ⟨a, ha, ea, hc⟩ := R3.at rD hacc
    cases ea
    obtain ⟨hF, xs, hx, tx⟩ := hc
    obtain ⟨R4, l4, f4⟩ := R3.freezeC (d := .list ds) hacc ha hF hx fun G l g => .lst (.of g) ((fzs_some tx hds).mono l)
    obtain ⟨_, R5⟩ := R4.pop
    have R6 := R5.cut (ρ' := ρ) R5.slots R1.slotsLt R5.tops (fun s hs => R1.topsLt s (List.mem_cons_of_mem _ hs)) (fun c hc => R1.bb c hc) (fun c hc => R1.bas.le c hc)
    have e5 : (S.set P1.length (.fz (.list ds))).take P1.length = S.take P1.length := by
      rw [List.take_set_of_le (Nat.le_refl _)]
    rw [e5] at R6
    exact q _ _ ⟨_, _, R6.push (d := .fz (.list ds)) (show Fz X.K _ _ _ from f4)⟩
  · cases e2
theorem ped_lc {elt tg iter : Expr} {ifs : List Expr} {scope : Scope} {own : List (Str × Nat)} {f : IM} {g : GM} {tt : BM} {te : XM} {ts : List Nat} (hc : X.calm = true) (hN : X.N.Nodup) (hi : PId X tg iter f) (ok : BlkOk X.N X.env.scope scope own)
    (hg : ∀ (s : Shared) (H : Hp) (C : Addr) (cl : List (Str × Addr)) (fp : List Addr), PGd (X.blk s H scope (compEnvC scope cl C X.env) fp) tg ts g) (ht : ∀ (s : Shared) (H : Hp) (C : Addr) (cl : List (Str × Addr)) (fp : List Addr), PTsd (X.blk s H scope (compEnvC scope cl C X.env) fp) ifs tt)
    (he : ∀ (s : Shared) (H : Hp) (C : Addr) (cl : List (Str × Addr)) (fp : List Addr), PEd (X.blk s H scope (compEnvC scope cl C X.env) fp) elt te) (hts : ∀ i ∈ ts, i ∈ own.map (·.2) := by decide) (hs : ∀ x, foldedSetIterable iter X.env x = pure x := by intro _; rfl) :
    PEd X (.ListComp elt [⟨tg, iter, ifs, 0⟩] scope pos) (mLC (own.map (·.2)) f g tt te) := by
  obtain ⟨wi, p0, h0⟩ := hi
  exact ⟨_, pe_lc (g := tMG X.K ts g) (tt := tMT X.K tt) (te := tM X.K te) hc hN p0 ok (fun s H C cl fp => (hg s H C cl fp).canon) (fun s H C cl fp => (ht s H C cl fp).canon) (fun s H C cl fp => (he s H C cl fp).canon) hs, lc_d hts h0⟩
theorem psd_setLc {i : Nat} {y : Str} {py : Pos} {elt tg iter : Expr} {ifs : List Expr} {scope : Scope} {own : List (Str × Nat)} {spos : Pos} {f : IM} {g : GM} {tt : BM} {te : XM} {ts : List Nat} (hc : X.calm = true) (hN : X.N.Nodup) (hy : X.N[i]? = some y) (hyl : X.env.scope.names.lookup y = some .local)
    (hsw : swapsWith (.ListComp elt [⟨tg, iter, ifs, 0⟩] scope pos) (some (.Name y py)) spos.line X.env = pure true) (hi : PId X tg iter f) (ok : BlkOk X.N X.env.scope scope own)
    (hg : ∀ (s : Shared) (H : Hp) (C : Addr) (cl : List (Str × Addr)) (fp : List Addr), PGd (X.blk s H scope (compEnvC scope cl C X.env) fp) tg ts g) (ht : ∀ (s : Shared) (H : Hp) (C : Addr) (cl : List (Str × Addr)) (fp : List Addr), PTsd (X.blk s H scope (compEnvC scope cl C X.env) fp) ifs tt)
    (he : ∀ (s : Shared) (H : Hp) (C : Addr) (cl : List (Str × Addr)) (fp : List Addr), PEd (X.blk s H scope (compEnvC scope cl C X.env) fp) elt te) (hts : ∀ i ∈ ts, i ∈ own.map (·.2) := by decide) (hs : ∀ x, foldedSetIterable iter X.env x = pure x := by intro _; rfl) :
    PSd X (.Assign [.Name y py] (.ListComp elt [⟨tg, iter, ifs, 0⟩] scope pos) spos) (sSet i (mLC (own.map (·.2)) f g tt te)) := by
  obtain ⟨wi, p0, h0⟩ := hi
  refine ⟨_, ps_setLc (g := tMG X.K ts g) (tt := tMT X.K tt) (te := tM X.K te) hc hN hy hyl hsw p0 ok (fun s H C cl fp => (hg s H C cl fp).canon) (fun s H C cl fp => (ht s H C cl fp).canon) (fun s H C cl fp => (he s H C cl fp).canon) hs, fun bs ρ σ os vs P H D r R e q => ?_⟩
  simp only [sSet, Option.map_eq_some_iff] at e
  obtain ⟨⟨s, P1⟩, e1, rfl⟩ := e
  exact lc_d hts h0 bs ρ σ os vs P H _ s P1 R e1 fun v H1 R1 => q _ H1 (R1.store i)
end
end Pd

set_option Elab.async false
set_option linter.all false
set_option maxRecDepth 100000
set_option maxHeartbeats 1000000
/-! The layer Pd, part I: defs. -/
namespace Pd
open PySem PySem.Spec PyProof.Rows L2

abbrev FM := List SV → Store → Option (SV × Store)
/-- a def's promise: what its mirror tells -/
def spM (K : PySem.W.Frag) (m : FM) (n : Nat) : Sp := fun vs H Q _ => vs.length = n ∧ ∃ (bs : List Nat) (ρ : EV) (σ : L2.St) (os : List SV) (ws : List V) (args : List SV) (P : Store) (r : SV) (P' : Store), args.length = n ∧
  Rel K bs ρ σ (args ++ os) (vs ++ ws) P H ∧ m args P = some (r, P') ∧ ∀ v H', Rel K bs ρ σ (r :: os) (v :: ws) P' H' → Q v H'
theorem spM_imp {K : PySem.W.Frag} {m m' : FM} {n : Nat} (h : ∀ args P r, m' args P = some r → m args P = some r) : ∀ vs H Q E, spM K m' n vs H Q E → spM K m n vs H Q E :=
  fun vs H Q E ⟨e, bs, ρ, σ, os, ws, args, P, r, P', e2, R, em, q⟩ => ⟨e, bs, ρ, σ, os, ws, args, P, r, P', e2, R, h _ _ _ em, q⟩
theorem fn_none {P : Program} {w : World} {K : PySem.W.Frag} {mg : Str → Option Value} {base : Heap} {k n : Nat} {f : Addr} {fd : FuncData} {ps : List Str} {m : FM} (hm : ∀ args P, m args P = none) : FnOk P w K mg base CX0 k f fd ps (spM K m n) :=
  have no : ∀ vs H Q E, ¬ spM K m n vs H Q E := fun vs H Q E h => by
    obtain ⟨_, _, _, _, _, _, _, _, _, _, _, _, e, _⟩ := h
    rw [hm] at e; cases e
  ⟨fun vs H Q E h => absurd h (no vs H Q E), fun A outer s H args us vs Q E _ _ _ _ h => absurd h (no vs H Q E)⟩

/-! ### the body -/
def startE (n : Nat) (args : List SV) : List (Option SV) := args.map some ++ List.replicate (n - args.length) none
/-- what a def hands back: data -/
def exitZ (n : Nat) (r : SV) (P : Store) : Option (SV × Store) := match r with
  | .fz d => some (.fz d, P.take n)
  | .ptr k => if n ≤ k then (P[k]?.bind Cell.dat).map fun d => (.fz d, P.take n) else none
  | .lk _ _ _ => none
/-- .. or a cell -/
def exitC (n : Nat) (r : SV) (P : Store) : Option (SV × Store) := match r with
  | .fz d => some (.fz d, P.take n)
  | .ptr k => if n ≤ k then P[k]?.bind fun c => if c.ps = [] then some (.ptr n, P.take n ++ [c]) else none else some (.ptr k, P.take n)
  | .lk _ _ _ => none
def mFun (ex : Nat → SV → Store → Option (SV × Store)) (nN : Nat) (body : SM) : FM := fun args P => (body { b := P.length, sl := startE nN args } P).bind fun (fl, _, P2) => match fl with
  | .rt r => ex P.length r P2
  | .nx => ex P.length (.fz .none) P2
  | _ => none
abbrev mFunZ := mFun exitZ
abbrev mFunC := mFun exitC
/-- what an exit keeps -/
def ExOk (ex : Nat → SV → Store → Option (SV × Store)) : Prop := ∀ (K : PySem.W.Frag) (bs : List Nat) (ρ ρ' : EV) (σ σ' : L2.St) (os : List SV) (ws : List V) (r : SV) (v : V) (P' P'' : Store) (H F : Hp) (ad : List Addr) (n : Nat) (z : SV),
  RelX K (n :: bs) ρ' σ' (r :: os) (v :: ws) P' H F ad → SlR K F ad ρ.sl σ → (∀ (i : Nat) (s : SV), ρ.sl[i]? = some (some s) → s.lt n) → (∀ s ∈ os, s.lt n) → (∀ c ∈ bs, c ≤ ρ.b) → (∀ c ∈ bs, c ≤ n) → n ≤ P'.length → ex n r P' = some (z, P'') →
  Rel K bs ρ σ (z :: os) (v :: ws) P'' H
theorem exitZ_ok : ExOk exitZ := by
  intro K bs ρ ρ' σ σ' os ws r v P' P'' H F ad n z R hs hl ho hb hbn hn e
  obtain ⟨rr, R1⟩ := R.pop
  cases r with
  | fz d =>
    simp only [exitZ, Option.some.injEq, Prod.mk.injEq] at e
    obtain ⟨rfl, rfl⟩ := e
    have R2 := R1.cut hs hl R1.tops ho hb hbn
    exact ⟨F, _, R2.push (show SVR K F _ _ (.fz d) from rr)⟩
  | ptr k =>
    simp only [exitZ] at e
    split at e
    · rename_i hk
      simp only [Option.map_eq_some_iff, Prod.mk.injEq] at e
      obtain ⟨d, e1, rfl, rfl⟩ := e
      have ef : frz P' (.ptr k) = some (d, P'.set k (.fz d)) := by simp only [frz]; rw [e1]; rfl
      obtain ⟨G, R2, l, fd⟩ := R1.freeze rr ef
      have R3 := R2.cut (hs.mono l (.refl _)) hl R2.tops ho hb hbn
      rw [List.take_set_of_le hk] at R3
      exact ⟨G, _, R3.push (show SVR K G _ _ (.fz d) from fd)⟩
    · cases e
  | lk _ _ _ => cases e
theorem no_ps {K : PySem.W.Frag} {F H : Hp} {ad ad' : List Addr} {a : Addr} {c : Cell} (h : c.ps = []) (x : CellR K F H ad a c) : CellR K F H ad' a c := by
  have h0 : CellR K F H (ad.take 0) a c := x.take (n := 0) fun j hj => by rw [h] at hj; cases hj
  exact h0.grow (.refl _) (fun k b e => by simp at e) rfl id
theorem RelX.adopt {K : PySem.W.Frag} {bs : List Nat} {ρ : EV} {σ : L2.St} {os : List SV} {vs : List V} {P : Store} {H F : Hp} {ad : List Addr} (R : RelX K bs ρ σ os vs P H F ad) {a : Addr} {c : Cell} (na : a ∉ ad) (th : ∃ o, H a = some o) (hc : CellR K F H (ad ++ [a]) a c) (hp : c.ps = []) :
    RelX K bs ρ σ (.ptr P.length :: os) (.ref a :: vs) (P ++ [c]) H F (ad ++ [a]) := by
  have pr : Pre ad (ad ++ [a]) := .push _ _
  refine ⟨R.sub, by simp [R.len], ?_, fun b hb => ?_, fun k x b e1 e2 => ?_, R.slots.mono (.refl _) pr, .cons ⟨a, by rw [← R.len]; simp, rfl⟩ (R.tops.mono (.refl _) pr), ⟨fun c hc => ?_, fun c hc k x hk e j hj => ?_⟩, R.bb⟩
  · rw [List.nodup_append]
    refine ⟨R.nd, by simp, fun b hb d hd e => ?_⟩
    have : d = a := by simpa using hd
    subst this; subst e
    exact na hb
  · rcases List.mem_append.mp hb with hb | hb
    · exact R.there b hb
    · have : b = a := by simpa using hb
      subst this; exact th
  · by_cases hk : k < P.length
    · rw [List.getElem?_append_left hk] at e1
      rw [List.getElem?_append_left (by rw [R.len]; exact hk)] at e2
      exact (R.cells k x b e1 e2).grow (.refl _) pr rfl id
    · have hk' : k = P.length := by
        have := (List.getElem?_eq_some_iff.mp e1).1
        simp at this
        omega
      subst hk'
      have e1' : c = x := by simpa using e1
      have e2' : a = b := by rw [← R.len] at e2; simpa using e2
      subst e1'; subst e2'
      exact hc
  · have := R.bas.le c hc
    simp; omega
  · have hl := R.bas.le c hc
    rw [List.getElem?_append_left (by omega)] at e
    exact R.bas.low c hc k x hk e j hj
theorem exitC_ok : ExOk exitC := by
  intro K bs ρ ρ' σ σ' os ws r v P' P'' H F ad n z R hs hl ho hb hbn hn e
  obtain ⟨rr, R1⟩ := R.pop
  have R2 := R1.cut hs hl R1.tops ho hb hbn
  cases r with
  | fz d =>
    simp only [exitC, Option.some.injEq, Prod.mk.injEq] at e
    obtain ⟨rfl, rfl⟩ := e
    exact ⟨F, _, R2.push (show SVR K F _ _ (.fz d) from rr)⟩
  | ptr k =>
    simp only [exitC] at e
    split at e
    · rename_i hk
      simp only [Option.bind_eq_some_iff] at e
      obtain ⟨c, e1, e2⟩ := e
      split at e2
      · rename_i hp
        cases e2
        obtain ⟨a, ha, rfl, hc⟩ := R1.at rr e1
        have na : a ∉ ad.take n := fun hm => by
          obtain ⟨j, hj, ej⟩ := List.getElem_of_mem hm
          rw [List.length_take] at hj
          rw [List.getElem_take] at ej
          obtain ⟨h2, q2⟩ := List.getElem?_eq_some_iff.mp ha
          have := (List.getElem_inj R.nd).mp (ej.trans q2.symm)
          omega
        have R3 := R2.adopt na (R.there a (List.mem_of_getElem? ha)) (no_ps hp hc) hp
        have en : (P'.take n).length = n := by rw [List.length_take]; omega
        rw [en] at R3
        exact ⟨F, _, R3⟩
      · cases e2
    · rename_i hk
      cases e
      exact ⟨F, _, R2.push (SVR.take rr (show k < n by omega))⟩
  | lk _ _ _ => cases e
section
variable {P : Program} {w : World} {K : PySem.W.Frag} {mg : Str → Option Value} {base : Heap}
theorem startE_len {n : Nat} {args : List SV} (h : args.length ≤ n) : (startE n args).length = n := by simp [startE]; omega
theorem startE_at {n : Nat} {args : List SV} {i : Nat} {s : SV} (e : (startE n args)[i]? = some (some s)) : args[i]? = some s := by
  unfold startE at e
  by_cases hi : i < args.length
  · rw [List.getElem?_append_left (by simpa using hi), List.getElem?_map] at e
    cases h : args[i]? with
    | none => rw [h] at e; cases e
    | some a => rw [h] at e; cases e; rfl
  · rw [List.getElem?_append_right (by simpa using Nat.le_of_not_lt hi), List.getElem?_replicate] at e
    split at e <;> cases e
theorem SVA.slots {K : PySem.W.Frag} {F : Hp} {ad : List Addr} {args : List SV} {vs : List V} {N : List Str} (h : SVA K F ad vs args) (hn : args.length ≤ N.length) : SlR K F ad (startE N.length args) (L2.start N vs) := by
  have hl := h.length
  refine ⟨by rw [startE_len hn]; simp [L2.start]; omega, fun i s e => ?_⟩
  have e2 := startE_at e
  obtain ⟨v, hv, r⟩ := h.get e2
  refine ⟨v, ?_, r⟩
  unfold L2.start
  have hi : i < vs.length := (List.getElem?_eq_some_iff.mp hv).1
  rw [List.getElem?_append_left (by simpa using hi), List.getElem?_map, hv]; rfl
/-- THE RULE for a def -/
theorem fn_m {x qual : Str} {st : Stmt} {f : Addr} {fd : FuncData} {N ps : List Str} {k nN np : Nat} {body : SM} {ex : Nat → SV → Store → Option (SV × Store)} (hex : ExOk ex) (F : L2.Fun K x qual st f fd) (S : FnScope N ps (defScope st)) (hN : N.length = nN) (hp : ps.length = np) (hpn : np ≤ nN)
    (hb : ∀ (cdv : Value) (A : Around) (outer : List Env) (s : Shared) (H : Hp) (E : XK), Room k (A.deeper (envOfC qual (defScope st) s.heap.objs.size f cdv)) → PSsd (cxOf CX0 P w K mg base N qual (defScope st) f cdv A outer s H E).nox (defBody st) body) :
    FnOk P w K mg base CX0 (k + 1) f fd ps (spM K (mFun ex nN body) np) := by
  refine F.ok S (fun vs H Q E h => h.1.trans hp.symm) fun cdv A outer s H vs Q E hr h => ?_
  obtain ⟨hv, bs, ρ, σ, os, ws, args, P0, r, P', ha, R, em, q⟩ := h
  obtain ⟨t, p, h1⟩ := hb cdv A outer s H E hr
  refine ⟨t, p, ?_⟩
  simp only [mFun, Option.bind_eq_some_iff] at em
  obtain ⟨⟨fl, ρ2, P2⟩, e1, e2⟩ := em
  obtain ⟨F0, ad, R⟩ := R
  obtain ⟨ra, ro⟩ := SVA.split (hv.trans ha.symm) R.tops
  obtain ⟨ls, us, la, lb⟩ := R.slots.list
  have hlt := R.slotsLt
  have hto := R.topsLt
  have hbb := R.bb
  have hbl := R.bas.le
  have R1 := (R.tops_of (la.append ro)).enter
  have sl : SlR K F0 ad (startE nN args) (L2.start N vs) := by rw [← hN]; exact SVA.slots ra (by omega)
  have R2 : Rel K (P0.length :: bs) { b := P0.length, sl := startE nN args } (L2.start N vs) (ls ++ os) (us ++ ws) P0 H := ⟨F0, ad, { R1 with slots := sl, bb := R1.bb }⟩
  have out : ∀ {ρ' : EV} {σ' : L2.St} {z : SV} {v : V} {H' : Hp}, Rel K (P0.length :: bs) ρ' σ' (z :: (ls ++ os)) (v :: (us ++ ws)) P2 H' → ex P0.length z P2 = some (r, P') → Rel K bs ρ σ (r :: os) (v :: ws) P' H' := by
    rintro ρ' σ' z v H' ⟨G, ad', R3⟩ ez
    obtain ⟨rz, R4⟩ := R3.pop
    obtain ⟨sa, so⟩ := SVA.split la.length R4.tops
    exact hex K bs ρ ρ' σ σ' os ws z v P2 P' H' G ad' P0.length r (R3.tops_of (.cons rz so)) (lb G ad' sa) hlt (fun s hs => hto s (List.mem_append_right _ hs)) hbb hbl (R3.bas.le _ List.mem_cons_self) ez
  refine h1 (P0.length :: bs) _ (L2.start N vs) (ls ++ os) (us ++ ws) P0 H _ (fl, ρ2, P2) R2 e1 ?_
  cases fl with
  | nx =>
    intro σ' H' R3
    obtain ⟨G, ad', R3⟩ := R3
    exact q _ _ (out ⟨G, ad', R3.push (d := .fz .none) (show Fz K G .non .none from .non)⟩ e2)
  | rt z => exact fun σ' v H' R3 => q _ _ (out R3 e2)
  | bk => cases e2
  | ct => cases e2
end
section
variable {X : Cx} {pos : Pos}
/-- f(e, ..) -/
def mCallF (m : FM) (fs : AM) : XM := fun ρ P => (fs ρ P).bind fun (l, P1) => m l P1
theorem ped_call {x : Str} {p : Pos} {k n : Nat} {f : Addr} {fd : FuncData} {ps : List Str} {e : Expr} {es : List Expr} {m : FM} {fs : AM} (F : FnOk X.prog X.w X.K X.mg X.base CX0 k f fd ps (spM X.K m n)) (hr : Room k X.A) (hg : Gl X x) (hm : X.mg x = some (.ref f)) (hk : PySem.W.keepIn X.K (.ref f) = true) (hb : Binds X.K fd ps [])
    (ha : PAd X (e :: es) fs) (hn : ∀ ρ P l P', fs ρ P = some (l, P') → l.length = n)
    (hs : starEach (e :: es) X.env = (false, eval e X.env) :: starEach es X.env := by rfl) (hpl : (backTo pos (starEach es X.env)).any (·.1) = false := by rfl) (hdb : (x == ("__debug__" : Str)) = false := by decide) : PEd X (.Call (.Name x p) (e :: es) [] pos) (mCallF m fs) := by
  obtain ⟨t, pa, h1⟩ := ha
  refine ⟨_, pe_call F hr hg hm hk hb .nil pass0 pa (he := hs) (hpl := hpl) (hdb := hdb), fun bs ρ σ os vs P H Q r P' R e q => ?_⟩
  simp only [mCallF, Option.bind_eq_some_iff] at e
  obtain ⟨⟨l, P1⟩, e1, e2⟩ := e
  refine h1 bs ρ σ os vs P H _ l P1 R e1 fun ws H1 hl R1 => ?_
  obtain ⟨F, ad, R1⟩ := R1
  obtain ⟨ra, R2⟩ := R1.args hl
  have hln := hn _ _ _ _ e1
  exact ⟨by simp [hl, hln], bs, ρ, σ, os, vs, l, P1, r, P', hln, ⟨F, ad, by rw [List.append_nil]; exact R2.tops_of (ra.append R2.tops)⟩, e2, q⟩
end
end Pd

set_option Elab.async false
set_option linter.all false
set_option maxRecDepth 100000
set_option maxHeartbeats 1000000
/-! The layer Pd, part J: stores to lists, dicts. -/
namespace Pd
open PySem PySem.Spec PyProof.Rows L2
section
variable {X : Cx} {pos : Pos}

/-! ### xs[i] = v -/
def gIx (fo fi : XM) : GM := fun s ρ P => (fo ρ P).bind fun (o, P1) => (fi ρ P1).bind fun (i, P2) => match o, i with
  | .ptr k, .fz (.int i) => match P2[k]? with
    | some (.lst l) => if okPtr ρ.b k s = true then (ixN l.length i).map fun j => (ρ, P2.set k (.lst (l.set j s))) else none
    | _ => none
  | _, _ => none
theorem ps_of_set {l : List SV} {j : Nat} {s : SV} : ∀ i ∈ (l.set j s).flatMap SV.ps, i ∈ l.flatMap SV.ps ∨ i ∈ s.ps := fun i hi => by
  obtain ⟨x, hx, q⟩ := List.mem_flatMap.mp hi
  rcases List.mem_or_eq_of_mem_set hx with h | h
  · exact .inl (List.mem_flatMap.mpr ⟨x, h, q⟩)
  · subst h; exact .inr q
theorem pgd_ix {o i : Expr} {fo fi : XM} (ho : PEd X o fo) (hi : PEd X i fi)
    (ha : ∀ v, assign (.Subscript o i pos) X.env v = (do
      let ov ← holding [v] (eval o X.env)
      let iv ← holding [v, ov] (eval i X.env)
      standAt pos
      holding [v, ov, iv] (setItem ov iv v)
      release [v, ov, iv] []) := by intro _; rfl) : PGd X (.Subscript o i pos) [] (gIx fo fi) := by
  obtain ⟨t, p, h1⟩ := ho
  obtain ⟨u, p', h2⟩ := hi
  refine ⟨_, pg_sub p p' set_list ha, fun bs ρ σ os vs P H s v Q ρ' P' R e q => ?_⟩
  simp only [gIx, Option.bind_eq_some_iff] at e
  obtain ⟨⟨s1, P1⟩, e1, ⟨s2, P2⟩, e2, e3⟩ := e
  simp only at e3
  split at e3
  · rename_i k i
    split at e3
    · rename_i l hk
      split at e3
      · rename_i hz
        simp only [Option.map_eq_some_iff, Prod.mk.injEq] at e3
        obtain ⟨j, hj, rfl, rfl⟩ := e3
        refine h1 bs ρ σ _ _ P H _ _ P1 R e1 fun x H1 R1 => ?_
        refine h2 bs ρ σ _ _ P1 H1 _ _ P2 R1 e2 fun y H2 R2 => ?_
        obtain ⟨F, ad, R2⟩ := R2
        obtain ⟨r2, R3⟩ := R2.pop
        obtain ⟨r1, R4⟩ := R3.pop
        obtain ⟨r0, R5⟩ := R4.pop
        obtain ⟨a, ha, rfl, hc⟩ := R5.at r1 hk
        obtain ⟨hF, xs, hx, tx⟩ := hc
        cases r2
        refine ⟨a, xs, i, j, rfl, rfl, hx, by rw [tx.length]; exact hj, q _ _ ⟨F, ad, R5.put (c := .lst (l.set j s)) hk ha hF ⟨hF, _, upd_same, tx.set r0 j⟩ fun m hm => ?_⟩ ⟨rfl, fun _ _ => rfl⟩⟩
        rcases ps_of_set m hm with h | h
        · exact .inl h
        · exact .inr (okPtr_ps hz m h)
      · cases e3
    · cases e3
  · cases e3

/-! ### dicts -/
def keyOf : PyData → Option Key
  | .int i => some (.inl i)
  | .str x => some (.inr x)
  | _ => none
def keysOf : List PyData → Option (List Key)
  | [] => some []
  | d :: r => (keyOf d).bind fun k => (keysOf r).map (k :: ·)
def tkeyOf : PyData → Option (List Key)
  | .tuple ds => keysOf ds
  | _ => none
theorem keyOf_D (k : Key) : keyOf (keyD k) = some k := by cases k <;> rfl
theorem keysOf_D : ∀ l : List Key, keysOf (l.map keyD) = some l
  | [] => rfl
  | k :: l => by simp [keysOf, keyOf_D, keysOf_D l]
theorem keyOf_some {d : PyData} {k : Key} (h : keyOf d = some k) : d = keyD k := by
  cases d <;> simp only [keyOf, Option.some.injEq] at h <;> first | (subst h; rfl) | cases h
theorem keysOf_some : ∀ {ds : List PyData} {l : List Key}, keysOf ds = some l → ds = l.map keyD
  | [], l, h => by simp only [keysOf, Option.some.injEq] at h; subst h; rfl
  | d :: r, l, h => by
    simp only [keysOf, Option.bind_eq_some_iff, Option.map_eq_some_iff] at h
    obtain ⟨k, h1, m, h2, rfl⟩ := h
    rw [keyOf_some h1, keysOf_some h2]; rfl
def parseK : List (PyData × PyData) → Option (List (Key × SV))
  | [] => some []
  | (k, d) :: r => (keyOf k).bind fun k => (parseK r).map ((k, .fz d) :: ·)
def parseT : List (PyData × PyData) → Option (List (List Key × SV))
  | [] => some []
  | (k, d) :: r => (tkeyOf k).bind fun k => (parseT r).map ((k, .fz d) :: ·)
/-- the pairs of a dict: keys ints and texts, or tuples of them -/
inductive Dct
  | k (l : List (Key × SV))
  | t (l : List (List Key × SV))
def dictOf (P : Store) : SV → Option Dct
  | .fz (.dict kvs) => match parseK kvs with
    | some l => some (.k l)
    | none => (parseT kvs).map .t
  | .fz _ => none
  | .lk _ _ _ => none
  | .ptr k => match P[k]? with
    | some (.dK l) => some (.k l)
    | some (.dT l) => some (.t l)
    | some (.fz (.dict kvs)) => match parseK kvs with
      | some l => some (.k l)
      | none => (parseT kvs).map .t
    | _ => none
def DctR (K : PySem.W.Frag) (F H : Hp) (ad : List Addr) (a : Addr) : Dct → Prop
  | .k l => ∃ xs, Rd H a (.dK ((l.map (·.1)).zip xs)) ∧ SVA K F ad xs (l.map (·.2))
  | .t l => ∃ xs, Rd H a (.dT ((l.map (·.1)).zip xs)) ∧ SVA K F ad xs (l.map (·.2))
theorem parseK_zip : ∀ (ks : List Key) (ds : List PyData), ks.length = ds.length → parseK ((ks.map keyD).zip ds) = some (ks.zip (ds.map SV.fz))
  | [], [], _ => rfl
  | k :: ks, d :: ds, h => by simp [parseK, keyOf_D, parseK_zip ks ds (by simpa using h)]
  | [], _ :: _, h => by simp at h
  | _ :: _, [], h => by simp at h
theorem parseT_zip : ∀ (ks : List (List Key)) (ds : List PyData), ks.length = ds.length → parseT ((ks.map fun k => PyData.tuple (k.map keyD)).zip ds) = some (ks.zip (ds.map SV.fz))
  | [], [], _ => rfl
  | k :: ks, d :: ds, h => by simp [parseT, tkeyOf, keysOf_D, parseT_zip ks ds (by simpa using h)]
  | [], _ :: _, h => by simp at h
  | _ :: _, [], h => by simp at h
theorem FzA.sva {K : PySem.W.Frag} {F : Hp} {ad : List Addr} : ∀ {xs : List V} {ds : List PyData}, FzA K F xs ds → SVA K F ad xs (ds.map SV.fz)
  | _, _, .nil => .nil
  | _, _, .cons a t => .cons a (FzA.sva t)
theorem map_fst_zip {α β : Type} : ∀ (l : List α) (m : List β), l.length = m.length → (l.zip m).map (·.1) = l
  | [], [], _ => rfl
  | a :: l, b :: m, h => by simp [map_fst_zip l m (by simpa using h)]
  | [], _ :: _, h => by simp at h
  | _ :: _, [], h => by simp at h
theorem map_snd_zip {α β : Type} : ∀ (l : List α) (m : List β), l.length = m.length → (l.zip m).map (·.2) = m
  | [], [], _ => rfl
  | a :: l, b :: m, h => by simp [map_snd_zip l m (by simpa using h)]
  | [], _ :: _, h => by simp at h
  | _ :: _, [], h => by simp at h
theorem frz_dct {K : PySem.W.Frag} {F H : Hp} {ad : List Addr} {a : Addr} {kvs : List (PyData × PyData)} {D : Dct} (s : Sub F H) (h : Fz K F (.ref a) (.dict kvs))
    (e : (match parseK kvs with | some l => some (Dct.k l) | none => (parseT kvs).map .t) = some D) : DctR K F H ad a D := by
  cases h with
  | @dK _ ks xs ds hp hl t =>
    have hn := t.length
    rw [parseK_zip ks ds (by omega)] at e
    cases e
    refine ⟨xs, ?_, ?_⟩
    · rw [map_fst_zip _ _ (by simp; omega)]
      exact s.rd (fun _ _ z => by cases z) hp
    · rw [map_snd_zip _ _ (by simp; omega)]
      exact t.sva
  | @dT _ ks xs ds hp hl ne t =>
    have hn := t.length
    have hk : parseK ((ks.map fun k => PyData.tuple (k.map keyD)).zip ds) = none := by
      cases ks with
      | nil => exact absurd rfl ne
      | cons k ks =>
        cases ds with
        | nil => simp at hn; simp [hn] at hl
        | cons d ds => simp [parseK, keyOf]
    rw [hk, parseT_zip ks ds (by omega)] at e
    cases e
    refine ⟨xs, ?_, ?_⟩
    · rw [map_fst_zip _ _ (by simp; omega)]
      rcases s _ _ hp with e | ⟨z, _⟩
      · exact .inl e
      · cases z
    · rw [map_snd_zip _ _ (by simp; omega)]
      exact t.sva
theorem Fz.isRef {K : PySem.W.Frag} {F : Hp} {v : V} {d : PyData} (h : Fz K F v d) : (∃ kvs, d = .dict kvs) → ∃ a, v = .ref a := by
  cases h <;> simp
theorem RelX.dct {K : PySem.W.Frag} {bs : List Nat} {ρ : EV} {σ : L2.St} {os : List SV} {vs : List V} {P : Store} {H F : Hp} {ad : List Addr} (R : RelX K bs ρ σ os vs P H F ad) {v : V} {s : SV} {D : Dct} (h : SVR K F ad v s) (e : dictOf P s = some D) : ∃ a, v = .ref a ∧ DctR K F H ad a D := by
  cases s with
  | fz d =>
    cases d with
    | dict kvs =>
      have hv : ∃ a, v = .ref a := Fz.isRef h ⟨_, rfl⟩
      obtain ⟨a, rfl⟩ := hv
      exact ⟨a, rfl, frz_dct R.sub h e⟩
    | _ => cases e
  | lk _ _ _ => cases e
  | ptr k =>
    unfold dictOf at e
    split at e
    · rename_i heq; cases heq
    · rename_i heq; cases heq
    · rename_i heq; cases heq
    · rename_i k' heq
      cases heq
      split at e
      · rename_i l hk
        cases e
        obtain ⟨a, _, rfl, _, xs, hx, t⟩ := R.at h hk
        exact ⟨a, rfl, xs, .inl hx, t⟩
      · rename_i l hk
        cases e
        obtain ⟨a, _, rfl, _, xs, hx, t⟩ := R.at h hk
        exact ⟨a, rfl, xs, .inl hx, t⟩
      · rename_i kvs hk
        obtain ⟨a, _, rfl, hc⟩ := R.at h hk
        exact ⟨a, rfl, frz_dct R.sub hc e⟩
      · cases e
/-- d.get(k) of pairs -/
def lookS {κ : Type} [DecidableEq κ] (l : List (κ × SV)) (k : κ) : Option SV := (l.find? fun p => decide (p.1 = k)).map (·.2)
theorem look_zip {κ : Type} [DecidableEq κ] {K : PySem.W.Frag} {F : Hp} {ad : List Addr} (k : κ) : ∀ (l : List (κ × SV)) (xs : List V), SVA K F ad xs (l.map (·.2)) →
    (lookS l k = none ∧ valV ((l.map (·.1)).zip xs) k = none) ∨ ∃ s v, lookS l k = some s ∧ valV ((l.map (·.1)).zip xs) k = some v ∧ SVR K F ad v s
  | [], xs, h => .inl ⟨rfl, by cases h; rfl⟩
  | p :: l, xs, h => by
    cases h with
    | cons a t =>
      rename_i v vs
      by_cases e : p.1 = k
      · refine .inr ⟨p.2, v, by simp [lookS, List.find?_cons, e], ?_, a⟩
        exact valV_pos (p := (p.1, v)) e
      · have h1 : lookS (p :: l) k = lookS l k := by simp [lookS, List.find?_cons, e]
        have h2 : valV (((p :: l).map (·.1)).zip (v :: vs)) k = valV ((l.map (·.1)).zip vs) k := valV_neg (p := (p.1, v)) e
        rw [h1, h2]
        exact look_zip k l vs t
def dlook (D : Dct) (kd : PyData) : Option (Option SV) := match D with
  | .k l => (keyOf kd).map fun k => lookS l k
  | .t l => (tkeyOf kd).map fun k => lookS l k
theorem dget_of {K : PySem.W.Frag} {F H : Hp} {ad : List Addr} {a : Addr} {D : Dct} {kd : PyData} {y : V} {o : Option SV} (s : Sub F H) (h : DctR K F H ad a D) (hk : Vw K F H y kd) (e : dlook D kd = some o) :
    (o = none ∧ DGet H a y none) ∨ ∃ z v, o = some z ∧ DGet H a y (some v) ∧ SVR K F ad v z := by
  cases D with
  | k l =>
    simp only [dlook, Option.map_eq_some_iff] at e
    obtain ⟨k, e1, rfl⟩ := e
    obtain ⟨xs, hr, t⟩ := h
    have ey : y = kV k := by
      have e2 := keyOf_some e1
      subst e2
      cases k with
      | inl i => exact hk.ints
      | inr x => exact hk.strs
    rcases look_zip k l xs t with ⟨h1, h2⟩ | ⟨z, v, h1, h2, r⟩
    · exact .inl ⟨h1, .inl ⟨_, k, hr, ey, h2.symm⟩⟩
    · exact .inr ⟨z, v, h1, .inl ⟨_, k, hr, ey, h2.symm⟩, r⟩
  | t l =>
    simp only [dlook, Option.map_eq_some_iff] at e
    obtain ⟨k, e1, rfl⟩ := e
    obtain ⟨xs, hr, t⟩ := h
    cases kd with
    | tuple ds =>
      have e2 := keysOf_some (show keysOf ds = some k from e1)
      subst e2
      obtain ⟨b, ys, rfl, hb, tb, _⟩ := hk.tups s
      have eys : ys = k.map kV := by
        have : ∀ (k : List Key) (ys : List V), FzA K F ys (k.map keyD) → ys = k.map kV := by
          intro k
          induction k with
          | nil => intro ys h; cases h; rfl
          | cons a k ih =>
            intro ys h
            cases h with
            | cons q r =>
              rw [ih _ r]
              cases a <;> (cases q; rfl)
        exact this k ys tb
      subst eys
      rcases look_zip k l xs t with ⟨h1, h2⟩ | ⟨z, v, h1, h2, r⟩
      · exact .inl ⟨h1, .inr ⟨_, k, b, hr, rfl, hb, h2.symm⟩⟩
      · exact .inr ⟨z, v, h1, .inr ⟨_, k, b, hr, rfl, hb, h2.symm⟩, r⟩
    | _ => simp [tkeyOf] at e1
/-- k in d -/
def mDIn (n : Bool) (fk fd : XM) : XM := fun ρ P => (fk ρ P).bind fun (k, P1) => (fd ρ P1).bind fun (d, P2) => (flat P2 k).bind fun kd => (dictOf P2 d).bind fun D => (dlook D kd).map fun o => (.fz (.bool (n != o.isSome)), P2)
theorem din_d {fk fd : XM} {n : Bool} {tk td : TE}
    (h1 : ∀ (bs : List Nat) (ρ : EV) (σ : L2.St) (os : List SV) (vs : List V) (P : Store) (H : Hp) (Q : VK) (r : SV) (P' : Store), Rel X.K bs ρ σ os vs P H → fk ρ P = some (r, P') → (∀ v H', Rel X.K bs ρ σ (r :: os) (v :: vs) P' H' → Q v H') → tk σ H Q)
    (h2 : ∀ (bs : List Nat) (ρ : EV) (σ : L2.St) (os : List SV) (vs : List V) (P : Store) (H : Hp) (Q : VK) (r : SV) (P' : Store), Rel X.K bs ρ σ os vs P H → fd ρ P = some (r, P') → (∀ v H', Rel X.K bs ρ σ (r :: os) (v :: vs) P' H' → Q v H') → td σ H Q)
    (bs : List Nat) (ρ : EV) (σ : L2.St) (os : List SV) (vs : List V) (P : Store) (H : Hp) (Q : VK) (w : SV) (P' : Store) (R : Rel X.K bs ρ σ os vs P H) (e : mDIn n fk fd ρ P = some (w, P')) (q : ∀ v H', Rel X.K bs ρ σ (w :: os) (v :: vs) P' H' → Q v H') :
    tk σ H fun y H1 => td σ H1 fun x H2 => ∃ a o, x = .ref a ∧ DGet H2 a y o ∧ Q (.bl (n != o.isSome)) H2 := by
  simp only [mDIn, Option.bind_eq_some_iff, Option.map_eq_some_iff, Prod.mk.injEq] at e
  obtain ⟨⟨s1, P1⟩, e1, ⟨s2, P2⟩, e2, kd, e3, D, e4, o, e5, rfl, rfl⟩ := e
  refine h1 bs ρ σ os vs P H _ s1 P1 R e1 fun y H1 R1 => ?_
  refine h2 bs ρ σ _ _ P1 H1 _ s2 P2 R1 e2 fun x H2 R2 => ?_
  obtain ⟨F, ad, R2⟩ := R2
  obtain ⟨r2, R3⟩ := R2.pop
  obtain ⟨r1, R4⟩ := R3.pop
  obtain ⟨a, rfl, hd⟩ := R2.dct r2 e4
  rcases dget_of R2.sub hd (R2.view r1 e3) e5 with ⟨rfl, g⟩ | ⟨z, v, rfl, g, r⟩
  · exact ⟨a, none, rfl, g, q _ _ (R4.atom (.bl _))⟩
  · exact ⟨a, some v, rfl, g, q _ _ (R4.atom (.bl _))⟩
theorem ped_din {i o : Expr} {fk fd : XM} (hu : X.A.units + 65 < cLine) (hk : PEd X i fk) (hd : PEd X o fd) (hm : behindInMarks .In o = false) : PEd X (.Compare i [.In] [o] pos) (mDIn false fk fd) := by
  obtain ⟨t, p, h1⟩ := hk
  obtain ⟨u, p', h2⟩ := hd
  refine ⟨_, pe_cmp (pc_din (by omega) p p') hm, fun bs ρ σ os vs P H Q w P' R e q => ?_⟩
  have := din_d h1 h2 bs ρ σ os vs P H Q w P' R e q
  simpa [tDIn] using this
theorem ped_dnotin {i o : Expr} {fk fd : XM} (hu : X.A.units + 65 < cLine) (hk : PEd X i fk) (hd : PEd X o fd) (hm : behindInMarks .NotIn o = false) : PEd X (.Compare i [.NotIn] [o] pos) (mDIn true fk fd) := by
  obtain ⟨t, p, h1⟩ := hk
  obtain ⟨u, p', h2⟩ := hd
  refine ⟨_, pe_cmp (pc_dnotin (by omega) p p') hm, fun bs ρ σ os vs P H Q w P' R e q => ?_⟩
  have := din_d h1 h2 bs ρ σ os vs P H Q w P' R e q
  simpa [tDNotIn] using this
theorem ptd_of_din {i o : Expr} {fk fd : XM} (hu : X.A.units + 65 < cLine) (hk : PEd X i fk) (hd : PEd X o fd) (hm : behindInMarks .In o = false) : PTd X (.Compare i [.In] [o] pos) (mTB (mDIn false fk fd)) := by
  obtain ⟨t, p, h1⟩ := hk
  obtain ⟨u, p', h2⟩ := hd
  refine ⟨_, pt_cmp (pc_din (by omega) p p') hm, fun bs ρ σ os vs P H Q w P' R e q => ?_⟩
  simp only [mTB, Option.bind_eq_some_iff] at e
  obtain ⟨⟨s1, P1⟩, e1, e2⟩ := e
  have := din_d (n := false) h1 h2 bs ρ σ os vs P H (fun x H1 => ∃ c, x = .bl c ∧ Q c H1) s1 P1 R e1 fun v H1 R1 => by
    simp only at e2
    split at e2
    · cases e2
      obtain ⟨F, ad, R0⟩ := R1
      obtain ⟨r1, R2⟩ := R0.pop
      cases r1
      exact ⟨_, rfl, q _ ⟨F, ad, R2⟩⟩
    · cases e2
  simpa [tB, tDIn] using this
theorem ptd_of_dnotin {i o : Expr} {fk fd : XM} (hu : X.A.units + 65 < cLine) (hk : PEd X i fk) (hd : PEd X o fd) (hm : behindInMarks .NotIn o = false) : PTd X (.Compare i [.NotIn] [o] pos) (mTB (mDIn true fk fd)) := by
  obtain ⟨t, p, h1⟩ := hk
  obtain ⟨u, p', h2⟩ := hd
  refine ⟨_, pt_cmp (pc_dnotin (by omega) p p') hm, fun bs ρ σ os vs P H Q w P' R e q => ?_⟩
  simp only [mTB, Option.bind_eq_some_iff] at e
  obtain ⟨⟨s1, P1⟩, e1, e2⟩ := e
  have := din_d (n := true) h1 h2 bs ρ σ os vs P H (fun x H1 => ∃ c, x = .bl c ∧ Q c H1) s1 P1 R e1 fun v H1 R1 => by
    simp only at e2
    split at e2
    · cases e2
      obtain ⟨F, ad, R0⟩ := R1
      obtain ⟨r1, R2⟩ := R0.pop
      cases r1
      exact ⟨_, rfl, q _ ⟨F, ad, R2⟩⟩
    · cases e2
  simpa [tB, tDNotIn] using this
/-- d[k] -/
def mDGet (fd fk : XM) : XM := fun ρ P => (fd ρ P).bind fun (d, P1) => (fk ρ P1).bind fun (k, P2) => (flat P2 k).bind fun kd => (dictOf P2 d).bind fun D => match dlook D kd with
  | some (some s) => some (s, P2)
  | _ => none
theorem ped_dget {o i : Expr} {fd fk : XM} (hu : X.A.units + 65 < cLine) (hd : PEd X o fd) (hk : PEd X i fk) (hs : NoSl i) : PEd X (.Subscript o i pos) (mDGet fd fk) := by
  obtain ⟨t, p, h1⟩ := hd
  obtain ⟨u, p', h2⟩ := hk
  refine ⟨_, pe_dget (by omega) p p' hs, fun bs ρ σ os vs P H Q w P' R e q => ?_⟩
  simp only [mDGet, Option.bind_eq_some_iff] at e
  obtain ⟨⟨s1, P1⟩, e1, ⟨s2, P2⟩, e2, kd, e3, D, e4, e5⟩ := e
  refine h1 bs ρ σ os vs P H _ s1 P1 R e1 fun x H1 R1 => ?_
  refine h2 bs ρ σ _ _ P1 H1 _ s2 P2 R1 e2 fun y H2 R2 => ?_
  obtain ⟨F, ad, R2⟩ := R2
  obtain ⟨r2, R3⟩ := R2.pop
  obtain ⟨r1, R4⟩ := R3.pop
  obtain ⟨a, rfl, hd⟩ := R2.dct r1 e4
  split at e5
  · rename_i s hl
    cases e5
    rcases dget_of R2.sub hd (R2.view r2 e3) hl with ⟨z, _⟩ | ⟨z, v, ez, g, r⟩
    · cases z
    · cases ez
      exact ⟨a, v, rfl, g, q _ _ ⟨F, ad, R4.push r⟩⟩
  · cases e5

/-! d[k] = v, {}, {k: v, ..} -/
def putS {κ : Type} [DecidableEq κ] (l : List (κ × SV)) (k : κ) (s : SV) : List (κ × SV) :=
  if (l.any fun p => decide (p.1 = k)) = true then l.map (fun p => if p.1 = k then (p.1, s) else p) else l ++ [(k, s)]
theorem put_zip {κ : Type} [DecidableEq κ] {K : PySem.W.Frag} {F : Hp} {ad : List Addr} (k : κ) {s : SV} {v : V} (r : SVR K F ad v s) (l : List (κ × SV)) (xs : List V) (h : SVA K F ad xs (l.map (·.2))) :
    ∃ ys, putK ((l.map (·.1)).zip xs) k v = ((putS l k s).map (·.1)).zip ys ∧ SVA K F ad ys ((putS l k s).map (·.2)) := by
  have any : ∀ (l : List (κ × SV)) (xs : List V), SVA K F ad xs (l.map (·.2)) → (((l.map (·.1)).zip xs).any fun kv => decide (kv.1 = k)) = (l.any fun p => decide (p.1 = k)) := by
    intro l
    induction l with
    | nil => intro xs h; cases h; rfl
    | cons p l ih => intro xs h; cases h with | cons a t => simp [ih _ t]
  unfold putK putS
  rw [any l xs h]
  split
  · have go : ∀ (l : List (κ × SV)) (xs : List V), SVA K F ad xs (l.map (·.2)) → ∃ ys, ((l.map (·.1)).zip xs).map (fun kv => if kv.1 = k then (kv.1, v) else kv) = ((l.map (fun p => if p.1 = k then (p.1, s) else p)).map (·.1)).zip ys ∧ SVA K F ad ys ((l.map (fun p => if p.1 = k then (p.1, s) else p)).map (·.2)) := by
      intro l
      induction l with
      | nil => intro xs h; cases h; exact ⟨[], rfl, .nil⟩
      | cons p l ih =>
        intro xs h
        cases h with
        | cons a t =>
          rename_i x xs
          obtain ⟨ys, e, q⟩ := ih _ t
          by_cases hp : p.1 = k
          · refine ⟨v :: ys, ?_, ?_⟩
            · simp only [List.map_cons, List.zip_cons_cons, if_pos hp, e]
            · simp only [List.map_cons, if_pos hp]; exact .cons r q
          · refine ⟨x :: ys, ?_, ?_⟩
            · simp only [List.map_cons, List.zip_cons_cons, if_neg hp, e]
            · simp only [List.map_cons, if_neg hp]; exact .cons a q
    exact go l xs h
  · refine ⟨xs ++ [v], ?_, ?_⟩
    · have hl := h.length
      rw [List.map_append, List.zip_append (by simpa using hl.symm)]
      rfl
    · rw [List.map_append]
      exact h.append (.cons r .nil)
theorem putS_ps {κ : Type} [DecidableEq κ] (k : κ) (s : SV) (l : List (κ × SV)) : ∀ j ∈ ((putS l k s).flatMap fun p => p.2.ps), j ∈ (l.flatMap fun p => p.2.ps) ∨ j ∈ s.ps := by
  intro j hj
  unfold putS at hj
  split at hj
  · obtain ⟨p, hp, q⟩ := List.mem_flatMap.mp hj
    obtain ⟨p0, hp0, rfl⟩ := List.mem_map.mp hp
    by_cases h : p0.1 = k
    · rw [if_pos h] at q; exact .inr q
    · rw [if_neg h] at q; exact .inl (List.mem_flatMap.mpr ⟨p0, hp0, q⟩)
  · rw [List.flatMap_append] at hj
    rcases List.mem_append.mp hj with h | h
    · exact .inl h
    · exact .inr (by simpa using h)
def sDPut (fd fk fv : XM) : SM := fun ρ P => (fv ρ P).bind fun (s, P1) => (fd ρ P1).bind fun (d, P2) => (fk ρ P2).bind fun (k, P3) => (flat P3 k).bind fun kd => match d with
  | .ptr j => match P3[j]? with
    | some (.dK l) => if l.length < sizeLine ∧ okPtr ρ.b j s = true then (keyOf kd).map fun k => (.nx, ρ, P3.set j (.dK (putS l k s))) else none
    | some (.dT l) => if l.length < sizeLine ∧ okPtr ρ.b j s = true then (tkeyOf kd).map fun k => (.nx, ρ, P3.set j (.dT (putS l k s))) else none
    | _ => none
  | _ => none
theorem tup_keys {K : PySem.W.Frag} {F : Hp} : ∀ (k : List Key) (ys : List V), FzA K F ys (k.map keyD) → ys = k.map kV := by
  intro k
  induction k with
  | nil => intro ys h; cases h; rfl
  | cons a k ih =>
    intro ys h
    cases h with
    | cons q r =>
      rw [ih _ r]
      cases a <;> (cases q; rfl)
theorem psd_dput {o i value : Expr} {fd fk fv : XM} {pos' : Pos} (hu : X.A.units + 65 < cLine) (hd : PEd X o fd) (hk : PEd X i fk) (hv : PEd X value fv) (hs : swapsWith value (some (.Subscript o i pos')) pos.line X.env = pure false := by rfl) :
    PSd X (.Assign [.Subscript o i pos'] value pos) (sDPut fd fk fv) := by
  obtain ⟨t1, p1, h1⟩ := hd
  obtain ⟨t2, p2, h2⟩ := hk
  obtain ⟨t3, p3, h3⟩ := hv
  refine ⟨_, ps_dput (by omega) p1 p2 p3 hs, fun bs ρ σ os vs P H D r R e q => ?_⟩
  simp only [sDPut, Option.bind_eq_some_iff] at e
  obtain ⟨⟨s3, P1⟩, e3, ⟨s1, P2⟩, e1, ⟨s2, P3⟩, e2, kd, e4, e5⟩ := e
  refine h3 bs ρ σ os vs P H _ s3 P1 R e3 fun v H1 R1 => ?_
  refine h1 bs ρ σ _ _ P1 H1 _ s1 P2 R1 e1 fun x H2 R2 => ?_
  refine h2 bs ρ σ _ _ P2 H2 _ s2 P3 R2 e2 fun y H3 R3 => ?_
  obtain ⟨F, ad, R3⟩ := R3
  obtain ⟨r2, R4⟩ := R3.pop
  obtain ⟨r1, R5⟩ := R4.pop
  obtain ⟨r3, R6⟩ := R5.pop
  have vk := R3.view r2 e4
  have hs := R3.sub
  simp only at e5
  split at e5
  · rename_i j
    split at e5
    · rename_i l hj
      split at e5
      · rename_i hz
        simp only [Option.map_eq_some_iff] at e5
        obtain ⟨k, ek, rfl⟩ := e5
        obtain ⟨a, ha, rfl, hF, xs, hx, t⟩ := R6.at r1 hj
        obtain ⟨ys, ey, ty⟩ := put_zip k r3 l xs t
        have eyk : y = kV k := by
          have e2 := keyOf_some ek
          subst e2
          cases k with
          | inl i => exact vk.ints
          | inr x => exact vk.strs
        have hln := t.length
        refine ⟨a, _, rfl, .inl ⟨_, k, hx, eyk, by simp at hln ⊢; omega, rfl⟩, q _ _ ⟨F, ad, ?_⟩⟩
        rw [ey]
        refine R6.put (c := .dK (putS l k s3)) hj ha hF ⟨hF, ys, upd_same, ty⟩ fun m hm => ?_
        rcases putS_ps k s3 l m hm with h | h
        · exact .inl h
        · exact .inr (okPtr_ps hz.2 m h)
      · cases e5
    · rename_i l hj
      split at e5
      · rename_i hz
        simp only [Option.map_eq_some_iff] at e5
        obtain ⟨k, ek, rfl⟩ := e5
        obtain ⟨a, ha, rfl, hF, xs, hx, t⟩ := R6.at r1 hj
        obtain ⟨ys, ey, ty⟩ := put_zip k r3 l xs t
        cases kd with
        | tuple ds =>
          have e2 := keysOf_some (show keysOf ds = some k from ek)
          subst e2
          obtain ⟨b, zs, rfl, hb, tb, _⟩ := vk.tups hs
          have ez := tup_keys k zs tb
          subst ez
          have hln := t.length
          refine ⟨a, _, rfl, .inr ⟨_, k, b, hx, rfl, hb, by simp at hln ⊢; omega, rfl⟩, q _ _ ⟨F, ad, ?_⟩⟩
          rw [ey]
          refine R6.put (c := .dT (putS l k s3)) hj ha hF ⟨hF, ys, upd_same, ty⟩ fun m hm => ?_
          rcases putS_ps k s3 l m hm with h | h
          · exact .inl h
          · exact .inr (okPtr_ps hz.2 m h)
        | _ => simp [tkeyOf] at ek
      · cases e5
    · cases e5
  · cases e5
def mDNewK : XM := fun _ P => some (.ptr P.length, P ++ [.dK []])
def mDNewT : XM := fun _ P => some (.ptr P.length, P ++ [.dT []])
theorem ped_dnewK : PEd X (.Dict [] [] pos) mDNewK := ⟨_, pe_dnewK, fun bs ρ σ os vs P H Q r P' R e q => by
  simp only [mDNewK, Option.some.injEq, Prod.mk.injEq] at e
  obtain ⟨rfl, rfl⟩ := e
  obtain ⟨F, ad, R⟩ := R
  exact fun p n => q _ _ ⟨F, _, R.cell (o := .dK []) (c := .dK []) n fun ad' pr => ⟨R.free n, [], upd_same, .nil⟩⟩⟩
theorem ped_dnewT : PEd X (.Dict [] [] pos) mDNewT := ⟨_, pe_dnewT, fun bs ρ σ os vs P H Q r P' R e q => by
  simp only [mDNewT, Option.some.injEq, Prod.mk.injEq] at e
  obtain ⟨rfl, rfl⟩ := e
  obtain ⟨F, ad, R⟩ := R
  exact fun p n => q _ _ ⟨F, _, R.cell (o := .dT []) (c := .dT []) n fun ad' pr => ⟨R.free n, [], upd_same, .nil⟩⟩⟩
end
end Pd

set_option Elab.async false
set_option linter.all false
set_option maxRecDepth 100000
set_option maxHeartbeats 1000000
/-! The layer Pd, part K: what is told apart by the values; cells made by calls. -/
namespace Pd
open PySem PySem.Spec PyProof.Rows L2
section
variable {X : Cx} {pos : Pos}
theorem PEd.or {e : Expr} {f g : XM} (h : PEd X e f) (h' : PEd X e g) : PEd X e (fun ρ P => (f ρ P).or (g ρ P)) := by
  obtain ⟨t, p, q1⟩ := h
  obtain ⟨u, p', q2⟩ := h'
  refine ⟨fun σ H Q => t σ H Q ∨ u σ H Q, ⟨fun pins s σ H Q I w => w.elim (p.run pins s σ H Q I) (p'.run pins s σ H Q I)⟩, fun bs ρ σ os vs P H Q r P' R e q => ?_⟩
  have e : (f ρ P).or (g ρ P) = some (r, P') := e
  cases hf : f ρ P with
  | some z =>
    rw [hf] at e
    simp only [Option.some_or, Option.some.injEq] at e
    subst e
    exact .inl (q1 bs ρ σ os vs P H Q r P' R hf q)
  | none =>
    rw [hf] at e
    exact .inr (q2 bs ρ σ os vs P H Q r P' R (by simpa using e) q)
theorem PEd.imp {e : Expr} {f g : XM} (h : PEd X e f) (i : ∀ ρ P r, g ρ P = some r → f ρ P = some r) : PEd X e g := by
  obtain ⟨t, p, q1⟩ := h
  exact ⟨t, p, fun bs ρ σ os vs P H Q r P' R e q => q1 bs ρ σ os vs P H Q r P' R (i _ _ _ e) q⟩
theorem PTd.or {e : Expr} {f g : BM} (h : PTd X e f) (h' : PTd X e g) : PTd X e (fun ρ P => (f ρ P).or (g ρ P)) := by
  obtain ⟨t, p, q1⟩ := h
  obtain ⟨u, p', q2⟩ := h'
  refine ⟨fun σ H Q => t σ H Q ∨ u σ H Q, ⟨fun pins s σ H Q I w => w.elim (p.run pins s σ H Q I) (p'.run pins s σ H Q I)⟩, fun bs ρ σ os vs P H Q r P' R e q => ?_⟩
  have e : (f ρ P).or (g ρ P) = some (r, P') := e
  cases hf : f ρ P with
  | some z =>
    rw [hf] at e
    simp only [Option.some_or, Option.some.injEq] at e
    subst e
    exact .inl (q1 bs ρ σ os vs P H Q r P' R hf q)
  | none =>
    rw [hf] at e
    exact .inr (q2 bs ρ σ os vs P H Q r P' R (by simpa using e) q)
theorem PTd.imp {e : Expr} {f g : BM} (h : PTd X e f) (i : ∀ ρ P r, g ρ P = some r → f ρ P = some r) : PTd X e g := by
  obtain ⟨t, p, q1⟩ := h
  exact ⟨t, p, fun bs ρ σ os vs P H Q r P' R e q => q1 bs ρ σ os vs P H Q r P' R (i _ _ _ e) q⟩

/-- a[i]: of a sequence, or of a dict -/
def subOf (P : Store) (a : SV) (kd : PyData) : Option SV := match dictOf P a with
  | some D => (dlook D kd).bind id
  | none => ((flat P a).bind fun d => dIx d kd).map SV.fz
def mSub (f1 f2 : XM) : XM := fun ρ P => (f1 ρ P).bind fun (a, P1) => (f2 ρ P1).bind fun (b, P2) => (flat P2 b).bind fun kd => (subOf P2 a kd).map fun s => (s, P2)
theorem ped_sub {a b : Expr} {f1 f2 : XM} (hu : X.A.units + 65 < cLine) (ha : PEd X a f1) (hb : PEd X b f2) (hs : PlainIx b) : PEd X (.Subscript a b pos) (mSub f1 f2) := by
  refine ((ped_ix (pos := pos) ixd_seq ha hb hs).or (ped_dget hu ha hb hs)).imp fun ρ P r e => ?_
  obtain ⟨w, P'⟩ := r
  simp only [mSub, Option.bind_eq_some_iff, Option.map_eq_some_iff, Prod.mk.injEq] at e
  obtain ⟨⟨s1, P1⟩, e1, ⟨s2, P2⟩, e2, kd, e3, s, e4, rfl, rfl⟩ := e
  show (mBin dIx f1 f2 ρ P).or (mDGet f1 f2 ρ P) = _
  unfold subOf at e4
  split at e4
  · rename_i D hD
    have h2 : mDGet f1 f2 ρ P = some (s, P2) := by
      simp only [mDGet, e1, e2, e3, hD, Option.bind_some]
      cases h : dlook D kd with
      | none => rw [h] at e4; cases e4
      | some o => rw [h] at e4; cases o with
        | none => cases e4
        | some s' => cases e4; rfl
    have h1 : mBin dIx f1 f2 ρ P = none := by
      simp only [mBin, e1, e2, e3, Option.bind_some]
      cases hf : flat P2 s1 with
      | none => rfl
      | some d =>
        simp only [Option.bind_some]
        have : dIx d kd = none := by
          cases d with
          | dict _ => rfl
          | _ =>
            exfalso
            cases s1 with
            | fz d' => simp only [flat, Option.some.injEq] at hf; subst hf; cases hD
            | lk _ _ _ => simp [flat] at hf
            | ptr k =>
              simp only [flat, Option.bind_eq_some_iff] at hf
              obtain ⟨c, hc, hd⟩ := hf
              unfold dictOf at hD
              simp only [hc] at hD
              cases c with
              | fz d' => simp only [Cell.dat, Option.some.injEq] at hd; subst hd; cases hD
              | lst l => cases hD
              | dK l => simp [Cell.dat] at hd
              | dT l => cases l <;> simp [Cell.dat] at hd
        rw [this]; rfl
    rw [h1, h2]; rfl
  · rename_i hD
    simp only [Option.map_eq_some_iff, Option.bind_eq_some_iff] at e4
    obtain ⟨z, ⟨d, hd, hz⟩, rfl⟩ := e4
    have h1 : mBin dIx f1 f2 ρ P = some (.fz z, P2) := by simp only [mBin, e1, e2, e3, hd, hz, Option.bind_some, Option.map_some]
    rw [h1]; rfl
/-- x in a: of a list, a tuple, a text, or of a dict -/
def inOf (P : Store) (kd : PyData) (a : SV) : Option Bool := match dictOf P a with
  | some D => (dlook D kd).map Option.isSome
  | none => (flat P a).bind fun d => match dInS false kd d with
    | some (.bool b) => some b
    | _ => none
def mIn (n : Bool) (f1 f2 : XM) : XM := fun ρ P => (f1 ρ P).bind fun (a, P1) => (f2 ρ P1).bind fun (b, P2) => (flat P2 a).bind fun kd => (inOf P2 kd b).map fun v => (.fz (.bool (n != v)), P2)
theorem dInS_not {d e : PyData} {b : Bool} (n : Bool) (h : dInS false d e = some (.bool b)) : dInS n d e = some (.bool (n != b)) := by
  unfold dInS at h ⊢
  split at h
  · split at h
    · rename_i hc
      rw [if_pos hc]
      simp only [Option.some.injEq, PyData.bool.injEq] at h ⊢
      subst h; simp
    · cases h
  · split at h
    · rename_i hc
      rw [if_pos hc]
      simp only [Option.some.injEq, PyData.bool.injEq] at h ⊢
      subst h; simp
    · cases h
  · simp only [Option.some.injEq, PyData.bool.injEq] at h ⊢
    subst h; simp
  · cases h
theorem in_or {f1 f2 : XM} {n : Bool} {ρ : EV} {P : Store} {r : SV × Store} (e : mIn n f1 f2 ρ P = some r) : (mDIn n f1 f2 ρ P).or (mBin (dInS n) f1 f2 ρ P) = some r := by
  obtain ⟨w, P'⟩ := r
  simp only [mIn, Option.bind_eq_some_iff, Option.map_eq_some_iff, Prod.mk.injEq] at e
  obtain ⟨⟨s1, P1⟩, e1, ⟨s2, P2⟩, e2, kd, e3, b, e4, rfl, rfl⟩ := e
  unfold inOf at e4
  split at e4
  · rename_i D hD
    simp only [Option.map_eq_some_iff] at e4
    obtain ⟨o, ho, rfl⟩ := e4
    have h1 : mDIn n f1 f2 ρ P = some (.fz (.bool (n != o.isSome)), P2) := by simp only [mDIn, e1, e2, e3, hD, ho, Option.bind_some, Option.map_some]
    rw [h1]; rfl
  · rename_i hD
    have h1 : mDIn n f1 f2 ρ P = none := by simp only [mDIn, e1, e2, e3, hD, Option.bind_some, Option.bind_none]
    simp only [Option.bind_eq_some_iff] at e4
    obtain ⟨d, hd, h4⟩ := e4
    split at h4
    · rename_i b' hb
      cases h4
      have h2 : mBin (dInS n) f1 f2 ρ P = some (.fz (.bool (n != b)), P2) := by simp only [mBin, e1, e2, e3, hd, dInS_not n hb, Option.bind_some, Option.map_some]
      rw [h1, h2]; rfl
    · cases h4
theorem ped_in {i o : Expr} {fk fd : XM} (hu : X.A.units + 65 < cLine) (hk : PEd X i fk) (hd : PEd X o fd) (hm : behindInMarks .In o = false := by rfl) : PEd X (.Compare i [.In] [o] pos) (mIn false fk fd) :=
  ((ped_din (pos := pos) hu hk hd hm).or (ped_cmp (opd_in hu) hk hd hm)).imp fun ρ P r e => in_or e
theorem ped_notin {i o : Expr} {fk fd : XM} (hu : X.A.units + 65 < cLine) (hk : PEd X i fk) (hd : PEd X o fd) (hm : behindInMarks .NotIn o = false := by rfl) : PEd X (.Compare i [.NotIn] [o] pos) (mIn true fk fd) :=
  ((ped_dnotin (pos := pos) hu hk hd hm).or (ped_cmp (opd_notin hu) hk hd hm)).imp fun ρ P r e => in_or e
theorem mTB_or {f g h : XM} {ρ : EV} {P : Store} {r : Bool × Store} (i : ∀ r, f ρ P = some r → (g ρ P).or (h ρ P) = some r) (e : mTB f ρ P = some r) : (mTB g ρ P).or (mTB h ρ P) = some r := by
  obtain ⟨b, P'⟩ := r
  simp only [mTB, Option.bind_eq_some_iff] at e
  obtain ⟨⟨s1, P1⟩, e1, e2⟩ := e
  have := i _ e1
  cases hg : g ρ P with
  | some z =>
    rw [hg] at this
    simp only [Option.some_or, Option.some.injEq] at this
    subst this
    simp only [mTB, hg, Option.bind_some]
    simp only at e2
    rw [e2]; rfl
  | none =>
    rw [hg] at this
    simp only [Option.none_or] at this
    simp only [mTB, hg, this, Option.bind_some, Option.bind_none, Option.none_or]
    exact e2
theorem ptd_in {i o : Expr} {fk fd : XM} (hu : X.A.units + 65 < cLine) (hk : PEd X i fk) (hd : PEd X o fd) (hm : behindInMarks .In o = false := by rfl) : PTd X (.Compare i [.In] [o] pos) (mTB (mIn false fk fd)) :=
  ((ptd_of_din (pos := pos) hu hk hd hm).or (ptd_cmp (opd_in hu) hk hd hm)).imp fun ρ P r e => mTB_or (fun r h => in_or h) e
theorem ptd_notin {i o : Expr} {fk fd : XM} (hu : X.A.units + 65 < cLine) (hk : PEd X i fk) (hd : PEd X o fd) (hm : behindInMarks .NotIn o = false := by rfl) : PTd X (.Compare i [.NotIn] [o] pos) (mTB (mIn true fk fd)) :=
  ((ptd_of_dnotin (pos := pos) hu hk hd hm).or (ptd_cmp (opd_notin hu) hk hd hm)).imp fun ρ P r e => mTB_or (fun r h => in_or h) e

/-! numbers -/
def dPow : PyData → PyData → Option PyData := dIC cPow fun i j => .int (i ^ j.toNat)
theorem opd_pow : OpD X (binaryOp .Pow) dPow := opd_int op_pow (fun i j h => by simpa [cPow, CPow] using h) fun _ _ _ => .int _

/-! a list that may change, by a comprehension, by list(..) -/
def mLCC (own : List Nat) (f : IM) (g : GM) (tt : BM) (te : XM) : XM := fun ρ P => (f ρ P).bind fun (items, _, P1) =>
  (lcGo g tt te { ρ.wipe own with b := P1.length } P1.length items (P1 ++ [.lst []])).bind fun S => match S[P1.length]? with
    | some (.lst acc) => if (fzs acc).isSome = true then some (.ptr P1.length, S.take P1.length ++ [.lst acc]) else none
    | _ => none
theorem fzs_ps : ∀ {l : List SV}, (fzs l).isSome = true → l.flatMap SV.ps = []
  | [], _ => rfl
  | .fz d :: r, h => by
    simp only [fzs, Option.isSome_map] at h
    simp [SV.ps, fzs_ps h]
  | .ptr _ :: _, h => by simp [fzs] at h
  | .lk _ _ _ :: _, h => by simp [fzs] at h
theorem lcC_d {f : IM} {g : GM} {tt : BM} {te : XM} {ts own : List Nat} {wi : TI} (hts : ∀ i ∈ ts, i ∈ own)
    (h0 : ∀ (bs : List Nat) (ρ : EV) (σ : L2.St) (os : List SV) (vs : List V) (P : Store) (H : Hp) (R : It → Hp → Prop) (items : List PyData) (src : SV) (P' : Store), Rel X.K bs ρ σ os vs P H → f ρ P = some (items, src, P') →
      (∀ J v H' sr, Rel X.K bs ρ σ (sr :: os) (v :: vs) P' H' → ItOk X.K J items sr v → R J H') → wi σ H R)
    (bs : List Nat) (ρ : EV) (σ : L2.St) (os : List SV) (vs : List V) (P : Store) (H : Hp) (Q : VK) (r : SV) (P' : Store) (R : Rel X.K bs ρ σ os vs P H) (e : mLCC own f g tt te ρ P = some (r, P'))
    (q : ∀ v H', Rel X.K bs ρ σ (r :: os) (v :: vs) P' H' → Q v H') : tLc wi (tMG X.K ts g) (tMT X.K tt) (tM X.K te) own σ H Q := by
  simp only [mLCC, Option.bind_eq_some_iff] at e
  obtain ⟨⟨items, src, P1⟩, e0, S, e1, e2⟩ := e
  refine h0 bs ρ σ os vs P H _ items src P1 R e0 fun J w H1 src R1 ok => fun D hD => ?_
  refine lc_go (Df := fun H => Q (.ref D) H) ok hts R1 hD e1 fun H2 R2 => ?_
  simp only at e2
  split at e2
  · rename_i acc hacc
    split at e2
    · rename_i hds
      cases e2
      obtain ⟨F, ad, R2⟩ := R2
      obtain ⟨F1, ad1, R1⟩ := R1
      obtain ⟨rD, R3⟩ := R2.pop
      obtain ⟨a, ha, ea, hc⟩ := R3.at rD hacc
      cases ea
      have hps : (Cell.lst acc).ps = [] := fzs_ps hds
      obtain ⟨_, R5⟩ := R3.pop
      have R6 := R5.cut (ρ' := ρ) R5.slots R1.slotsLt R5.tops (fun s hs => R1.topsLt s (List.mem_cons_of_mem _ hs)) (fun c hc => R1.bb c hc) (fun c hc => R1.bas.le c hc)
      have na : D ∉ ad.take P1.length := fun hm => by
        obtain ⟨j, hj, ej⟩ := List.getElem_of_mem hm
        rw [List.length_take] at hj
        rw [List.getElem_take] at ej
        obtain ⟨h2, q2⟩ := List.getElem?_eq_some_iff.mp ha
        have := (List.getElem_inj R3.nd).mp (ej.trans q2.symm)
        omega
      have R7 := R6.adopt na (R3.there D (List.mem_of_getElem? ha)) (no_ps hps hc) hps
      have en : (S.take P1.length).length = P1.length := by
        have hl := (List.getElem?_eq_some_iff.mp hacc).1
        rw [List.length_take]; omega
      rw [en] at R7
      exact q _ _ ⟨_, _, R7⟩
    · cases e2
  · cases e2
theorem ped_lcC {elt tg iter : Expr} {ifs : List Expr} {scope : Scope} {own : List (Str × Nat)} {f : IM} {g : GM} {tt : BM} {te : XM} {ts : List Nat} (hc : X.calm = true) (hN : X.N.Nodup) (hi : PId X tg iter f) (ok : BlkOk X.N X.env.scope scope own)
    (hg : ∀ (s : Shared) (H : Hp) (C : Addr) (cl : List (Str × Addr)) (fp : List Addr), PGd (X.blk s H scope (compEnvC scope cl C X.env) fp) tg ts g) (ht : ∀ (s : Shared) (H : Hp) (C : Addr) (cl : List (Str × Addr)) (fp : List Addr), PTsd (X.blk s H scope (compEnvC scope cl C X.env) fp) ifs tt)
    (he : ∀ (s : Shared) (H : Hp) (C : Addr) (cl : List (Str × Addr)) (fp : List Addr), PEd (X.blk s H scope (compEnvC scope cl C X.env) fp) elt te) (hts : ∀ i ∈ ts, i ∈ own.map (·.2) := by decide) (hs : ∀ x, foldedSetIterable iter X.env x = pure x := by intro _; rfl) :
    PEd X (.ListComp elt [⟨tg, iter, ifs, 0⟩] scope pos) (mLCC (own.map (·.2)) f g tt te) := by
  obtain ⟨wi, p0, h0⟩ := hi
  exact ⟨_, pe_lc (g := tMG X.K ts g) (tt := tMT X.K tt) (te := tM X.K te) hc hN p0 ok (fun s H C cl fp => (hg s H C cl fp).canon) (fun s H C cl fp => (ht s H C cl fp).canon) (fun s H C cl fp => (he s H C cl fp).canon) hs, lcC_d hts h0⟩
theorem psd_setLcC {i : Nat} {y : Str} {py : Pos} {elt tg iter : Expr} {ifs : List Expr} {scope : Scope} {own : List (Str × Nat)} {spos : Pos} {f : IM} {g : GM} {tt : BM} {te : XM} {ts : List Nat} (hc : X.calm = true) (hN : X.N.Nodup) (hy : X.N[i]? = some y) (hyl : X.env.scope.names.lookup y = some .local)
    (hsw : swapsWith (.ListComp elt [⟨tg, iter, ifs, 0⟩] scope pos) (some (.Name y py)) spos.line X.env = pure true) (hi : PId X tg iter f) (ok : BlkOk X.N X.env.scope scope own)
    (hg : ∀ (s : Shared) (H : Hp) (C : Addr) (cl : List (Str × Addr)) (fp : List Addr), PGd (X.blk s H scope (compEnvC scope cl C X.env) fp) tg ts g) (ht : ∀ (s : Shared) (H : Hp) (C : Addr) (cl : List (Str × Addr)) (fp : List Addr), PTsd (X.blk s H scope (compEnvC scope cl C X.env) fp) ifs tt)
    (he : ∀ (s : Shared) (H : Hp) (C : Addr) (cl : List (Str × Addr)) (fp : List Addr), PEd (X.blk s H scope (compEnvC scope cl C X.env) fp) elt te) (hts : ∀ i ∈ ts, i ∈ own.map (·.2) := by decide) (hs : ∀ x, foldedSetIterable iter X.env x = pure x := by intro _; rfl) :
    PSd X (.Assign [.Name y py] (.ListComp elt [⟨tg, iter, ifs, 0⟩] scope pos) spos) (sSet i (mLCC (own.map (·.2)) f g tt te)) := by
  obtain ⟨wi, p0, h0⟩ := hi
  refine ⟨_, ps_setLc (g := tMG X.K ts g) (tt := tMT X.K tt) (te := tM X.K te) hc hN hy hyl hsw p0 ok (fun s H C cl fp => (hg s H C cl fp).canon) (fun s H C cl fp => (ht s H C cl fp).canon) (fun s H C cl fp => (he s H C cl fp).canon) hs, fun bs ρ σ os vs P H D r R e q => ?_⟩
  simp only [sSet, Option.map_eq_some_iff] at e
  obtain ⟨⟨s, P1⟩, e1, rfl⟩ := e
  exact lcC_d hts h0 bs ρ σ os vs P H _ s P1 R e1 fun v H1 R1 => q _ H1 (R1.store i)
def mListC (f : XM) : XM := fun ρ P => (f ρ P).bind fun (a, P1) => (flat P1 a).bind fun d => match d with
  | .list ds => some (.ptr P1.length, P1 ++ [.lst (ds.map .fz)])
  | .tuple ds => some (.ptr P1.length, P1 ++ [.lst (ds.map .fz)])
  | _ => none
theorem ped_listC {e : Expr} {f : XM} {p : Pos} (hg : Gl X "list") (hm : X.mg "list" = none) (ha : PEd X e f)
    (he : starEach [e] X.env = (false, eval e X.env) :: starEach [] X.env := by rfl) (hpl : (backTo pos (starEach [] X.env)).any (·.1) = false := by rfl) : PEd X (.Call (.Name "list" p) [e] [] pos) (mListC f) := by
  obtain ⟨t, p, h1⟩ := pad_cons ha pad_nil he
  refine ⟨_, pe_callTy call_list_of hg hm (by decide +kernel) p (he := he) (hpl := hpl), fun bs ρ σ os vs P H Q r P' R e q => ?_⟩
  simp only [mListC, Option.bind_eq_some_iff] at e
  obtain ⟨⟨a, P1⟩, e1, d, e2, e3⟩ := e
  refine h1 bs ρ σ os vs P H _ [a] P1 R (by simp only [aCons, aNil, e1, Option.bind_some, Option.map_some]) fun ws H1 hl R1 => ?_
  obtain ⟨F, ad, R1⟩ := R1
  obtain ⟨ra, R2⟩ := R1.args hl
  cases ra with
  | cons r1 ra =>
    cases ra
    have vw := R2.view r1 e2
    simp only at e3
    split at e3
    · cases e3
      obtain ⟨p, us, rfl, hp, t⟩ := vw.lists R2.sub
      exact ⟨p, us, rfl, .inl hp, fun l n => q _ _ ⟨F, _, R2.cell (c := .lst _) n fun ad' pr => ⟨R2.free n, us, upd_same, t.sva⟩⟩⟩
    · cases e3
      obtain ⟨p, us, rfl, hp, t, _⟩ := vw.tups R2.sub
      exact ⟨p, us, rfl, .inr (.inl (.inl hp)), fun l n => q _ _ ⟨F, _, R2.cell (c := .lst _) n fun ad' pr => ⟨R2.free n, us, upd_same, t.sva⟩⟩⟩
    · cases e3
/-! the number of arguments -/
def ALen (n : Nat) (fs : AM) : Prop := ∀ ρ P l P', fs ρ P = some (l, P') → l.length = n
theorem alen_nil : ALen 0 aNil := fun ρ P l P' e => by
  simp only [aNil, Option.some.injEq, Prod.mk.injEq] at e
  obtain ⟨rfl, _⟩ := e; rfl
theorem alen_cons {n : Nat} {f : XM} {g : AM} (h : ALen n g) : ALen (n + 1) (aCons f g) := fun ρ P l P' e => by
  simp only [aCons, Option.bind_eq_some_iff, Option.map_eq_some_iff, Prod.mk.injEq] at e
  obtain ⟨⟨s1, P1⟩, e1, ⟨r, P2⟩, e2, rfl, rfl⟩ := e
  simp [h _ _ _ _ e2]
/-! a constant tuple of the module: x in KEPT -/
def mInK (n : Bool) (ds : List PyData) (f : XM) : XM := fun ρ P => (f ρ P).bind fun (a, P1) => (flat P1 a).bind fun d => (dInS n d (.tuple ds)).map fun z => (.fz z, P1)
def KTup (K : PySem.W.Frag) (a : Addr) (ds : List PyData) : Prop := ∃ xs, SqT K (fun _ => none) a xs ∧ FzA K (fun _ => none) xs ds
theorem KTup.dp {K : PySem.W.Frag} {a : Addr} {ds : List PyData} {H : Hp} (h : KTup K a ds) (e : PyData.canLayAll0 ds = true) : Dp K H (.ref a) (.tuple ds) := by
  obtain ⟨xs, hs, t⟩ := h
  have s : Sub (fun _ => none) H := fun a u z => by cases z
  refine .tup ?_ (t.dp s e)
  rcases hs with (z | ⟨o, z⟩) | z
  · cases z
  · cases z
  · exact .inr z
theorem ped_inK {e : Expr} {x : Str} {f : XM} {a : Addr} {ds : List PyData} {p : Pos} (hu : X.A.units + 65 < cLine) (ha : PEd X e f) (hg : Gl X x) (hm : X.mg x = some (.ref a)) (hk : KTup X.K a ds) (hdb : (x == ("__debug__" : Str)) = false := by decide) : PEd X (.Compare e [.In] [.Name x p] pos) (mInK false ds f) := by
  obtain ⟨t, p, h1⟩ := ha
  refine ⟨_, pe_cmpR (op_inTD hu) p (pe_glob (v := .ref a) hg hm rfl hdb) (by rfl), fun bs ρ σ os vs P H Q r P' R e q => ?_⟩
  simp only [mInK, Option.bind_eq_some_iff, Option.map_eq_some_iff, Prod.mk.injEq] at e
  obtain ⟨⟨s1, P1⟩, e1, d, e2, z, e3, rfl, rfl⟩ := e
  refine h1 bs ρ σ os vs P H _ s1 P1 R e1 fun y H1 R1 => ?_
  obtain ⟨F, ad, R1⟩ := R1
  obtain ⟨r1, R2⟩ := R1.pop
  unfold dInS at e3
  simp only at e3
  split at e3
  · rename_i h
    cases e3
    exact ⟨d, ds, (R1.view r1 e2).dp R1.sub (shaped_lay h.1), hk.dp (by simpa [PyData.canLay0] using shaped_lay h.2), h.1, h.2, q _ _ (R2.atom (.bl _))⟩
  · cases e3
theorem ped_notinK {e : Expr} {x : Str} {f : XM} {a : Addr} {ds : List PyData} {p : Pos} (hu : X.A.units + 65 < cLine) (ha : PEd X e f) (hg : Gl X x) (hm : X.mg x = some (.ref a)) (hk : KTup X.K a ds) (hdb : (x == ("__debug__" : Str)) = false := by decide) : PEd X (.Compare e [.NotIn] [.Name x p] pos) (mInK true ds f) := by
  obtain ⟨t, p, h1⟩ := ha
  refine ⟨_, pe_cmpR (op_notInTD hu) p (pe_glob (v := .ref a) hg hm rfl hdb) (by rfl), fun bs ρ σ os vs P H Q r P' R e q => ?_⟩
  simp only [mInK, Option.bind_eq_some_iff, Option.map_eq_some_iff, Prod.mk.injEq] at e
  obtain ⟨⟨s1, P1⟩, e1, d, e2, z, e3, rfl, rfl⟩ := e
  refine h1 bs ρ σ os vs P H _ s1 P1 R e1 fun y H1 R1 => ?_
  obtain ⟨F, ad, R1⟩ := R1
  obtain ⟨r1, R2⟩ := R1.pop
  unfold dInS at e3
  simp only at e3
  split at e3
  · rename_i h
    cases e3
    exact ⟨d, ds, (R1.view r1 e2).dp R1.sub (shaped_lay h.1), hk.dp (by simpa [PyData.canLay0] using shaped_lay h.2), h.1, h.2, q _ _ (R2.atom (.bl _))⟩
  · cases e3
end
end Pd

set_option Elab.async false
set_option linter.all false
set_option maxRecDepth 100000
set_option maxHeartbeats 1000000
/-! The layer Pd, part L: displays of dicts, the law's end. -/
namespace Pd
open PySem PySem.Spec PyProof.Rows L2
section
variable {X : Cx} {pos : Pos}
theorem ptd_inK {e : Expr} {x : Str} {f : XM} {a : Addr} {ds : List PyData} {p : Pos} (hu : X.A.units + 65 < cLine) (ha : PEd X e f) (hg : Gl X x) (hm : X.mg x = some (.ref a)) (hk : KTup X.K a ds) (hdb : (x == ("__debug__" : Str)) = false := by decide) : PTd X (.Compare e [.In] [.Name x p] pos) (mTB (mInK false ds f)) := by
  obtain ⟨t, p, h1⟩ := ha
  refine ⟨_, pt_cmpR (op_inTD hu) p (pe_glob (v := .ref a) hg hm rfl hdb) (by rfl), fun bs ρ σ os vs P H Q r P' R e q => ?_⟩
  simp only [mTB, mInK, Option.bind_eq_some_iff, Option.map_eq_some_iff, Prod.mk.injEq] at e
  obtain ⟨⟨s0, P0⟩, ⟨⟨s1, P1⟩, e1, d, e2, z, e3, rfl, rfl⟩, e4⟩ := e
  refine h1 bs ρ σ os vs P H _ s1 P1 R e1 fun y H1 R1 => ?_
  obtain ⟨F, ad, R1⟩ := R1
  obtain ⟨r1, R2⟩ := R1.pop
  unfold dInS at e3
  simp only at e3
  split at e3
  · rename_i h
    cases e3
    simp only [Option.some.injEq, Prod.mk.injEq] at e4
    obtain ⟨rfl, rfl⟩ := e4
    exact ⟨d, ds, (R1.view r1 e2).dp R1.sub (shaped_lay h.1), hk.dp (by simpa [PyData.canLay0] using shaped_lay h.2), h.1, h.2, _, rfl, q _ ⟨F, ad, R2⟩⟩
  · cases e3
theorem ptd_notinK {e : Expr} {x : Str} {f : XM} {a : Addr} {ds : List PyData} {p : Pos} (hu : X.A.units + 65 < cLine) (ha : PEd X e f) (hg : Gl X x) (hm : X.mg x = some (.ref a)) (hk : KTup X.K a ds) (hdb : (x == ("__debug__" : Str)) = false := by decide) : PTd X (.Compare e [.NotIn] [.Name x p] pos) (mTB (mInK true ds f)) := by
  obtain ⟨t, p, h1⟩ := ha
  refine ⟨_, pt_cmpR (op_notInTD hu) p (pe_glob (v := .ref a) hg hm rfl hdb) (by rfl), fun bs ρ σ os vs P H Q r P' R e q => ?_⟩
  simp only [mTB, mInK, Option.bind_eq_some_iff, Option.map_eq_some_iff, Prod.mk.injEq] at e
  obtain ⟨⟨s0, P0⟩, ⟨⟨s1, P1⟩, e1, d, e2, z, e3, rfl, rfl⟩, e4⟩ := e
  refine h1 bs ρ σ os vs P H _ s1 P1 R e1 fun y H1 R1 => ?_
  obtain ⟨F, ad, R1⟩ := R1
  obtain ⟨r1, R2⟩ := R1.pop
  unfold dInS at e3
  simp only at e3
  split at e3
  · rename_i h
    cases e3
    simp only [Option.some.injEq, Prod.mk.injEq] at e4
    obtain ⟨rfl, rfl⟩ := e4
    exact ⟨d, ds, (R1.view r1 e2).dp R1.sub (shaped_lay h.1), hk.dp (by simpa [PyData.canLay0] using shaped_lay h.2), h.1, h.2, _, rfl, q _ ⟨F, ad, R2⟩⟩
  · cases e3

/-! {k: v, ..}: keys ints and texts -/
abbrev DM := EV → Store → Option (List (Key × SV) × Store)
def PPd (X : Cx) (pos : Pos) (keys : List (Option Expr)) (values : List Expr) (g : DM) : Prop := ∃ trs, PPs X pos keys values trs ∧ ∀ (bs : List Nat) (ρ : EV) (σ : L2.St) (os : List SV) (vs : List V) (P : Store) (H : Hp) (Q : List (V × V) → Hp → Prop) (r : List (Key × SV)) (P' : Store), Rel X.K bs ρ σ os vs P H → g ρ P = some (r, P') →
  (∀ (ws : List V) H', ws.length = r.length → Rel X.K bs ρ σ ((r.map (·.2)).reverse ++ os) (ws.reverse ++ vs) P' H' → Q ((r.map fun p => kV p.1).zip ws) H') → tPairs trs σ H Q
def dNil : DM := fun _ P => some ([], P)
def dCons (k f : XM) (g : DM) : DM := fun ρ P => (k ρ P).bind fun (a, P1) => match a with
  | .fz kd => (keyOf kd).bind fun key => (f ρ P1).bind fun (s, P2) => (g ρ P2).map fun (l, P3) => ((key, s) :: l, P3)
  | _ => none
theorem ppd_nil : PPd X pos [] [] dNil := ⟨_, pps_nil, fun bs ρ σ os vs P H Q r P' R e q => by
  simp only [dNil, Option.some.injEq, Prod.mk.injEq] at e
  obtain ⟨rfl, rfl⟩ := e
  exact q [] H rfl R⟩
theorem ppd_cons {k v : Expr} {ks : List (Option Expr)} {vs : List Expr} {fk fv : XM} {g : DM} (hk : PEd X k fk) (hv : PEd X v fv) (hr : PPd X pos ks vs g) : PPd X pos (some k :: ks) (v :: vs) (dCons fk fv g) := by
  obtain ⟨t1, p1, h1⟩ := hk
  obtain ⟨t2, p2, h2⟩ := hv
  obtain ⟨t3, p3, h3⟩ := hr
  refine ⟨_, pps_cons p1 p2 p3, fun bs ρ σ os vs P H Q r P' R e q => ?_⟩
  simp only [dCons, Option.bind_eq_some_iff] at e
  obtain ⟨⟨a, P1⟩, e1, e2⟩ := e
  refine h1 bs ρ σ os vs P H _ a P1 R e1 fun x H1 R1 => ?_
  simp only at e2
  split at e2
  · rename_i kd
    simp only [Option.bind_eq_some_iff, Option.map_eq_some_iff, Prod.mk.injEq] at e2
    obtain ⟨key, ek, ⟨s, P2⟩, e3, ⟨l, P3⟩, e4, rfl, rfl⟩ := e2
    obtain ⟨F, ad, R1⟩ := R1
    obtain ⟨r1, R1'⟩ := R1.pop
    have ex : x = kV key := by
      have e2 := keyOf_some ek
      subst e2
      cases key <;> (cases r1; rfl)
    subst ex
    refine h2 bs ρ σ os vs P1 H1 _ s P2 ⟨F, ad, R1'⟩ e3 fun y H2 R2 => ?_
    refine h3 bs ρ σ _ _ P2 H2 _ l P3 R2 e4 fun ws H3 hl R3 => ?_
    exact q (y :: ws) H3 (by simp [hl]) (by simpa using R3)
  · cases e2
def mDisp (g : DM) : XM := fun ρ P => (g ρ (P ++ [.dK []])).bind fun (l, P1) => match P1[P.length]? with
  | some (.dK []) => if l.length ≤ 15 ∧ (l.all fun p => okPtr ρ.b P.length p.2) = true then some (.ptr P.length, P1.set P.length (.dK (l.foldl (fun acc p => putS acc p.1 p.2) []))) else none
  | _ => none
theorem merge_zip {K : PySem.W.Frag} {F : Hp} {ad : List Addr} : ∀ (l : List (Key × SV)) (ws : List V) (acc : List (Key × SV)) (xs : List V), SVA K F ad ws (l.map (·.2)) → SVA K F ad xs (acc.map (·.2)) →
    ∃ ys, mergeK ((acc.map (·.1)).zip xs) ((l.map (·.1)).zip ws) = ((l.foldl (fun acc p => putS acc p.1 p.2) acc).map (·.1)).zip ys ∧ SVA K F ad ys ((l.foldl (fun acc p => putS acc p.1 p.2) acc).map (·.2))
  | [], ws, acc, xs, h, h2 => ⟨xs, by simp [mergeK], h2⟩
  | p :: l, ws, acc, xs, h, h2 => by
    cases h with
    | cons a t =>
      obtain ⟨ys, e, ty⟩ := put_zip p.1 a acc xs h2
      obtain ⟨zs, e2, tz⟩ := merge_zip l _ _ ys t ty
      refine ⟨zs, ?_, tz⟩
      rw [← e] at e2
      simpa [mergeK] using e2
theorem merge_ps : ∀ (l acc : List (Key × SV)), ∀ j ∈ ((l.foldl (fun acc p => putS acc p.1 p.2) acc).flatMap fun p => p.2.ps), j ∈ (acc.flatMap fun p => p.2.ps) ∨ ∃ p ∈ l, j ∈ p.2.ps
  | [], acc, j, hj => .inl hj
  | p :: l, acc, j, hj => by
    rcases merge_ps l _ j hj with h | ⟨q, hq, h⟩
    · rcases putS_ps p.1 p.2 acc j h with h | h
      · exact .inl h
      · exact .inr ⟨p, List.mem_cons_self, h⟩
    · exact .inr ⟨q, List.mem_cons_of_mem _ hq, h⟩
theorem ped_disp {keys : List (Option Expr)} {values : List Expr} {g : DM} (h : PPd X pos keys values g) (hall : keys.all (·.isSome) = true := by rfl) (hl : keys.length = values.length := by rfl) (h0 : keys ≠ [] := by (intro z; cases z)) (h15 : keys.length ≤ 15 := by decide) :
    PEd X (.Dict keys values pos) (mDisp g) := by
  obtain ⟨trs, p, h1⟩ := h
  refine ⟨_, pe_disp p hall hl h0 h15, fun bs ρ σ os vs P H Q r P' R e q => fun a n => ?_⟩
  simp only [mDisp, Option.bind_eq_some_iff] at e
  obtain ⟨⟨l, P1⟩, e1, e2⟩ := e
  simp only at e2
  split at e2
  · rename_i hc
    split at e2
    · rename_i hz
      cases e2
      obtain ⟨F, ad, R⟩ := R
      have R0 := R.cell (o := .dK []) (c := .dK []) n fun ad' pr => ⟨R.free n, [], upd_same, .nil⟩
      refine h1 bs ρ σ _ _ _ _ _ l P1 ⟨F, _, R0⟩ e1 fun ws H2 hl R2 => ?_
      obtain ⟨F2, ad2, R2⟩ := R2
      obtain ⟨ra, R3⟩ := R2.args (l := l.map (·.2)) (ws := ws) (by simpa using hl)
      obtain ⟨rd, R4⟩ := R3.pop
      obtain ⟨a', ha, ea, hF, xs, hx, t⟩ := R3.at rd hc
      cases ea
      have hx : H2 a = some (.dK []) := hx
      obtain ⟨ys, ey, ty⟩ := merge_zip (K := X.K) (F := F2) (ad := ad2) l ws [] [] ra .nil
      refine ⟨hx, (l.map (·.1)).zip ws, ?_, ?_, ?_⟩
      · have : ∀ (l : List (Key × SV)) (ws : List V), ws.length = l.length → (l.map fun p => kV p.1).zip ws = ((l.map (·.1)).zip ws).map fun kv => (kV kv.1, kv.2) := by
          intro l
          induction l with
          | nil => intro ws h; rfl
          | cons p l ih =>
            intro ws h
            cases ws with
            | nil => simp at h
            | cons w ws => simp [ih ws (by simpa using h)]
        exact this l ws hl
      · simp [hl]; exact hz.1
      · have ey' : mergeK [] ((l.map (·.1)).zip ws) = ((l.foldl (fun acc p => putS acc p.1 p.2) []).map (·.1)).zip ys := by simpa using ey
        rw [ey']
        refine q _ _ ⟨F2, ad2, (R4.put (c := .dK (l.foldl (fun acc p => putS acc p.1 p.2) [])) hc ha hF ⟨hF, ys, upd_same, ty⟩ fun j hj => ?_).push (show SVR X.K F2 ad2 (.ref a) (.ptr P.length) from ⟨a, ha, rfl⟩)⟩
        rcases merge_ps l [] j hj with h | ⟨p, hp, h⟩
        · simp at h
        · exact .inr (okPtr_ps (List.all_eq_true.mp hz.2 p hp) j h)
    · cases e2
  · cases e2
end
/-! ### the law -/
theorem law_of {K : PySem.W.Frag} {m : FM} {H : Hp} {a : Addr} {ns : List Int} (hm : m [.fz (.list (ns.map .int))] [] = some (.fz (.bool true), [])) (hO : Only H) (hS : SqL K H a (ns.map V.int)) :
    spM K m 1 [.ref a] H (fun v _ => v = .bl true) fun _ _ _ => False := by
  refine ⟨rfl, [], ⟨0, []⟩, [], [], [], [.fz (.list (ns.map .int))], [], _, _, rfl, ?_, hm, fun v H' R => ?_⟩
  · have hF : ∀ b u, H b = some u → IsDct u = false := fun b u e => by
      rcases hO b with z | ⟨o, xs, z⟩
      · rw [z] at e; cases e
      · rw [z] at e; cases e; rfl
    have t : ∀ ns : List Int, FzA K H (ns.map V.int) (ns.map PyData.int) := by
      intro ns
      induction ns with
      | nil => exact .nil
      | cons n ns ih => exact .cons (.int n) ih
    exact ⟨H, [], ⟨fun b u e => .inl e, rfl, .nil, fun b hb => by simp at hb, fun k c b e => by simp at e, ⟨rfl, fun i s e => by simp at e⟩, .cons (.lst hS (t ns)) .nil, ⟨fun c hc => by simp at hc, fun c hc => by simp at hc⟩, fun c hc => by simp at hc⟩⟩
  · obtain ⟨F, ad, R⟩ := R
    obtain ⟨r, _⟩ := R.pop
    cases r
    rfl
end Pd

set_option Elab.async false
set_option linter.all false
set_option maxRecDepth 100000
set_option maxHeartbeats 1000000
/-! The layer Pd, part M: isinstance of several types, room. -/
namespace Pd
open PySem PySem.Spec PyProof.Rows L2
theorem hu65 {k : Nat} {A : Around} (hr : Room k A) : A.units + 65 < cLine := by have := hr.un; omega
section
variable {X : Cx} {pos : Pos}
theorem ped_isiT {a : Expr} {f : XM} {p : Pos} {es : List Expr} {kk : Nat} {tp : Pos} (Ts : List Ty) (hg : Gl X "isinstance") (hm : X.mg "isinstance" = none) (ha : PEd X a f)
    (ht : PA X es (fun _ H Q => Q (Ts.map fun T => .ty T.nm) H))
    (he : starEach [a, .Tuple es kk tp] X.env = (false, eval a X.env) :: starEach [.Tuple es kk tp] X.env := by rfl) (hpl : (backTo pos (starEach [.Tuple es kk tp] X.env)).any (·.1) = false := by rfl)
    (hs2 : starEach [.Tuple es kk tp] X.env = (false, eval (.Tuple es kk tp) X.env) :: starEach [] X.env := by rfl) (hn : Ts.length ≤ sizeLine := by decide) :
    PEd X (.Call (.Name "isinstance" p) [a, .Tuple es kk tp] [] pos) (mIs (fun d => Ts.any fun T => inst T d) f) := by
  obtain ⟨t, pa, h1⟩ := ha
  refine ⟨_, pe_callB call_isiT hg hm (by decide +kernel) (pa_cons pa (pa_cons (pe_tup ht) pa_nil hs2) he) (he := he) (hpl := hpl), fun bs ρ σ os vs P H Q r P' R e q => ?_⟩
  simp only [mIs, Option.bind_eq_some_iff, Option.map_eq_some_iff, Prod.mk.injEq] at e
  obtain ⟨⟨s1, P1⟩, e1, d, e2, rfl, rfl⟩ := e
  refine h1 bs ρ σ os vs P H _ s1 P1 R e1 fun x H1 R1 => ?_
  obtain ⟨F, ad, R1⟩ := R1
  refine ⟨by simpa using hn, fun tp n => ?_⟩
  have R2 := R1.lay (o := .tup (Ts.map fun T => V.ty T.nm)) n
  obtain ⟨r1, R3⟩ := R2.pop
  refine ⟨x, tp, _, _, Ts.map fun T => Value.type T.nm, _, rfl, upd_same, ?_, (R2.view r1 e2).ty R2.sub, kitAny_inst d Ts, q _ _ (R3.atom (.bl _))⟩
  induction Ts with
  | nil => exact .nil
  | cons T r ih => exact .cons (.ty _) (by
      have : ∀ l : List Ty, Paired ClsV (l.map fun T => V.ty T.nm) (l.map fun T => Value.type T.nm) := by
        intro l
        induction l with
        | nil => exact .nil
        | cons T r ih => exact .cons (.ty _) ih
      exact this r)
theorem pa_ty {e : Expr} {es : List Expr} {T : Ty} {Ts : List Ty} (h : PE X e (tC (.ty T.nm))) (h' : PA X es (fun _ H Q => Q (Ts.map fun T => .ty T.nm) H)) (hs : starEach (e :: es) X.env = (false, eval e X.env) :: starEach es X.env := by rfl) :
    PA X (e :: es) (fun _ H Q => Q ((T :: Ts).map fun T => .ty T.nm) H) := pa_cons h h' hs
theorem ped_isi2 {a : Expr} {f : XM} {p q q2 : Pos} {kk : Nat} {tp : Pos} {T U : Ty} (hg : Gl X "isinstance") (hm : X.mg "isinstance" = none) (hgT : Gl X T.nm) (hmT : X.mg T.nm = none) (hv : bootBuiltins T.nm = some (.type T.nm))
    (hgU : Gl X U.nm) (hmU : X.mg U.nm = none) (hvU : bootBuiltins U.nm = some (.type U.nm)) (ha : PEd X a f)
    (he : starEach [a, .Tuple [.Name T.nm q, .Name U.nm q2] kk tp] X.env = (false, eval a X.env) :: starEach [.Tuple [.Name T.nm q, .Name U.nm q2] kk tp] X.env := by rfl) (hpl : (backTo pos (starEach [.Tuple [.Name T.nm q, .Name U.nm q2] kk tp] X.env)).any (·.1) = false := by rfl)
    (hs2 : starEach [.Tuple [.Name T.nm q, .Name U.nm q2] kk tp] X.env = (false, eval (.Tuple [.Name T.nm q, .Name U.nm q2] kk tp) X.env) :: starEach [] X.env := by rfl)
    (h1 : starEach [.Name T.nm q, .Name U.nm q2] X.env = (false, eval (.Name T.nm q) X.env) :: starEach [.Name U.nm q2] X.env := by rfl) (h2 : starEach [.Name U.nm q2] X.env = (false, eval (.Name U.nm q2) X.env) :: starEach [] X.env := by rfl)
    (hn : (T.nm : Str) ≠ "__name__" := by decide) (hdb : ((T.nm : Str) == ("__debug__" : Str)) = false := by decide) (hnU : (U.nm : Str) ≠ "__name__" := by decide) (hdbU : ((U.nm : Str) == ("__debug__" : Str)) = false := by decide) :
    PEd X (.Call (.Name "isinstance" p) [a, .Tuple [.Name T.nm q, .Name U.nm q2] kk tp] [] pos) (mIs (fun d => inst T d || inst U d) f) := by
  have := ped_isiT (pos := pos) (p := p) (kk := kk) (tp := tp) [T, U] hg hm ha (pa_ty (pe_bltn (pos := q) (v := .ty T.nm) hgT hmT hv rfl hn hdb) (pa_ty (Ts := []) (pe_bltn (pos := q2) (v := .ty U.nm) hgU hmU hvU rfl hnU hdbU) pa_nil h2) h1) he hpl hs2 (by show 2 ≤ _; decide)
  simpa using this
end
end Pd

set_option Elab.async false
set_option linter.all false
set_option maxRecDepth 100000
set_option maxHeartbeats 1000000
/-! The layer Pd, part N: lists of dicts' keys, get with a default, isinstance of three, texts of numbers, ranges that fall. -/
namespace Pd
open PySem PySem.Spec PyProof.Rows L2
/-- list(d), d locked or not -/
theorem call_listR {X : Cx} (hc : X.calm = true) : CallR X (.type "list") (fun xs H Q => ∃ p kvs, xs = [.ref p] ∧ Rd H p (.dK kvs) ∧ ∀ q, H q = none → Q (.ref q) (upd H q (.lst (kvs.map fun kv => kV kv.1)))) := by
  intro pins s σ H xs us Q I r h
  obtain ⟨p, l, e, hk, q⟩ := h
  subst e
  obtain ⟨u, eu, rx⟩ := vals1 r
  subst eu
  obtain rfl : u = Value.ref p := rx
  obtain ⟨z, lo, ws, rk, hd⟩ := (show ObjOk X.prog X.w H s.heap p (.dK l) from hk.ok I.hok)
  obtain ⟨ep, at_⟩ := hd.dictAt
  have hlen : l.length = ws.length := Paired.length rk
  have key1 : ∀ (j : Nat) (k : Key), (ws.map (·.1))[j]? = some k → (l.map fun kv => kV kv.1)[j]? = some (kV k) := fun j k h => by
    have e3 : (l.map fun kv => kV kv.1) = (l.map (·.1)).map kV := by rw [List.map_map]; rfl
    rw [e3, List.getElem?_map, KV.keys rk, h]; rfl
  refine PySem.W.kdl_call (PySem.W.kdl_dict (knd := mixKind X.prog X.w) (kvs := ws) (ep := ep) lo) (I.ok.hd hc) at_ (by omega) fun h2 t2 acc c2 kp gS gI => ?_
  have okl : ObjOk X.prog X.w (upd H s.heap.objs.size (.lst (l.map fun kv => kV kv.1))) h2 s.heap.objs.size (.lst (l.map fun kv => kV kv.1)) := by
    refine ⟨by rw [List.length_map]; exact z, acc.toList, c2, ?_, by rw [Array.toArray_toList]; exact gS⟩
    have el : acc.toList.length = acc.size := by simp
    refine vals_of_at (by rw [List.length_map, el, gI.1, hlen]) fun j x w h1 h3 => ?_
    obtain ⟨k, y, ky, hi⟩ := gI.2 j w (by rw [← Array.getElem?_toList]; exact h3)
    rw [key1 j k (by rw [List.getElem?_map, ky]; rfl)] at h1
    cases h1
    exact keyIs_rel hi
  exact ⟨.ref s.heap.objs.size, _, I.laid kp (Nat.le_refl _) okl, rfl, q _ (I.hok.fresh (Nat.le_refl _))⟩
theorem fza_keys {K : PySem.W.Frag} {F : Hp} : ∀ ks : List Key, FzA K F (ks.map kV) (ks.map keyD)
  | [] => .nil
  | .inl i :: r => .cons (.int i) (fza_keys r)
  | .inr x :: r => .cons (.str x) (fza_keys r)
def gListD : List PyData → Option PyData
  | [.dict kvs] => if kvs.all (fun p => isKD p.1) = true then some (.list (keysD kvs)) else none
  | _ => none
theorem Vw.dct {K : PySem.W.Frag} {F H : Hp} {v : V} {kvs : List (PyData × PyData)} (h : Vw K F H v (.dict kvs)) (s : Sub F H) (hk : kvs.all (fun p => isKD p.1) = true) : ∃ (a : Addr) (ks : List Key) (xs : List V), v = .ref a ∧ Rd H a (.dK (ks.zip xs)) ∧ ks.length = xs.length ∧ keysD kvs = ks.map keyD := by
  cases h with
  | fz h =>
    obtain ⟨a, ks, xs, e, hp, hl, q⟩ := Fz.dct h hk
    exact ⟨a, ks, xs, e, s.rd (fun _ _ z => by cases z) hp, hl, q⟩
  | @dK a ks xs ds hp hl t => exact ⟨a, ks, xs, rfl, hp, hl, keysD_zip ks ds (by have := t.length; omega)⟩
  | @dT a ks xs ds hp hl n t =>
    have hn := t.length
    cases ks with
    | nil => exact absurd rfl n
    | cons k ks =>
      cases ds with
      | nil => simp at hn; simp [hn] at hl
      | cons d ds => simp [isKD] at hk
section
variable {X : Cx} {pos : Pos}
/-- x.get(k, y) -/
def mGetD (fd fk fx : XM) : XM := fun ρ P => (fd ρ P).bind fun (d, P1) => (dictOf P1 d).bind fun _ => (fk ρ P1).bind fun (k, P2) => (fx ρ P2).bind fun (z, P3) => (flat P3 k).bind fun kd => (dictOf P3 d).bind fun D => (dlook D kd).map fun o => (o.getD z, P3)
theorem isD_of {K : PySem.W.Frag} {F H : Hp} {ad : List Addr} {a : Addr} {D : Dct} (h : DctR K F H ad a D) : IsD H a := by
  cases D with
  | k l => obtain ⟨xs, h, _⟩ := h; exact .inl ⟨_, h⟩
  | t l => obtain ⟨xs, h, _⟩ := h; exact .inr ⟨_, h⟩
theorem ped_getD {o i e : Expr} {fd fk fx : XM} {apos cpos : Pos} (hu : X.A.units + 65 < cLine) (hd : PEd X o fd) (hk : PEd X i fk) (hx : PEd X e fx) (m : M2 X o "get" apos i e cpos := by exact ⟨rfl, rfl, rfl, rfl⟩) : PEd X (.Call (.Attribute o "get" apos) [i, e] [] cpos) (mGetD fd fk fx) := by
  obtain ⟨t, p, h1⟩ := hd
  obtain ⟨u, p', h2⟩ := hk
  obtain ⟨w, p'', h3⟩ := hx
  refine ⟨_, pe_dget2 (by omega) p p' p'' m, fun bs ρ σ os vs P H Q w P' R e q => ?_⟩
  simp only [mGetD, Option.bind_eq_some_iff, Option.map_eq_some_iff, Prod.mk.injEq] at e
  obtain ⟨⟨s1, P1⟩, e1, D0, e0, ⟨s2, P2⟩, e2, ⟨s3, P3⟩, e3, kd, e4, D, e5, r, e6, rfl, rfl⟩ := e
  refine h1 bs ρ σ os vs P H _ s1 P1 R e1 fun x H1 R1 => ?_
  have ha : ∃ a, x = .ref a ∧ IsD H1 a := by
    obtain ⟨F, ad, R1⟩ := R1
    obtain ⟨r1, _⟩ := R1.pop
    obtain ⟨a, e, d⟩ := R1.dct r1 e0
    exact ⟨a, e, isD_of d⟩
  obtain ⟨a, rfl, hD⟩ := ha
  refine ⟨a, rfl, hD, h2 bs ρ σ _ _ P1 H1 _ s2 P2 R1 e2 fun y H2 R2 => ?_⟩
  refine h3 bs ρ σ _ _ P2 H2 _ s3 P3 R2 e3 fun z H3 R3 => ?_
  obtain ⟨F, ad, R3⟩ := R3
  obtain ⟨r3, R4⟩ := R3.pop
  obtain ⟨r2, R5⟩ := R4.pop
  obtain ⟨r1, R6⟩ := R5.pop
  obtain ⟨a', ea, hd⟩ := R3.dct r1 e5
  cases ea
  rcases dget_of R3.sub hd (R3.view r2 e4) e6 with ⟨rfl, g⟩ | ⟨z', v, rfl, g, rr⟩
  · exact ⟨_, g, q _ _ ⟨F, ad, R6.push r3⟩⟩
  · exact ⟨_, g, q _ _ ⟨F, ad, R6.push rr⟩⟩
theorem ped_isi3 {a : Expr} {f : XM} {p q q2 q3 : Pos} {kk : Nat} {tp : Pos} {T U W : Ty} (hg : Gl X "isinstance") (hm : X.mg "isinstance" = none) (hgT : Gl X T.nm) (hmT : X.mg T.nm = none) (hv : bootBuiltins T.nm = some (.type T.nm))
    (hgU : Gl X U.nm) (hmU : X.mg U.nm = none) (hvU : bootBuiltins U.nm = some (.type U.nm)) (hgW : Gl X W.nm) (hmW : X.mg W.nm = none) (hvW : bootBuiltins W.nm = some (.type W.nm)) (ha : PEd X a f)
    (he : starEach [a, .Tuple [.Name T.nm q, .Name U.nm q2, .Name W.nm q3] kk tp] X.env = (false, eval a X.env) :: starEach [.Tuple [.Name T.nm q, .Name U.nm q2, .Name W.nm q3] kk tp] X.env := by rfl) (hpl : (backTo pos (starEach [.Tuple [.Name T.nm q, .Name U.nm q2, .Name W.nm q3] kk tp] X.env)).any (·.1) = false := by rfl)
    (hs2 : starEach [.Tuple [.Name T.nm q, .Name U.nm q2, .Name W.nm q3] kk tp] X.env = (false, eval (.Tuple [.Name T.nm q, .Name U.nm q2, .Name W.nm q3] kk tp) X.env) :: starEach [] X.env := by rfl)
    (h1 : starEach [.Name T.nm q, .Name U.nm q2, .Name W.nm q3] X.env = (false, eval (.Name T.nm q) X.env) :: starEach [.Name U.nm q2, .Name W.nm q3] X.env := by rfl) (h2 : starEach [.Name U.nm q2, .Name W.nm q3] X.env = (false, eval (.Name U.nm q2) X.env) :: starEach [.Name W.nm q3] X.env := by rfl) (h3 : starEach [.Name W.nm q3] X.env = (false, eval (.Name W.nm q3) X.env) :: starEach [] X.env := by rfl)
    (hn : (T.nm : Str) ≠ "__name__" := by decide) (hdb : ((T.nm : Str) == ("__debug__" : Str)) = false := by decide) (hnU : (U.nm : Str) ≠ "__name__" := by decide) (hdbU : ((U.nm : Str) == ("__debug__" : Str)) = false := by decide) (hnW : (W.nm : Str) ≠ "__name__" := by decide) (hdbW : ((W.nm : Str) == ("__debug__" : Str)) = false := by decide) :
    PEd X (.Call (.Name "isinstance" p) [a, .Tuple [.Name T.nm q, .Name U.nm q2, .Name W.nm q3] kk tp] [] pos) (mIs (fun d => inst T d || (inst U d || inst W d)) f) := by
  have := ped_isiT (pos := pos) (p := p) (kk := kk) (tp := tp) [T, U, W] hg hm ha (pa_ty (pe_bltn (pos := q) (v := .ty T.nm) hgT hmT hv rfl hn hdb) (pa_ty (pe_bltn (pos := q2) (v := .ty U.nm) hgU hmU hvU rfl hnU hdbU) (pa_ty (Ts := []) (pe_bltn (pos := q3) (v := .ty W.nm) hgW hmW hvW rfl hnW hdbW) pa_nil h3) h2) h1) he hpl hs2 (by show 3 ≤ _; decide)
  simpa using this
end
section
variable {X : Cx}
def gStr : List PyData → Option PyData
  | [.int i] => if i.natAbs.log2 < 1920 then some (.str (toString i)) else none
  | _ => none
theorem calld_str : CallD X (.type "str") gStr := by
  refine ⟨_, call_str_int, fun F H xs ds z Q s vx eq q => ?_⟩
  unfold gStr at eq
  split at eq
  · split at eq
    · rename_i h
      cases eq
      cases vx with | cons a t => cases t; exact ⟨_, by rw [a.ints], h, q _ _ _ .refl (.str _)⟩
    · cases eq
  · cases eq
/-- list(x), of a dict its keys -/
theorem calld_listD (hc : X.calm = true) : CallD X (.type "list") gListD := by
  refine ⟨_, call_listR hc, fun F H xs ds z Q s vx eq q => ?_⟩
  unfold gListD at eq
  split at eq
  · split at eq
    · rename_i hk
      cases eq
      cases vx with
      | cons a t =>
        cases t
        obtain ⟨d, ks, us, rfl, hp, hl, hkeys⟩ := Vw.dct a s hk
        refine ⟨d, _, rfl, hp, fun p n => ?_⟩
        have e1 : ((ks.zip us).map fun kv => kV kv.1) = ks.map kV := by
          rw [show (fun kv : Key × V => kV kv.1) = kV ∘ Prod.fst from rfl, ← List.map_map, List.map_fst_zip (by omega)]
        rw [hkeys] at q
        rw [e1]
        exact q _ _ _ (.one n) (.lst (.of upd_same) (fza_keys ks))
    · cases eq
  · cases eq
/-- list(x) of a text -/
theorem call_listS (hc : X.calm = true) : CallR X (.type "list") (fun xs H Q => ∃ x : Str, xs = [.str x] ∧ x.length ≤ sizeLine ∧ ∀ q, H q = none → Q (.ref q) (upd H q (.lst (x.cps.toList.map fun c => V.str ⟨#[c]⟩)))) := by
  intro pins s σ H xs us Q I r h
  obtain ⟨x, e, hz, q⟩ := h
  subst e
  obtain ⟨u, eu, rx⟩ := vals1 r
  subst eu
  obtain ⟨t, rfl⟩ := rx
  refine PySem.call_list_str (I.ok.hd hc) x t (fun h2 t2 acc c2 kp gS gI => ?_) hz
  have okl : ObjOk X.prog X.w (upd H s.heap.objs.size (.lst (x.cps.toList.map fun c => V.str ⟨#[c]⟩))) h2 s.heap.objs.size (.lst (x.cps.toList.map fun c => V.str ⟨#[c]⟩)) := by
    refine ⟨by rw [List.length_map, Array.length_toList]; exact hz, acc.toList, c2, ?_, by rw [Array.toArray_toList]; exact gS⟩
    have el : acc.toList.length = acc.size := by simp
    refine vals_of_at (by rw [List.length_map, Array.length_toList, el, gI.1]) fun j y w h1 h3 => ?_
    have h4 := gI.2 j w (by rw [← Array.getElem?_toList]; exact h3)
    obtain ⟨c, t', hc1, rfl⟩ := h4
    rw [List.getElem?_map, Array.getElem?_toList, hc1] at h1
    cases h1
    exact ⟨_, rfl⟩
  exact ⟨.ref s.heap.objs.size, _, I.laid kp (Nat.le_refl _) okl, rfl, q _ (I.hok.fresh (Nat.le_refl _))⟩
def gListS : List PyData → Option PyData
  | [.str x] => if x.length ≤ sizeLine then some (.list (signsD x)) else none
  | _ => none
theorem fza_signs {K : PySem.W.Frag} {F : Hp} : ∀ l : List Nat, FzA K F (l.map fun c => V.str ⟨#[c]⟩) (l.map fun c => PyData.str ⟨#[c]⟩)
  | [] => .nil
  | c :: r => .cons (.str _) (fza_signs r)
theorem calld_listS (hc : X.calm = true) : CallD X (.type "list") gListS := by
  refine ⟨_, call_listS hc, fun F H xs ds z Q s vx eq q => ?_⟩
  unfold gListS at eq
  split at eq
  · split at eq
    · rename_i hz
      cases eq
      cases vx with
      | cons a t => cases t; exact ⟨_, by rw [a.strs], hz, fun p n => q _ _ _ (.one n) (.lst (.of upd_same) (fza_signs _))⟩
    · cases eq
  · cases eq
/-- range(i, j, -1) -/
def iRange3 (g : AM) : IM := fun ρ P => (g ρ P).bind fun (l, P1) => match l with
  | [.fz (.int i), .fz (.int j), .fz (.int k)] => if k = -1 ∧ -(2 ^ 62) ≤ i ∧ i < 2 ^ 62 ∧ -(2 ^ 62) ≤ j ∧ j < 2 ^ 62 then some ((List.range (i - j).toNat).map fun n => .int (i + (n : Nat) * (-1)), .fz .none, P1) else none
  | _ => none
theorem itok_range3 {K : PySem.W.Frag} {lo c : Int} {n : Nat} {d : SV} {v : V} : ItOk K (Itc lo c n) ((List.range n).map fun i => .int (lo + (i : Nat) * c)) d v := fun bs ρ σ os vs P H i R => by
  refine ⟨fun hi => ?_, fun hi => show n ≤ i by simpa using hi⟩
  have hi' : i < n := by simpa using hi
  refine ⟨hi', fun x H' ⟨e1, e2⟩ => ?_⟩
  subst e1; subst e2
  obtain ⟨F, ad, R⟩ := R
  exact ⟨.int (lo + (i : Nat) * c), by simp [hi'], ⟨F, ad, R.push (show Fz K F _ _ from .int _)⟩⟩
theorem pid_range3 {tg a b c : Expr} {f g h : XM} {p pos : Pos} (hg : Gl X "range") (hm : X.mg "range" = none) (ha : PEd X a f) (hb : PEd X b g) (hcc : PEd X c h)
    (hs : starEach [a, b, c] X.env = (false, eval a X.env) :: starEach [b, c] X.env := by rfl) (hs2 : starEach [b, c] X.env = (false, eval b X.env) :: starEach [c] X.env := by rfl) (hs3 : starEach [c] X.env = (false, eval c X.env) :: starEach [] X.env := by rfl)
    (hpl : (backTo pos (starEach [b, c] X.env)).any (·.1) = false := by rfl) : PId X tg (.Call (.Name "range" p) [a, b, c] [] pos) (iRange3 (aCons f (aCons g (aCons h aNil)))) := by
  obtain ⟨t, pa, h1⟩ := pad_cons ha (pad_cons hb (pad_cons hcc pad_nil hs3) hs2) hs
  refine ⟨_, pi_range3 hg hm pa hs hpl, fun bs ρ σ os vs P H R items src P' Rl e q => ?_⟩
  simp only [iRange3, Option.bind_eq_some_iff] at e
  obtain ⟨⟨l, P1⟩, e1, e2⟩ := e
  refine h1 bs ρ σ os vs P H _ l P1 Rl e1 fun ws H1 hl R1 => ?_
  obtain ⟨F, ad, R1⟩ := R1
  obtain ⟨ra, R2⟩ := R1.args hl
  simp only at e2
  split at e2
  · split at e2
    · rename_i hz
      cases e2
      cases ra with
      | cons r1 ra =>
        cases ra with
        | cons r2 ra =>
          cases ra with
          | cons r3 ra =>
            cases ra
            cases r1
            cases r2
            cases r3
            obtain ⟨z0, z1, z2, z3, z4⟩ := hz
            subst z0
            exact ⟨_, _, _, _, rfl, RgC.neg z1 z2 z3 z4, q _ .non H1 (.fz .none) ⟨F, ad, R2.push (show Fz X.K F _ _ from .non)⟩ itok_range3⟩
    · cases e2
  · cases e2
theorem call_lenDk : CallR X (.builtin "len") (fun xs H Q => ∃ a kvs, xs = [.ref a] ∧ Rd H a (.dK kvs) ∧ Q (.int kvs.length) H) := by
  intro pins s σ H xs us Q I r h
  obtain ⟨a, l, e, hk, q⟩ := h
  subst e
  obtain ⟨u, eu, rx⟩ := vals1 r
  subst eu
  obtain rfl : u = Value.ref a := rx
  exact d_len I hk fun t s1 I1 => ⟨.int l.length, H, I1, ⟨t, rfl⟩, q⟩
def gLenD : List PyData → Option PyData
  | [.dict kvs] => if kvs.all (fun p => isKD p.1) = true then some (.int kvs.length) else none
  | _ => none
theorem calld_lenD : CallD X (.builtin "len") gLenD := by
  refine ⟨_, call_lenDk, fun F H xs ds z Q s vx eq q => ?_⟩
  unfold gLenD at eq
  split at eq
  · split at eq
    · rename_i kvs hk
      cases eq
      cases vx with
      | cons a t =>
        cases t
        obtain ⟨d, ks, us, rfl, hp, hl, hkeys⟩ := Vw.dct a s hk
        have e1 : kvs.length = (ks.zip us).length := by
          have := congrArg List.length hkeys
          simp only [keysD, List.length_map] at this
          rw [this, List.length_zip]; omega
        exact ⟨d, _, rfl, hp, by rw [← e1]; exact q _ _ _ .refl (.int _)⟩
    · cases eq
  · cases eq
def gLenA : List PyData → Option PyData := fun ds => (gLen ds).or (gLenD ds)
theorem calld_lenA : CallD X (.builtin "len") gLenA := calld_len.or calld_lenD
def gListA : List PyData → Option PyData := fun ds => (gList ds).or ((gListD ds).or (gListS ds))
theorem calld_listA (hc : X.calm = true) : CallD X (.type "list") gListA := calld_list.or ((calld_listD hc).or (calld_listS hc))
end
end Pd

set_option Elab.async false
set_option linter.all false
set_option maxRecDepth 100000
set_option maxHeartbeats 1000000
/-! The layer Pd, part O: a number as eight signs. -/
namespace Pd
open PySem PySem.Spec PyProof.Rows L2 PySem.W PySem.Calls
def bin8 (n : Nat) : Str := ⟨(List.replicate (8 - (Nat.toDigits 2 n).length) 48 ++ (Nat.toDigits 2 n).map Char.toNat).toArray⟩
theorem meets_08b (n : Nat) (hn : n < 256) (t : Tok) : ∀ u, Meets (Builtin.«int.__format__» ⟨[.int (n : Int) t, .str ("08b" : Str) u], []⟩) (fun _ R s => ∀ t' k, R (.ok (.ret (.str (bin8 n) t'))) { s with toks := k }) := by
  intro _
  apply KPc.meets_of
  intro _ _ _ _ _ _ hq
  unfold Builtin.«int.__format__»
  refine wpAny_bind (wpAny_of_eq (a := (_, _)) rfl ?_)
  refine wpAny_bind (wpAny_of_eq (a := _) rfl ?_)
  kxf_if
  refine wpAny_bind (wpAny_typeNameOf (T := "str") (typeIs_str _ _ _) (by decide) fun _ => ?_)
  refine wpAny_bind (wpAny_of_eq (a := some _) rfl ?_)
  kxf_if
  kxf_if
  refine wpAny_bind (wpAny_typeNameOfCut_int ?_)
  repeat kxf_if
  refine KXf.ret_text (T := bin8 n) ?e ?l hq
  case e => clear hq; revert n; decide +kernel
  case l => clear hq; revert n; decide +kernel
end Pd

set_option Elab.async false
set_option linter.all false
set_option maxRecDepth 100000
set_option maxHeartbeats 1000000
/-! The layer Pd, part P: f"{n:08b}". -/
namespace Pd
open PySem PySem.Spec PyProof.Rows L2 PySem.W PySem.Calls
section
variable {X : Cx} {pos : Pos}
theorem pe_fmt8 {e sp : Expr} {te ts : TE} (he : PE X e te) (hs : PE X sp ts) : PE X (.FormattedValue e (-1) (some sp) pos) (fun σ H Q => te σ H fun x H1 => ts σ H1 fun y H2 => ∃ n : Nat, x = .int n ∧ n < 256 ∧ y = .str ("08b" : Str) ∧ Q (.str (bin8 n)) H2) := by
  refine ⟨fun pins s σ H Q I h => ?_⟩
  refine wpAny_FormattedValue_spec (thn (he.run pins s σ H _ I h) fun v s1 ⟨x, H1, I1, rx, q1⟩ => thn (hs.run pins s1 σ H1 _ I1 q1) fun r s2 ⟨y, H2, I2, ry, n, ex, hn, ey, q⟩ => ?_)
  subst ex
  subst ey
  obtain ⟨t, rfl⟩ := rx
  obtain ⟨t2, rfl⟩ := ry
  exact ⟨_, _, rfl, KXf.field_int rfl (by decide +kernel) (by decide +kernel) (meets_08b n hn t) fun t' k => ⟨.str (bin8 n), H2, I2.tok _, ⟨_, rfl⟩, q⟩⟩
def mFmt8 (f : XM) : XM := fun ρ P => (f ρ P).bind fun (a, P1) => match a with
  | .fz (.int i) => if 0 ≤ i ∧ i < 256 then some (.fz (.str (bin8 i.toNat)), P1) else none
  | _ => none
theorem ped_fmt8 {e sp : Expr} {f : XM} (he : PEd X e f) (hs : PEd X sp (mC (.str "08b"))) : PEd X (.FormattedValue e (-1) (some sp) pos) (mFmt8 f) := by
  obtain ⟨t, p, h1⟩ := he
  obtain ⟨u, p2, h2⟩ := hs
  refine ⟨_, pe_fmt8 p p2, fun bs ρ σ os vs P H Q r P' R e q => ?_⟩
  simp only [mFmt8, Option.bind_eq_some_iff] at e
  obtain ⟨⟨a, P1⟩, e1, e2⟩ := e
  simp only at e2
  split at e2
  · rename_i i
    split at e2
    · rename_i hi
      cases e2
      refine h1 bs ρ σ os vs P H _ _ _ R e1 fun x H1 R1 => ?_
      have hx : x = .int i := by
        obtain ⟨F, ad, R1⟩ := R1
        obtain ⟨r1, _⟩ := R1.pop
        cases r1; rfl
      subst hx
      refine h2 bs ρ σ _ _ _ H1 _ _ _ R1 rfl fun y H2 R2 => ?_
      obtain ⟨F, ad, R2⟩ := R2
      obtain ⟨r2, R3⟩ := R2.pop
      obtain ⟨_, R4⟩ := R3.pop
      cases r2
      refine ⟨i.toNat, by rw [Int.toNat_of_nonneg hi.1], by omega, rfl, q _ _ ⟨F, ad, R4.push (show Fz X.K F _ _ from .str _)⟩⟩
    · cases e2
  · cases e2
theorem ped_joined1 {e : Expr} {f : XM} (he : PEd X e f) : PEd X (.JoinedStr [e] pos) f := by
  obtain ⟨t, p, h1⟩ := he
  exact ⟨t, pe_joined1 p, h1⟩
end
end Pd

set_option Elab.async false
set_option linter.all false
set_option maxRecDepth 100000
set_option maxHeartbeats 1000000
/-! The layer Pd, part S: the mirrors run by simp. -/
namespace Pd
open PySem PySem.Spec PyProof.Rows L2
section
variable {ρ : EV} {P : Store}
@[simp] theorem mC_ap (d : PyData) : mC d ρ P = some (.fz d, P) := id rfl
@[simp] theorem mVar_ap (i b : Nat) (sl : List (Option SV)) : mVar i ⟨b, sl⟩ P = (sl[i]?.join).map fun s => (s, P) := by
  unfold mVar
  cases h : sl[i]? with
  | none => simp [h]
  | some o => cases o <;> simp [h]
@[simp] theorem put_ap (b i : Nat) (sl : List (Option SV)) (s : SV) : EV.put ⟨b, sl⟩ i s = ⟨b, sl.set i (some s)⟩ := id rfl
@[simp] theorem flat_fz (d : PyData) : flat P (.fz d) = some d := id rfl
@[simp] theorem frz_fz (d : PyData) : frz P (.fz d) = some (d, P) := id rfl
@[simp] theorem fzs_nil : fzs [] = some [] := id rfl
@[simp] theorem fzs_cons (d : PyData) (r : List SV) : fzs (.fz d :: r) = (fzs r).map (d :: ·) := id rfl
theorem fzs_map (l : List PyData) : fzs (l.map SV.fz) = some l := by
  induction l with
  | nil => rfl
  | cons d l ih => simp [ih]
theorem fzs_map' {α : Type} (f : α → PyData) (l : List α) : fzs (l.map fun x => SV.fz (f x)) = some (l.map f) := by
  induction l with
  | nil => rfl
  | cons d l ih => simp [ih]
@[simp] theorem flats_nil : flats P [] = some [] := id rfl
@[simp] theorem flats_cons (a : SV) (l : List SV) : flats P (a :: l) = (flat P a).bind fun d => (flats P l).map (d :: ·) := id rfl
@[simp] theorem mBin_ap (g : PyData → PyData → Option PyData) (f1 f2 : XM) : mBin g f1 f2 ρ P = (f1 ρ P).bind fun (a, P1) => (f2 ρ P1).bind fun (b, P2) => (flat P2 a).bind fun d => (flat P2 b).bind fun e => (g d e).map fun z => (.fz z, P2) := id rfl
@[simp] theorem mUn_ap (g : PyData → Option PyData) (f : XM) : mUn g f ρ P = (f ρ P).bind fun (a, P1) => (flat P1 a).bind fun d => (g d).map fun z => (.fz z, P1) := id rfl
@[simp] theorem mTB_ap (f : XM) : mTB f ρ P = (f ρ P).bind fun (a, P1) => match a with
  | .fz (.bool b) => some (b, P1)
  | _ => none := id rfl
@[simp] theorem mNotB_ap (f : BM) : mNotB f ρ P = (f ρ P).map fun (a, P1) => (!a, P1) := id rfl
@[simp] theorem mAndB_ap (f g : BM) : mAndB f g ρ P = (f ρ P).bind fun (a, P1) => if a = true then g ρ P1 else some (false, P1) := id rfl
@[simp] theorem mOrB_ap (f g : BM) : mOrB f g ρ P = (f ρ P).bind fun (a, P1) => if a = true then some (true, P1) else g ρ P1 := id rfl
@[simp] theorem mAndV_ap (f g : XM) : mAndV f g ρ P = (f ρ P).bind fun (a, P1) => match a with
  | .fz (.bool true) => g ρ P1
  | .fz (.bool false) => some (.fz (.bool false), P1)
  | _ => none := id rfl
@[simp] theorem mOrV_ap (f g : XM) : mOrV f g ρ P = (f ρ P).bind fun (a, P1) => match a with
  | .fz (.bool false) => g ρ P1
  | .fz (.bool true) => some (.fz (.bool true), P1)
  | _ => none := id rfl
@[simp] theorem mNotV_ap (f : XM) : mNotV f ρ P = (f ρ P).bind fun (a, P1) => match a with
  | .fz (.bool b) => some (.fz (.bool (!b)), P1)
  | _ => none := id rfl
@[simp] theorem mIfE_ap (c : BM) (f g : XM) : mIfE c f g ρ P = (c ρ P).bind fun (b, P1) => if b = true then f ρ P1 else g ρ P1 := id rfl
@[simp] theorem mChain_ap (g g' : PyData → PyData → Option PyData) (f1 f2 f3 : XM) : mChain g g' f1 f2 f3 ρ P = (f1 ρ P).bind fun (a, P1) => (f2 ρ P1).bind fun (b, P2) => (flat P2 a).bind fun d => (flat P2 b).bind fun e => (g d e).bind fun z => match z with
  | .bool true => (f3 ρ P2).bind fun (c, P3) => (flat P3 b).bind fun e' => (flat P3 c).bind fun k => (g' e' k).map fun z' => (.fz z', P3)
  | .bool false => some (.fz (.bool false), P2)
  | _ => none := id rfl
@[simp] theorem mFz_ap (f : XM) : mFz f ρ P = (f ρ P).bind fun (a, P1) => (frz P1 a).map fun (d, P2) => (.fz d, P2) := id rfl
@[simp] theorem aNil_ap : aNil ρ P = some ([], P) := id rfl
@[simp] theorem aCons_ap (f : XM) (g : AM) : aCons f g ρ P = (f ρ P).bind fun (a, P1) => (g ρ P1).map fun (l, P2) => (a :: l, P2) := id rfl
@[simp] theorem mTup_ap (g : AM) : mTup g ρ P = (g ρ P).bind fun (l, P1) => (fzs l).bind fun ds => if ds.length ≤ sizeLine then some (.fz (.tuple ds), P1) else none := id rfl
@[simp] theorem mLst_ap (g : AM) : mLst g ρ P = (g ρ P).bind fun (l, P1) => (fzs l).bind fun ds => if ds.length ≤ sizeLine then some (.fz (.list ds), P1) else none := id rfl
@[simp] theorem mLstC_ap (g : AM) : mLstC g ρ P = (g ρ P).bind fun (l, P1) => if l.length ≤ sizeLine then some (.ptr P1.length, P1 ++ [.lst l]) else none := id rfl
@[simp] theorem mCall_ap (g : List PyData → Option PyData) (fs : AM) : mCall g fs ρ P = (fs ρ P).bind fun (l, P1) => (flats P1 l).bind fun ds => (g ds).map fun z => (.fz z, P1) := id rfl
@[simp] theorem mCallF_ap (m : FM) (fs : AM) : mCallF m fs ρ P = (fs ρ P).bind fun (l, P1) => m l P1 := id rfl
@[simp] theorem mIs_ap (g : PyData → Bool) (f : XM) : mIs g f ρ P = (f ρ P).bind fun (a, P1) => (flat P1 a).map fun d => (.fz (.bool (g d)), P1) := id rfl
@[simp] theorem mSub_ap (f1 f2 : XM) : mSub f1 f2 ρ P = (f1 ρ P).bind fun (a, P1) => (f2 ρ P1).bind fun (b, P2) => (flat P2 b).bind fun kd => (subOf P2 a kd).map fun s => (s, P2) := id rfl
@[simp] theorem mIn_ap (n : Bool) (f1 f2 : XM) : mIn n f1 f2 ρ P = (f1 ρ P).bind fun (a, P1) => (f2 ρ P1).bind fun (b, P2) => (flat P2 a).bind fun kd => (inOf P2 kd b).map fun v => (.fz (.bool (n != v)), P2) := id rfl
@[simp] theorem mInK_ap (n : Bool) (ds : List PyData) (f : XM) : mInK n ds f ρ P = (f ρ P).bind fun (a, P1) => (flat P1 a).bind fun d => (dInS n d (.tuple ds)).map fun z => (.fz z, P1) := id rfl
@[simp] theorem mSl_ap (f : XM) (lo hi : OM) : mSl f lo hi ρ P = (f ρ P).bind fun (a, P1) => (lo ρ P1).bind fun (l, P2) => (hi ρ P2).bind fun (u, P3) => (flat P3 a).bind fun d => (dSl d l u).map fun z => (.fz z, P3) := id rfl
@[simp] theorem oNone_ap : oNone ρ P = some (none, P) := id rfl
@[simp] theorem oSome_ap (f : XM) : oSome f ρ P = (f ρ P).bind fun (a, P1) => match a with
  | .fz (.int i) => some (some i, P1)
  | _ => none := id rfl
@[simp] theorem mApp_ap (fo fe : XM) : mApp fo fe ρ P = (fo ρ P).bind fun (o, P1) => (fe ρ P1).bind fun (r, P2) => match o with
  | .ptr k => match P2[k]? with
    | some (.lst l) => if l.length < sizeLine ∧ okPtr ρ.b k r = true ∧ isLst P1[k]? = true then some (.fz .none, P2.set k (.lst (l ++ [r]))) else none
    | _ => none
  | _ => none := id rfl
@[simp] theorem okPtr_fz (b k : Nat) (d : PyData) : okPtr b k (.fz d) = true := id rfl
@[simp] theorem isLst_lst (l : List SV) : isLst (some (.lst l)) = true := id rfl
@[simp] theorem sNx_ap : sNx ρ P = some (.nx, ρ, P) := id rfl
@[simp] theorem sSeq_ap (m n : SM) : sSeq m n ρ P = (m ρ P).bind fun r => match r with
  | (.nx, ρ1, P1) => n ρ1 P1
  | r => some r := id rfl
@[simp] theorem sRet_ap (f : XM) : sRet f ρ P = (f ρ P).map fun (s, P1) => (.rt s, ρ, P1) := id rfl
@[simp] theorem sEx_ap (f : XM) : sEx f ρ P = (f ρ P).map fun (_, P1) => (.nx, ρ, P1) := id rfl
@[simp] theorem sBk_ap : sBk ρ P = some (.bk, ρ, P) := id rfl
@[simp] theorem sCt_ap : sCt ρ P = some (.ct, ρ, P) := id rfl
@[simp] theorem sIf_ap (c : BM) (m n : SM) : sIf c m n ρ P = (c ρ P).bind fun (b, P1) => if b = true then m ρ P1 else n ρ P1 := id rfl
@[simp] theorem sSet_ap (i : Nat) (f : XM) : sSet i f ρ P = (f ρ P).map fun (s, P1) => (.nx, ρ.put i s, P1) := id rfl
@[simp] theorem sAsg_ap (f : XM) (g : GM) : sAsg f g ρ P = (f ρ P).bind fun (s, P1) => (g s ρ P1).map fun (ρ2, P2) => (.nx, ρ2, P2) := id rfl
@[simp] theorem sPar_ap (i j : Nat) (g : AM) : sPar i j g ρ P = (g ρ P).bind fun (l, P1) => match l with
  | [a, b] => some (.nx, (ρ.put i a).put j b, P1)
  | _ => none := id rfl
@[simp] theorem gNm_ap (i : Nat) (s : SV) : gNm i s ρ P = some (ρ.put i s, P) := id rfl
@[simp] theorem gsNil_ap : gsNil [] ρ P = some (ρ, P) := id rfl
@[simp] theorem gsCons_ap (g : GM) (h : List PyData → EV → Store → Option (EV × Store)) (d : PyData) (r : List PyData) : gsCons g h (d :: r) ρ P = (g (.fz d) ρ P).bind fun (ρ1, P1) => h r ρ1 P1 := id rfl
@[simp] theorem gTu_ap (n : Nat) (h : List PyData → EV → Store → Option (EV × Store)) (ds : List PyData) : gTu n h (.fz (.tuple ds)) ρ P = if ds.length = n then h ds ρ P else none := id rfl
@[simp] theorem gIx_ap (fo fi : XM) (s : SV) : gIx fo fi s ρ P = (fo ρ P).bind fun (o, P1) => (fi ρ P1).bind fun (i, P2) => match o, i with
  | .ptr k, .fz (.int i) => match P2[k]? with
    | some (.lst l) => if okPtr ρ.b k s = true then (ixN l.length i).map fun j => (ρ, P2.set k (.lst (l.set j s))) else none
    | _ => none
  | _, _ => none := id rfl
@[simp] theorem sFor_ap (f : IM) (g : GM) (body : SM) : sFor f g body ρ P = (f ρ P).bind fun (items, _, P1) => forGo g body items ρ P1 := id rfl
@[simp] theorem iAny_ap (f : XM) : iAny f ρ P = (f ρ P).bind fun (a, P1) => match a with
  | .fz (.list ds) => some (ds, a, P1)
  | .fz (.tuple ds) => some (ds, a, P1)
  | .fz (.str x) => some (signsD x, a, P1)
  | .fz (.dict kvs) => if kvs.all (fun p => isKD p.1) = true then some (keysD kvs, a, P1) else none
  | _ => none := id rfl
@[simp] theorem iRange_ap (g : AM) : iRange g ρ P = (g ρ P).bind fun (l, P1) => match l with
  | [.fz (.int j)] => if -(2 ^ 62) ≤ j ∧ j < 2 ^ 62 then some (rangeD 0 j.toNat, .fz .none, P1) else none
  | [.fz (.int i), .fz (.int j)] => if -(2 ^ 62) ≤ i ∧ i < 2 ^ 62 ∧ -(2 ^ 62) ≤ j ∧ j < 2 ^ 62 then some (rangeD i (j - i).toNat, .fz .none, P1) else none
  | _ => none := id rfl
@[simp] theorem bYes_ap : bYes ρ P = some (true, P) := id rfl
theorem mFun_ap (ex : Nat → SV → Store → Option (SV × Store)) (nN : Nat) (body : SM) (args : List SV) : mFun ex nN body args P = (body { b := P.length, sl := startE nN args } P).bind fun (fl, _, P2) => match fl with
  | .rt r => ex P.length r P2
  | .nx => ex P.length (.fz .none) P2
  | _ => none := rfl
@[simp] theorem exitZ_fz (n : Nat) (d : PyData) : exitZ n (.fz d) P = some (.fz d, P.take n) := id rfl
@[simp] theorem exitC_fz (n : Nat) (d : PyData) : exitC n (.fz d) P = some (.fz d, P.take n) := id rfl
theorem exitZ_ptr {n k : Nat} {c : Cell} {d : PyData} (h : n ≤ k) (hc : P[k]? = some c) (hd : c.dat = some d) : exitZ n (.ptr k) P = some (.fz d, P.take n) := by
  simp [exitZ, h, hc, hd]
@[simp] theorem dictOf_tup (ds : List PyData) : dictOf P (.fz (.tuple ds)) = none := id rfl
@[simp] theorem dictOf_lst (ds : List PyData) : dictOf P (.fz (.list ds)) = none := id rfl
@[simp] theorem dictOf_str (x : Str) : dictOf P (.fz (.str x)) = none := id rfl
theorem dictOf_cell {k : Nat} {l : List SV} (h : P[k]? = some (.lst l)) : dictOf P (.ptr k) = none := by simp [dictOf, h]
@[simp] theorem subOf_tup (ds : List PyData) (i : Int) : subOf P (.fz (.tuple ds)) (.int i) = (atI ds i).map .fz := id rfl
@[simp] theorem subOf_lst (ds : List PyData) (i : Int) : subOf P (.fz (.list ds)) (.int i) = (atI ds i).map .fz := id rfl
theorem subOf_str (z : Str) (i : Int) (h : z.length ≤ sizeLine) : subOf P (.fz (.str z)) (.int i) = (atI z.cps.toList i).map fun c => .fz (.str ⟨#[c]⟩) := by
  simp [subOf, dIx, h, Option.map_map, Function.comp_def]
theorem subOf_cell {k : Nat} {l : List SV} {ds : List PyData} (h : P[k]? = some (.lst l)) (hd : fzs l = some ds) (i : Int) : subOf P (.ptr k) (.int i) = (atI ds i).map .fz := by
  simp [subOf, dictOf_cell h, flat, h, Cell.dat, hd, dIx]
theorem flat_cell {k : Nat} {c : Cell} (h : P[k]? = some c) : flat P (.ptr k) = c.dat := by simp [flat, h]
@[simp] theorem dat_lst (l : List SV) : (Cell.lst l).dat = (fzs l).map .list := id rfl
@[simp] theorem inOf_tup (ds : List PyData) (d : PyData) : inOf P d (.fz (.tuple ds)) = if SeqAt.shaped d = true ∧ SeqAt.shaped (.tuple ds) = true then some (ds.any fun y => PyData.eqv y d) else none := by
  simp only [inOf, dictOf_tup, flat_fz, Option.bind_some, dInS]
  by_cases h : SeqAt.shaped d = true ∧ SeqAt.shaped (.tuple ds) = true
  · simp [h]
  · simp [h]
@[simp] theorem inOf_lst (ds : List PyData) (d : PyData) : inOf P d (.fz (.list ds)) = if SeqAt.shaped d = true ∧ SeqAt.shaped (.list ds) = true then some (ds.any fun y => PyData.eqv y d) else none := by
  simp only [inOf, dictOf_lst, flat_fz, Option.bind_some, dInS]
  by_cases h : SeqAt.shaped d = true ∧ SeqAt.shaped (.list ds) = true
  · simp [h]
  · simp [h]
@[simp] theorem inOf_sign (x : Str) (c : Nat) : inOf P (.str ⟨#[c]⟩) (.fz (.str x)) = some (decide (c ∈ x.cps.toList)) := by
  have := StrLaws.found_one x c
  simp only [inOf, dictOf_str, flat_fz, Option.bind_some, dInS, this]
  simp
end

/-! items -/
@[simp] theorem ixN_nat (n j : Nat) : ixN n (j : Int) = if j < n then some j else none := by
  unfold ixN
  by_cases h : j < n
  · simp [h]
  · simp [h]
@[simp] theorem atI_nat' {α : Type} (xs : List α) (j : Nat) : atI xs (j : Int) = xs[j]? := by
  unfold atI
  rw [ixN_nat]
  split
  · rfl
  · rw [List.getElem?_eq_none (by omega)]; rfl
@[simp] theorem atI_0 {α : Type} (xs : List α) : atI xs 0 = xs[0]? := atI_nat' xs 0
@[simp] theorem atI_1 {α : Type} (xs : List α) : atI xs 1 = xs[1]? := atI_nat' xs 1
@[simp] theorem atI_2 {α : Type} (xs : List α) : atI xs 2 = xs[2]? := atI_nat' xs 2
@[simp] theorem atI_3 {α : Type} (xs : List α) : atI xs 3 = xs[3]? := atI_nat' xs 3
@[simp] theorem atI_4 {α : Type} (xs : List α) : atI xs 4 = xs[4]? := atI_nat' xs 4
@[simp] theorem ixN_0 (n : Nat) : ixN n 0 = if 0 < n then some 0 else none := ixN_nat n 0
@[simp] theorem ixN_1 (n : Nat) : ixN n 1 = if 1 < n then some 1 else none := ixN_nat n 1
@[simp] theorem ixN_2 (n : Nat) : ixN n 2 = if 2 < n then some 2 else none := ixN_nat n 2
@[simp] theorem ixN_3 (n : Nat) : ixN n 3 = if 3 < n then some 3 else none := ixN_nat n 3

/-! operations on data -/
@[simp] theorem dAdd_int (i j : Int) : dAdd (.int i) (.int j) = some (.int (i + j)) := id rfl
@[simp] theorem dSub_int (i j : Int) : dSub (.int i) (.int j) = some (.int (i - j)) := id rfl
theorem dAdd_lst (xs ys : List PyData) (h : xs.length + ys.length ≤ sizeLine) : dAdd (.list xs) (.list ys) = some (.list (xs ++ ys)) := by
  simp [dAdd, dI, dAddS, dS, dAddL, h]
theorem dAdd_tup (xs ys : List PyData) (h : xs.length + ys.length ≤ sizeLine) : dAdd (.tuple xs) (.tuple ys) = some (.tuple (xs ++ ys)) := by
  simp [dAdd, dI, dAddS, dS, dAddL, dAddT, h]
@[simp] theorem dMod_int (i j : Int) : dMod (.int i) (.int j) = if decide (j ≠ 0) = true then some (.int (i.fmod j)) else none := id rfl
@[simp] theorem dDiv_int (i j : Int) : dDiv (.int i) (.int j) = if cDiv i j = true then some (.int (i.fdiv j)) else none := id rfl
@[simp] theorem dMulI_int (i j : Int) : dMulI (.int i) (.int j) = if cMul i j = true then some (.int (i * j)) else none := id rfl
@[simp] theorem dLt_int (i j : Int) : dLt (.int i) (.int j) = some (.bool (decide (i < j))) := id rfl
@[simp] theorem dLe_int (i j : Int) : dLe (.int i) (.int j) = some (.bool (decide (i ≤ j))) := id rfl
@[simp] theorem dGt_int (i j : Int) : dGt (.int i) (.int j) = some (.bool (decide (j < i))) := id rfl
@[simp] theorem dGe_int (i j : Int) : dGe (.int i) (.int j) = some (.bool (decide (j ≤ i))) := id rfl
@[simp] theorem dLe_str (x y : Str) : dLe (.str x) (.str y) = some (.bool (!decide (y.cps.toList < x.cps.toList))) := id rfl
@[simp] theorem dLt_str (x y : Str) : dLt (.str x) (.str y) = some (.bool (decide (x.cps.toList < y.cps.toList))) := id rfl
@[simp] theorem dEq_int (i j : Int) : dEq (.int i) (.int j) = some (.bool (decide (i = j))) := by simp [dEq, dEqA, atom, scal]
@[simp] theorem dNe_int (i j : Int) : dNe (.int i) (.int j) = some (.bool (!decide (i = j))) := by simp [dNe, dEqA, atom, scal]
@[simp] theorem dEq_str2 (x y : Str) : dEq (.str x) (.str y) = some (.bool (decide (x = y))) := by simp [dEq, dEqA, atom, scal]
@[simp] theorem dNe_str2 (x y : Str) : dNe (.str x) (.str y) = some (.bool (!decide (x = y))) := by simp [dNe, dEqA, atom, scal]
@[simp] theorem dIs_non (n : Bool) (d : PyData) : dIs n d .none = some (.bool (n != isNon d)) := by cases d <;> rfl
@[simp] theorem dIs_bl (n a b : Bool) : dIs n (.bool a) (.bool b) = some (.bool (n != decide (a = b))) := id rfl
@[simp] theorem gLen_lst (ds : List PyData) : gLen [.list ds] = some (.int ds.length) := id rfl
@[simp] theorem gLen_tup (ds : List PyData) : gLen [.tuple ds] = some (.int ds.length) := id rfl
@[simp] theorem gInt_int (i : Int) : gInt [.int i] = some (.int i) := id rfl
@[simp] theorem gTuple_lst (ds : List PyData) : gTuple [.list ds] = some (.tuple ds) := id rfl
@[simp] theorem gTuple_tup (ds : List PyData) : gTuple [.tuple ds] = some (.tuple ds) := id rfl
@[simp] theorem gList_lst (ds : List PyData) : gList [.list ds] = some (.list ds) := id rfl
@[simp] theorem gList_tup (ds : List PyData) : gList [.tuple ds] = some (.list ds) := id rfl
theorem bools_map {α : Type} (f : α → Bool) (l : List α) : bools (l.map fun x => .bool (f x)) = some (l.map f) := by
  induction l with
  | nil => rfl
  | cons a l ih => simp [bools, ih]
theorem intsD_map {α : Type} (f : α → Int) (l : List α) : intsD (l.map fun x => .int (f x)) = some (l.map f) := by
  induction l with
  | nil => rfl
  | cons a l ih => simp [intsD, ih]
theorem gAll_map {α : Type} (f : α → Bool) (l : List α) : gAll [.list (l.map fun x => .bool (f x))] = some (.bool (l.all f)) := by
  simp [gAll, bools_map, List.all_map, Function.comp_def]
theorem gAny_map {α : Type} (f : α → Bool) (l : List α) : gAny [.list (l.map fun x => .bool (f x))] = some (.bool (l.any f)) := by
  simp [gAny, bools_map, List.any_map, Function.comp_def]
theorem gSum_map {α : Type} (f : α → Int) (l : List α) : gSum [.list (l.map fun x => .int (f x))] = some (.int (l.map f).sum) := by
  simp [gSum, intsD_map]

/-! comprehensions that change nothing -/
theorem lcGo_pure {g : GM} {tt : BM} {te : XM} {ρ : EV} {n : Nat} (p : PyData → Bool) (h : PyData → PyData) : ∀ (items : List PyData) (P : Store) (acc : List SV), P.length = n → acc.length + items.length ≤ sizeLine →
    (∀ d ∈ items, ∀ S : Store, ∃ ρ1, g (.fz d) ρ S = some (ρ1, S) ∧ tt ρ1 S = some (p d, S) ∧ (p d = true → te ρ1 S = some (.fz (h d), S))) →
    lcGo g tt te ρ n items (P ++ [.lst acc]) = some (P ++ [.lst (acc ++ ((items.filter p).map fun d => SV.fz (h d)))])
  | [], P, acc, _, _, _ => by simp [lcGo]
  | d :: r, P, acc, hP, hl, hh => by
    obtain ⟨ρ1, e1, e2, e3⟩ := hh d List.mem_cons_self (P ++ [.lst acc])
    have ih := fun acc' (hl' : acc'.length + r.length ≤ sizeLine) => lcGo_pure (g := g) (tt := tt) (te := te) (ρ := ρ) (n := n) p h r P acc' hP hl' fun d hd S => hh d (List.mem_cons_of_mem _ hd) S
    simp only [List.length_cons] at hl
    simp only [lcGo, e1, e2, Option.bind_some]
    by_cases hp : p d = true
    · have hn : (P ++ [Cell.lst acc])[n]? = some (.lst acc) := by rw [← hP]; simp
      simp only [hp, if_true, e3 hp, Option.bind_some, hn]
      rw [if_pos (by omega)]
      have hs : (P ++ [Cell.lst acc]).set n (.lst (acc ++ [.fz (h d)])) = P ++ [.lst (acc ++ [.fz (h d)])] := by
        rw [← hP, List.set_append_right _ _ (Nat.le_refl _)]; simp
      rw [hs, ih _ (by simp; omega)]
      simp [List.filter_cons, hp]
    · simp only [hp, Bool.false_eq_true, if_false]
      rw [ih acc (by omega)]
      simp [List.filter_cons, hp]
theorem mLC_pure {own : List Nat} {f : IM} {g : GM} {tt : BM} {te : XM} {ρ : EV} {P : Store} {items : List PyData} {src : SV} (p : PyData → Bool) (h : PyData → PyData) (hf : f ρ P = some (items, src, P)) (hl : items.length ≤ sizeLine)
    (hh : ∀ d ∈ items, ∀ S : Store, ∃ ρ1, g (.fz d) { ρ.wipe own with b := P.length } S = some (ρ1, S) ∧ tt ρ1 S = some (p d, S) ∧ (p d = true → te ρ1 S = some (.fz (h d), S))) :
    mLC own f g tt te ρ P = some (.fz (.list ((items.filter p).map h)), P) := by
  have := lcGo_pure (g := g) (tt := tt) (te := te) (ρ := { ρ.wipe own with b := P.length }) p h items P [] rfl (by simpa using hl) hh
  simp only [mLC, hf, Option.bind_some, this, List.nil_append]
  simp [fzs_map']
/-- .. without a test -/
theorem mLC_map {own : List Nat} {f : IM} {g : GM} {te : XM} {ρ : EV} {P : Store} {items : List PyData} {src : SV} (h : PyData → PyData) (hf : f ρ P = some (items, src, P)) (hl : items.length ≤ sizeLine)
    (hh : ∀ d ∈ items, ∀ S : Store, ∃ ρ1, g (.fz d) { ρ.wipe own with b := P.length } S = some (ρ1, S) ∧ te ρ1 S = some (.fz (h d), S)) :
    mLC own f g bYes te ρ P = some (.fz (.list (items.map h)), P) := by
  have := mLC_pure (tt := bYes) (fun _ => true) h hf hl fun d hd S => let ⟨ρ1, a, b⟩ := hh d hd S; ⟨ρ1, a, rfl, fun _ => b⟩
  have e : items.filter (fun _ => true) = items := List.filter_eq_self.mpr fun _ _ => rfl
  rw [e] at this
  exact this

/-! good data -/
def okD : Nat → PyData → Bool
  | _, .none => true
  | _, .bool _ => true
  | _, .int _ => true
  | _, .str x => PyData.strOk x && decide (x.length ≤ 1000)
  | n + 1, .list ds => decide (ds.length ≤ 1000) && ds.all (okD n)
  | n + 1, .tuple ds => decide (ds.length ≤ 1000) && ds.all (okD n)
  | _, _ => false
theorem okD_lay : ∀ (n : Nat) (d : PyData), okD n d = true → d.canLay0 = true ∧ d.depth ≤ n := by
  intro n
  induction n with
  | zero => intro d h; cases d <;> simp_all [okD, PyData.canLay0, PyData.depth]
  | succ n ih =>
    have all : ∀ ds : List PyData, ds.all (okD n) = true → PyData.canLayAll0 ds = true ∧ PyData.depthAll ds ≤ n := by
      intro ds
      induction ds with
      | nil => intro _; simp [PyData.canLayAll0, PyData.depthAll]
      | cons d r ihr =>
        intro h
        simp only [List.all_cons, Bool.and_eq_true] at h
        have h1 := ih d h.1
        have h2 := ihr h.2
        simp only [PyData.canLayAll0, PyData.depthAll, h1.1, h2.1, Bool.and_true, true_and]
        omega
    intro d h
    cases d with
    | list ds =>
      simp only [okD, Bool.and_eq_true] at h
      have := all ds h.2
      simp only [PyData.canLay0, PyData.depth, this.1, true_and]; omega
    | tuple ds =>
      simp only [okD, Bool.and_eq_true] at h
      have := all ds h.2
      simp only [PyData.canLay0, PyData.depth, this.1, true_and]; omega
    | _ => simp_all [okD, PyData.canLay0, PyData.depth]
theorem okD_shaped {n : Nat} {d : PyData} (h : okD n d = true) (hn : n ≤ 64) : SeqAt.shaped d = true := by
  obtain ⟨h1, h2⟩ := okD_lay n d h
  unfold SeqAt.shaped
  simp only [h1, Bool.true_and, decide_eq_true_eq]
  omega
/-- the data is this text -/
def isS (x : Str) : PyData → Bool
  | .str y => decide (y = x)
  | _ => false
theorem eqv_str (x : Str) (d : PyData) : PyData.eqv (.str x) d = isS x d := by
  cases d with
  | str s =>
    simp only [PyData.eqv, isS]
    rw [Bool.eq_iff_iff]
    simp only [beq_iff_eq, decide_eq_true_eq]
    exact ⟨Eq.symm, Eq.symm⟩
  | _ => simp [PyData.eqv, isS]
theorem dEq_str {d : PyData} (x : Str) (h : SeqAt.shaped d = true) (hx : PyData.strOk x = true := by decide +kernel) : dEq d (.str x) = some (.bool (isS x d)) := by
  have hs : SeqAt.shaped (.str x) = true := by simp [SeqAt.shaped, PyData.canLay0, PyData.depth, hx]
  cases d <;> simp [dEq, dEqA, atom, scal, isS, dEqD, h, hs, PyData.eqv]
/-! sizes -/
@[simp] theorem sz_1 : (1 : Nat) ≤ sizeLine := by decide
@[simp] theorem sz_2 : (2 : Nat) ≤ sizeLine := by decide
@[simp] theorem sz_3 : (3 : Nat) ≤ sizeLine := by decide
@[simp] theorem sz_4 : (4 : Nat) ≤ sizeLine := by decide
@[simp] theorem sz_5 : (5 : Nat) ≤ sizeLine := by decide
@[simp] theorem sz_6 : (6 : Nat) ≤ sizeLine := by decide
@[simp] theorem sz_7 : (7 : Nat) ≤ sizeLine := by decide
@[simp] theorem sz_8 : (8 : Nat) ≤ sizeLine := by decide
@[simp] theorem sz_9 : (9 : Nat) ≤ sizeLine := by decide
@[simp] theorem sz_10 : (10 : Nat) ≤ sizeLine := by decide
@[simp] theorem sz_11 : (11 : Nat) ≤ sizeLine := by decide
@[simp] theorem sz_12 : (12 : Nat) ≤ sizeLine := by decide
@[simp] theorem sz_13 : (13 : Nat) ≤ sizeLine := by decide
@[simp] theorem sz_14 : (14 : Nat) ≤ sizeLine := by decide
@[simp] theorem sz_15 : (15 : Nat) ≤ sizeLine := by decide
@[simp] theorem sz_16 : (16 : Nat) ≤ sizeLine := by decide
end Pd

set_option Elab.async false
set_option linter.all false
set_option maxRecDepth 100000
set_option maxHeartbeats 1000000
/-! The layer Pd, part Q: more of the mirrors run by simp. -/
namespace Pd
open PySem PySem.Spec PyProof.Rows L2
section
variable {ρ : EV} {P : Store}
@[simp] theorem gLenA_lst (ds : List PyData) : gLenA [.list ds] = some (.int ds.length) := id rfl
@[simp] theorem gLenA_tup (ds : List PyData) : gLenA [.tuple ds] = some (.int ds.length) := id rfl
theorem gLenA_str {x : Str} (h : x.length ≤ 1000) : gLenA [.str x] = some (.int x.length) := by
  simp only [gLenA, gLen]
  rw [if_pos (Nat.le_trans h (by decide))]; rfl
theorem gLenA_dct (kvs : List (PyData × PyData)) (h : kvs.all (fun p => isKD p.1) = true) : gLenA [.dict kvs] = some (.int kvs.length) := by
  simp [gLenA, gLen, gLenD, -List.all_eq_true, h]
@[simp] theorem gListA_lst (ds : List PyData) : gListA [.list ds] = some (.list ds) := id rfl
@[simp] theorem gListA_tup (ds : List PyData) : gListA [.tuple ds] = some (.list ds) := id rfl
theorem gListA_dct (kvs : List (PyData × PyData)) (h : kvs.all (fun p => isKD p.1) = true) : gListA [.dict kvs] = some (.list (keysD kvs)) := by
  simp [gListA, gList, gListD, -List.all_eq_true, h]
theorem gListA_str {x : Str} (h : x.length ≤ 1000) : gListA [.str x] = some (.list (signsD x)) := by
  simp only [gListA, gList, gListD, gListS]
  rw [if_pos (Nat.le_trans h (by decide))]; rfl
@[simp] theorem mGetD_ap (fd fk fx : XM) : mGetD fd fk fx ρ P = (fd ρ P).bind fun (d, P1) => (dictOf P1 d).bind fun _ => (fk ρ P1).bind fun (k, P2) => (fx ρ P2).bind fun (z, P3) => (flat P3 k).bind fun kd => (dictOf P3 d).bind fun D => (dlook D kd).map fun o => (o.getD z, P3) := id rfl
@[simp] theorem mFmt8_ap (f : XM) : mFmt8 f ρ P = (f ρ P).bind fun (a, P1) => match a with
  | .fz (.int i) => if 0 ≤ i ∧ i < 256 then some (.fz (.str (bin8 i.toNat)), P1) else none
  | _ => none := id rfl
@[simp] theorem mDNewK_ap : mDNewK ρ P = some (.ptr P.length, P ++ [.dK []]) := id rfl
/-- a dict of texts, as data -/
def dctD (l : List (Str × PyData)) : PyData := .dict (l.map fun p => (.str p.1, p.2))
theorem parseK_dct : ∀ l : List (Str × PyData), parseK (l.map fun p => (PyData.str p.1, p.2)) = some (l.map fun p => (Sum.inr p.1, SV.fz p.2))
  | [] => rfl
  | p :: r => by simp [parseK, keyOf, parseK_dct r]
@[simp] theorem dictOf_dct (l : List (Str × PyData)) : dictOf P (.fz (dctD l)) = some (.k (l.map fun p => (Sum.inr p.1, SV.fz p.2))) := by
  simp [dictOf, dctD, parseK_dct]
def lookD (l : List (Str × PyData)) (x : Str) : Option PyData := (l.find? fun p => decide (p.1 = x)).map (·.2)
theorem lookS_dct (l : List (Str × PyData)) (x : Str) : lookS (l.map fun p => ((Sum.inr p.1 : Key), SV.fz p.2)) (Sum.inr x) = (lookD l x).map SV.fz := by
  induction l with
  | nil => rfl
  | cons p r ih =>
    by_cases h : p.1 = x
    · simp [lookS, lookD, List.find?_cons, h]
    · have h2 : ¬ ((Sum.inr p.1 : Key) = Sum.inr x) := fun z => h (Sum.inr.inj z)
      simpa [lookS, lookD, List.find?_cons, h, h2] using ih
theorem dlook_dct (l : List (Str × PyData)) (x : Str) : dlook (.k (l.map fun p => (Sum.inr p.1, SV.fz p.2))) (.str x) = some ((lookD l x).map SV.fz) := by
  simp [dlook, keyOf, lookS_dct]
theorem subOf_dct (l : List (Str × PyData)) (x : Str) : subOf P (.fz (dctD l)) (.str x) = (lookD l x).map SV.fz := by
  simp [subOf, dlook_dct]
theorem inOf_dct (l : List (Str × PyData)) (x : Str) : inOf P (.str x) (.fz (dctD l)) = some (lookD l x).isSome := by
  simp [inOf, dlook_dct]
theorem isKD_dct (l : List (Str × PyData)) : (l.map fun p => (PyData.str p.1, p.2)).all (fun p => isKD p.1) = true := by
  induction l with
  | nil => rfl
  | cons p r ih => simpa [isKD] using ih
theorem keysD_dct (l : List (Str × PyData)) : keysD (l.map fun p => (PyData.str p.1, p.2)) = l.map fun p => .str p.1 := by
  simp [keysD, Function.comp_def]
end
/-! ranges -/
theorem rg2 (n : Nat) (hn : n ≤ 1000) : -(2 ^ 62) ≤ (n : Int) ∧ (n : Int) < 2 ^ 62 := by
  have h1 : (0 : Int) ≤ n := Int.natCast_nonneg n
  have h2 : (n : Int) ≤ 1000 := by omega
  exact ⟨Int.le_trans (by decide) h1, Int.lt_of_le_of_lt h2 (by decide)⟩
def rgF (P1 : Store) (l : List SV) : Option (List PyData × SV × Store) := match l with
  | [.fz (.int j)] => if -(2 ^ 62) ≤ j ∧ j < 2 ^ 62 then some (rangeD 0 j.toNat, .fz .none, P1) else none
  | [.fz (.int i), .fz (.int j)] => if -(2 ^ 62) ≤ i ∧ i < 2 ^ 62 ∧ -(2 ^ 62) ≤ j ∧ j < 2 ^ 62 then some (rangeD i (j - i).toNat, .fz .none, P1) else none
  | _ => none
theorem iR (g : AM) (ρ : EV) (P : Store) : iRange g ρ P = (g ρ P).bind fun x => rgF x.2 x.1 := rfl
theorem rgF1 (P1 : Store) (j : Int) : rgF P1 [.fz (.int j)] = if -(2 ^ 62) ≤ j ∧ j < 2 ^ 62 then some (rangeD 0 j.toNat, .fz .none, P1) else none := rfl
theorem rgF2 (P1 : Store) (j : Int) (h : -(2 ^ 62) ≤ j ∧ j < 2 ^ 62) : rgF P1 [.fz (.int j)] = some (rangeD 0 j.toNat, .fz .none, P1) := by
  rw [rgF1]; exact if_pos h
theorem iRange_nat {g : AM} {ρ : EV} {P P1 : Store} {n : Nat} (hg : g ρ P = some ([.fz (.int n)], P1)) (hn : n ≤ 1000) : iRange g ρ P = some (rangeD 0 n, .fz .none, P1) := by
  rw [iR, hg, Option.bind_some]
  show rgF P1 [.fz (.int n)] = _
  rw [rgF2 P1 n (rg2 n hn), Int.toNat_natCast]
end Pd

set_option Elab.async false
set_option linter.all false
set_option maxRecDepth 100000
set_option maxHeartbeats 1000000
/-! The layer Pd, part R: what a mirror ends with. -/
namespace Pd
open PySem PySem.Spec PyProof.Rows L2
/-- the mirror ends, with something that Q holds of -/
inductive Tg {α : Type} (Q : α → Prop) : Type
  | o | p
/-- (the mark t keeps simp out of Q) -/
def W {α : Type} (x : Option α) (Q : α → Prop) (t : Tg Q := .o) : Prop := ∃ a, x = some a ∧ Q a
section
variable {α β : Type}
@[simp] theorem W_some (a : α) (Q : α → Prop) : W (some a) Q = Q a := propext ⟨fun ⟨_, e, q⟩ => (by cases e; exact q), fun q => ⟨a, rfl, q⟩⟩
@[simp] theorem W_bind (x : Option α) (f : α → Option β) (Q : β → Prop) : W (x.bind f) Q = W x fun a => W (f a) Q := by
  cases x with
  | none => exact propext ⟨fun ⟨_, e, _⟩ => (by cases e), fun ⟨_, e, _⟩ => (by cases e)⟩
  | some a => rw [Option.bind_some, W_some]
@[simp] theorem W_map (x : Option α) (f : α → β) (Q : β → Prop) : W (x.map f) Q = W x fun a => Q (f a) := by
  cases x with
  | none => exact propext ⟨fun ⟨_, e, _⟩ => (by cases e), fun ⟨_, e, _⟩ => (by cases e)⟩
  | some a => rw [Option.map_some, W_some, W_some]
@[simp] theorem W_none (Q : α → Prop) : W none Q = False := propext ⟨fun ⟨_, e, _⟩ => (by cases e), False.elim⟩
theorem W.mono {x : Option α} {Q Q' : α → Prop} (h : W x Q) (q : ∀ a, Q a → Q' a) : W x Q' := let ⟨a, e, h⟩ := h; ⟨a, e, q a h⟩
theorem W.eq {x : Option α} {a : α} (h : x = some a) {Q : α → Prop} (q : Q a) : W x Q := ⟨a, h, q⟩
theorem W.of {x : Option α} {a : α} (h : W x fun b => b = a) : x = some a := let ⟨b, e, h⟩ := h; h ▸ e
/-- two ends of one thing -/
theorem W.two {x : Option α} {Q Q' : α → Prop} (h : W x Q) (h' : W x Q') : W x fun a => Q a ∧ Q' a := by
  obtain ⟨a, e, q⟩ := h
  obtain ⟨b, e', q'⟩ := h'
  rw [e] at e'; cases e'
  exact ⟨a, e, q, q'⟩
end
/-- for, no way out -/
theorem W_for {g : GM} {body : SM} {ρ : EV} {P : Store} {Q : Fl × EV × Store → Prop} {items : List PyData} (I : Nat → EV → Store → Prop) (h0 : I 0 ρ P)
    (hs : ∀ (i : Nat) (d : PyData) (ρ : EV) (P : Store), items[i]? = some d → I i ρ P → W (g (.fz d) ρ P) fun r => W (body r.1 r.2) fun r => (r.1 = .nx ∨ r.1 = .ct) ∧ I (i + 1) r.2.1 r.2.2)
    (hQ : ∀ ρ P, I items.length ρ P → Q (.nx, ρ, P)) : W (forGo g body items ρ P) Q := by
  have key : ∀ (r : List PyData) (i : Nat) (ρ : EV) (P : Store), (∀ j d, r[j]? = some d → items[i + j]? = some d) → i + r.length = items.length → I i ρ P → W (forGo g body r ρ P) Q := by
    intro r
    induction r with
    | nil =>
      intro i ρ P _ hl h
      simp only [forGo, W_some]
      refine hQ ρ P ?_
      rw [← hl]; exact h
    | cons d r ih =>
      intro i ρ P hj hl h
      obtain ⟨⟨ρ1, P1⟩, e1, ⟨fl, ρ2, P2⟩, e2, h3, h4⟩ := hs i d ρ P (hj 0 d rfl) h
      simp only [forGo, e1, Option.bind_some]
      have := ih (i + 1) ρ2 P2 (fun j d' hd => by have := hj (j + 1) d' (by simpa using hd); rw [show i + 1 + j = i + (j + 1) by omega]; exact this) (by simp at hl; omega) h4
      simp only at e2
      rw [e2]
      simp only at h3
      rcases h3 with rfl | rfl
      · exact this
      · exact this
  exact key items 0 ρ P (fun j d h => by simpa using h) (by simp) h0
/-- for, with a way out -/
theorem W_forR {g : GM} {body : SM} {ρ : EV} {P : Store} {Q : Fl × EV × Store → Prop} {items : List PyData} (I : Nat → EV → Store → Prop) (h0 : I 0 ρ P)
    (hs : ∀ (i : Nat) (d : PyData) (ρ : EV) (P : Store), items[i]? = some d → I i ρ P → W (g (.fz d) ρ P) fun r => W (body r.1 r.2) fun r => (r.1 = .nx ∧ I (i + 1) r.2.1 r.2.2) ∨ (r.1 = .ct ∧ I (i + 1) r.2.1 r.2.2) ∨ (r.1 = .bk ∧ Q (.nx, r.2)) ∨ (∃ s, r.1 = .rt s ∧ Q r))
    (hQ : ∀ ρ P, I items.length ρ P → Q (.nx, ρ, P)) : W (forGo g body items ρ P) Q := by
  have key : ∀ (r : List PyData) (i : Nat) (ρ : EV) (P : Store), (∀ j d, r[j]? = some d → items[i + j]? = some d) → i + r.length = items.length → I i ρ P → W (forGo g body r ρ P) Q := by
    intro r
    induction r with
    | nil =>
      intro i ρ P _ hl h
      simp only [forGo, W_some]
      refine hQ ρ P ?_
      rw [← hl]; exact h
    | cons d r ih =>
      intro i ρ P hj hl h
      obtain ⟨⟨ρ1, P1⟩, e1, ⟨fl, ρ2, P2⟩, e2, h3⟩ := hs i d ρ P (hj 0 d rfl) h
      simp only [forGo, e1, Option.bind_some]
      have := fun h4 => ih (i + 1) ρ2 P2 (fun j d' hd => by have := hj (j + 1) d' (by simpa using hd); rw [show i + 1 + j = i + (j + 1) by omega]; exact this) (by simp at hl; omega) h4
      simp only at e2
      rw [e2]
      simp only at h3
      rcases h3 with ⟨rfl, h4⟩ | ⟨rfl, h4⟩ | ⟨rfl, h4⟩ | ⟨s, rfl, h4⟩
      · exact this h4
      · exact this h4
      · exact ⟨_, rfl, h4⟩
      · exact ⟨_, rfl, h4⟩
  exact key items 0 ρ P (fun j d h => by simpa using h) (by simp) h0
/-- what comes behind a turn -/
def whK (c : BM) (body : SM) (n : Nat) : Fl × EV × Store → Option (Fl × EV × Store)
  | (.nx, ρ2, P2) => whGo c body n ρ2 P2
  | (.ct, ρ2, P2) => whGo c body n ρ2 P2
  | (.bk, ρ2, P2) => some (.nx, ρ2, P2)
  | (.rt s, ρ2, P2) => some (.rt s, ρ2, P2)
theorem whGo_t {c : BM} {body : SM} {n : Nat} {ρ : EV} {P P1 : Store} (h : c ρ P = some (true, P1)) : whGo c body (n + 1) ρ P = (body ρ P1).bind (whK c body n) := by
  simp only [whGo, h, Option.bind_some, if_true]
  cases body ρ P1 with
  | none => rfl
  | some r =>
    obtain ⟨fl, ρ2, P2⟩ := r
    cases fl <;> rfl
theorem whGo_T {body : SM} {n : Nat} {ρ : EV} {P : Store} : whGo (mTB (mC (.bool true))) body (n + 1) ρ P = (body ρ P).bind (whK (mTB (mC (.bool true))) body n) := whGo_t rfl
@[simp] theorem whK_nx {c : BM} {body : SM} {n : Nat} {ρ : EV} {P : Store} : whK c body n (.nx, ρ, P) = whGo c body n ρ P := rfl
@[simp] theorem whK_rt {c : BM} {body : SM} {n : Nat} {ρ : EV} {P : Store} {s : SV} : whK c body n (.rt s, ρ, P) = some (.rt s, ρ, P) := rfl
/-- while -/
theorem W_while {c : BM} {body : SM} {Q : Fl × EV × Store → Prop} (I : Nat → EV → Store → Prop)
    (hs : ∀ (k : Nat) (ρ : EV) (P : Store), I k ρ P → W (c ρ P) fun r => if r.1 = true then W (body ρ r.2) fun s => match s.1 with
      | .nx => ∃ j, j < k ∧ I j s.2.1 s.2.2
      | .ct => ∃ j, j < k ∧ I j s.2.1 s.2.2
      | .bk => Q (.nx, s.2)
      | .rt x => Q (.rt x, s.2)
      else Q (.nx, ρ, r.2)) : ∀ {n k : Nat} {ρ : EV} {P : Store}, I k ρ P → k < n → W (whGo c body n ρ P) Q := by
  intro n
  induction n with
  | zero => intro k ρ P _ h; omega
  | succ n ih =>
    intro k ρ P h hk
    obtain ⟨⟨b, P1⟩, e1, h1⟩ := hs k ρ P h
    simp only [whGo, e1, Option.bind_some]
    simp only at h1
    by_cases hb : b = true
    · rw [if_pos hb] at h1 ⊢
      obtain ⟨⟨fl, ρ2, P2⟩, e2, h2⟩ := h1
      rw [e2]
      simp only [Option.bind_some]
      cases fl with
      | nx =>
        obtain ⟨j, hj, h3⟩ := h2
        exact ih h3 (by omega)
      | ct =>
        obtain ⟨j, hj, h3⟩ := h2
        exact ih h3 (by omega)
      | bk => exact ⟨_, rfl, h2⟩
      | rt s => exact ⟨_, rfl, h2⟩
    · rw [if_neg hb] at h1 ⊢
      exact ⟨_, rfl, h1⟩
/-- a comprehension that may change the cells of before -/
theorem W_lc {own : List Nat} {f : IM} {g : GM} {tt : BM} {te : XM} {ρ : EV} {P P1 : Store} {items : List PyData} {src : SV} {Q : SV × Store → Prop} (I : Nat → List PyData → Store → Prop)
    (hf : f ρ P = some (items, src, P1)) (hl : items.length ≤ sizeLine) (h0 : I 0 [] P1)
    (hs : ∀ (i : Nat) (d : PyData) (acc : List PyData) (S : Store), items[i]? = some d → I i acc S → S.length = P1.length → W (g (.fz d) { ρ.wipe own with b := P1.length } (S ++ [.lst (acc.map SV.fz)])) fun r => W (tt r.1 r.2) fun t =>
      if t.1 = true then W (te r.1 t.2) fun u => ∃ z S', u = (.fz z, S' ++ [.lst (acc.map SV.fz)]) ∧ S'.length = P1.length ∧ I (i + 1) (acc ++ [z]) S'
      else ∃ S', t.2 = S' ++ [.lst (acc.map SV.fz)] ∧ S'.length = P1.length ∧ I (i + 1) acc S')
    (hQ : ∀ acc S, I items.length acc S → S.length = P1.length → acc.length ≤ items.length → Q (.fz (.list acc), S)) : W (mLC own f g tt te ρ P) Q := by
  have key : ∀ (r : List PyData) (i : Nat) (acc : List PyData) (S : Store), (∀ j d, r[j]? = some d → items[i + j]? = some d) → i + r.length = items.length → acc.length ≤ i → S.length = P1.length → I i acc S →
      ∃ acc' S', lcGo g tt te { ρ.wipe own with b := P1.length } P1.length r (S ++ [.lst (acc.map SV.fz)]) = some (S' ++ [.lst (acc'.map SV.fz)]) ∧ I items.length acc' S' ∧ S'.length = P1.length ∧ acc'.length ≤ items.length := by
    intro r
    induction r with
    | nil =>
      intro i acc S _ hl ha hS h
      simp only [List.length_nil, Nat.add_zero] at hl
      exact ⟨acc, S, rfl, by rw [← hl]; exact h, hS, by omega⟩
    | cons d r ih =>
      intro i acc S hj hl ha hS h
      simp only [List.length_cons] at hl
      have hj' : ∀ j d', r[j]? = some d' → items[i + 1 + j]? = some d' := fun j d' hd => by have := hj (j + 1) d' (by simpa using hd); rw [show i + 1 + j = i + (j + 1) by omega]; exact this
      obtain ⟨⟨ρ1, S1⟩, e1, ⟨b, S2⟩, e2, h3⟩ := hs i d acc S (hj 0 d rfl) h hS
      simp only at e2 h3
      simp only [lcGo, e1, e2, Option.bind_some]
      by_cases hb : b = true
      · rw [if_pos hb] at h3 ⊢
        obtain ⟨⟨s, S3⟩, e3, z, S', e4, hS', h4⟩ := h3
        cases e4
        have hn : (S' ++ [Cell.lst (acc.map SV.fz)])[P1.length]? = some (.lst (acc.map SV.fz)) := by rw [← hS']; simp
        have hset : (S' ++ [Cell.lst (acc.map SV.fz)]).set P1.length (.lst (acc.map SV.fz ++ [.fz z])) = S' ++ [.lst ((acc ++ [z]).map SV.fz)] := by
          rw [← hS', List.set_append_right _ _ (Nat.le_refl _)]; simp
        simp only [e3, Option.bind_some, hn]
        rw [if_pos (by simp; omega), hset]
        exact ih (i + 1) (acc ++ [z]) S' hj' (by omega) (by simp; omega) hS' h4
      · rw [if_neg hb] at h3 ⊢
        obtain ⟨S', e4, hS', h4⟩ := h3
        subst e4
        exact ih (i + 1) acc S' hj' (by omega) (by omega) hS' h4
  obtain ⟨acc, S, e, h, hS, ha⟩ := key items 0 [] P1 (fun j d h => by simpa using h) (by simp) (Nat.le_refl _) rfl h0
  refine ⟨(.fz (.list acc), S), ?_, hQ acc S h hS ha⟩
  simp only [List.map_nil] at e
  have hn : (S ++ [Cell.lst (acc.map SV.fz)])[P1.length]? = some (.lst (acc.map SV.fz)) := by rw [← hS]; simp
  simp only [mLC, hf, Option.bind_some, e, hn, fzs_map, Option.map_some]
  rw [← hS]
  simp
/-- of a def: its body ends with a value, the cells of before stay -/
theorem W_fun {ex : Nat → SV → Store → Option (SV × Store)} {nN : Nat} {body : SM} {args : List SV} {P : Store} {Q : SV × Store → Prop}
    (h : W (body { b := P.length, sl := startE nN args } P) fun r => match r.1 with
      | .rt s => W (ex P.length s r.2.2) Q
      | .nx => W (ex P.length (.fz .none) r.2.2) Q
      | _ => False) : W (mFun ex nN body args P) Q := by
  obtain ⟨⟨fl, ρ, P2⟩, e, h⟩ := h
  rw [mFun_ap, e, Option.bind_some]
  cases fl with
  | rt s => exact h
  | nx => exact h
  | bk => exact h.elim
  | ct => exact h.elim
end Pd

set_option Elab.async false
set_option linter.all false
set_option maxRecDepth 100000
set_option maxHeartbeats 4000000
namespace NS
open PySem PySem.Spec PyProof.Rows L2 Pd
/-! ### the text: routesrest_k42_whole_fates_of_packets -/
def topS (i : Nat) : Stmt := PySem.Challenge.pw_routesrest_k42_whole_fates_of_packets.main.body.getD i (.Pass ⟨0, 0, 0, 0⟩)
abbrev s__law_address : Stmt := topS 17
abbrev n__law_address : List Str := ["number", "found", "k"]
theorem sc__law_address : FnScope n__law_address ["number"] (defScope s__law_address) := ⟨rfl, rfl, rfl, by decide +kernel, rfl, by decide +kernel, by decide +kernel⟩
abbrev s__law_copied : Stmt := topS 13
abbrev n__law_copied : List Str := ["value", "parts", "found", "key", "one"]
theorem sc__law_copied : FnScope n__law_copied ["value"] (defScope s__law_copied) := ⟨rfl, rfl, rfl, by decide +kernel, rfl, by decide +kernel, by decide +kernel⟩
abbrev s__law_draws : Stmt := topS 9
abbrev n__law_draws : List Str := ["cells", "numbers", "cell", "seed", "k", "mixed"]
theorem sc__law_draws : FnScope n__law_draws ["cells"] (defScope s__law_draws) := ⟨rfl, rfl, rfl, by decide +kernel, rfl, by decide +kernel, by decide +kernel⟩
abbrev s__law_longest : Stmt := topS 18
abbrev n__law_longest : List Str := ["rows", "address", "size"]
theorem sc__law_longest : FnScope n__law_longest ["rows", "address"] (defScope s__law_longest) := ⟨rfl, rfl, rfl, by decide +kernel, rfl, by decide +kernel, by decide +kernel⟩
abbrev s__law_fate : Stmt := topS 19
abbrev n__law_fate : List Str := ["tables", "name", "address", "walk", "here", "rows", "prefix"]
theorem sc__law_fate : FnScope n__law_fate ["tables", "name", "address"] (defScope s__law_fate) := ⟨rfl, rfl, rfl, by decide +kernel, rfl, by decide +kernel, by decide +kernel⟩
abbrev s__law_next : Stmt := topS 10
abbrev n__law_next : List Str := ["state", "bound", "number"]
theorem sc__law_next : FnScope n__law_next ["state", "bound"] (defScope s__law_next) := ⟨rfl, rfl, rfl, by decide +kernel, rfl, by decide +kernel, by decide +kernel⟩
abbrev s__law_mixed : Stmt := topS 14
abbrev n__law_mixed : List Str := ["state", "things", "found", "thing", "at"]
theorem sc__law_mixed : FnScope n__law_mixed ["state", "things"] (defScope s__law_mixed) := ⟨rfl, rfl, rfl, by decide +kernel, rfl, by decide +kernel, by decide +kernel⟩
abbrev s__law_pick : Stmt := topS 11
abbrev n__law_pick : List Str := ["state", "things"]
theorem sc__law_pick : FnScope n__law_pick ["state", "things"] (defScope s__law_pick) := ⟨rfl, rfl, rfl, by decide +kernel, rfl, by decide +kernel, by decide +kernel⟩
abbrev s__law_names : Stmt := topS 15
abbrev n__law_names : List Str := ["state", "many", "letters", "found", "letter", "name", "k", "taken"]
theorem sc__law_names : FnScope n__law_names ["state", "many"] (defScope s__law_names) := ⟨rfl, rfl, rfl, by decide +kernel, rfl, by decide +kernel, by decide +kernel⟩
abbrev s__law_near_address : Stmt := topS 22
abbrev n__law_near_address : List Str := ["state", "tables", "prefixes", "name", "found"]
theorem sc__law_near_address : FnScope n__law_near_address ["state", "tables"] (defScope s__law_near_address) := ⟨rfl, rfl, rfl, by decide +kernel, rfl, by decide +kernel, by decide +kernel⟩
abbrev s__law_same : Stmt := topS 12
abbrev n__law_same : List Str := ["one", "other", "k", "key"]
theorem sc__law_same : FnScope n__law_same ["one", "other"] (defScope s__law_same) := ⟨rfl, rfl, rfl, by decide +kernel, rfl, by decide +kernel, by decide +kernel⟩
abbrev s__law_stretches : Stmt := topS 20
abbrev n__law_stretches : List Str := ["rows", "found", "k"]
theorem sc__law_stretches : FnScope n__law_stretches ["rows"] (defScope s__law_stretches) := ⟨rfl, rfl, rfl, by decide +kernel, rfl, by decide +kernel, by decide +kernel⟩
abbrev s__law_prefix : Stmt := topS 16
abbrev n__law_prefix : List Str := ["state", "found", "k"]
theorem sc__law_prefix : FnScope n__law_prefix ["state"] (defScope s__law_prefix) := ⟨rfl, rfl, rfl, by decide +kernel, rfl, by decide +kernel, by decide +kernel⟩
abbrev s__law_tables : Stmt := topS 21
abbrev n__law_tables : List Str := ["state", "names", "tables", "base", "name", "rows", "k", "prefix"]
theorem sc__law_tables : FnScope n__law_tables ["state", "names"] (defScope s__law_tables) := ⟨rfl, rfl, rfl, by decide +kernel, rfl, by decide +kernel, by decide +kernel⟩
abbrev s_covers : Stmt := topS 1
abbrev n_covers : List Str := ["prefix", "other"]
theorem sc_covers : FnScope n_covers ["prefix", "other"] (defScope s_covers) := ⟨rfl, rfl, rfl, by decide +kernel, rfl, by decide +kernel, by decide +kernel⟩
abbrev s_longest : Stmt := topS 2
abbrev n_longest : List Str := ["prefixes", "address", "found", "prefix"]
theorem sc_longest : FnScope n_longest ["prefixes", "address"] (defScope s_longest) := ⟨rfl, rfl, rfl, by decide +kernel, rfl, by decide +kernel, by decide +kernel⟩
abbrev s_fate : Stmt := topS 6
abbrev n_fate : List Str := ["tables", "router", "address", "walk", "table", "prefix"]
theorem sc_fate : FnScope n_fate ["tables", "router", "address"] (defScope s_fate) := ⟨rfl, rfl, rfl, by decide +kernel, rfl, by decide +kernel, by decide +kernel⟩
abbrev s_address_of : Stmt := topS 5
abbrev n_address_of : List Str := ["number"]
theorem sc_address_of : FnScope n_address_of ["number"] (defScope s_address_of) := ⟨rfl, rfl, rfl, by decide +kernel, rfl, by decide +kernel, by decide +kernel⟩
abbrev s_stretches : Stmt := topS 7
abbrev n_stretches : List Str := ["tables", "router", "found", "number", "address", "told"]
theorem sc_stretches : FnScope n_stretches ["tables", "router"] (defScope s_stretches) := ⟨rfl, rfl, rfl, by decide +kernel, rfl, by decide +kernel, by decide +kernel⟩
abbrev s_law : Stmt := topS 23
abbrev n_law : List Str := ["script", "state", "turn", "names", "tables", "handed", "ask", "name", "address", "rows", "k"]
theorem sc_law : FnScope n_law ["script"] (defScope s_law) := ⟨rfl, rfl, rfl, by decide +kernel, rfl, by decide +kernel, by decide +kernel⟩
structure Txt (K : PySem.W.Frag) (mg : Str → Option Value) where
  a__law_address : Addr
  d__law_address : FuncData
  F__law_address : L2.Fun K "_law_address" "_law_address" s__law_address a__law_address d__law_address
  m__law_address : mg "_law_address" = some (.ref a__law_address)
  b__law_address : Binds K d__law_address ["number"] []
  a__law_copied : Addr
  d__law_copied : FuncData
  F__law_copied : L2.Fun K "_law_copied" "_law_copied" s__law_copied a__law_copied d__law_copied
  m__law_copied : mg "_law_copied" = some (.ref a__law_copied)
  b__law_copied : Binds K d__law_copied ["value"] []
  a__law_draws : Addr
  d__law_draws : FuncData
  F__law_draws : L2.Fun K "_law_draws" "_law_draws" s__law_draws a__law_draws d__law_draws
  m__law_draws : mg "_law_draws" = some (.ref a__law_draws)
  b__law_draws : Binds K d__law_draws ["cells"] []
  a__law_longest : Addr
  d__law_longest : FuncData
  F__law_longest : L2.Fun K "_law_longest" "_law_longest" s__law_longest a__law_longest d__law_longest
  m__law_longest : mg "_law_longest" = some (.ref a__law_longest)
  b__law_longest : Binds K d__law_longest ["rows", "address"] []
  a__law_fate : Addr
  d__law_fate : FuncData
  F__law_fate : L2.Fun K "_law_fate" "_law_fate" s__law_fate a__law_fate d__law_fate
  m__law_fate : mg "_law_fate" = some (.ref a__law_fate)
  b__law_fate : Binds K d__law_fate ["tables", "name", "address"] []
  a__law_next : Addr
  d__law_next : FuncData
  F__law_next : L2.Fun K "_law_next" "_law_next" s__law_next a__law_next d__law_next
  m__law_next : mg "_law_next" = some (.ref a__law_next)
  b__law_next : Binds K d__law_next ["state", "bound"] []
  a__law_mixed : Addr
  d__law_mixed : FuncData
  F__law_mixed : L2.Fun K "_law_mixed" "_law_mixed" s__law_mixed a__law_mixed d__law_mixed
  m__law_mixed : mg "_law_mixed" = some (.ref a__law_mixed)
  b__law_mixed : Binds K d__law_mixed ["state", "things"] []
  a__law_pick : Addr
  d__law_pick : FuncData
  F__law_pick : L2.Fun K "_law_pick" "_law_pick" s__law_pick a__law_pick d__law_pick
  m__law_pick : mg "_law_pick" = some (.ref a__law_pick)
  b__law_pick : Binds K d__law_pick ["state", "things"] []
  a__law_names : Addr
  d__law_names : FuncData
  F__law_names : L2.Fun K "_law_names" "_law_names" s__law_names a__law_names d__law_names
  m__law_names : mg "_law_names" = some (.ref a__law_names)
  b__law_names : Binds K d__law_names ["state", "many"] []
  a__law_near_address : Addr
  d__law_near_address : FuncData
  F__law_near_address : L2.Fun K "_law_near_address" "_law_near_address" s__law_near_address a__law_near_address d__law_near_address
  m__law_near_address : mg "_law_near_address" = some (.ref a__law_near_address)
  b__law_near_address : Binds K d__law_near_address ["state", "tables"] []
  a__law_same : Addr
  d__law_same : FuncData
  F__law_same : L2.Fun K "_law_same" "_law_same" s__law_same a__law_same d__law_same
  m__law_same : mg "_law_same" = some (.ref a__law_same)
  b__law_same : Binds K d__law_same ["one", "other"] []
  a__law_stretches : Addr
  d__law_stretches : FuncData
  F__law_stretches : L2.Fun K "_law_stretches" "_law_stretches" s__law_stretches a__law_stretches d__law_stretches
  m__law_stretches : mg "_law_stretches" = some (.ref a__law_stretches)
  b__law_stretches : Binds K d__law_stretches ["rows"] []
  a__law_prefix : Addr
  d__law_prefix : FuncData
  F__law_prefix : L2.Fun K "_law_prefix" "_law_prefix" s__law_prefix a__law_prefix d__law_prefix
  m__law_prefix : mg "_law_prefix" = some (.ref a__law_prefix)
  b__law_prefix : Binds K d__law_prefix ["state"] []
  a__law_tables : Addr
  d__law_tables : FuncData
  F__law_tables : L2.Fun K "_law_tables" "_law_tables" s__law_tables a__law_tables d__law_tables
  m__law_tables : mg "_law_tables" = some (.ref a__law_tables)
  b__law_tables : Binds K d__law_tables ["state", "names"] []
  a_covers : Addr
  d_covers : FuncData
  F_covers : L2.Fun K "covers" "covers" s_covers a_covers d_covers
  m_covers : mg "covers" = some (.ref a_covers)
  b_covers : Binds K d_covers ["prefix", "other"] []
  a_longest : Addr
  d_longest : FuncData
  F_longest : L2.Fun K "longest" "longest" s_longest a_longest d_longest
  m_longest : mg "longest" = some (.ref a_longest)
  b_longest : Binds K d_longest ["prefixes", "address"] []
  a_fate : Addr
  d_fate : FuncData
  F_fate : L2.Fun K "fate" "fate" s_fate a_fate d_fate
  m_fate : mg "fate" = some (.ref a_fate)
  b_fate : Binds K d_fate ["tables", "router", "address"] []
  a_address_of : Addr
  d_address_of : FuncData
  F_address_of : L2.Fun K "address_of" "address_of" s_address_of a_address_of d_address_of
  m_address_of : mg "address_of" = some (.ref a_address_of)
  b_address_of : Binds K d_address_of ["number"] []
  a_stretches : Addr
  d_stretches : FuncData
  F_stretches : L2.Fun K "stretches" "stretches" s_stretches a_stretches d_stretches
  m_stretches : mg "stretches" = some (.ref a_stretches)
  b_stretches : Binds K d_stretches ["tables", "router"] []
  a_law : Addr
  d_law : FuncData
  F_law : L2.Fun K "law" "law" s_law a_law d_law
  m_law : mg "law" = some (.ref a_law)
  b_law : Binds K d_law ["script"] []
  z_all : mg "all" = none
  z_bool : mg "bool" = none
  z_dict : mg "dict" = none
  z_int : mg "int" = none
  z_isinstance : mg "isinstance" = none
  z_len : mg "len" = none
  z_list : mg "list" = none
  z_range : mg "range" = none
  z_str : mg "str" = none
  z_tuple : mg "tuple" = none
  t_ADDRESSES : Tok
  c_ADDRESSES : mg "ADDRESSES" = some (.int 256 t_ADDRESSES)
section
variable {P : Program} {w : World} {K : PySem.W.Frag} {mg : Str → Option Value} {base : Heap}
def b__law_address : SM := (sSeq (sSet 1 (mC (.str "")))
  (sSeq (sFor (iRange (aCons (mC (.int 8)) aNil)) (gNm 2) (sSeq (sSet 1 (mBin dAdd (mCall gStr (aCons (mBin dMod (mCall gInt (aCons (mVar 0) aNil)) (mC (.int 2))) aNil)) (mVar 1)))
  (sSet 0 (mBin dDiv (mVar 0) (mC (.int 2))))))
  (sRet (mVar 1))))
def m__law_address : FM := mFun exitZ 3 b__law_address
theorem ok__law_address (T : Txt K mg)  : FnOk P w K mg base CX0 1 T.a__law_address T.d__law_address ["number"] (spM K m__law_address 1) := by
  refine fn_m (k := 0) (N := n__law_address) exitZ_ok T.F__law_address sc__law_address rfl rfl (by decide) fun cdv A outer s H E hr => ?_
  have hu := hu65 hr
  unfold b__law_address
  exact (pssd_cons (psd_set (i := 1) sc__law_address.nd rfl (by first | exact .inl rfl | exact .inr rfl) ped_str)
    (pssd_cons (psd_for PassesOwn.never rfl (pid_range1 (by rfl) T.z_range ped_int) (pgd_name (i := 2) sc__law_address.nd rfl (by first | exact .inl rfl | exact .inr rfl)) (pssd_cons (psd_set (i := 1) sc__law_address.nd rfl (by first | exact .inl rfl | exact .inr rfl) (ped_bin opd_add (ped_callT calld_str (by rfl) T.z_str (by decide +kernel) (pad_cons (ped_bin opd_mod (ped_callT calld_int (by rfl) T.z_int (by decide +kernel) (pad_cons (ped_var 0) pad_nil)) ped_int) pad_nil)) (ped_var 1)))
    (pssd_one (psd_set (i := 0) sc__law_address.nd rfl (by first | exact .inl rfl | exact .inr rfl) (ped_bin opd_div (ped_var 0) ped_int)))))
    (pssd_one (psd_ret (ped_var 1)))))
def b__law_copied (self : FM) : SM := (sSeq (sIf (mOrB (mTB (mIs (inst .list) (mVar 0))) (mTB (mIs (inst .tuple) (mVar 0)))) (sSeq (sSet 1 (mLC [4] (iAny (mVar 0)) (gNm 4) bYes (mCallF self (aCons (mVar 4) aNil))))
  (sRet (mIfE (mTB (mIs (inst .tuple) (mVar 0))) (mCall gTuple (aCons (mVar 1) aNil)) (mVar 1)))) sNx)
  (sSeq (sIf (mNotB (mTB (mIs (inst .dict) (mVar 0)))) (sRet (mVar 0)) sNx)
  (sSeq (sSet 2 mDNewK)
  (sSeq (sFor (iAny (mVar 0)) (gNm 3) (sDPut (mVar 2) (mVar 3) (mCallF self (aCons (mSub (mVar 0) (mVar 3)) aNil))))
  (sRet (mVar 2))))))
def m__law_copied : Nat → FM
  | 0 => fun _ _ => none
  | n + 1 => mFun exitZ 5 (b__law_copied (m__law_copied n))
theorem ok__law_copied (T : Txt K mg)  : ∀ n : Nat, FnOk P w K mg base CX0 (0 + n) T.a__law_copied T.d__law_copied ["value"] (spM K (m__law_copied n) 1)
  | 0 => fn_none fun _ _ => rfl
  | n + 1 => by
    have ih := ok__law_copied T  n
    refine fn_m (k := 0 + n) (N := n__law_copied) exitZ_ok T.F__law_copied sc__law_copied rfl rfl (by decide) fun cdv A outer s H E hr => ?_
    have hu := hu65 hr
    unfold b__law_copied
    exact (pssd_cons (psd_if (PWd.pt (pwd_or (ptd_val (ped_isi (T := .list) (by rfl) T.z_isinstance (by rfl) T.z_list (by decide +kernel) (ped_var 0))) (pwd_or1 (ptd_val (ped_isi (T := .tuple) (by rfl) T.z_isinstance (by rfl) T.z_tuple (by decide +kernel) (ped_var 0)))))) (pssd_cons (psd_setLc (i := 1) rfl sc__law_copied.nd rfl rfl (sw_true rfl rfl rfl (by decide +kernel)) (own := [("one", 4)]) (pid_any (ped_var 0)) (blkOk_by (own := [("one", 4)]) (N := n__law_copied) (sc := defScope s__law_copied) (by decide +kernel)) (fun _ _ _ _ _ => (pgd_name (i := 4) sc__law_copied.nd rfl (by first | exact .inl rfl | exact .inr rfl))) (fun _ _ _ _ _ => ptsd_nil) (fun _ _ _ _ _ => (ped_call ih hr (by rfl) T.m__law_copied T.F__law_copied.kp T.b__law_copied (pad_cons (ped_var 4) pad_nil) (alen_cons alen_nil))))
    (pssd_one (psd_ret (ped_if (ptd_val (ped_isi (T := .tuple) (by rfl) T.z_isinstance (by rfl) T.z_tuple (by decide +kernel) (ped_var 0))) (ped_callT calld_tuple (by rfl) T.z_tuple (by decide +kernel) (pad_cons (ped_var 1) pad_nil)) (ped_var 1))))) pssd_nil)
    (pssd_cons (psd_if (ptd_not (ptd_val (ped_isi (T := .dict) (by rfl) T.z_isinstance (by rfl) T.z_dict (by decide +kernel) (ped_var 0)))) (pssd_one (psd_ret (ped_var 0))) pssd_nil)
    (pssd_cons (psd_set (i := 2) sc__law_copied.nd rfl (by first | exact .inl rfl | exact .inr rfl) ped_dnewK)
    (pssd_cons (psd_for PassesOwn.never rfl (pid_any (ped_var 0)) (pgd_name (i := 3) sc__law_copied.nd rfl (by first | exact .inl rfl | exact .inr rfl)) (pssd_one (psd_dput hu (ped_var 2) (ped_var 3) (ped_call ih hr (by rfl) T.m__law_copied T.F__law_copied.kp T.b__law_copied (pad_cons (ped_sub hu (ped_var 0) (ped_var 3) (fun _ _ => rfl)) pad_nil) (alen_cons alen_nil)))))
    (pssd_one (psd_ret (ped_var 2)))))))
def b__law_draws : SM := (sSeq (sSet 1 (mLstC aNil))
  (sSeq (sFor (iAny (mVar 0)) (gNm 2) (sSeq (sSet 3 (mBin dMod (mCall gInt (aCons (mVar 2) aNil)) (mC (.int 2147483647))))
  (sFor (iRange (aCons (mC (.int 40)) aNil)) (gNm 4) (sSeq (sSet 3 (mBin dMod (mCall gInt (aCons (mBin dAdd (mBin dAdd (mBin dMulI (mVar 3) (mC (.int 48271))) (mC (.int 12345))) (mVar 4)) aNil)) (mC (.int 2147483647))))
  (sSeq (sSet 5 (mBin dMod (mCall gInt (aCons (mBin dAdd (mBin dMulI (mVar 3) (mC (.int 69621))) (mBin dMulI (mC (.int 977)) (mVar 4))) aNil)) (mC (.int 2147483629))))
  (sSeq (sEx (mApp (mVar 1) (mIfE (mTB (mBin dGe (mVar 2) (mBin dPow (mC (.int 10)) (mC (.int 18))))) (mBin dMod (mCall gInt (aCons (mVar 2) aNil)) (mC (.int 1048576))) (mBin dMod (mCall gInt (aCons (mBin dDiv (mVar 5) (mC (.int 3))) aNil)) (mC (.int 1048576))))))
  (sSet 2 (mIfE (mTB (mBin dGe (mVar 2) (mBin dPow (mC (.int 10)) (mC (.int 18))))) (mBin dDiv (mVar 2) (mC (.int 1048576))) (mVar 2)))))))))
  (sRet (mDisp (dCons (mC (.str "numbers")) (mFz (mVar 1)) (dCons (mC (.str "at")) (mC (.int 0)) dNil))))))
def m__law_draws : FM := mFun exitC 6 b__law_draws
theorem ok__law_draws (T : Txt K mg)  : FnOk P w K mg base CX0 1 T.a__law_draws T.d__law_draws ["cells"] (spM K m__law_draws 1) := by
  refine fn_m (k := 0) (N := n__law_draws) exitC_ok T.F__law_draws sc__law_draws rfl rfl (by decide) fun cdv A outer s H E hr => ?_
  have hu := hu65 hr
  unfold b__law_draws
  exact (pssd_cons (psd_set (i := 1) sc__law_draws.nd rfl (by first | exact .inl rfl | exact .inr rfl) (ped_lstC pad_nil))
    (pssd_cons (psd_for PassesOwn.never rfl (pid_any (ped_var 0)) (pgd_name (i := 2) sc__law_draws.nd rfl (by first | exact .inl rfl | exact .inr rfl)) (pssd_cons (psd_set (i := 3) sc__law_draws.nd rfl (by first | exact .inl rfl | exact .inr rfl) (ped_bin opd_mod (ped_callT calld_int (by rfl) T.z_int (by decide +kernel) (pad_cons (ped_var 2) pad_nil)) ped_int))
    (pssd_one (psd_for PassesOwn.never rfl (pid_range1 (by rfl) T.z_range ped_int) (pgd_name (i := 4) sc__law_draws.nd rfl (by first | exact .inl rfl | exact .inr rfl)) (pssd_cons (psd_set (i := 3) sc__law_draws.nd rfl (by first | exact .inl rfl | exact .inr rfl) (ped_bin opd_mod (ped_callT calld_int (by rfl) T.z_int (by decide +kernel) (pad_cons (ped_bin opd_add (ped_bin opd_add (ped_bin opd_mulI (ped_var 3) ped_int) ped_int) (ped_var 4)) pad_nil)) ped_int))
    (pssd_cons (psd_set (i := 5) sc__law_draws.nd rfl (by first | exact .inl rfl | exact .inr rfl) (ped_bin opd_mod (ped_callT calld_int (by rfl) T.z_int (by decide +kernel) (pad_cons (ped_bin opd_add (ped_bin opd_mulI (ped_var 3) ped_int) (ped_bin opd_mulI ped_int (ped_var 4))) pad_nil)) ped_int))
    (pssd_cons (psd_expr (ped_append (ped_var 1) (ped_if (ptd_cmp opd_ge (ped_var 2) (ped_bin opd_pow ped_int ped_int) (nomark _)) (ped_bin opd_mod (ped_callT calld_int (by rfl) T.z_int (by decide +kernel) (pad_cons (ped_var 2) pad_nil)) ped_int) (ped_bin opd_mod (ped_callT calld_int (by rfl) T.z_int (by decide +kernel) (pad_cons (ped_bin opd_div (ped_var 5) ped_int) pad_nil)) ped_int))))
    (pssd_one (psd_set (i := 2) sc__law_draws.nd rfl (by first | exact .inl rfl | exact .inr rfl) (ped_if (ptd_cmp opd_ge (ped_var 2) (ped_bin opd_pow ped_int ped_int) (nomark _)) (ped_bin opd_div (ped_var 2) ped_int) (ped_var 2)))))))))))
    (pssd_one (psd_ret (ped_disp (ppd_cons ped_str (ped_fz (ped_var 1)) (ppd_cons ped_str ped_int ppd_nil)))))))
def b__law_longest : SM := (sSeq (sFor (iRange3 (aCons (mC (.int 8)) (aCons (mUn dNeg (mC (.int 1))) (aCons (mUn dNeg (mC (.int 1))) aNil)))) (gNm 2) (sIf (mTB (mIn false (mSl (mVar 1) oNone (oSome (mVar 2))) (mVar 0))) (sRet (mSl (mVar 1) oNone (oSome (mVar 2)))) sNx))
  (sRet (mC .none)))
def m__law_longest : FM := mFun exitZ 3 b__law_longest
theorem ok__law_longest (T : Txt K mg)  : FnOk P w K mg base CX0 1 T.a__law_longest T.d__law_longest ["rows", "address"] (spM K m__law_longest 2) := by
  refine fn_m (k := 0) (N := n__law_longest) exitZ_ok T.F__law_longest sc__law_longest rfl rfl (by decide) fun cdv A outer s H E hr => ?_
  have hu := hu65 hr
  unfold b__law_longest
  exact (pssd_cons (psd_for PassesOwn.never rfl (pid_range3 (by rfl) T.z_range ped_int (ped_neg ped_int) (ped_neg ped_int)) (pgd_name (i := 2) sc__law_longest.nd rfl (by first | exact .inl rfl | exact .inr rfl)) (pssd_one (psd_if (ptd_in hu (ped_sl (ped_var 1) pod_none (pod_some (ped_var 2))) (ped_var 0)) (pssd_one (psd_ret (ped_sl (ped_var 1) pod_none (pod_some (ped_var 2))))) pssd_nil)))
    (pssd_one (psd_ret ped_non)))
def b__law_fate : SM := (sSeq (sSet 3 (mLstC (aCons (mVar 1) aNil)))
  (whGo (mTB (mC (.bool true))) (sSeq (sSet 4 (mSub (mVar 3) (mUn dNeg (mC (.int 1)))))
  (sSeq (sSet 5 (mIfE (mTB (mIn false (mVar 4) (mVar 0))) (mSub (mVar 0) (mVar 4)) mDNewK))
  (sSeq (sSet 6 (mCallF m__law_longest (aCons (mVar 5) (aCons (mVar 2) aNil))))
  (sSeq (sIf (mTB (mIn false (mVar 4) (mSl (mVar 3) oNone (oSome (mUn dNeg (mC (.int 1))))))) (sRet (mTup (aCons (mC (.str "ring")) (aCons (mCall gTuple (aCons (mVar 3) aNil)) (aCons (mVar 6) aNil))))) sNx)
  (sSeq (sIf (mTB (mBin (dIs false) (mVar 6) (mC .none))) (sRet (mTup (aCons (mC (.str "norow")) (aCons (mCall gTuple (aCons (mVar 3) aNil)) (aCons (mC .none) aNil))))) sNx)
  (sSeq (sIf (mTB (mBin dEq (mSub (mVar 5) (mVar 6)) (mVar 4))) (sRet (mTup (aCons (mC (.str "home")) (aCons (mCall gTuple (aCons (mVar 3) aNil)) (aCons (mVar 6) aNil))))) sNx)
  (sEx (mApp (mVar 3) (mSub (mVar 5) (mVar 6)))))))))) 100000))
def m__law_fate : FM := mFun exitZ 7 b__law_fate
theorem ok__law_fate (T : Txt K mg) (G__law_longest : FnOk P w K mg base CX0 1 T.a__law_longest T.d__law_longest ["rows", "address"] (spM K m__law_longest 2)) : FnOk P w K mg base CX0 2 T.a__law_fate T.d__law_fate ["tables", "name", "address"] (spM K m__law_fate 3) := by
  refine fn_m (k := 1) (N := n__law_fate) exitZ_ok T.F__law_fate sc__law_fate rfl rfl (by decide) fun cdv A outer s H E hr => ?_
  have hu := hu65 hr
  unfold b__law_fate
  exact (pssd_cons (psd_set (i := 3) sc__law_fate.nd rfl (by first | exact .inl rfl | exact .inr rfl) (ped_lstC (pad_cons (ped_var 1) pad_nil)))
    (pssd_one (psd_while 100000 PassesOwn.never (ptd_val ped_bl) (pssd_cons (psd_set (i := 4) sc__law_fate.nd rfl (by first | exact .inl rfl | exact .inr rfl) (ped_sub hu (ped_var 3) (ped_neg ped_int) (fun _ _ => rfl)))
    (pssd_cons (psd_set (i := 5) sc__law_fate.nd rfl (by first | exact .inl rfl | exact .inr rfl) (ped_if (ptd_in hu (ped_var 4) (ped_var 0)) (ped_sub hu (ped_var 0) (ped_var 4) (fun _ _ => rfl)) ped_dnewK))
    (pssd_cons (psd_set (i := 6) sc__law_fate.nd rfl (by first | exact .inl rfl | exact .inr rfl) (ped_call G__law_longest (hr.mono (by omega)) (by rfl) T.m__law_longest T.F__law_longest.kp T.b__law_longest (pad_cons (ped_var 5) (pad_cons (ped_var 2) pad_nil)) (alen_cons (alen_cons alen_nil))))
    (pssd_cons (psd_if (ptd_in hu (ped_var 4) (ped_sl (ped_var 3) pod_none (pod_some (ped_neg ped_int)))) (pssd_one (psd_ret (ped_tup (pad_cons ped_str (pad_cons (ped_callT calld_tuple (by rfl) T.z_tuple (by decide +kernel) (pad_cons (ped_var 3) pad_nil)) (pad_cons (ped_var 6) pad_nil)))))) pssd_nil)
    (pssd_cons (psd_if (ptd_cmp opd_is (ped_var 6) ped_non (nomark _)) (pssd_one (psd_ret (ped_tup (pad_cons ped_str (pad_cons (ped_callT calld_tuple (by rfl) T.z_tuple (by decide +kernel) (pad_cons (ped_var 3) pad_nil)) (pad_cons ped_non pad_nil)))))) pssd_nil)
    (pssd_cons (psd_if (ptd_cmp (opd_eq hu) (ped_sub hu (ped_var 5) (ped_var 6) (fun _ _ => rfl)) (ped_var 4) (nomark _)) (pssd_one (psd_ret (ped_tup (pad_cons ped_str (pad_cons (ped_callT calld_tuple (by rfl) T.z_tuple (by decide +kernel) (pad_cons (ped_var 3) pad_nil)) (pad_cons (ped_var 6) pad_nil)))))) pssd_nil)
    (pssd_one (psd_expr (ped_append (ped_var 3) (ped_sub hu (ped_var 5) (ped_var 6) (fun _ _ => rfl))))))))))))))
def b__law_next : SM := (sSeq (sSet 2 (mBin dAdd (mSub (mSub (mVar 0) (mC (.str "numbers"))) (mBin dMod (mCall gInt (aCons (mSub (mVar 0) (mC (.str "at"))) aNil)) (mCall gLenA (aCons (mSub (mVar 0) (mC (.str "numbers"))) aNil)))) (mBin dDiv (mCall gInt (aCons (mSub (mVar 0) (mC (.str "at"))) aNil)) (mCall gLenA (aCons (mSub (mVar 0) (mC (.str "numbers"))) aNil)))))
  (sSeq (sDPut (mVar 0) (mC (.str "at")) (mBin dAdd (mSub (mVar 0) (mC (.str "at"))) (mC (.int 1))))
  (sRet (mBin dMod (mCall gInt (aCons (mVar 2) aNil)) (mVar 1)))))
def m__law_next : FM := mFun exitZ 3 b__law_next
theorem ok__law_next (T : Txt K mg)  : FnOk P w K mg base CX0 1 T.a__law_next T.d__law_next ["state", "bound"] (spM K m__law_next 2) := by
  refine fn_m (k := 0) (N := n__law_next) exitZ_ok T.F__law_next sc__law_next rfl rfl (by decide) fun cdv A outer s H E hr => ?_
  have hu := hu65 hr
  unfold b__law_next
  exact (pssd_cons (psd_set (i := 2) sc__law_next.nd rfl (by first | exact .inl rfl | exact .inr rfl) (ped_bin opd_add (ped_sub hu (ped_sub hu (ped_var 0) ped_str (fun _ _ => rfl)) (ped_bin opd_mod (ped_callT calld_int (by rfl) T.z_int (by decide +kernel) (pad_cons (ped_sub hu (ped_var 0) ped_str (fun _ _ => rfl)) pad_nil)) (ped_callB calld_lenA (by rfl) T.z_len (by decide +kernel) (pad_cons (ped_sub hu (ped_var 0) ped_str (fun _ _ => rfl)) pad_nil))) (fun _ _ => rfl)) (ped_bin opd_div (ped_callT calld_int (by rfl) T.z_int (by decide +kernel) (pad_cons (ped_sub hu (ped_var 0) ped_str (fun _ _ => rfl)) pad_nil)) (ped_callB calld_lenA (by rfl) T.z_len (by decide +kernel) (pad_cons (ped_sub hu (ped_var 0) ped_str (fun _ _ => rfl)) pad_nil)))))
    (pssd_cons (psd_dput hu (ped_var 0) ped_str (ped_bin opd_add (ped_sub hu (ped_var 0) ped_str (fun _ _ => rfl)) ped_int))
    (pssd_one (psd_ret (ped_bin opd_mod (ped_callT calld_int (by rfl) T.z_int (by decide +kernel) (pad_cons (ped_var 2) pad_nil)) (ped_var 1))))))
def b__law_mixed : SM := (sSeq (sSet 2 (mLst aNil))
  (sSeq (sFor (iAny (mVar 1)) (gNm 3) (sSeq (sSet 4 (mCallF m__law_next (aCons (mVar 0) (aCons (mBin dAdd (mCall gLenA (aCons (mVar 2) aNil)) (mC (.int 1))) aNil))))
  (sSet 2 (mBin dAdd (mBin dAdd (mSl (mVar 2) oNone (oSome (mVar 4))) (mLst (aCons (mVar 3) aNil))) (mSl (mVar 2) (oSome (mVar 4)) oNone)))))
  (sRet (mVar 2))))
def m__law_mixed : FM := mFun exitZ 5 b__law_mixed
theorem ok__law_mixed (T : Txt K mg) (G__law_next : FnOk P w K mg base CX0 1 T.a__law_next T.d__law_next ["state", "bound"] (spM K m__law_next 2)) : FnOk P w K mg base CX0 2 T.a__law_mixed T.d__law_mixed ["state", "things"] (spM K m__law_mixed 2) := by
  refine fn_m (k := 1) (N := n__law_mixed) exitZ_ok T.F__law_mixed sc__law_mixed rfl rfl (by decide) fun cdv A outer s H E hr => ?_
  have hu := hu65 hr
  unfold b__law_mixed
  exact (pssd_cons (psd_set (i := 2) sc__law_mixed.nd rfl (by first | exact .inl rfl | exact .inr rfl) (ped_lst pad_nil))
    (pssd_cons (psd_for PassesOwn.never rfl (pid_any (ped_var 1)) (pgd_name (i := 3) sc__law_mixed.nd rfl (by first | exact .inl rfl | exact .inr rfl)) (pssd_cons (psd_set (i := 4) sc__law_mixed.nd rfl (by first | exact .inl rfl | exact .inr rfl) (ped_call G__law_next (hr.mono (by omega)) (by rfl) T.m__law_next T.F__law_next.kp T.b__law_next (pad_cons (ped_var 0) (pad_cons (ped_bin opd_add (ped_callB calld_lenA (by rfl) T.z_len (by decide +kernel) (pad_cons (ped_var 2) pad_nil)) ped_int) pad_nil)) (alen_cons (alen_cons alen_nil))))
    (pssd_one (psd_set (i := 2) sc__law_mixed.nd rfl (by first | exact .inl rfl | exact .inr rfl) (ped_bin opd_add (ped_bin opd_add (ped_sl (ped_var 2) pod_none (pod_some (ped_var 4))) (ped_lst (pad_cons (ped_var 3) pad_nil))) (ped_sl (ped_var 2) (pod_some (ped_var 4)) pod_none))))))
    (pssd_one (psd_ret (ped_var 2)))))
def b__law_pick : SM := (sRet (mSub (mVar 1) (mCallF m__law_next (aCons (mVar 0) (aCons (mCall gLenA (aCons (mVar 1) aNil)) aNil)))))
def m__law_pick : FM := mFun exitZ 2 b__law_pick
theorem ok__law_pick (T : Txt K mg) (G__law_next : FnOk P w K mg base CX0 1 T.a__law_next T.d__law_next ["state", "bound"] (spM K m__law_next 2)) : FnOk P w K mg base CX0 2 T.a__law_pick T.d__law_pick ["state", "things"] (spM K m__law_pick 2) := by
  refine fn_m (k := 1) (N := n__law_pick) exitZ_ok T.F__law_pick sc__law_pick rfl rfl (by decide) fun cdv A outer s H E hr => ?_
  have hu := hu65 hr
  unfold b__law_pick
  exact (pssd_one (psd_ret (ped_sub hu (ped_var 1) (ped_call G__law_next (hr.mono (by omega)) (by rfl) T.m__law_next T.F__law_next.kp T.b__law_next (pad_cons (ped_var 0) (pad_cons (ped_callB calld_lenA (by rfl) T.z_len (by decide +kernel) (pad_cons (ped_var 1) pad_nil)) pad_nil)) (alen_cons (alen_cons alen_nil))) (fun _ _ => rfl))))
def b__law_names : SM := (sSeq (sSet 2 (mSl (mCallF m__law_mixed (aCons (mVar 0) (aCons (mCall gListA (aCons (mC (.str "abcdefghijklmnopqrstuvwxyz")) aNil)) aNil))) oNone (oSome (mVar 1))))
  (sSeq (sSet 3 (mLstC aNil))
  (sSeq (sFor (iAny (mVar 2)) (gNm 4) (sSeq (sSet 5 (mVar 4))
  (sSeq (sFor (iRange (aCons (mSub (mLst (aCons (mC (.int 0)) (aCons (mC (.int 0)) (aCons (mC (.int 2)) (aCons (mC (.int 7)) aNil))))) (mCallF m__law_next (aCons (mVar 0) (aCons (mC (.int 4)) aNil)))) aNil)) (gNm 6) (sSet 5 (mBin dAdd (mVar 5) (mCallF m__law_pick (aCons (mVar 0) (aCons (mC (.str "abcdefghijklmnopqrstuvwxyz0123456789")) aNil))))))
  (sSeq (sSet 7 (mLst (aCons (mC (.str "any")) (aCons (mC (.str "rest")) (aCons (mC (.str "many")) (aCons (mC (.str "if")) (aCons (mC (.str "then")) (aCons (mC (.str "and")) (aCons (mC (.str "not")) (aCons (mC (.str "refuse")) (aCons (mC (.str "keep")) (aCons (mC (.str "from")) (aCons (mC (.str "to")) aNil)))))))))))))
  (sEx (mApp (mVar 3) (mIfE (mTB (mIn true (mVar 5) (mVar 7))) (mVar 5) (mBin dAdd (mVar 4) (mC (.str "0"))))))))))
  (sRet (mVar 3)))))
def m__law_names : FM := mFun exitZ 8 b__law_names
theorem ok__law_names (T : Txt K mg) (G__law_mixed : FnOk P w K mg base CX0 2 T.a__law_mixed T.d__law_mixed ["state", "things"] (spM K m__law_mixed 2)) (G__law_next : FnOk P w K mg base CX0 1 T.a__law_next T.d__law_next ["state", "bound"] (spM K m__law_next 2)) (G__law_pick : FnOk P w K mg base CX0 2 T.a__law_pick T.d__law_pick ["state", "things"] (spM K m__law_pick 2)) : FnOk P w K mg base CX0 3 T.a__law_names T.d__law_names ["state", "many"] (spM K m__law_names 2) := by
  refine fn_m (k := 2) (N := n__law_names) exitZ_ok T.F__law_names sc__law_names rfl rfl (by decide) fun cdv A outer s H E hr => ?_
  have hu := hu65 hr
  unfold b__law_names
  exact (pssd_cons (psd_set (i := 2) sc__law_names.nd rfl (by first | exact .inl rfl | exact .inr rfl) (ped_sl (ped_call G__law_mixed (hr.mono (by omega)) (by rfl) T.m__law_mixed T.F__law_mixed.kp T.b__law_mixed (pad_cons (ped_var 0) (pad_cons (ped_callT (calld_listA rfl) (by rfl) T.z_list (by decide +kernel) (pad_cons ped_str pad_nil)) pad_nil)) (alen_cons (alen_cons alen_nil))) pod_none (pod_some (ped_var 1))))
    (pssd_cons (psd_set (i := 3) sc__law_names.nd rfl (by first | exact .inl rfl | exact .inr rfl) (ped_lstC pad_nil))
    (pssd_cons (psd_for PassesOwn.never rfl (pid_any (ped_var 2)) (pgd_name (i := 4) sc__law_names.nd rfl (by first | exact .inl rfl | exact .inr rfl)) (pssd_cons (psd_set (i := 5) sc__law_names.nd rfl (by first | exact .inl rfl | exact .inr rfl) (ped_var 4))
    (pssd_cons (psd_for PassesOwn.never rfl (pid_range1 (by rfl) T.z_range (ped_sub hu (ped_lst (pad_cons ped_int (pad_cons ped_int (pad_cons ped_int (pad_cons ped_int pad_nil))))) (ped_call G__law_next (hr.mono (by omega)) (by rfl) T.m__law_next T.F__law_next.kp T.b__law_next (pad_cons (ped_var 0) (pad_cons ped_int pad_nil)) (alen_cons (alen_cons alen_nil))) (fun _ _ => rfl))) (pgd_name (i := 6) sc__law_names.nd rfl (by first | exact .inl rfl | exact .inr rfl)) (pssd_one (psd_set (i := 5) sc__law_names.nd rfl (by first | exact .inl rfl | exact .inr rfl) (ped_bin opd_add (ped_var 5) (ped_call G__law_pick (hr.mono (by omega)) (by rfl) T.m__law_pick T.F__law_pick.kp T.b__law_pick (pad_cons (ped_var 0) (pad_cons ped_str pad_nil)) (alen_cons (alen_cons alen_nil)))))))
    (pssd_cons (psd_set (i := 7) sc__law_names.nd rfl (by first | exact .inl rfl | exact .inr rfl) (ped_lst (pad_cons ped_str (pad_cons ped_str (pad_cons ped_str (pad_cons ped_str (pad_cons ped_str (pad_cons ped_str (pad_cons ped_str (pad_cons ped_str (pad_cons ped_str (pad_cons ped_str (pad_cons ped_str pad_nil)))))))))))))
    (pssd_one (psd_expr (ped_append (ped_var 3) (ped_if (ptd_notin hu (ped_var 5) (ped_var 7)) (ped_var 5) (ped_bin opd_add (ped_var 4) ped_str)))))))))
    (pssd_one (psd_ret (ped_var 3))))))
def b__law_near_address : SM := (sSeq (sSet 2 (mLst (aCons (mC (.str "")) aNil)))
  (sSeq (sFor (iAny (mVar 1)) (gNm 3) (sSet 2 (mBin dAdd (mVar 2) (mCall gListA (aCons (mSub (mVar 1) (mVar 3)) aNil)))))
  (sSeq (sSet 4 (mCallF m__law_pick (aCons (mVar 0) (aCons (mVar 2) aNil))))
  (sSeq (whGo (mTB (mBin dLt (mCall gLenA (aCons (mVar 4) aNil)) (mC (.int 8)))) (sSet 4 (mBin dAdd (mVar 4) (mCallF m__law_pick (aCons (mVar 0) (aCons (mC (.str "01")) aNil))))) 100000)
  (sRet (mVar 4))))))
def m__law_near_address : FM := mFun exitZ 5 b__law_near_address
theorem ok__law_near_address (T : Txt K mg) (G__law_pick : FnOk P w K mg base CX0 2 T.a__law_pick T.d__law_pick ["state", "things"] (spM K m__law_pick 2)) : FnOk P w K mg base CX0 3 T.a__law_near_address T.d__law_near_address ["state", "tables"] (spM K m__law_near_address 2) := by
  refine fn_m (k := 2) (N := n__law_near_address) exitZ_ok T.F__law_near_address sc__law_near_address rfl rfl (by decide) fun cdv A outer s H E hr => ?_
  have hu := hu65 hr
  unfold b__law_near_address
  exact (pssd_cons (psd_set (i := 2) sc__law_near_address.nd rfl (by first | exact .inl rfl | exact .inr rfl) (ped_lst (pad_cons ped_str pad_nil)))
    (pssd_cons (psd_for PassesOwn.never rfl (pid_any (ped_var 1)) (pgd_name (i := 3) sc__law_near_address.nd rfl (by first | exact .inl rfl | exact .inr rfl)) (pssd_one (psd_set (i := 2) sc__law_near_address.nd rfl (by first | exact .inl rfl | exact .inr rfl) (ped_bin opd_add (ped_var 2) (ped_callT (calld_listA rfl) (by rfl) T.z_list (by decide +kernel) (pad_cons (ped_sub hu (ped_var 1) (ped_var 3) (fun _ _ => rfl)) pad_nil))))))
    (pssd_cons (psd_set (i := 4) sc__law_near_address.nd rfl (by first | exact .inl rfl | exact .inr rfl) (ped_call G__law_pick (hr.mono (by omega)) (by rfl) T.m__law_pick T.F__law_pick.kp T.b__law_pick (pad_cons (ped_var 0) (pad_cons (ped_var 2) pad_nil)) (alen_cons (alen_cons alen_nil))))
    (pssd_cons (psd_while 100000 PassesOwn.never (ptd_cmp opd_lt (ped_callB calld_lenA (by rfl) T.z_len (by decide +kernel) (pad_cons (ped_var 4) pad_nil)) ped_int (nomark _)) (pssd_one (psd_set (i := 4) sc__law_near_address.nd rfl (by first | exact .inl rfl | exact .inr rfl) (ped_bin opd_add (ped_var 4) (ped_call G__law_pick (hr.mono (by omega)) (by rfl) T.m__law_pick T.F__law_pick.kp T.b__law_pick (pad_cons (ped_var 0) (pad_cons ped_str pad_nil)) (alen_cons (alen_cons alen_nil)))))))
    (pssd_one (psd_ret (ped_var 4)))))))
def b__law_same (self : FM) : SM := (sSeq (sIf (mAndB (mTB (mIs (inst .dict) (mVar 0))) (mTB (mIs (inst .dict) (mVar 1)))) (sRet (mAndV (mBin dEq (mCall gLenA (aCons (mVar 0) aNil)) (mCall gLenA (aCons (mVar 1) aNil))) (mCall gAll (aCons (mLC [3] (iAny (mVar 0)) (gNm 3) bYes (mAndV (mIn false (mVar 3) (mVar 1)) (mCallF self (aCons (mSub (mVar 0) (mVar 3)) (aCons (mSub (mVar 1) (mVar 3)) aNil))))) aNil)))) sNx)
  (sSeq (sIf (mAndB (mTB (mIs (fun d => inst .list d || inst .tuple d) (mVar 0))) (mTB (mIs (fun d => inst .list d || inst .tuple d) (mVar 1)))) (sSeq (sIf (mOrB (mTB (mBin dNe (mIs (inst .list) (mVar 0)) (mIs (inst .list) (mVar 1)))) (mTB (mBin dNe (mCall gLenA (aCons (mVar 0) aNil)) (mCall gLenA (aCons (mVar 1) aNil))))) (sRet (mC (.bool false))) sNx)
  (sRet (mCall gAll (aCons (mLC [2] (iRange (aCons (mCall gLenA (aCons (mVar 0) aNil)) aNil)) (gNm 2) bYes (mCallF self (aCons (mSub (mVar 0) (mVar 2)) (aCons (mSub (mVar 1) (mVar 2)) aNil)))) aNil)))) sNx)
  (sSeq (sIf (mOrB (mTB (mIs (fun d => inst .list d || (inst .tuple d || inst .dict d)) (mVar 0))) (mTB (mIs (fun d => inst .list d || (inst .tuple d || inst .dict d)) (mVar 1)))) (sRet (mC (.bool false))) sNx)
  (sSeq (sIf (mOrB (mTB (mBin (dIs false) (mVar 0) (mC .none))) (mTB (mBin (dIs false) (mVar 1) (mC .none)))) (sRet (mAndV (mBin (dIs false) (mVar 0) (mC .none)) (mBin (dIs false) (mVar 1) (mC .none)))) sNx)
  (sSeq (sIf (mOrB (mTB (mBin dNe (mIs (inst .bool) (mVar 0)) (mIs (inst .bool) (mVar 1)))) (mTB (mBin dNe (mIs (inst .int) (mVar 0)) (mIs (inst .int) (mVar 1))))) (sRet (mC (.bool false))) sNx)
  (sSeq (sIf (mTB (mBin dNe (mIs (inst .str) (mVar 0)) (mIs (inst .str) (mVar 1)))) (sRet (mC (.bool false))) sNx)
  (sRet (mBin dEq (mVar 0) (mVar 1)))))))))
def m__law_same : Nat → FM
  | 0 => fun _ _ => none
  | n + 1 => mFun exitZ 4 (b__law_same (m__law_same n))
theorem ok__law_same (T : Txt K mg)  : ∀ n : Nat, FnOk P w K mg base CX0 (0 + n) T.a__law_same T.d__law_same ["one", "other"] (spM K (m__law_same n) 2)
  | 0 => fn_none fun _ _ => rfl
  | n + 1 => by
    have ih := ok__law_same T  n
    refine fn_m (k := 0 + n) (N := n__law_same) exitZ_ok T.F__law_same sc__law_same rfl rfl (by decide) fun cdv A outer s H E hr => ?_
    have hu := hu65 hr
    unfold b__law_same
    exact (pssd_cons (psd_if (PWd.pt (pwd_and (ptd_val (ped_isi (T := .dict) (by rfl) T.z_isinstance (by rfl) T.z_dict (by decide +kernel) (ped_var 0))) (pwd_and1 (ptd_val (ped_isi (T := .dict) (by rfl) T.z_isinstance (by rfl) T.z_dict (by decide +kernel) (ped_var 1)))))) (pssd_one (psd_ret (ped_and (ped_cmp (opd_eq hu) (ped_callB calld_lenA (by rfl) T.z_len (by decide +kernel) (pad_cons (ped_var 0) pad_nil)) (ped_callB calld_lenA (by rfl) T.z_len (by decide +kernel) (pad_cons (ped_var 1) pad_nil)) (nomark _)) (ped_one (ped_callB (calld_all rfl) (by rfl) T.z_all (by decide +kernel) (pad_cons (ped_lc rfl sc__law_same.nd (own := [("key", 3)]) (pid_any (ped_var 0)) (blkOk_by (own := [("key", 3)]) (N := n__law_same) (sc := defScope s__law_same) (by decide +kernel)) (fun _ _ _ _ _ => (pgd_name (i := 3) sc__law_same.nd rfl (by first | exact .inl rfl | exact .inr rfl))) (fun _ _ _ _ _ => ptsd_nil) (fun _ _ _ _ _ => (ped_and (ped_in hu (ped_var 3) (ped_var 1)) (ped_one (ped_call ih hr (by rfl) T.m__law_same T.F__law_same.kp T.b__law_same (pad_cons (ped_sub hu (ped_var 0) (ped_var 3) (fun _ _ => rfl)) (pad_cons (ped_sub hu (ped_var 1) (ped_var 3) (fun _ _ => rfl)) pad_nil)) (alen_cons (alen_cons alen_nil))))))) pad_nil)))))) pssd_nil)
    (pssd_cons (psd_if (PWd.pt (pwd_and (ptd_val (ped_isi2 (T := .list) (U := .tuple) (by rfl) T.z_isinstance (by rfl) T.z_list (by decide +kernel) (by rfl) T.z_tuple (by decide +kernel) (ped_var 0))) (pwd_and1 (ptd_val (ped_isi2 (T := .list) (U := .tuple) (by rfl) T.z_isinstance (by rfl) T.z_list (by decide +kernel) (by rfl) T.z_tuple (by decide +kernel) (ped_var 1)))))) (pssd_cons (psd_if (PWd.pt (pwd_or (ptd_cmp (opd_ne hu) (ped_isi (T := .list) (by rfl) T.z_isinstance (by rfl) T.z_list (by decide +kernel) (ped_var 0)) (ped_isi (T := .list) (by rfl) T.z_isinstance (by rfl) T.z_list (by decide +kernel) (ped_var 1)) (nomark _)) (pwd_or1 (ptd_cmp (opd_ne hu) (ped_callB calld_lenA (by rfl) T.z_len (by decide +kernel) (pad_cons (ped_var 0) pad_nil)) (ped_callB calld_lenA (by rfl) T.z_len (by decide +kernel) (pad_cons (ped_var 1) pad_nil)) (nomark _))))) (pssd_one (psd_ret ped_bl)) pssd_nil)
    (pssd_one (psd_ret (ped_callB (calld_all rfl) (by rfl) T.z_all (by decide +kernel) (pad_cons (ped_lc rfl sc__law_same.nd (own := [("k", 2)]) (pid_range1 (by rfl) T.z_range (ped_callB calld_lenA (by rfl) T.z_len (by decide +kernel) (pad_cons (ped_var 0) pad_nil))) (blkOk_by (own := [("k", 2)]) (N := n__law_same) (sc := defScope s__law_same) (by decide +kernel)) (fun _ _ _ _ _ => (pgd_name (i := 2) sc__law_same.nd rfl (by first | exact .inl rfl | exact .inr rfl))) (fun _ _ _ _ _ => ptsd_nil) (fun _ _ _ _ _ => (ped_call ih hr (by rfl) T.m__law_same T.F__law_same.kp T.b__law_same (pad_cons (ped_sub hu (ped_var 0) (ped_var 2) (fun _ _ => rfl)) (pad_cons (ped_sub hu (ped_var 1) (ped_var 2) (fun _ _ => rfl)) pad_nil)) (alen_cons (alen_cons alen_nil))))) pad_nil))))) pssd_nil)
    (pssd_cons (psd_if (PWd.pt (pwd_or (ptd_val (ped_isi3 (T := .list) (U := .tuple) (W := .dict) (by rfl) T.z_isinstance (by rfl) T.z_list (by decide +kernel) (by rfl) T.z_tuple (by decide +kernel) (by rfl) T.z_dict (by decide +kernel) (ped_var 0))) (pwd_or1 (ptd_val (ped_isi3 (T := .list) (U := .tuple) (W := .dict) (by rfl) T.z_isinstance (by rfl) T.z_list (by decide +kernel) (by rfl) T.z_tuple (by decide +kernel) (by rfl) T.z_dict (by decide +kernel) (ped_var 1)))))) (pssd_one (psd_ret ped_bl)) pssd_nil)
    (pssd_cons (psd_if (PWd.pt (pwd_or (ptd_cmp opd_is (ped_var 0) ped_non (nomark _)) (pwd_or1 (ptd_cmp opd_is (ped_var 1) ped_non (nomark _))))) (pssd_one (psd_ret (ped_and (ped_cmp opd_is (ped_var 0) ped_non (nomark _)) (ped_one (ped_cmp opd_is (ped_var 1) ped_non (nomark _)))))) pssd_nil)
    (pssd_cons (psd_if (PWd.pt (pwd_or (ptd_cmp (opd_ne hu) (ped_isi (T := .bool) (by rfl) T.z_isinstance (by rfl) T.z_bool (by decide +kernel) (ped_var 0)) (ped_isi (T := .bool) (by rfl) T.z_isinstance (by rfl) T.z_bool (by decide +kernel) (ped_var 1)) (nomark _)) (pwd_or1 (ptd_cmp (opd_ne hu) (ped_isi (T := .int) (by rfl) T.z_isinstance (by rfl) T.z_int (by decide +kernel) (ped_var 0)) (ped_isi (T := .int) (by rfl) T.z_isinstance (by rfl) T.z_int (by decide +kernel) (ped_var 1)) (nomark _))))) (pssd_one (psd_ret ped_bl)) pssd_nil)
    (pssd_cons (psd_if (ptd_cmp (opd_ne hu) (ped_isi (T := .str) (by rfl) T.z_isinstance (by rfl) T.z_str (by decide +kernel) (ped_var 0)) (ped_isi (T := .str) (by rfl) T.z_isinstance (by rfl) T.z_str (by decide +kernel) (ped_var 1)) (nomark _)) (pssd_one (psd_ret ped_bl)) pssd_nil)
    (pssd_one (psd_ret (ped_cmp (opd_eq hu) (ped_var 0) (ped_var 1) (nomark _))))))))))
def b__law_stretches : SM := (sSeq (sSet 1 (mLstC aNil))
  (sSeq (sFor (iRange (aCons (mC (.int 256)) aNil)) (gNm 2) (sIf (mAndB (mTB (mBin dGt (mCall gLenA (aCons (mVar 1) aNil)) (mC (.int 0)))) (mTB (mBin dEq (mSub (mSub (mVar 1) (mUn dNeg (mC (.int 1)))) (mC (.int 2))) (mSub (mVar 0) (mVar 2))))) (sAsg (mTup (aCons (mSub (mSub (mVar 1) (mUn dNeg (mC (.int 1)))) (mC (.int 0))) (aCons (mCallF m__law_address (aCons (mVar 2) aNil)) (aCons (mSub (mVar 0) (mVar 2)) aNil)))) (gIx (mVar 1) (mUn dNeg (mC (.int 1))))) (sEx (mApp (mVar 1) (mTup (aCons (mCallF m__law_address (aCons (mVar 2) aNil)) (aCons (mCallF m__law_address (aCons (mVar 2) aNil)) (aCons (mSub (mVar 0) (mVar 2)) aNil))))))))
  (sRet (mVar 1))))
def m__law_stretches : FM := mFun exitZ 3 b__law_stretches
theorem ok__law_stretches (T : Txt K mg) (G__law_address : FnOk P w K mg base CX0 1 T.a__law_address T.d__law_address ["number"] (spM K m__law_address 1)) : FnOk P w K mg base CX0 2 T.a__law_stretches T.d__law_stretches ["rows"] (spM K m__law_stretches 1) := by
  refine fn_m (k := 1) (N := n__law_stretches) exitZ_ok T.F__law_stretches sc__law_stretches rfl rfl (by decide) fun cdv A outer s H E hr => ?_
  have hu := hu65 hr
  unfold b__law_stretches
  exact (pssd_cons (psd_set (i := 1) sc__law_stretches.nd rfl (by first | exact .inl rfl | exact .inr rfl) (ped_lstC pad_nil))
    (pssd_cons (psd_for PassesOwn.never rfl (pid_range1 (by rfl) T.z_range ped_int) (pgd_name (i := 2) sc__law_stretches.nd rfl (by first | exact .inl rfl | exact .inr rfl)) (pssd_one (psd_if (PWd.pt (pwd_and (ptd_cmp opd_gt (ped_callB calld_lenA (by rfl) T.z_len (by decide +kernel) (pad_cons (ped_var 1) pad_nil)) ped_int (nomark _)) (pwd_and1 (ptd_cmp (opd_eq hu) (ped_sub hu (ped_sub hu (ped_var 1) (ped_neg ped_int) (fun _ _ => rfl)) ped_int (fun _ _ => rfl)) (ped_sub hu (ped_var 0) (ped_var 2) (fun _ _ => rfl)) (nomark _))))) (pssd_one (psd_asg (ped_tup (pad_cons (ped_sub hu (ped_sub hu (ped_var 1) (ped_neg ped_int) (fun _ _ => rfl)) ped_int (fun _ _ => rfl)) (pad_cons (ped_call G__law_address (hr.mono (by omega)) (by rfl) T.m__law_address T.F__law_address.kp T.b__law_address (pad_cons (ped_var 2) pad_nil) (alen_cons alen_nil)) (pad_cons (ped_sub hu (ped_var 0) (ped_var 2) (fun _ _ => rfl)) pad_nil)))) (pgd_ix (ped_var 1) (ped_neg ped_int)))) (pssd_one (psd_expr (ped_append (ped_var 1) (ped_tup (pad_cons (ped_call G__law_address (hr.mono (by omega)) (by rfl) T.m__law_address T.F__law_address.kp T.b__law_address (pad_cons (ped_var 2) pad_nil) (alen_cons alen_nil)) (pad_cons (ped_call G__law_address (hr.mono (by omega)) (by rfl) T.m__law_address T.F__law_address.kp T.b__law_address (pad_cons (ped_var 2) pad_nil) (alen_cons alen_nil)) (pad_cons (ped_sub hu (ped_var 0) (ped_var 2) (fun _ _ => rfl)) pad_nil))))))))))
    (pssd_one (psd_ret (ped_var 1)))))
def b__law_prefix : SM := (sSeq (sSet 1 (mC (.str "")))
  (sSeq (sFor (iRange (aCons (mSub (mLst (aCons (mC (.int 0)) (aCons (mC (.int 1)) (aCons (mC (.int 2)) (aCons (mC (.int 3)) (aCons (mC (.int 5)) (aCons (mC (.int 8)) aNil))))))) (mCallF m__law_next (aCons (mVar 0) (aCons (mC (.int 6)) aNil)))) aNil)) (gNm 2) (sSet 1 (mBin dAdd (mVar 1) (mCallF m__law_pick (aCons (mVar 0) (aCons (mC (.str "01")) aNil))))))
  (sRet (mVar 1))))
def m__law_prefix : FM := mFun exitZ 3 b__law_prefix
theorem ok__law_prefix (T : Txt K mg) (G__law_next : FnOk P w K mg base CX0 1 T.a__law_next T.d__law_next ["state", "bound"] (spM K m__law_next 2)) (G__law_pick : FnOk P w K mg base CX0 2 T.a__law_pick T.d__law_pick ["state", "things"] (spM K m__law_pick 2)) : FnOk P w K mg base CX0 3 T.a__law_prefix T.d__law_prefix ["state"] (spM K m__law_prefix 1) := by
  refine fn_m (k := 2) (N := n__law_prefix) exitZ_ok T.F__law_prefix sc__law_prefix rfl rfl (by decide) fun cdv A outer s H E hr => ?_
  have hu := hu65 hr
  unfold b__law_prefix
  exact (pssd_cons (psd_set (i := 1) sc__law_prefix.nd rfl (by first | exact .inl rfl | exact .inr rfl) ped_str)
    (pssd_cons (psd_for PassesOwn.never rfl (pid_range1 (by rfl) T.z_range (ped_sub hu (ped_lst (pad_cons ped_int (pad_cons ped_int (pad_cons ped_int (pad_cons ped_int (pad_cons ped_int (pad_cons ped_int pad_nil))))))) (ped_call G__law_next (hr.mono (by omega)) (by rfl) T.m__law_next T.F__law_next.kp T.b__law_next (pad_cons (ped_var 0) (pad_cons ped_int pad_nil)) (alen_cons (alen_cons alen_nil))) (fun _ _ => rfl))) (pgd_name (i := 2) sc__law_prefix.nd rfl (by first | exact .inl rfl | exact .inr rfl)) (pssd_one (psd_set (i := 1) sc__law_prefix.nd rfl (by first | exact .inl rfl | exact .inr rfl) (ped_bin opd_add (ped_var 1) (ped_call G__law_pick (hr.mono (by omega)) (by rfl) T.m__law_pick T.F__law_pick.kp T.b__law_pick (pad_cons (ped_var 0) (pad_cons ped_str pad_nil)) (alen_cons (alen_cons alen_nil)))))))
    (pssd_one (psd_ret (ped_var 1)))))
def b__law_tables : SM := (sSeq (sSet 2 mDNewK)
  (sSeq (sSet 3 (mLC [6] (iRange (aCons (mBin dAdd (mC (.int 1)) (mCallF m__law_next (aCons (mVar 0) (aCons (mC (.int 4)) aNil)))) aNil)) (gNm 6) bYes (mCallF m__law_prefix (aCons (mVar 0) aNil))))
  (sSeq (sFor (iAny (mVar 1)) (gNm 4) (sSeq (sSet 5 mDNewK)
  (sSeq (sFor (iRange (aCons (mCallF m__law_next (aCons (mVar 0) (aCons (mC (.int 5)) aNil))) aNil)) (gNm 6) (sSeq (sSet 7 (mIfE (mTB (mBin dGt (mCallF m__law_next (aCons (mVar 0) (aCons (mC (.int 3)) aNil))) (mC (.int 0)))) (mCallF m__law_pick (aCons (mVar 0) (aCons (mVar 3) aNil))) (mCallF m__law_prefix (aCons (mVar 0) aNil))))
  (sDPut (mVar 5) (mVar 7) (mCallF m__law_pick (aCons (mVar 0) (aCons (mBin dAdd (mVar 1) (mLst (aCons (mVar 4) (aCons (mVar 4) (aCons (mC (.str "nobody")) aNil))))) aNil))))))
  (sDPut (mVar 2) (mVar 4) (mFz (mVar 5))))))
  (sRet (mVar 2)))))
def m__law_tables : FM := mFun exitZ 8 b__law_tables
theorem ok__law_tables (T : Txt K mg) (G__law_next : FnOk P w K mg base CX0 1 T.a__law_next T.d__law_next ["state", "bound"] (spM K m__law_next 2)) (G__law_pick : FnOk P w K mg base CX0 2 T.a__law_pick T.d__law_pick ["state", "things"] (spM K m__law_pick 2)) (G__law_prefix : FnOk P w K mg base CX0 3 T.a__law_prefix T.d__law_prefix ["state"] (spM K m__law_prefix 1)) : FnOk P w K mg base CX0 4 T.a__law_tables T.d__law_tables ["state", "names"] (spM K m__law_tables 2) := by
  refine fn_m (k := 3) (N := n__law_tables) exitZ_ok T.F__law_tables sc__law_tables rfl rfl (by decide) fun cdv A outer s H E hr => ?_
  have hu := hu65 hr
  unfold b__law_tables
  exact (pssd_cons (psd_set (i := 2) sc__law_tables.nd rfl (by first | exact .inl rfl | exact .inr rfl) ped_dnewK)
    (pssd_cons (psd_setLc (i := 3) rfl sc__law_tables.nd rfl rfl (sw_true rfl rfl rfl (by decide +kernel)) (own := [("k", 6)]) (pid_range1 (by rfl) T.z_range (ped_bin opd_add ped_int (ped_call G__law_next (hr.mono (by omega)) (by rfl) T.m__law_next T.F__law_next.kp T.b__law_next (pad_cons (ped_var 0) (pad_cons ped_int pad_nil)) (alen_cons (alen_cons alen_nil))))) (blkOk_by (own := [("k", 6)]) (N := n__law_tables) (sc := defScope s__law_tables) (by decide +kernel)) (fun _ _ _ _ _ => (pgd_name (i := 6) sc__law_tables.nd rfl (by first | exact .inl rfl | exact .inr rfl))) (fun _ _ _ _ _ => ptsd_nil) (fun _ _ _ _ _ => (ped_call G__law_prefix (hr.mono (by omega)) (by rfl) T.m__law_prefix T.F__law_prefix.kp T.b__law_prefix (pad_cons (ped_var 0) pad_nil) (alen_cons alen_nil))))
    (pssd_cons (psd_for PassesOwn.never rfl (pid_any (ped_var 1)) (pgd_name (i := 4) sc__law_tables.nd rfl (by first | exact .inl rfl | exact .inr rfl)) (pssd_cons (psd_set (i := 5) sc__law_tables.nd rfl (by first | exact .inl rfl | exact .inr rfl) ped_dnewK)
    (pssd_cons (psd_for PassesOwn.never rfl (pid_range1 (by rfl) T.z_range (ped_call G__law_next (hr.mono (by omega)) (by rfl) T.m__law_next T.F__law_next.kp T.b__law_next (pad_cons (ped_var 0) (pad_cons ped_int pad_nil)) (alen_cons (alen_cons alen_nil)))) (pgd_name (i := 6) sc__law_tables.nd rfl (by first | exact .inl rfl | exact .inr rfl)) (pssd_cons (psd_set (i := 7) sc__law_tables.nd rfl (by first | exact .inl rfl | exact .inr rfl) (ped_if (ptd_cmp opd_gt (ped_call G__law_next (hr.mono (by omega)) (by rfl) T.m__law_next T.F__law_next.kp T.b__law_next (pad_cons (ped_var 0) (pad_cons ped_int pad_nil)) (alen_cons (alen_cons alen_nil))) ped_int (nomark _)) (ped_call G__law_pick (hr.mono (by omega)) (by rfl) T.m__law_pick T.F__law_pick.kp T.b__law_pick (pad_cons (ped_var 0) (pad_cons (ped_var 3) pad_nil)) (alen_cons (alen_cons alen_nil))) (ped_call G__law_prefix (hr.mono (by omega)) (by rfl) T.m__law_prefix T.F__law_prefix.kp T.b__law_prefix (pad_cons (ped_var 0) pad_nil) (alen_cons alen_nil))))
    (pssd_one (psd_dput hu (ped_var 5) (ped_var 7) (ped_call G__law_pick (hr.mono (by omega)) (by rfl) T.m__law_pick T.F__law_pick.kp T.b__law_pick (pad_cons (ped_var 0) (pad_cons (ped_bin opd_add (ped_var 1) (ped_lst (pad_cons (ped_var 4) (pad_cons (ped_var 4) (pad_cons ped_str pad_nil))))) pad_nil)) (alen_cons (alen_cons alen_nil)))))))
    (pssd_one (psd_dput hu (ped_var 2) (ped_var 4) (ped_fz (ped_var 5)))))))
    (pssd_one (psd_ret (ped_var 2))))))
def b_covers : SM := (sRet (mBin dEq (mSl (mVar 1) oNone (oSome (mCall gLenA (aCons (mVar 0) aNil)))) (mVar 0)))
def m_covers : FM := mFun exitZ 2 b_covers
theorem ok_covers (T : Txt K mg)  : FnOk P w K mg base CX0 1 T.a_covers T.d_covers ["prefix", "other"] (spM K m_covers 2) := by
  refine fn_m (k := 0) (N := n_covers) exitZ_ok T.F_covers sc_covers rfl rfl (by decide) fun cdv A outer s H E hr => ?_
  have hu := hu65 hr
  unfold b_covers
  exact (pssd_one (psd_ret (ped_cmp (opd_eq hu) (ped_sl (ped_var 1) pod_none (pod_some (ped_callB calld_lenA (by rfl) T.z_len (by decide +kernel) (pad_cons (ped_var 0) pad_nil)))) (ped_var 0) (nomark _))))
def b_longest : SM := (sSeq (sSet 2 (mC .none))
  (sSeq (sFor (iAny (mVar 0)) (gNm 3) (sIf (mAndB (mTB (mCallF m_covers (aCons (mVar 3) (aCons (mVar 1) aNil)))) (mOrB (mTB (mBin (dIs false) (mVar 2) (mC .none))) (mTB (mBin dGt (mCall gLenA (aCons (mVar 3) aNil)) (mCall gLenA (aCons (mVar 2) aNil)))))) (sSet 2 (mVar 3)) sNx))
  (sRet (mVar 2))))
def m_longest : FM := mFun exitZ 4 b_longest
theorem ok_longest (T : Txt K mg) (G_covers : FnOk P w K mg base CX0 1 T.a_covers T.d_covers ["prefix", "other"] (spM K m_covers 2)) : FnOk P w K mg base CX0 2 T.a_longest T.d_longest ["prefixes", "address"] (spM K m_longest 2) := by
  refine fn_m (k := 1) (N := n_longest) exitZ_ok T.F_longest sc_longest rfl rfl (by decide) fun cdv A outer s H E hr => ?_
  have hu := hu65 hr
  unfold b_longest
  exact (pssd_cons (psd_set (i := 2) sc_longest.nd rfl (by first | exact .inl rfl | exact .inr rfl) ped_non)
    (pssd_cons (psd_for PassesOwn.never rfl (pid_any (ped_var 0)) (pgd_name (i := 3) sc_longest.nd rfl (by first | exact .inl rfl | exact .inr rfl)) (pssd_one (psd_if (PWd.pt (pwd_and (ptd_val (ped_call G_covers (hr.mono (by omega)) (by rfl) T.m_covers T.F_covers.kp T.b_covers (pad_cons (ped_var 3) (pad_cons (ped_var 1) pad_nil)) (alen_cons (alen_cons alen_nil)))) (pwd_and1 (PWd.pt (pwd_or (ptd_cmp opd_is (ped_var 2) ped_non (nomark _)) (pwd_or1 (ptd_cmp opd_gt (ped_callB calld_lenA (by rfl) T.z_len (by decide +kernel) (pad_cons (ped_var 3) pad_nil)) (ped_callB calld_lenA (by rfl) T.z_len (by decide +kernel) (pad_cons (ped_var 2) pad_nil)) (nomark _)))))))) (pssd_one (psd_set (i := 2) sc_longest.nd rfl (by first | exact .inl rfl | exact .inr rfl) (ped_var 3))) pssd_nil)))
    (pssd_one (psd_ret (ped_var 2)))))
def b_fate : SM := (sSeq (sSet 3 (mTup (aCons (mVar 1) aNil)))
  (whGo (mTB (mC (.bool true))) (sSeq (sSet 4 (mGetD (mVar 0) (mSub (mVar 3) (mUn dNeg (mC (.int 1)))) (mFz mDNewK)))
  (sSeq (sSet 5 (mCallF m_longest (aCons (mCall gListA (aCons (mVar 4) aNil)) (aCons (mVar 2) aNil))))
  (sSeq (sIf (mTB (mIn false (mSub (mVar 3) (mUn dNeg (mC (.int 1)))) (mSl (mVar 3) oNone (oSome (mUn dNeg (mC (.int 1))))))) (sRet (mTup (aCons (mC (.str "ring")) (aCons (mVar 3) (aCons (mVar 5) aNil))))) sNx)
  (sSeq (sIf (mTB (mBin (dIs false) (mVar 5) (mC .none))) (sRet (mTup (aCons (mC (.str "norow")) (aCons (mVar 3) (aCons (mC .none) aNil))))) sNx)
  (sSeq (sIf (mTB (mBin dEq (mSub (mVar 4) (mVar 5)) (mSub (mVar 3) (mUn dNeg (mC (.int 1)))))) (sRet (mTup (aCons (mC (.str "home")) (aCons (mVar 3) (aCons (mVar 5) aNil))))) sNx)
  (sSet 3 (mBin dAdd (mVar 3) (mTup (aCons (mSub (mVar 4) (mVar 5)) aNil))))))))) 100000))
def m_fate : FM := mFun exitZ 6 b_fate
theorem ok_fate (T : Txt K mg) (G_longest : FnOk P w K mg base CX0 2 T.a_longest T.d_longest ["prefixes", "address"] (spM K m_longest 2)) : FnOk P w K mg base CX0 3 T.a_fate T.d_fate ["tables", "router", "address"] (spM K m_fate 3) := by
  refine fn_m (k := 2) (N := n_fate) exitZ_ok T.F_fate sc_fate rfl rfl (by decide) fun cdv A outer s H E hr => ?_
  have hu := hu65 hr
  unfold b_fate
  exact (pssd_cons (psd_set (i := 3) sc_fate.nd rfl (by first | exact .inl rfl | exact .inr rfl) (ped_tup (pad_cons (ped_var 1) pad_nil)))
    (pssd_one (psd_while 100000 PassesOwn.never (ptd_val ped_bl) (pssd_cons (psd_set (i := 4) sc_fate.nd rfl (by first | exact .inl rfl | exact .inr rfl) (ped_getD hu (ped_var 0) (ped_sub hu (ped_var 3) (ped_neg ped_int) (fun _ _ => rfl)) (ped_fz ped_dnewK)))
    (pssd_cons (psd_set (i := 5) sc_fate.nd rfl (by first | exact .inl rfl | exact .inr rfl) (ped_call G_longest (hr.mono (by omega)) (by rfl) T.m_longest T.F_longest.kp T.b_longest (pad_cons (ped_callT (calld_listA rfl) (by rfl) T.z_list (by decide +kernel) (pad_cons (ped_var 4) pad_nil)) (pad_cons (ped_var 2) pad_nil)) (alen_cons (alen_cons alen_nil))))
    (pssd_cons (psd_if (ptd_in hu (ped_sub hu (ped_var 3) (ped_neg ped_int) (fun _ _ => rfl)) (ped_sl (ped_var 3) pod_none (pod_some (ped_neg ped_int)))) (pssd_one (psd_ret (ped_tup (pad_cons ped_str (pad_cons (ped_var 3) (pad_cons (ped_var 5) pad_nil)))))) pssd_nil)
    (pssd_cons (psd_if (ptd_cmp opd_is (ped_var 5) ped_non (nomark _)) (pssd_one (psd_ret (ped_tup (pad_cons ped_str (pad_cons (ped_var 3) (pad_cons ped_non pad_nil)))))) pssd_nil)
    (pssd_cons (psd_if (ptd_cmp (opd_eq hu) (ped_sub hu (ped_var 4) (ped_var 5) (fun _ _ => rfl)) (ped_sub hu (ped_var 3) (ped_neg ped_int) (fun _ _ => rfl)) (nomark _)) (pssd_one (psd_ret (ped_tup (pad_cons ped_str (pad_cons (ped_var 3) (pad_cons (ped_var 5) pad_nil)))))) pssd_nil)
    (pssd_one (psd_set (i := 3) sc_fate.nd rfl (by first | exact .inl rfl | exact .inr rfl) (ped_bin opd_add (ped_var 3) (ped_tup (pad_cons (ped_sub hu (ped_var 4) (ped_var 5) (fun _ _ => rfl)) pad_nil)))))))))))))
def b_address_of : SM := (sRet (mFmt8 (mVar 0)))
def m_address_of : FM := mFun exitZ 1 b_address_of
theorem ok_address_of (T : Txt K mg)  : FnOk P w K mg base CX0 1 T.a_address_of T.d_address_of ["number"] (spM K m_address_of 1) := by
  refine fn_m (k := 0) (N := n_address_of) exitZ_ok T.F_address_of sc_address_of rfl rfl (by decide) fun cdv A outer s H E hr => ?_
  have hu := hu65 hr
  unfold b_address_of
  exact (pssd_one (psd_ret (ped_joined1 (ped_fmt8 (ped_var 0) (ped_joined1 ped_str)))))
def b_stretches : SM := (sSeq (sSet 2 (mLstC aNil))
  (sSeq (sFor (iRange (aCons (mC (.int 256)) aNil)) (gNm 3) (sSeq (sSet 4 (mCallF m_address_of (aCons (mVar 3) aNil)))
  (sSeq (sSet 5 (mCallF m_fate (aCons (mVar 0) (aCons (mVar 1) (aCons (mVar 4) aNil)))))
  (sIf (mAndB (mTB (mBin dGt (mCall gLenA (aCons (mVar 2) aNil)) (mC (.int 0)))) (mTB (mBin dEq (mSub (mSub (mVar 2) (mUn dNeg (mC (.int 1)))) (mC (.int 2))) (mVar 5)))) (sAsg (mTup (aCons (mSub (mSub (mVar 2) (mUn dNeg (mC (.int 1)))) (mC (.int 0))) (aCons (mVar 4) (aCons (mVar 5) aNil)))) (gIx (mVar 2) (mUn dNeg (mC (.int 1))))) (sEx (mApp (mVar 2) (mTup (aCons (mVar 4) (aCons (mVar 4) (aCons (mVar 5) aNil))))))))))
  (sRet (mVar 2))))
def m_stretches : FM := mFun exitZ 6 b_stretches
theorem ok_stretches (T : Txt K mg) (G_address_of : FnOk P w K mg base CX0 1 T.a_address_of T.d_address_of ["number"] (spM K m_address_of 1)) (G_fate : FnOk P w K mg base CX0 3 T.a_fate T.d_fate ["tables", "router", "address"] (spM K m_fate 3)) : FnOk P w K mg base CX0 4 T.a_stretches T.d_stretches ["tables", "router"] (spM K m_stretches 2) := by
  refine fn_m (k := 3) (N := n_stretches) exitZ_ok T.F_stretches sc_stretches rfl rfl (by decide) fun cdv A outer s H E hr => ?_
  have hu := hu65 hr
  unfold b_stretches
  exact (pssd_cons (psd_set (i := 2) sc_stretches.nd rfl (by first | exact .inl rfl | exact .inr rfl) (ped_lstC pad_nil))
    (pssd_cons (psd_for PassesOwn.never rfl (pid_range1 (by rfl) T.z_range (ped_glob (v := .int 256) (by rfl) T.c_ADDRESSES ⟨_, rfl⟩ fun _ => .int _)) (pgd_name (i := 3) sc_stretches.nd rfl (by first | exact .inl rfl | exact .inr rfl)) (pssd_cons (psd_set (i := 4) sc_stretches.nd rfl (by first | exact .inl rfl | exact .inr rfl) (ped_call G_address_of (hr.mono (by omega)) (by rfl) T.m_address_of T.F_address_of.kp T.b_address_of (pad_cons (ped_var 3) pad_nil) (alen_cons alen_nil)))
    (pssd_cons (psd_set (i := 5) sc_stretches.nd rfl (by first | exact .inl rfl | exact .inr rfl) (ped_call G_fate (hr.mono (by omega)) (by rfl) T.m_fate T.F_fate.kp T.b_fate (pad_cons (ped_var 0) (pad_cons (ped_var 1) (pad_cons (ped_var 4) pad_nil))) (alen_cons (alen_cons (alen_cons alen_nil)))))
    (pssd_one (psd_if (PWd.pt (pwd_and (ptd_cmp opd_gt (ped_callB calld_lenA (by rfl) T.z_len (by decide +kernel) (pad_cons (ped_var 2) pad_nil)) ped_int (nomark _)) (pwd_and1 (ptd_cmp (opd_eq hu) (ped_sub hu (ped_sub hu (ped_var 2) (ped_neg ped_int) (fun _ _ => rfl)) ped_int (fun _ _ => rfl)) (ped_var 5) (nomark _))))) (pssd_one (psd_asg (ped_tup (pad_cons (ped_sub hu (ped_sub hu (ped_var 2) (ped_neg ped_int) (fun _ _ => rfl)) ped_int (fun _ _ => rfl)) (pad_cons (ped_var 4) (pad_cons (ped_var 5) pad_nil)))) (pgd_ix (ped_var 2) (ped_neg ped_int)))) (pssd_one (psd_expr (ped_append (ped_var 2) (ped_tup (pad_cons (ped_var 4) (pad_cons (ped_var 4) (pad_cons (ped_var 5) pad_nil))))))))))))
    (pssd_one (psd_ret (ped_var 2)))))
def b_law : SM := (sSeq (sSet 1 (mCallF m__law_draws (aCons (mBin dAdd (mSl (mVar 0) oNone (oSome (mC (.int 24)))) (mLst (aCons (mC (.int 42)) aNil))) aNil)))
  (sSeq (sFor (iRange (aCons (mC (.int 3)) aNil)) (gNm 2) (sSeq (sSet 3 (mCallF m__law_names (aCons (mVar 1) (aCons (mBin dAdd (mC (.int 1)) (mCallF m__law_next (aCons (mVar 1) (aCons (mC (.int 8)) aNil)))) aNil))))
  (sSeq (sSet 4 (mCallF m__law_tables (aCons (mVar 1) (aCons (mVar 3) aNil))))
  (sSeq (sSet 5 (mCallF (m__law_copied 40) (aCons (mVar 4) aNil)))
  (sSeq (sFor (iRange (aCons (mC (.int 8)) aNil)) (gNm 6) (sSeq (sAsg (mTup (aCons (mCallF m__law_pick (aCons (mVar 1) (aCons (mBin dAdd (mVar 3) (mLst (aCons (mC (.str "nobody")) aNil))) aNil))) (aCons (mCallF m__law_near_address (aCons (mVar 1) (aCons (mVar 4) aNil))) aNil))) (gTu 2 (gsCons (gNm 7) (gsCons (gNm 8) gsNil))))
  (sIf (mNotB (mTB (mCallF (m__law_same 40) (aCons (mCallF m_fate (aCons (mVar 5) (aCons (mVar 7) (aCons (mVar 8) aNil)))) (aCons (mCallF m__law_fate (aCons (mVar 4) (aCons (mVar 7) (aCons (mVar 8) aNil)))) aNil))))) (sRet (mC (.bool false))) sNx)))
  (sSeq (sSet 7 (mCallF m__law_pick (aCons (mVar 1) (aCons (mVar 3) aNil))))
  (sSeq (sSet 9 (mLC [10] (iRange (aCons (mC (.int 256)) aNil)) (gNm 10) bYes (mCallF m__law_fate (aCons (mVar 4) (aCons (mVar 7) (aCons (mCallF m__law_address (aCons (mVar 10) aNil)) aNil))))))
  (sIf (mOrB (mNotB (mTB (mCallF (m__law_same 40) (aCons (mCallF m_stretches (aCons (mVar 5) (aCons (mVar 7) aNil))) (aCons (mCallF m__law_stretches (aCons (mVar 9) aNil)) aNil))))) (mNotB (mTB (mCallF (m__law_same 40) (aCons (mVar 5) (aCons (mVar 4) aNil)))))) (sRet (mC (.bool false))) sNx))))))))
  (sRet (mC (.bool true)))))
def m_law : FM := mFun exitZ 11 b_law
theorem ok_law (T : Txt K mg) (G__law_address : FnOk P w K mg base CX0 1 T.a__law_address T.d__law_address ["number"] (spM K m__law_address 1)) (G__law_copied : FnOk P w K mg base CX0 40 T.a__law_copied T.d__law_copied ["value"] (spM K (m__law_copied 40) 1)) (G__law_draws : FnOk P w K mg base CX0 1 T.a__law_draws T.d__law_draws ["cells"] (spM K m__law_draws 1)) (G__law_fate : FnOk P w K mg base CX0 2 T.a__law_fate T.d__law_fate ["tables", "name", "address"] (spM K m__law_fate 3)) (G__law_names : FnOk P w K mg base CX0 3 T.a__law_names T.d__law_names ["state", "many"] (spM K m__law_names 2)) (G__law_near_address : FnOk P w K mg base CX0 3 T.a__law_near_address T.d__law_near_address ["state", "tables"] (spM K m__law_near_address 2)) (G__law_next : FnOk P w K mg base CX0 1 T.a__law_next T.d__law_next ["state", "bound"] (spM K m__law_next 2)) (G__law_pick : FnOk P w K mg base CX0 2 T.a__law_pick T.d__law_pick ["state", "things"] (spM K m__law_pick 2)) (G__law_same : FnOk P w K mg base CX0 40 T.a__law_same T.d__law_same ["one", "other"] (spM K (m__law_same 40) 2)) (G__law_stretches : FnOk P w K mg base CX0 2 T.a__law_stretches T.d__law_stretches ["rows"] (spM K m__law_stretches 1)) (G__law_tables : FnOk P w K mg base CX0 4 T.a__law_tables T.d__law_tables ["state", "names"] (spM K m__law_tables 2)) (G_fate : FnOk P w K mg base CX0 3 T.a_fate T.d_fate ["tables", "router", "address"] (spM K m_fate 3)) (G_stretches : FnOk P w K mg base CX0 4 T.a_stretches T.d_stretches ["tables", "router"] (spM K m_stretches 2)) : FnOk P w K mg base CX0 41 T.a_law T.d_law ["script"] (spM K m_law 1) := by
  refine fn_m (k := 40) (N := n_law) exitZ_ok T.F_law sc_law rfl rfl (by decide) fun cdv A outer s H E hr => ?_
  have hu := hu65 hr
  unfold b_law
  exact (pssd_cons (psd_set (i := 1) sc_law.nd rfl (by first | exact .inl rfl | exact .inr rfl) (ped_call G__law_draws (hr.mono (by omega)) (by rfl) T.m__law_draws T.F__law_draws.kp T.b__law_draws (pad_cons (ped_bin opd_add (ped_sl (ped_var 0) pod_none (pod_some ped_int)) (ped_lst (pad_cons ped_int pad_nil))) pad_nil) (alen_cons alen_nil)))
    (pssd_cons (psd_for PassesOwn.never rfl (pid_range1 (by rfl) T.z_range ped_int) (pgd_name (i := 2) sc_law.nd rfl (by first | exact .inl rfl | exact .inr rfl)) (pssd_cons (psd_set (i := 3) sc_law.nd rfl (by first | exact .inl rfl | exact .inr rfl) (ped_call G__law_names (hr.mono (by omega)) (by rfl) T.m__law_names T.F__law_names.kp T.b__law_names (pad_cons (ped_var 1) (pad_cons (ped_bin opd_add ped_int (ped_call G__law_next (hr.mono (by omega)) (by rfl) T.m__law_next T.F__law_next.kp T.b__law_next (pad_cons (ped_var 1) (pad_cons ped_int pad_nil)) (alen_cons (alen_cons alen_nil)))) pad_nil)) (alen_cons (alen_cons alen_nil))))
    (pssd_cons (psd_set (i := 4) sc_law.nd rfl (by first | exact .inl rfl | exact .inr rfl) (ped_call G__law_tables (hr.mono (by omega)) (by rfl) T.m__law_tables T.F__law_tables.kp T.b__law_tables (pad_cons (ped_var 1) (pad_cons (ped_var 3) pad_nil)) (alen_cons (alen_cons alen_nil))))
    (pssd_cons (psd_set (i := 5) sc_law.nd rfl (by first | exact .inl rfl | exact .inr rfl) (ped_call G__law_copied (hr.mono (by omega)) (by rfl) T.m__law_copied T.F__law_copied.kp T.b__law_copied (pad_cons (ped_var 4) pad_nil) (alen_cons alen_nil)))
    (pssd_cons (psd_for PassesOwn.never rfl (pid_range1 (by rfl) T.z_range ped_int) (pgd_name (i := 6) sc_law.nd rfl (by first | exact .inl rfl | exact .inr rfl)) (pssd_cons (psd_asg (ped_tup (pad_cons (ped_call G__law_pick (hr.mono (by omega)) (by rfl) T.m__law_pick T.F__law_pick.kp T.b__law_pick (pad_cons (ped_var 1) (pad_cons (ped_bin opd_add (ped_var 3) (ped_lst (pad_cons ped_str pad_nil))) pad_nil)) (alen_cons (alen_cons alen_nil))) (pad_cons (ped_call G__law_near_address (hr.mono (by omega)) (by rfl) T.m__law_near_address T.F__law_near_address.kp T.b__law_near_address (pad_cons (ped_var 1) (pad_cons (ped_var 4) pad_nil)) (alen_cons (alen_cons alen_nil))) pad_nil))) (pgd_tup rfl (pgsd_cons (pgd_name (i := 7) sc_law.nd rfl (by first | exact .inl rfl | exact .inr rfl)) (pgsd_cons (pgd_name (i := 8) sc_law.nd rfl (by first | exact .inl rfl | exact .inr rfl)) pgsd_nil))))
    (pssd_one (psd_if (ptd_not (ptd_val (ped_call G__law_same (hr.mono (by omega)) (by rfl) T.m__law_same T.F__law_same.kp T.b__law_same (pad_cons (ped_call G_fate (hr.mono (by omega)) (by rfl) T.m_fate T.F_fate.kp T.b_fate (pad_cons (ped_var 5) (pad_cons (ped_var 7) (pad_cons (ped_var 8) pad_nil))) (alen_cons (alen_cons (alen_cons alen_nil)))) (pad_cons (ped_call G__law_fate (hr.mono (by omega)) (by rfl) T.m__law_fate T.F__law_fate.kp T.b__law_fate (pad_cons (ped_var 4) (pad_cons (ped_var 7) (pad_cons (ped_var 8) pad_nil))) (alen_cons (alen_cons (alen_cons alen_nil)))) pad_nil)) (alen_cons (alen_cons alen_nil))))) (pssd_one (psd_ret ped_bl)) pssd_nil))))
    (pssd_cons (psd_set (i := 7) sc_law.nd rfl (by first | exact .inl rfl | exact .inr rfl) (ped_call G__law_pick (hr.mono (by omega)) (by rfl) T.m__law_pick T.F__law_pick.kp T.b__law_pick (pad_cons (ped_var 1) (pad_cons (ped_var 3) pad_nil)) (alen_cons (alen_cons alen_nil))))
    (pssd_cons (psd_setLc (i := 9) rfl sc_law.nd rfl rfl (sw_true rfl rfl rfl (by decide +kernel)) (own := [("k", 10)]) (pid_range1 (by rfl) T.z_range ped_int) (blkOk_by (own := [("k", 10)]) (N := n_law) (sc := defScope s_law) (by decide +kernel)) (fun _ _ _ _ _ => (pgd_name (i := 10) sc_law.nd rfl (by first | exact .inl rfl | exact .inr rfl))) (fun _ _ _ _ _ => ptsd_nil) (fun _ _ _ _ _ => (ped_call G__law_fate (hr.mono (by omega)) (by rfl) T.m__law_fate T.F__law_fate.kp T.b__law_fate (pad_cons (ped_var 4) (pad_cons (ped_var 7) (pad_cons (ped_call G__law_address (hr.mono (by omega)) (by rfl) T.m__law_address T.F__law_address.kp T.b__law_address (pad_cons (ped_var 10) pad_nil) (alen_cons alen_nil)) pad_nil))) (alen_cons (alen_cons (alen_cons alen_nil))))))
    (pssd_one (psd_if (PWd.pt (pwd_or (ptd_not (ptd_val (ped_call G__law_same (hr.mono (by omega)) (by rfl) T.m__law_same T.F__law_same.kp T.b__law_same (pad_cons (ped_call G_stretches (hr.mono (by omega)) (by rfl) T.m_stretches T.F_stretches.kp T.b_stretches (pad_cons (ped_var 5) (pad_cons (ped_var 7) pad_nil)) (alen_cons (alen_cons alen_nil))) (pad_cons (ped_call G__law_stretches (hr.mono (by omega)) (by rfl) T.m__law_stretches T.F__law_stretches.kp T.b__law_stretches (pad_cons (ped_var 9) pad_nil) (alen_cons alen_nil)) pad_nil)) (alen_cons (alen_cons alen_nil))))) (pwd_or1 (ptd_not (ptd_val (ped_call G__law_same (hr.mono (by omega)) (by rfl) T.m__law_same T.F__law_same.kp T.b__law_same (pad_cons (ped_var 5) (pad_cons (ped_var 4) pad_nil)) (alen_cons (alen_cons alen_nil)))))))) (pssd_one (psd_ret ped_bl)) pssd_nil)))))))))
    (pssd_one (psd_ret ped_bl))))
end
end NS

set_option maxHeartbeats 1000000
set_option linter.all false
set_option maxRecDepth 10000
namespace NS
open PySem Pd L2
/-- the state of the draws: the numbers, how many were taken -/
structure St where
  ns : List Int
  k : Nat
def St.l (c : St) : List (Key × SV) := [(Sum.inr "numbers", .fz (.list (c.ns.map .int))), (Sum.inr "at", .fz (.int c.k))]
def St.cell (c : St) : Cell := .dK c.l
theorem dMod_ok (i j : Int) (h : 0 < j) : dMod (.int i) (.int j) = some (.int (i.fmod j)) := by
  have : decide (j ≠ 0) = true := by simp; omega
  simp only [dMod_int, this, if_true]
theorem dDiv_ok (i j : Int) (h : 0 < j) (h2 : j < 1073741824) : dDiv (.int i) (.int j) = some (.int (i.fdiv j)) := by
  have : cDiv i j = true := by simp [cDiv]; omega
  simp [this]
@[simp] theorem ofS_inj (a b : String) : Str.ofString a = Str.ofString b ↔ a = b := by
  constructor
  · intro h
    rw [Str.ofString_eq_toList, Str.ofString_eq_toList] at h
    have h1 : a.toList.map Char.toNat = b.toList.map Char.toNat := by
      have := congrArg (fun s : Str => s.cps.toList) h
      simpa using this
    have h2 : ∀ l m : List Char, l.map Char.toNat = m.map Char.toNat → l = m := by
      intro l
      induction l with
      | nil => intro m e; cases m <;> simp_all
      | cons c l ih =>
        intro m e
        cases m with
        | nil => simp at e
        | cons d m =>
          simp only [List.map_cons, List.cons.injEq] at e
          have : c = d := Char.toNat_inj.mp e.1
          rw [this, ih m e.2]
    exact String.ext (by simpa using h2 _ _ h1)
  · rintro rfl; rfl
theorem sub_num (c : St) (R : Store) : subOf (c.cell :: R) (.ptr 0) (.str "numbers") = some (.fz (.list (c.ns.map .int))) := by
  simp [subOf, dictOf, St.cell, St.l, dlook, keyOf, lookS]
theorem sub_at (c : St) (R : Store) : subOf (c.cell :: R) (.ptr 0) (.str "at") = some (.fz (.int c.k)) := by
  simp [subOf, dictOf, St.cell, St.l, dlook, keyOf, lookS]
theorem t_next (c : St) (b : Int) (hb : 0 < b) (hn : c.ns ≠ []) (hl : c.ns.length ≤ 10000) : ∃ v : Int, 0 ≤ v ∧ v < b ∧ ∀ R : Store, m__law_next [.ptr 0, .fz (.int b)] (c.cell :: R) = some (.fz (.int v), St.cell ⟨c.ns, c.k + 1⟩ :: R) := by
  have hp : 0 < c.ns.length := List.length_pos_iff.mpr hn
  have hp2 : (0 : Int) < c.ns.length := by omega
  have hmod : ((c.k : Int).fmod c.ns.length) = (c.k : Int) % c.ns.length := Int.fmod_eq_emod_of_nonneg _ (by omega)
  have hlt : c.k % c.ns.length < c.ns.length := Nat.mod_lt _ hp
  have hx : atI (c.ns.map PyData.int) ((c.k : Int) % c.ns.length) = some (.int c.ns[c.k % c.ns.length]) := by
    rw [show ((c.k : Int) % c.ns.length) = ((c.k % c.ns.length : Nat) : Int) by simp, atI_nat']
    simp [hlt]
  refine ⟨(c.ns[c.k % c.ns.length] + (c.k : Int).fdiv c.ns.length).fmod b, Int.fmod_nonneg_of_pos _ hb, Int.fmod_lt_of_pos _ hb, fun R => ?_⟩
  simp only [m__law_next, mFun_ap, b__law_next]
  simp [startE, Pd.sDPut, sub_num, sub_at, dMod_ok, dDiv_ok, -dMod_int, -dDiv_int, hp, hp2, hmod, hx, hb, show (c.ns.length : Int) < 1073741824 by omega]
  simp [show (2:Nat) < sizeLine by decide, Pd.sDPut, St.cell, St.l, dictOf, sub_at, keyOf, putS, sub_num, subOf, dlook, lookS, dMod_ok, -dMod_int, hb]
/-- the state with numbers enough -/
def St.ok (c : St) : Prop := c.ns ≠ [] ∧ c.ns.length ≤ 10000
theorem st_next (c : St) (h : c.ok) (b : Int) (hb : 0 < b) : ∃ (v : Int) (c' : St), c'.ok ∧ 0 ≤ v ∧ v < b ∧ ∀ R : Store, m__law_next [.ptr 0, .fz (.int b)] (c.cell :: R) = some (.fz (.int v), c'.cell :: R) := by
  obtain ⟨v, v0, v1, e⟩ := t_next c b hb h.1 h.2
  exact ⟨v, ⟨c.ns, c.k + 1⟩, h, v0, v1, e⟩
theorem atI_mem {α : Type} {xs : List α} {v : Int} (h0 : 0 ≤ v) (h1 : v < xs.length) : ∃ d, d ∈ xs ∧ atI xs v = some d := by
  obtain ⟨n, rfl⟩ := Int.eq_ofNat_of_zero_le h0
  have hn : n < xs.length := by omega
  exact ⟨xs[n], List.getElem_mem hn, by rw [atI_nat', List.getElem?_eq_getElem hn]⟩
/-- one of a list -/
theorem t_pickL (c : St) (h : c.ok) (ds : List PyData) (hd : ds ≠ []) : ∃ d c', St.ok c' ∧ d ∈ ds ∧ ∀ R : Store, m__law_pick [.ptr 0, .fz (.list ds)] (c.cell :: R) = some (.fz d, St.cell c' :: R) := by
  have hp : 0 < ds.length := List.length_pos_iff.mpr hd
  obtain ⟨v, c', ok, v0, v1, e⟩ := st_next c h ds.length (by omega)
  obtain ⟨d, hm, ha⟩ := atI_mem v0 v1
  refine ⟨d, c', ok, hm, fun R => ?_⟩
  simp only [m__law_pick, mFun_ap, b__law_pick]
  simp [startE, e, ha]
/-- a sign of a text -/
theorem t_pickS (c : St) (h : c.ok) (x : Str) (hx : x.cps.toList ≠ []) (hz : x.length ≤ 1000) : ∃ k c', St.ok c' ∧ k ∈ x.cps.toList ∧ ∀ R : Store, m__law_pick [.ptr 0, .fz (.str x)] (c.cell :: R) = some (.fz (.str ⟨#[k]⟩), St.cell c' :: R) := by
  have hl : x.length = x.cps.toList.length := by simp [Str.length]
  have hp : 0 < x.cps.toList.length := List.length_pos_iff.mpr hx
  obtain ⟨v, c', ok, v0, v1, e⟩ := st_next c h x.cps.toList.length (by omega)
  obtain ⟨k, hm, ha⟩ := atI_mem v0 v1
  refine ⟨k, c', ok, hm, fun R => ?_⟩
  have hzz : x.length ≤ sizeLine := Nat.le_trans hz (by decide)
  have hg := gLenA_str hz
  rw [hl] at hg
  simp only [m__law_pick, mFun_ap, b__law_pick]
  rw [show startE 2 [SV.ptr 0, .fz (.str x)] = [some (.ptr 0), some (.fz (.str x))] from rfl]
  simp only [sRet_ap, mSub_ap, mVar_ap, mCallF_ap, aCons_ap, aNil_ap, mCall_ap, List.getElem?_cons_zero, List.getElem?_cons_succ, Option.join_some, Option.map_some, Option.bind_some, flats_cons, flats_nil, flat_fz, hg, e, subOf_str _ _ hzz, ha]
  simp
end NS

set_option maxHeartbeats 1000000
set_option linter.all false
set_option maxRecDepth 10000
namespace NS
open PySem Pd L2
/-- a text of noughts and ones, no longer than m -/
def Bits (m : Nat) (x : Str) : Prop := x.length ≤ m ∧ ∀ k ∈ x.cps.toList, k = 48 ∨ k = 49
theorem str_len (x : Str) : x.length = x.cps.toList.length := by simp [Str.length]
theorem app_toList (x y : Str) : (x ++ y).cps.toList = x.cps.toList ++ y.cps.toList := by
  show (x.cps ++ y.cps).toList = _
  simp
theorem app_len (x y : Str) : (x ++ y).length = x.length + y.length := by rw [str_len, str_len, str_len, app_toList, List.length_append]
theorem dAdd_str (x y : Str) (h : x.length + y.length ≤ 1000) : dAdd (.str x) (.str y) = some (.str (x ++ y)) := by
  have : x.length + y.length ≤ sizeLine := Nat.le_trans h (by decide)
  simp [dAdd, dI, dAddS, dS, this]
theorem Bits.app {m n : Nat} {x y : Str} (h : Bits m x) (h2 : Bits n y) : Bits (m + n) (x ++ y) := by
  refine ⟨by rw [app_len]; have := h.1; have := h2.1; omega, fun k hk => ?_⟩
  rw [app_toList] at hk
  rcases List.mem_append.mp hk with q | q
  · exact h.2 k q
  · exact h2.2 k q
theorem bit1 {k : Nat} (h : k = 48 ∨ k = 49) : Bits 1 ⟨#[k]⟩ := ⟨by simp [Str.length], fun j hj => by simp at hj; subst hj; exact h⟩
theorem t_pickB (c : St) (h : c.ok) : ∃ k c', St.ok c' ∧ (k = 48 ∨ k = 49) ∧ ∀ R : Store, m__law_pick [.ptr 0, .fz (.str "01")] (c.cell :: R) = some (.fz (.str ⟨#[k]⟩), St.cell c' :: R) := by
  have e : ("01" : Str).cps.toList = [48, 49] := by decide +kernel
  obtain ⟨k, c', ok, hm, q⟩ := t_pickS c h "01" (by rw [e]; simp) (by decide +kernel)
  rw [e] at hm
  exact ⟨k, c', ok, by simpa using hm, q⟩
theorem lp_prefix (b : Nat) (R : Store) : ∀ (items : List PyData) (c : St) (m : Nat) (x : Str) (s2 : Option SV), c.ok → Bits m x → m + items.length ≤ 100 →
    ∃ y c' s2', St.ok c' ∧ Bits (m + items.length) y ∧ forGo (gNm 2) (sSet 1 (mBin dAdd (mVar 1) (mCallF m__law_pick (aCons (mVar 0) (aCons (mC (.str "01")) aNil))))) items ⟨b, [some (.ptr 0), some (.fz (.str x)), s2]⟩ (c.cell :: R) = some (.nx, ⟨b, [some (.ptr 0), some (.fz (.str y)), s2']⟩, St.cell c' :: R)
  | [], c, m, x, s2, h, hx, hm => ⟨x, c, s2, h, hx, rfl⟩
  | d :: r, c, m, x, s2, h, hx, hm => by
    simp only [List.length_cons] at hm
    obtain ⟨k, c1, ok1, hk, e⟩ := t_pickB c h
    obtain ⟨y, c2, s2', ok2, hy, e2⟩ := lp_prefix b R r c1 (m + 1) (x ++ ⟨#[k]⟩) (some (.fz d)) ok1 (hx.app (bit1 hk)) (by omega)
    refine ⟨y, c2, s2', ok2, by rw [List.length_cons, show m + (r.length + 1) = m + 1 + r.length by omega]; exact hy, ?_⟩
    have ha := dAdd_str x ⟨#[k]⟩ (by have := hx.1; have := (bit1 hk).1; omega)
    simp only [forGo, gNm_ap, put_ap, Option.bind_some]
    simpa [e, ha] using e2
theorem t_prefix (c : St) (h : c.ok) (R : Store) : ∃ x c', St.ok c' ∧ Bits 8 x ∧ m__law_prefix [.ptr 0] (c.cell :: R) = some (.fz (.str x), St.cell c' :: R) := by
  obtain ⟨v, c1, ok1, v0, v1, e⟩ := st_next c h 6 (by decide)
  obtain ⟨n, hn, ha⟩ : ∃ n : Nat, n ≤ 8 ∧ atI [PyData.int 0, .int 1, .int 2, .int 3, .int 5, .int 8] v = some (.int n) := by
    have hv : v = 0 ∨ v = 1 ∨ v = 2 ∨ v = 3 ∨ v = 4 ∨ v = 5 := by omega
    rcases hv with rfl | rfl | rfl | rfl | rfl | rfl
    · exact ⟨0, by decide, rfl⟩
    · exact ⟨1, by decide, rfl⟩
    · exact ⟨2, by decide, rfl⟩
    · exact ⟨3, by decide, rfl⟩
    · exact ⟨5, by decide, rfl⟩
    · exact ⟨8, by decide, rfl⟩
  have hb0 : Bits 0 ("" : Str) := ⟨by decide +kernel, fun k hk => by
    have : ("" : Str).cps.toList = [] := by decide +kernel
    rw [this] at hk; simp at hk⟩
  obtain ⟨y, c2, s2, ok2, hy, e2⟩ := lp_prefix (c.cell :: R).length R (rangeD 0 n) c1 0 "" none ok1 hb0 (by rw [rangeD_len]; omega)
  rw [rangeD_len] at hy
  refine ⟨y, c2, ok2, ⟨by have := hy.1; omega, hy.2⟩, ?_⟩
  have g1 : iRange (aCons (mSub (mLst (aCons (mC (.int 0)) (aCons (mC (.int 1)) (aCons (mC (.int 2)) (aCons (mC (.int 3)) (aCons (mC (.int 5)) (aCons (mC (.int 8)) aNil))))))) (mCallF m__law_next (aCons (mVar 0) (aCons (mC (.int 6)) aNil)))) aNil) ⟨(c.cell :: R).length, [some (.ptr 0), some (.fz (.str "")), none]⟩ (c.cell :: R) = some (rangeD 0 n, .fz .none, c1.cell :: R) := by
    refine iRange_nat ?_ (by omega)
    simp [e, ha]
  simp only [m__law_prefix, mFun_ap, b__law_prefix]
  simp only [sSeq_ap, sSet_ap, mC_ap, Option.map_some, Option.bind_some]
  rw [show EV.put ⟨(c.cell :: R).length, startE 3 [SV.ptr 0]⟩ 1 (.fz (.str "")) = ⟨(c.cell :: R).length, [some (.ptr 0), some (.fz (.str "")), none]⟩ from rfl]
  rw [sFor_ap, g1]
  simp only [Option.bind_some, e2]
  simp
end NS

set_option maxHeartbeats 1000000
set_option linter.all false
set_option maxRecDepth 10000
namespace NS
open PySem Pd L2
def bitS (n : Nat) : Str := if n % 2 = 0 then "0" else "1"
def addrS : Nat → Nat → Str → Str
  | 0, _, x => x
  | j + 1, n, x => addrS j (n / 2) (bitS n ++ x)
theorem addr_8 : ∀ n, n < 256 → addrS 8 n "" = bin8 n := by decide +kernel
theorem bitS_len (n : Nat) : (bitS n).length = 1 := by
  unfold bitS
  split <;> decide +kernel
theorem gStr0 : gStr [.int 0] = some (.str "0") := by
  have h : Str.ofString (toString (0 : Int)) = "0" := by decide +kernel
  simp only [gStr]
  rw [if_pos (by decide), h]
theorem gStr1 : gStr [.int 1] = some (.str "1") := by
  have h : Str.ofString (toString (1 : Int)) = "1" := by decide +kernel
  simp only [gStr]
  rw [if_pos (by decide), h]
theorem gStr_bit (n : Nat) : gStr [.int ((n : Int).fmod 2)] = some (.str (bitS n)) := by
  have e : ((n : Int).fmod 2) = ((n % 2 : Nat) : Int) := by
    rw [Int.fmod_eq_emod_of_nonneg _ (by omega)]; simp
  have h : n % 2 = 0 ∨ n % 2 = 1 := by omega
  rw [e]
  rcases h with h | h
  · rw [h]; simp only [bitS, h]; exact gStr0
  · rw [h]; simp only [bitS, h]; exact gStr1
theorem lp_addr (P : Store) (b : Nat) : ∀ (items : List PyData) (n : Nat) (x : Str) (s2 : Option SV), x.length + items.length ≤ 100 →
    ∃ s0' s2', forGo (gNm 2) (sSeq (sSet 1 (mBin dAdd (mCall gStr (aCons (mBin dMod (mCall gInt (aCons (mVar 0) aNil)) (mC (.int 2))) aNil)) (mVar 1))) (sSet 0 (mBin dDiv (mVar 0) (mC (.int 2))))) items ⟨b, [some (.fz (.int n)), some (.fz (.str x)), s2]⟩ P = some (.nx, ⟨b, [s0', some (.fz (.str (addrS items.length n x))), s2']⟩, P)
  | [], n, x, s2, h => ⟨_, _, rfl⟩
  | d :: r, n, x, s2, h => by
    simp only [List.length_cons] at h
    obtain ⟨s0', s2', e⟩ := lp_addr P b r (n / 2) (bitS n ++ x) (some (.fz d)) (by rw [app_len, bitS_len]; omega)
    refine ⟨s0', s2', ?_⟩
    have ha := dAdd_str (bitS n) x (by rw [bitS_len]; omega)
    have hd : ((n : Int).fdiv 2) = ((n / 2 : Nat) : Int) := by
      rw [Int.fdiv_eq_ediv_of_nonneg _ (by omega)]; simp
    have hs := gStr_bit n
    simp only [forGo, gNm_ap, put_ap, Option.bind_some]
    simp [dMod_ok, dDiv_ok, -dMod_int, -dDiv_int, hs, ha, hd]
    simpa [addrS] using e
theorem t_address (n : Nat) (hn : n < 256) (P : Store) : m__law_address [.fz (.int n)] P = some (.fz (.str (bin8 n)), P) := by
  obtain ⟨s0, s2, e⟩ := lp_addr P P.length (rangeD 0 8) n "" none (by rw [rangeD_len]; decide +kernel)
  rw [rangeD_len, addr_8 n hn] at e
  have g1 : iRange (aCons (mC (.int 8)) aNil) ⟨P.length, [some (.fz (.int n)), some (.fz (.str "")), none]⟩ P = some (rangeD 0 8, .fz .none, P) := iRange_nat (n := 8) rfl (by decide)
  simp only [m__law_address, mFun_ap, b__law_address]
  simp only [sSeq_ap, sSet_ap, mC_ap, Option.map_some, Option.bind_some]
  rw [show EV.put ⟨P.length, startE 3 [SV.fz (.int (n : Int))]⟩ 1 (.fz (.str "")) = ⟨P.length, [some (.fz (.int n)), some (.fz (.str "")), none]⟩ from rfl]
  rw [sFor_ap, g1]
  simp only [Option.bind_some, e]
  simp
theorem t_address_of (n : Nat) (hn : n < 256) (P : Store) : m_address_of [.fz (.int n)] P = some (.fz (.str (bin8 n)), P) := by
  simp only [m_address_of, mFun_ap, b_address_of]
  have h : (n : Int) < 256 := by omega
  simp [startE, h]
end NS

set_option maxHeartbeats 1000000
set_option linter.all false
set_option maxRecDepth 10000
namespace NS
open PySem Pd L2
/-- good data: dicts of texts among them -/
inductive Ok : Nat → PyData → Prop
  | none (n : Nat) : Ok n .none
  | bool (n : Nat) (b : Bool) : Ok n (.bool b)
  | int (n : Nat) (i : Int) : Ok n (.int i)
  | str (n : Nat) (x : Str) : Ok n (.str x)
  | list (n : Nat) (ds : List PyData) (hl : ds.length ≤ 1000) (h : ∀ d ∈ ds, Ok n d) : Ok (n + 1) (.list ds)
  | tuple (n : Nat) (ds : List PyData) (hl : ds.length ≤ 1000) (h : ∀ d ∈ ds, Ok n d) : Ok (n + 1) (.tuple ds)
  | dct (n : Nat) (l : List (Str × PyData)) (hl : l.length ≤ 1000) (hn : (l.map (·.1)).Nodup) (h : ∀ p ∈ l, Ok n p.2) : Ok (n + 1) (dctD l)
def kv (l : List (Str × PyData)) : List (Key × SV) := l.map fun p => (Sum.inr p.1, SV.fz p.2)
theorem putS_new (l : List (Str × PyData)) (x : Str) (d : PyData) (h : x ∉ l.map (·.1)) : putS (kv l) (Sum.inr x) (.fz d) = kv (l ++ [(x, d)]) := by
  have : ((kv l).any fun p => decide (p.1 = (Sum.inr x : Key))) = false := by
    rw [List.any_eq_false]
    intro p hp
    simp only [kv, List.mem_map] at hp
    obtain ⟨q, hq, rfl⟩ := hp
    simp only [decide_eq_true_eq]
    intro e
    exact h (List.mem_map.mpr ⟨q, hq, Sum.inr.inj e⟩)
  simp only [putS, this, Bool.false_eq_true, if_false]
  simp [kv]
theorem lookD_mem (l : List (Str × PyData)) (h : (l.map (·.1)).Nodup) (p : Str × PyData) (hp : p ∈ l) : lookD l p.1 = some p.2 := by
  induction l with
  | nil => simp at hp
  | cons q r ih =>
    simp only [List.map_cons, List.nodup_cons] at h
    rcases List.mem_cons.mp hp with rfl | hp
    · simp [lookD, List.find?_cons]
    · have ne : ¬ q.1 = p.1 := fun e => h.1 (e ▸ List.mem_map.mpr ⟨p, hp, rfl⟩)
      have := ih h.2 hp
      simpa [lookD, List.find?_cons, ne] using this
theorem lp_copied (self : FM) (l : List (Str × PyData)) (hn : (l.map (·.1)).Nodup) (hl : l.length ≤ 1000) (hs : ∀ p ∈ l, ∀ P : Store, self [.fz p.2] P = some (.fz p.2, P)) (P : Store) :
    ∀ (post pre : List (Str × PyData)) (s3 : Option SV), pre ++ post = l → ∃ s3', forGo (gNm 3) (Pd.sDPut (mVar 2) (mVar 3) (mCallF self (aCons (mSub (mVar 0) (mVar 3)) aNil))) (post.map fun p => .str p.1) ⟨P.length, [some (.fz (dctD l)), none, some (.ptr P.length), s3, none]⟩ (P ++ [.dK (kv pre)]) = some (.nx, ⟨P.length, [some (.fz (dctD l)), none, some (.ptr P.length), s3', none]⟩, P ++ [.dK (kv l)])
  | [], pre, s3, e => by
    refine ⟨s3, ?_⟩
    rw [List.append_nil] at e
    subst e; rfl
  | p :: post, pre, s3, e => by
    have hp : p ∈ l := by rw [← e]; simp
    obtain ⟨s3', e2⟩ := lp_copied self l hn hl hs P post (pre ++ [p]) (some (.fz (.str p.1))) (by rw [List.append_assoc]; exact e)
    refine ⟨s3', ?_⟩
    have hx : p.1 ∉ pre.map (·.1) := by
      rw [← e, List.map_append, List.map_cons] at hn
      intro hm
      exact (List.nodup_append.mp hn).2.2 _ hm _ List.mem_cons_self rfl
    have hlen : pre.length < sizeLine := by
      have : pre.length ≤ l.length := by rw [← e]; simp
      exact Nat.lt_of_le_of_lt (Nat.le_trans this hl) (by decide)
    have hput := putS_new pre p.1 p.2 hx
    have hlook := lookD_mem l hn p hp
    simp only [List.map_cons, forGo, gNm_ap, put_ap, Option.bind_some]
    have hkl : (kv pre).length < sizeLine := by simpa [kv] using hlen
    have one : Pd.sDPut (mVar 2) (mVar 3) (mCallF self (aCons (mSub (mVar 0) (mVar 3)) aNil)) ⟨P.length, [some (.fz (dctD l)), none, some (.ptr P.length), s3, none].set 3 (some (.fz (.str p.1)))⟩ (P ++ [.dK (kv pre)]) = some (.nx, ⟨P.length, [some (.fz (dctD l)), none, some (.ptr P.length), some (.fz (.str p.1)), none]⟩, P ++ [.dK (kv (pre ++ [p]))]) := by
      simp [Pd.sDPut, subOf_dct, hlook, hs p hp, hkl, keyOf, hput]
    rw [one]
    exact e2
end NS

set_option maxHeartbeats 1000000
set_option linter.all false
set_option maxRecDepth 10000
namespace NS
open PySem Pd L2
theorem dat_kv (l : List (Str × PyData)) : (Cell.dK (kv l)).dat = some (dctD l) := by
  have h1 : (kv l).map (·.2) = (l.map (·.2)).map SV.fz := by simp [kv]
  have h2 : ((kv l).map fun p => keyD p.1).zip (l.map (·.2)) = l.map fun p => (PyData.str p.1, p.2) := by
    induction l with
    | nil => rfl
    | cons p r ih => simpa [kv, keyD] using ih (by simp [kv])
  simp only [Cell.dat, h1, fzs_map, Option.map_some, h2, dctD]
theorem t_copied : ∀ (fuel n : Nat) (d : PyData), Ok n d → n < fuel → ∀ P, m__law_copied fuel [.fz d] P = some (.fz d, P) := by
  intro fuel
  induction fuel with
  | zero => intro n d _ h; omega
  | succ fuel ih =>
    intro n d h hf P
    simp only [m__law_copied, mFun_ap, b__law_copied]
    cases h with
    | none => simp [startE, inst]
    | bool b => simp [startE, inst]
    | int i => simp [startE, inst]
    | str x => simp [startE, inst]
    | list n ds hl hi =>
      have e5 : mLC [4] (iAny (mVar 0)) (gNm 4) bYes (mCallF (m__law_copied fuel) (aCons (mVar 4) aNil)) ⟨P.length, [some (.fz (.list ds)), none, none, none, none]⟩ P = some (.fz (.list (ds.map fun d => d)), P) := by
        refine mLC_map (items := ds) (src := .fz (.list ds)) _ (by simp) (Nat.le_trans hl (by decide)) fun d hd S => ?_
        refine ⟨_, rfl, ?_⟩
        simp [EV.wipe, ih n d (hi d hd) (by omega)]
      rw [List.map_id'] at e5
      simp [startE, inst, e5]
    | tuple n ds hl hi =>
      have e5 : mLC [4] (iAny (mVar 0)) (gNm 4) bYes (mCallF (m__law_copied fuel) (aCons (mVar 4) aNil)) ⟨P.length, [some (.fz (.tuple ds)), none, none, none, none]⟩ P = some (.fz (.list (ds.map fun d => d)), P) := by
        refine mLC_map (items := ds) (src := .fz (.tuple ds)) _ (by simp) (Nat.le_trans hl (by decide)) fun d hd S => ?_
        refine ⟨_, rfl, ?_⟩
        simp [EV.wipe, ih n d (hi d hd) (by omega)]
      rw [List.map_id'] at e5
      simp [startE, inst, e5]
    | dct n l hl hn hi =>
      obtain ⟨s3, e⟩ := lp_copied (m__law_copied fuel) l hn hl (fun p hp P => ih n p.2 (hi p hp) (by omega) P) P l [] none rfl
      have i1 : inst .list (dctD l) = false := rfl
      have i2 : inst .tuple (dctD l) = false := rfl
      have i3 : inst .dict (dctD l) = true := rfl
      have hk : iAny (mVar 0) ⟨P.length, [some (.fz (dctD l)), none, some (.ptr P.length), none, none]⟩ (P ++ [.dK []]) = some (l.map (fun p => .str p.1), .fz (dctD l), P ++ [.dK []]) := by
        simp only [iAny_ap, mVar_ap, List.getElem?_cons_zero, Option.join_some, Option.map_some, Option.bind_some, dctD, isKD_dct, keysD_dct, if_true]
      have hx : exitZ P.length (.ptr P.length) (P ++ [.dK (kv l)]) = some (.fz (dctD l), P) := by
        rw [exitZ_ptr (Nat.le_refl _) (c := .dK (kv l)) (by simp) (dat_kv l)]
        simp
      have fe : (sFor (iAny (mVar 0)) (gNm 3) (Pd.sDPut (mVar 2) (mVar 3) (mCallF (m__law_copied fuel) (aCons (mSub (mVar 0) (mVar 3)) aNil)))) ⟨P.length, [some (.fz (dctD l)), none, some (.ptr P.length), none, none]⟩ (P ++ [.dK []]) = some (.nx, ⟨P.length, [some (.fz (dctD l)), none, some (.ptr P.length), s3, none]⟩, P ++ [.dK (kv l)]) := by
        rw [sFor_ap, hk]
        exact e
      simp [startE, i1, i2, i3, fe, hx, -sFor_ap]
end NS

set_option maxHeartbeats 1000000
set_option linter.all false
set_option maxRecDepth 10000
namespace NS
open PySem Pd L2
theorem dEq_bool (a b : Bool) : dEq (.bool a) (.bool b) = some (.bool (decide (a = b))) := by cases a <;> cases b <;> rfl
theorem dNe_bool (a b : Bool) : dNe (.bool a) (.bool b) = some (.bool (!decide (a = b))) := by cases a <;> cases b <;> rfl
theorem gAll_true {α : Type} (l : List α) : gAll [.list (l.map fun _ => .bool true)] = some (.bool true) := by
  rw [gAll_map (fun _ => true) l]
  have : l.all (fun _ => true) = true := by rw [List.all_eq_true]; intro _ _; rfl
  rw [this]
def bS1 (self : FM) : XM := mLC [3] (iAny (mVar 0)) (gNm 3) bYes (mAndV (mIn false (mVar 3) (mVar 1)) (mCallF self (aCons (mSub (mVar 0) (mVar 3)) (aCons (mSub (mVar 1) (mVar 3)) aNil))))
def bS2 (self : FM) : XM := mLC [2] (iRange (aCons (mCall gLenA (aCons (mVar 0) aNil)) aNil)) (gNm 2) bYes (mCallF self (aCons (mSub (mVar 0) (mVar 2)) (aCons (mSub (mVar 1) (mVar 2)) aNil)))
theorem b_same (self : FM) : b__law_same self = (sSeq (sIf (mAndB (mTB (mIs (inst .dict) (mVar 0))) (mTB (mIs (inst .dict) (mVar 1)))) (sRet (mAndV (mBin dEq (mCall gLenA (aCons (mVar 0) aNil)) (mCall gLenA (aCons (mVar 1) aNil))) (mCall gAll (aCons (bS1 self) aNil)))) sNx)
  (sSeq (sIf (mAndB (mTB (mIs (fun d => inst .list d || inst .tuple d) (mVar 0))) (mTB (mIs (fun d => inst .list d || inst .tuple d) (mVar 1)))) (sSeq (sIf (mOrB (mTB (mBin dNe (mIs (inst .list) (mVar 0)) (mIs (inst .list) (mVar 1)))) (mTB (mBin dNe (mCall gLenA (aCons (mVar 0) aNil)) (mCall gLenA (aCons (mVar 1) aNil))))) (sRet (mC (.bool false))) sNx)
  (sRet (mCall gAll (aCons (bS2 self) aNil)))) sNx)
  (sSeq (sIf (mOrB (mTB (mIs (fun d => inst .list d || (inst .tuple d || inst .dict d)) (mVar 0))) (mTB (mIs (fun d => inst .list d || (inst .tuple d || inst .dict d)) (mVar 1)))) (sRet (mC (.bool false))) sNx)
  (sSeq (sIf (mOrB (mTB (mBin (dIs false) (mVar 0) (mC .none))) (mTB (mBin (dIs false) (mVar 1) (mC .none)))) (sRet (mAndV (mBin (dIs false) (mVar 0) (mC .none)) (mBin (dIs false) (mVar 1) (mC .none)))) sNx)
  (sSeq (sIf (mOrB (mTB (mBin dNe (mIs (inst .bool) (mVar 0)) (mIs (inst .bool) (mVar 1)))) (mTB (mBin dNe (mIs (inst .int) (mVar 0)) (mIs (inst .int) (mVar 1))))) (sRet (mC (.bool false))) sNx)
  (sSeq (sIf (mTB (mBin dNe (mIs (inst .str) (mVar 0)) (mIs (inst .str) (mVar 1)))) (sRet (mC (.bool false))) sNx)
  (sRet (mBin dEq (mVar 0) (mVar 1))))))))) := rfl
theorem same_seq (self : FM) (x : PyData) (ds : List PyData) (hx : x = .list ds ∨ x = .tuple ds) (hl : ds.length ≤ 1000) (hs : ∀ d ∈ ds, ∀ P : Store, self [.fz d, .fz d] P = some (.fz (.bool true), P)) (P : Store) :
    bS2 self ⟨P.length, [some (.fz x), some (.fz x), none, none]⟩ P = some (.fz (.list ((rangeD 0 ds.length).map fun _ => .bool true)), P) := by
  have hg : gLenA [x] = some (.int ds.length) := by rcases hx with rfl | rfl <;> rfl
  have hsub : ∀ (S : Store) (i : Nat), subOf S (.fz x) (.int i) = (ds[i]?).map .fz := by
    intro S i
    rcases hx with rfl | rfl <;> simp
  refine mLC_map (fun _ => .bool true) (iRange_nat (n := ds.length) (by simp [hg]) hl) (by rw [rangeD_len]; exact Nat.le_trans hl (by decide)) fun d hd S => ?_
  simp only [rangeD, List.mem_map, List.mem_range] at hd
  obtain ⟨i, hi, rfl⟩ := hd
  refine ⟨_, rfl, ?_⟩
  have h1 := hs ds[i] (List.getElem_mem hi)
  simp [EV.wipe, hsub, hi, h1]
theorem same_dct (self : FM) (l : List (Str × PyData)) (hl : l.length ≤ 1000) (hn : (l.map (·.1)).Nodup) (hs : ∀ p ∈ l, ∀ P : Store, self [.fz p.2, .fz p.2] P = some (.fz (.bool true), P)) (P : Store) :
    bS1 self ⟨P.length, [some (.fz (dctD l)), some (.fz (dctD l)), none, none]⟩ P = some (.fz (.list ((l.map fun p => PyData.str p.1).map fun _ => .bool true)), P) := by
  refine mLC_map (items := l.map fun p => .str p.1) (src := .fz (dctD l)) (fun _ => .bool true) ?_ (by rw [List.length_map]; exact Nat.le_trans hl (by decide)) fun d hd S => ?_
  · simp only [iAny_ap, mVar_ap, List.getElem?_cons_zero, Option.join_some, Option.map_some, Option.bind_some, dctD, isKD_dct, keysD_dct, if_true]
  · simp only [List.mem_map] at hd
    obtain ⟨p, hp, rfl⟩ := hd
    refine ⟨_, rfl, ?_⟩
    simp [EV.wipe, inOf_dct, subOf_dct, lookD_mem l hn p hp, hs p hp]
theorem fin2 (M : XM) (x : PyData) (K : List PyData) (P : Store) (e : M ⟨P.length, [some (.fz x), some (.fz x), none, none]⟩ P = some (.fz (.list K), P)) (g : gAll [.list K] = some (.bool true)) :
    (sRet (mCall gAll (aCons M aNil))) ⟨P.length, [some (.fz x), some (.fz x), none, none]⟩ P = some (.rt (.fz (.bool true)), ⟨P.length, [some (.fz x), some (.fz x), none, none]⟩, P) := by
  simp [e, g]
theorem guard2 (x : PyData) (n : Nat) (P : Store) (hg : gLenA [x] = some (.int n)) :
    (mOrB (mTB (mBin dNe (mIs (inst .list) (mVar 0)) (mIs (inst .list) (mVar 1)))) (mTB (mBin dNe (mCall gLenA (aCons (mVar 0) aNil)) (mCall gLenA (aCons (mVar 1) aNil))))) ⟨P.length, [some (.fz x), some (.fz x), none, none]⟩ P = some (false, P) := by
  simp [dNe_bool, hg]
theorem guard1 (T : PyData → Bool) (x : PyData) (P : Store) (h : T x = true) : (mAndB (mTB (mIs T (mVar 0))) (mTB (mIs T (mVar 1)))) ⟨P.length, [some (.fz x), some (.fz x), none, none]⟩ P = some (true, P) := by
  simp [h]
theorem guard0 (T : PyData → Bool) (x : PyData) (P : Store) (h : T x = false) : (mAndB (mTB (mIs T (mVar 0))) (mTB (mIs T (mVar 1)))) ⟨P.length, [some (.fz x), some (.fz x), none, none]⟩ P = some (false, P) := by
  simp [h]
theorem same_end (self : FM) (x : PyData) (n : Nat) (P : Store) (h1 : inst .dict x = false) (h2 : (inst .list x || inst .tuple x) = true) (hg : gLenA [x] = some (.int n))
    (e : (sRet (mCall gAll (aCons (bS2 self) aNil))) ⟨P.length, [some (.fz x), some (.fz x), none, none]⟩ P = some (.rt (.fz (.bool true)), ⟨P.length, [some (.fz x), some (.fz x), none, none]⟩, P)) :
    ((b__law_same self ⟨P.length, startE 4 [.fz x, .fz x]⟩ P).bind fun (fl, _, P2) => match fl with
      | .rt r => exitZ P.length r P2
      | .nx => exitZ P.length (.fz .none) P2
      | _ => none) = some (.fz (.bool true), P) := by
  rw [b_same, show startE 4 [SV.fz x, .fz x] = [some (.fz x), some (.fz x), none, none] from rfl]
  rw [sSeq_ap, sIf_ap, guard0 _ x P h1]
  simp only [Option.bind_some, Bool.false_eq_true, if_false, sNx_ap]
  rw [sSeq_ap, sIf_ap, guard1 (fun d => inst .list d || inst .tuple d) x P h2]
  simp only [Option.bind_some, if_true]
  rw [sSeq_ap, sIf_ap, guard2 x n P hg]
  simp only [Option.bind_some, Bool.false_eq_true, if_false, sNx_ap]
  rw [e]
  simp
theorem t_same : ∀ (fuel n : Nat) (d : PyData), Ok n d → n < fuel → ∀ P, m__law_same fuel [.fz d, .fz d] P = some (.fz (.bool true), P) := by
  intro fuel
  induction fuel with
  | zero => intro n d _ h; omega
  | succ fuel ih =>
    intro n d h hf P
    simp only [m__law_same, mFun_ap]
    cases h with
    | none => simp [b_same, startE, inst, isNon]
    | bool b => simp [b_same, startE, inst, isNon, dNe_bool, dEq_bool]
    | int i => simp [b_same, startE, inst, isNon, dNe_bool]
    | str x => simp [b_same, startE, inst, isNon, dNe_bool]
    | list n ds hl hi =>
      have e0 := same_seq (m__law_same fuel) (.list ds) ds (.inl rfl) hl (fun d hd P => ih n d (hi d hd) (by omega) P) P
      have e := fin2 _ _ _ P e0 (gAll_true (rangeD 0 ds.length))
      clear e0
      exact same_end (m__law_same fuel) (.list ds) ds.length P rfl rfl rfl e
    | tuple n ds hl hi =>
      have e0 := same_seq (m__law_same fuel) (.tuple ds) ds (.inr rfl) hl (fun d hd P => ih n d (hi d hd) (by omega) P) P
      have e := fin2 _ _ _ P e0 (gAll_true (rangeD 0 ds.length))
      clear e0
      exact same_end (m__law_same fuel) (.tuple ds) ds.length P rfl rfl rfl e
    | dct n l hl hn hi =>
      have e := same_dct (m__law_same fuel) l hl hn (fun p hp P => ih n p.2 (hi p hp) (by omega) P) P
      have g := gAll_true (l.map fun p => PyData.str p.1)
      generalize (l.map fun p => PyData.str p.1).map (fun _ => PyData.bool true) = K at e g
      have hg : gLenA [dctD l] = some (.int l.length) := by
        have := gLenA_dct (l.map fun p => (PyData.str p.1, p.2)) (isKD_dct l)
        rw [List.length_map] at this
        exact this
      have i3 : inst .dict (dctD l) = true := rfl
      simp [b_same, startE, i3, e, g, hg]
end NS

set_option maxHeartbeats 1000000
set_option linter.all false
set_option maxRecDepth 10000
namespace NS
open PySem Pd L2
theorem cut_take (ds : List PyData) (a : Nat) (h : a ≤ ds.length) : cutL ds none (some (a : Int)) = ds.take a := by
  simp [cutL, HT.sIx_none, HT.sIx_nat, Nat.min_eq_left h]
theorem cut_drop (ds : List PyData) (a : Nat) (h : a ≤ ds.length) : cutL ds (some (a : Int)) none = ds.drop a := by
  simp [cutL, HT.sIx_none, HT.sIx_nat, Nat.min_eq_left h]
  exact List.take_of_length_le (by simp)
@[simp] theorem dSl_lst (ds : List PyData) (a b : Option Int) : dSl (.list ds) a b = some (.list (cutL ds a b)) := rfl
def bMix : SM := (sSeq (sSet 4 (mCallF m__law_next (aCons (mVar 0) (aCons (mBin dAdd (mCall gLenA (aCons (mVar 2) aNil)) (mC (.int 1))) aNil))))
  (sSet 2 (mBin dAdd (mBin dAdd (mSl (mVar 2) oNone (oSome (mVar 4))) (mLst (aCons (mVar 3) aNil))) (mSl (mVar 2) (oSome (mVar 4)) oNone))))
theorem lp_mixed (b : Nat) (s1 : Option SV) (R : Store) : ∀ (items l : List PyData) (c : St) (s3 s4 : Option SV), c.ok → l.length + items.length ≤ 100 →
    ∃ l' c' s3' s4', St.ok c' ∧ (l'.Perm (l ++ items)) ∧ forGo (gNm 3) bMix items ⟨b, [some (.ptr 0), s1, some (.fz (.list l)), s3, s4]⟩ (c.cell :: R) = some (.nx, ⟨b, [some (.ptr 0), s1, some (.fz (.list l')), s3', s4']⟩, St.cell c' :: R)
  | [], l, c, s3, s4, h, hl => ⟨l, c, s3, s4, h, by simp, rfl⟩
  | d :: r, l, c, s3, s4, h, hl => by
    simp only [List.length_cons] at hl
    obtain ⟨v, c1, ok1, v0, v1, e⟩ := st_next c h ((l.length : Int) + 1) (by omega)
    obtain ⟨a, rfl⟩ := Int.eq_ofNat_of_zero_le v0
    have ha : a ≤ l.length := by omega
    obtain ⟨l', c2, s3', s4', ok2, hp, e2⟩ := lp_mixed b s1 R r (l.take a ++ [d] ++ l.drop a) c1 (some (.fz d)) (some (.fz (.int a))) ok1 (by simp; omega)
    refine ⟨l', c2, s3', s4', ok2, ?_, ?_⟩
    · refine hp.trans ?_
      have : (l.take a ++ [d] ++ l.drop a).Perm (l ++ [d]) := by
        have h1 : (l.take a ++ [d] ++ l.drop a).Perm ([d] ++ (l.take a ++ l.drop a)) := by
          rw [← List.append_assoc]
          exact List.Perm.append_right _ List.perm_append_comm
        rw [List.take_append_drop] at h1
        exact h1.trans List.perm_append_comm
      have h2 := this.append_right r
      simpa using h2
    · have h1 := dAdd_lst (l.take a) [d] (Nat.le_trans (show (l.take a).length + [d].length ≤ 1000 by simp; omega) (by decide))
      have h2 := dAdd_lst (l.take a ++ [d]) (l.drop a) (Nat.le_trans (show (l.take a ++ [d]).length + (l.drop a).length ≤ 1000 by simp; omega) (by decide))
      have one : bMix ⟨b, [some (.ptr 0), s1, some (.fz (.list l)), some (.fz d), s4]⟩ (c.cell :: R) = some (.nx, ⟨b, [some (.ptr 0), s1, some (.fz (.list (l.take a ++ [d] ++ l.drop a))), some (.fz d), some (.fz (.int a))]⟩, c1.cell :: R) := by
        simp only [bMix]
        generalize hT : l.take a ++ [d] = T at h1 h2
        simp [e, cut_take l a ha, cut_drop l a ha, h1, h2, hT]
      simp only [forGo, gNm_ap, put_ap, Option.bind_some]
      rw [show [some (SV.ptr 0), s1, some (.fz (.list l)), s3, s4].set 3 (some (.fz d)) = [some (.ptr 0), s1, some (.fz (.list l)), some (.fz d), s4] from rfl, one]
      exact e2
theorem t_mixed (c : St) (h : c.ok) (ds : List PyData) (hl : ds.length ≤ 100) (R : Store) : ∃ l c', St.ok c' ∧ (l.Perm ds) ∧ m__law_mixed [.ptr 0, .fz (.list ds)] (c.cell :: R) = some (.fz (.list l), St.cell c' :: R) := by
  obtain ⟨l, c1, s3, s4, ok, hp, e⟩ := lp_mixed (c.cell :: R).length (some (.fz (.list ds))) R ds [] c none none h (by simpa using hl)
  refine ⟨l, c1, ok, by simpa using hp, ?_⟩
  have hb : b__law_mixed = (sSeq (sSet 2 (mLst aNil)) (sSeq (sFor (iAny (mVar 1)) (gNm 3) bMix) (sRet (mVar 2)))) := rfl
  simp only [m__law_mixed, mFun_ap, hb]
  rw [show startE 5 [SV.ptr 0, .fz (.list ds)] = [some (.ptr 0), some (.fz (.list ds)), none, none, none] from rfl]
  have fe : (sFor (iAny (mVar 1)) (gNm 3) bMix) ⟨(c.cell :: R).length, [some (.ptr 0), some (.fz (.list ds)), some (.fz (.list [])), none, none]⟩ (c.cell :: R) = some (.nx, ⟨(c.cell :: R).length, [some (.ptr 0), some (.fz (.list ds)), some (.fz (.list l)), s3, s4]⟩, c1.cell :: R) := by
    rw [sFor_ap]
    simp only [iAny_ap, mVar_ap, List.getElem?_cons_zero, List.getElem?_cons_succ, Option.join_some, Option.map_some, Option.bind_some]
    exact e
  have hz : (0 : Nat) ≤ sizeLine := Nat.zero_le _
  have one : (sSet 2 (mLst aNil)) ⟨(c.cell :: R).length, [some (.ptr 0), some (.fz (.list ds)), none, none, none]⟩ (c.cell :: R) = some (.nx, ⟨(c.cell :: R).length, [some (.ptr 0), some (.fz (.list ds)), some (.fz (.list [])), none, none]⟩, c.cell :: R) := by
    simp [hz]
  rw [sSeq_ap, one]
  simp only [Option.bind_some]
  rw [sSeq_ap, fe]
  simp
end NS

set_option maxHeartbeats 1000000
set_option linter.all false
set_option maxRecDepth 10000
namespace NS
open PySem Pd L2
/-- the first k signs -/
def pf (a : Str) (k : Nat) : Str := cutS a none (some (k : Int))
theorem t_covers (p a : Str) (hp : p.length ≤ 1000) (ha : a.length ≤ 1000) (P : Store) : m_covers [.fz (.str p), .fz (.str a)] P = some (.fz (.bool (decide (pf a p.length = p))), P) := by
  have hz : a.length ≤ sizeLine := Nat.le_trans ha (by decide)
  have hg := gLenA_str hp
  simp only [m_covers, mFun_ap, b_covers]
  simp [startE, hg, dSl, hz, pf]
  exact decide_eq_decide.mpr Iff.rfl
def newer : Option Str → Str → Bool
  | none, _ => true
  | some g, p => decide (g.length < p.length)
def better (a : Str) (f : Option Str) (p : Str) : Option Str := if pf a p.length = p ∧ newer f p = true then some p else f
def optD : Option Str → PyData
  | none => .none
  | some x => .str x
theorem lp_longest (b : Nat) (a : Str) (ha : a.length ≤ 1000) (P : Store) (s0 : Option SV) : ∀ (ps : List Str) (f : Option Str) (s3 : Option SV), (∀ p ∈ ps, p.length ≤ 1000) → (∀ g, f = some g → g.length ≤ 1000) →
    ∃ s3', forGo (gNm 3) (sIf (mAndB (mTB (mCallF m_covers (aCons (mVar 3) (aCons (mVar 1) aNil)))) (mOrB (mTB (mBin (dIs false) (mVar 2) (mC .none))) (mTB (mBin dGt (mCall gLenA (aCons (mVar 3) aNil)) (mCall gLenA (aCons (mVar 2) aNil)))))) (sSet 2 (mVar 3)) sNx) (ps.map .str) ⟨b, [s0, some (.fz (.str a)), some (.fz (optD f)), s3]⟩ P = some (.nx, ⟨b, [s0, some (.fz (.str a)), some (.fz (optD (ps.foldl (better a) f))), s3']⟩, P)
  | [], f, s3, h, hf => ⟨s3, rfl⟩
  | p :: r, f, s3, h, hf => by
    have hp := h p List.mem_cons_self
    have hc := t_covers p a hp ha P
    have hg := gLenA_str hp
    obtain ⟨s3', e⟩ := lp_longest b a ha P s0 r (better a f p) (some (.fz (.str p))) (fun q hq => h q (List.mem_cons_of_mem _ hq)) (fun g hg => by
      unfold better at hg
      split at hg
      · cases hg; exact hp
      · exact hf g hg)
    refine ⟨s3', ?_⟩
    simp only [List.map_cons, forGo, gNm_ap, put_ap, Option.bind_some, List.foldl_cons]
    by_cases h1 : pf a p.length = p
    · cases f with
      | none =>
        have hb : better a none p = some p := by simp [better, newer, h1]
        rw [hb] at e
        rw [hb]
        simpa [hc, h1, optD, isNon] using e
      | some g =>
        have hg2 := gLenA_str (hf g rfl)
        by_cases h2 : g.length < p.length
        · have hb : better a (some g) p = some p := by simp [better, newer, h1, h2]
          rw [hb] at e
          rw [hb]
          simpa [hc, h1, optD, isNon, hg, hg2, h2] using e
        · have hb : better a (some g) p = some g := by simp [better, newer, h2]
          rw [hb] at e
          rw [hb]
          simpa [hc, h1, optD, isNon, hg, hg2, h2] using e
    · have hb : better a f p = f := by simp [better, h1]
      rw [hb] at e
      rw [hb]
      simpa [hc, h1] using e
end NS

set_option maxHeartbeats 1000000
set_option linter.all false
set_option maxRecDepth 10000
namespace NS
open PySem Pd L2
def firstP (keys : List Str) (a : Str) : List Nat → Option Str
  | [] => none
  | s :: r => if pf a s ∈ keys then some (pf a s) else firstP keys a r
def flO : Option Str → Fl
  | none => .nx
  | some x => .rt (.fz (.str x))
theorem lp_lawlongest (b : Nat) (a : Str) (ha : a.length ≤ 1000) (P : Store) (rows : SV) (keys : List Str) (hin : ∀ x, inOf P (.str x) rows = some (decide (x ∈ keys))) : ∀ (ss : List Nat) (s2 : Option SV),
    ∃ s2', forGo (gNm 2) (sIf (mTB (mIn false (mSl (mVar 1) oNone (oSome (mVar 2))) (mVar 0))) (sRet (mSl (mVar 1) oNone (oSome (mVar 2)))) sNx) (ss.map fun s => .int (s : Nat)) ⟨b, [some rows, some (.fz (.str a)), s2]⟩ P = some (flO (firstP keys a ss), ⟨b, [some rows, some (.fz (.str a)), s2']⟩, P)
  | [], s2 => ⟨s2, rfl⟩
  | s :: r, s2 => by
    have hz : a.length ≤ sizeLine := Nat.le_trans ha (by decide)
    have hs : dSl (.str a) none (some (s : Int)) = some (.str (pf a s)) := by simp [dSl, hz, pf]
    obtain ⟨s2', e⟩ := lp_lawlongest b a ha P rows keys hin r (some (.fz (.int s)))
    simp only [List.map_cons, forGo, gNm_ap, put_ap, Option.bind_some]
    by_cases h : pf a s ∈ keys
    · exact ⟨some (.fz (.int s)), by simp [hs, hin, h, firstP, flO]⟩
    · refine ⟨s2', ?_⟩
      have hf : firstP keys a (s :: r) = firstP keys a r := by simp [firstP, h]
      rw [hf]
      simpa [hs, hin, h] using e
def sizes9 : List Nat := [8, 7, 6, 5, 4, 3, 2, 1, 0]
theorem rg3 (ρ : EV) (P1 : Store) : iRange3 (aCons (mC (.int 8)) (aCons (mUn dNeg (mC (.int 1))) (aCons (mUn dNeg (mC (.int 1))) aNil))) ρ P1 = some (sizes9.map fun s => .int (s : Nat), .fz .none, P1) := by
  have hn : dNeg (.int 1) = some (.int (-1)) := rfl
  simp only [iRange3, aCons_ap, aNil_ap, mC_ap, mUn_ap, flat_fz, hn, Option.bind_some, Option.map_some]
  rw [if_pos (by decide)]
  rfl
theorem t_lawlongest (a : Str) (ha : a.length ≤ 1000) (P : Store) (rows : SV) (keys : List Str) (hin : ∀ x, inOf P (.str x) rows = some (decide (x ∈ keys))) : m__law_longest [rows, .fz (.str a)] P = some (.fz (optD (firstP keys a sizes9)), P) := by
  obtain ⟨s2, e⟩ := lp_lawlongest P.length a ha P rows keys hin sizes9 none
  simp only [m__law_longest, mFun_ap, b__law_longest]
  rw [show startE 3 [rows, SV.fz (.str a)] = [some rows, some (.fz (.str a)), none] from rfl, sSeq_ap, sFor_ap, rg3]
  simp only [Option.bind_some]
  rw [e]
  cases firstP keys a sizes9 with
  | none => simp [flO, optD]
  | some x => simp [flO, optD]
end NS

set_option maxHeartbeats 1000000
set_option linter.all false
set_option maxRecDepth 10000
namespace NS
open PySem Pd L2
theorem firstP_none {keys : List Str} {a : Str} : ∀ {ss : List Nat}, firstP keys a ss = none → ∀ s ∈ ss, pf a s ∉ keys
  | [], _, s, h => by simp at h
  | t :: r, e, s, h => by
    unfold firstP at e
    split at e
    · cases e
    · rename_i h1
      rcases List.mem_cons.mp h with rfl | h
      · exact h1
      · exact firstP_none e s h
theorem firstP_some {keys : List Str} {a x : Str} : ∀ {ss : List Nat}, ss.Pairwise (· > ·) → firstP keys a ss = some x → ∃ s ∈ ss, x = pf a s ∧ pf a s ∈ keys ∧ ∀ t ∈ ss, pf a t ∈ keys → t ≤ s
  | [], _, e => by simp [firstP] at e
  | t :: r, hp, e => by
    have hp' := List.pairwise_cons.mp hp
    unfold firstP at e
    split at e
    · rename_i h1
      cases e
      refine ⟨t, List.mem_cons_self, rfl, h1, fun u hu _ => ?_⟩
      rcases List.mem_cons.mp hu with rfl | hu
      · exact Nat.le_refl _
      · exact Nat.le_of_lt (hp'.1 u hu)
    · rename_i h1
      obtain ⟨s, hs, hx, hk, hm⟩ := firstP_some hp'.2 e
      refine ⟨s, List.mem_cons_of_mem _ hs, hx, hk, fun u hu hk2 => ?_⟩
      rcases List.mem_cons.mp hu with rfl | hu
      · exact absurd hk2 h1
      · exact hm u hu hk2
theorem fold_best (a : Str) : ∀ (ks : List Str) (f : Option Str), (∀ g, f = some g → pf a g.length = g) →
    (∀ g, ks.foldl (better a) f = some g → (g ∈ ks ∨ f = some g) ∧ pf a g.length = g ∧ (∀ p ∈ ks, pf a p.length = p → p.length ≤ g.length) ∧ (∀ h, f = some h → h.length ≤ g.length)) ∧ (ks.foldl (better a) f = none → f = none ∧ ∀ p ∈ ks, ¬ pf a p.length = p)
  | [], f, hf => ⟨fun g e => ⟨.inr e, hf g e, by simp, fun h e2 => by have e : f = some g := e; rw [e] at e2; cases e2; exact Nat.le_refl _⟩, fun e => ⟨e, by simp⟩⟩
  | p :: r, f, hf => by
    have hf' : ∀ g, better a f p = some g → pf a g.length = g := fun g e => by
      unfold better at e
      split at e
      · rename_i h; cases e; exact h.1
      · exact hf g e
    obtain ⟨i1, i2⟩ := fold_best a r (better a f p) hf'
    simp only [List.foldl_cons]
    by_cases h1 : pf a p.length = p
    · by_cases h2 : newer f p = true
      · have hb : better a f p = some p := by simp [better, h1, h2]
        refine ⟨fun g e => ?_, fun e => ?_⟩
        · obtain ⟨m, c, mx, mh⟩ := i1 g e
          have hpg := mh p hb
          refine ⟨?_, c, fun q hq hc => ?_, fun h e2 => ?_⟩
          · rcases m with m | m
            · exact .inl (List.mem_cons_of_mem _ m)
            · rw [hb] at m; cases m; exact .inl List.mem_cons_self
          · rcases List.mem_cons.mp hq with rfl | hq
            · exact hpg
            · exact mx q hq hc
          · subst e2
            simp only [newer, decide_eq_true_eq] at h2
            omega
        · have := (i2 e).1; rw [hb] at this; cases this
      · have hb : better a f p = f := by simp [better, h2]
        rw [hb] at i1 i2
        cases f with
        | none => simp [newer] at h2
        | some k =>
          simp only [newer, decide_eq_true_eq] at h2
          rw [hb]
          refine ⟨fun g e => ?_, fun e => ?_⟩
          · obtain ⟨m, c, mx, mh⟩ := i1 g e
            have hkg := mh k rfl
            refine ⟨?_, c, fun q hq hc => ?_, mh⟩
            · rcases m with m | m
              · exact .inl (List.mem_cons_of_mem _ m)
              · exact .inr m
            · rcases List.mem_cons.mp hq with rfl | hq
              · omega
              · exact mx q hq hc
          · have := (i2 e).1; cases this
    · have hb : better a f p = f := by simp [better, h1]
      rw [hb] at i1 i2 ⊢
      refine ⟨fun g e => ?_, fun e => ⟨(i2 e).1, fun q hq => ?_⟩⟩
      · obtain ⟨m, c, mx, mh⟩ := i1 g e
        refine ⟨?_, c, fun q hq hc => ?_, mh⟩
        · rcases m with m | m
          · exact .inl (List.mem_cons_of_mem _ m)
          · exact .inr m
        · rcases List.mem_cons.mp hq with rfl | hq
          · exact absurd hc h1
          · exact mx q hq hc
      · rcases List.mem_cons.mp hq with rfl | hq
        · exact h1
        · exact (i2 e).2 q hq
theorem pf_len (a : Str) (s : Nat) (h : s ≤ a.length) : (pf a s).length = s := by
  have e : pf a s = ⟨(a.cps.toList.take s).toArray⟩ := by
    simp [pf, cutS, HT.sIx_none, HT.sIx_nat, Nat.min_eq_left h]
  rw [e, str_len]
  rw [str_len] at h
  simp at h ⊢
  omega
theorem longest_eq (a : Str) (ha : a.length = 8) (keys : List Str) (hk : ∀ p ∈ keys, p.length ≤ 8) : keys.foldl (better a) none = firstP keys a sizes9 := by
  obtain ⟨i1, i2⟩ := fold_best a keys none (by simp)
  have mem9 : ∀ s, s ≤ 8 → s ∈ sizes9 := by intro s hs; simp [sizes9]; omega
  have le9 : ∀ s ∈ sizes9, s ≤ 8 := by decide
  cases e : keys.foldl (better a) none with
  | none =>
    have h2 := (i2 e).2
    cases e2 : firstP keys a sizes9 with
    | none => rfl
    | some x =>
      obtain ⟨s, hs, hx, hkk, _⟩ := firstP_some (by decide) e2
      exact absurd (by rw [pf_len a s (by have := le9 s hs; omega)]) (h2 _ hkk)
  | some g =>
    obtain ⟨m, c, mx, _⟩ := i1 g e
    have hm : g ∈ keys := by
      rcases m with m | m
      · exact m
      · cases m
    have hg8 := hk g hm
    cases e2 : firstP keys a sizes9 with
    | none => exact absurd (by rw [c]; exact hm) (firstP_none e2 g.length (mem9 _ hg8))
    | some x =>
      obtain ⟨s, hs, hx, hkk, hmx⟩ := firstP_some (by decide) e2
      have h1 : g.length ≤ s := hmx g.length (mem9 _ hg8) (by rw [c]; exact hm)
      have hl := pf_len a s (by have := le9 s hs; omega)
      have h2 : s ≤ g.length := by
        have := mx (pf a s) hkk (by rw [hl])
        omega
      have : s = g.length := by omega
      rw [hx, this, c]
end NS

set_option maxHeartbeats 1000000
set_option linter.all false
set_option maxRecDepth 10000
namespace NS
open PySem Pd L2
theorem t_longest (a : Str) (ha : a.length = 8) (keys : List Str) (hk : ∀ p ∈ keys, p.length ≤ 8) (P : Store) : m_longest [.fz (.list (keys.map .str)), .fz (.str a)] P = some (.fz (optD (firstP keys a sizes9)), P) := by
  obtain ⟨s3, e⟩ := lp_longest P.length a (by omega) P (some (.fz (.list (keys.map .str)))) keys none none (fun p hp => by have := hk p hp; omega) (by simp)
  rw [longest_eq a ha keys hk] at e
  have hb : b_longest = (sSeq (sSet 2 (mC .none)) (sSeq (sFor (iAny (mVar 0)) (gNm 3) (sIf (mAndB (mTB (mCallF m_covers (aCons (mVar 3) (aCons (mVar 1) aNil)))) (mOrB (mTB (mBin (dIs false) (mVar 2) (mC .none))) (mTB (mBin dGt (mCall gLenA (aCons (mVar 3) aNil)) (mCall gLenA (aCons (mVar 2) aNil)))))) (sSet 2 (mVar 3)) sNx)) (sRet (mVar 2)))) := rfl
  simp only [m_longest, mFun_ap, hb]
  rw [show startE 4 [SV.fz (.list (keys.map .str)), .fz (.str a)] = [some (.fz (.list (keys.map .str))), some (.fz (.str a)), none, none] from rfl]
  have fe : (sFor (iAny (mVar 0)) (gNm 3) (sIf (mAndB (mTB (mCallF m_covers (aCons (mVar 3) (aCons (mVar 1) aNil)))) (mOrB (mTB (mBin (dIs false) (mVar 2) (mC .none))) (mTB (mBin dGt (mCall gLenA (aCons (mVar 3) aNil)) (mCall gLenA (aCons (mVar 2) aNil)))))) (sSet 2 (mVar 3)) sNx)) ⟨P.length, [some (.fz (.list (keys.map .str))), some (.fz (.str a)), some (.fz .none), none]⟩ P = some (.nx, ⟨P.length, [some (.fz (.list (keys.map .str))), some (.fz (.str a)), some (.fz (optD (firstP keys a sizes9))), s3]⟩, P) := by
    rw [sFor_ap]
    simp only [iAny_ap, mVar_ap, List.getElem?_cons_zero, Option.join_some, Option.map_some, Option.bind_some]
    exact e
  have one : (sSet 2 (mC .none)) ⟨P.length, [some (.fz (.list (keys.map .str))), some (.fz (.str a)), none, none]⟩ P = some (.nx, ⟨P.length, [some (.fz (.list (keys.map .str))), some (.fz (.str a)), some (.fz .none), none]⟩, P) := by simp
  rw [sSeq_ap, one]
  simp only [Option.bind_some]
  rw [sSeq_ap, fe]
  simp
/-- the keys of a frozen dict -/
theorem in_keys (l : List (Str × PyData)) (P : Store) (x : Str) : inOf P (.str x) (.fz (dctD l)) = some (decide (x ∈ l.map (·.1))) := by
  rw [inOf_dct]
  congr 1
  induction l with
  | nil => rfl
  | cons p r ih =>
    by_cases h : p.1 = x
    · simp [lookD, List.find?_cons, h]
    · have h2 : ¬ x = p.1 := fun z => h z.symm
      simp only [lookD, List.find?_cons, h, decide_false, List.map_cons, List.mem_cons, h2, false_or] at ih ⊢
      exact ih
theorem in_empty (P : Store) (k : Nat) (x : Str) (h : P[k]? = some (.dK [])) : inOf P (.str x) (.ptr k) = some (decide (x ∈ ([] : List Str))) := by
  simp [inOf, dictOf, h, dlook, keyOf, lookS]
theorem gList_keys (l : List (Str × PyData)) : gListA [dctD l] = some (.list ((l.map (·.1)).map .str)) := by
  have := gListA_dct (l.map fun p => (PyData.str p.1, p.2)) (isKD_dct l)
  rw [keysD_dct] at this
  rw [show dctD l = .dict (l.map fun p => (PyData.str p.1, p.2)) from rfl, this, List.map_map]
  rfl
end NS

set_option maxHeartbeats 1000000
set_option linter.all false
set_option maxRecDepth 10000
namespace NS
open PySem Pd L2
abbrev Rows := List (Str × Str)
def rowsD (r : Rows) : PyData := dctD (r.map fun q => (q.1, .str q.2))
abbrev Tabs := List (Str × Rows)
def tabsD (T : Tabs) : PyData := dctD (T.map fun p => (p.1, rowsD p.2))
def lookR {α : Type} (T : List (Str × α)) (x : Str) : Option α := (T.find? fun p => decide (p.1 = x)).map (·.2)
theorem lookD_map {α : Type} (f : α → PyData) (T : List (Str × α)) (x : Str) : lookD (T.map fun p => (p.1, f p.2)) x = (lookR T x).map f := by
  induction T with
  | nil => rfl
  | cons p r ih =>
    by_cases h : p.1 = x
    · simp [lookD, lookR, List.find?_cons, h]
    · simpa [lookD, lookR, List.find?_cons, h] using ih
theorem lookR_mem {α : Type} {T : List (Str × α)} {x : Str} {r : α} (h : lookR T x = some r) : (x, r) ∈ T := by
  simp only [lookR, Option.map_eq_some_iff] at h
  obtain ⟨p, h1, rfl⟩ := h
  have h2 := List.find?_some h1
  simp only [decide_eq_true_eq] at h2
  subst h2
  exact List.mem_of_find?_eq_some h1
theorem lookR_key {α : Type} {T : List (Str × α)} {x : Str} (h : x ∈ T.map (·.1)) : ∃ r, lookR T x = some r := by
  simp only [List.mem_map] at h
  obtain ⟨p, hp, rfl⟩ := h
  cases e : lookR T p.1 with
  | some r => exact ⟨r, rfl⟩
  | none =>
    simp only [lookR, Option.map_eq_none_iff, List.find?_eq_none] at e
    exact absurd (by simp) (e p hp)
def rowsOf (T : Tabs) (x : Str) : Rows := (lookR T x).getD []
/-- the walk of a packet: by the law's longest prefix -/
def fateGo (T : Tabs) (a : Str) : Nat → List Str → Str → Option PyData
  | 0, _, _ => none
  | n + 1, w, here =>
    if here ∈ w then some (.tuple [.str "ring", .tuple ((w ++ [here]).map .str), optD (firstP ((rowsOf T here).map (·.1)) a sizes9)])
    else match firstP ((rowsOf T here).map (·.1)) a sizes9 with
      | none => some (.tuple [.str "norow", .tuple ((w ++ [here]).map .str), .none])
      | some x => match lookR (rowsOf T here) x with
        | none => none
        | some y => if y = here then some (.tuple [.str "home", .tuple ((w ++ [here]).map .str), .str x]) else fateGo T a n (w ++ [here]) y
/-- a text of small signs -/
def Nm (x : Str) : Prop := x.length ≤ 10 ∧ ∀ k ∈ x.cps.toList, k < 128
theorem Nm.strOk {x : Str} (h : Nm x) : PyData.strOk x = true := by
  unfold PyData.strOk
  rw [Array.all_eq_true']
  intro k hk
  have := h.2 k (by simpa using hk)
  simp; omega
structure TabOk (T : Tabs) : Prop where
  len : T.length ≤ 100
  nd : (T.map (·.1)).Nodup
  nm : ∀ p ∈ T, Nm p.1
  rlen : ∀ p ∈ T, p.2.length ≤ 100
  rnd : ∀ p ∈ T, (p.2.map (·.1)).Nodup
  bits : ∀ p ∈ T, ∀ q ∈ p.2, Bits 8 q.1
  rnm : ∀ p ∈ T, ∀ q ∈ p.2, Nm q.2
section
variable {T : Tabs} (hT : TabOk T)
include hT
theorem TabOk.rows (x : Str) : (rowsOf T x).length ≤ 100 ∧ (∀ q ∈ rowsOf T x, Bits 8 q.1 ∧ Nm q.2) := by
  unfold rowsOf
  cases e : lookR T x with
  | none => simp
  | some r =>
    have := lookR_mem e
    exact ⟨hT.rlen _ this, fun q hq => ⟨hT.bits _ this q hq, hT.rnm _ this q hq⟩⟩
theorem TabOk.keys (x : Str) : ∀ p ∈ (rowsOf T x).map (·.1), p.length ≤ 8 := by
  intro p hp
  simp only [List.mem_map] at hp
  obtain ⟨q, hq, rfl⟩ := hp
  exact ((hT.rows x).2 q hq).1.1
end
theorem atI_last {α : Type} (xs : List α) (x : α) : atI (xs ++ [x]) (-1) = some x := by
  have : ixN (xs ++ [x]).length (-1) = some xs.length := by
    simp only [ixN, List.length_append, List.length_singleton]
    rw [if_neg (by omega)]
    simp
    omega
  rw [atI, this]
  simp
theorem cut_last {α : Type} (xs : List α) (x : α) : cutL (xs ++ [x]) none (some (-1)) = xs := by
  have h : HT.sIx (xs ++ [x]).length (xs ++ [x]).length (some (-1)) = xs.length := by
    show (if ((-1 : Int)) < 0 then ((-1 : Int) + ((xs ++ [x]).length : Int)).toNat else min (-1 : Int).toNat (xs ++ [x]).length) = _
    rw [if_pos (by decide)]
    simp only [List.length_append, List.length_singleton]
    omega
  rw [show cutL (xs ++ [x]) none (some (-1)) = ((xs ++ [x]).drop (HT.sIx (xs ++ [x]).length 0 none)).take (HT.sIx (xs ++ [x]).length (xs ++ [x]).length (some (-1)) - HT.sIx (xs ++ [x]).length 0 none) from rfl, h, HT.sIx_none]
  simp
theorem shaped_str {x : Str} (h : PyData.strOk x = true) : SeqAt.shaped (.str x) = true := by simp [SeqAt.shaped, PyData.canLay0, PyData.depth, h]
theorem lay_strs : ∀ {w : List Str}, (∀ x ∈ w, PyData.strOk x = true) → PyData.canLayAll0 (w.map .str) = true ∧ PyData.depthAll (w.map .str) = 0
  | [], _ => by simp [PyData.canLayAll0, PyData.depthAll]
  | x :: r, h => by
    have h1 := lay_strs (w := r) fun y hy => h y (List.mem_cons_of_mem _ hy)
    simp [PyData.canLayAll0, PyData.depthAll, PyData.canLay0, PyData.depth, h x List.mem_cons_self, h1]
theorem shaped_strsT {w : List Str} (h : ∀ x ∈ w, PyData.strOk x = true) : SeqAt.shaped (.tuple (w.map .str)) = true := by
  have := lay_strs h
  simp [SeqAt.shaped, PyData.canLay0, PyData.depth, this]
theorem shaped_strsL {w : List Str} (h : ∀ x ∈ w, PyData.strOk x = true) : SeqAt.shaped (.list (w.map .str)) = true := by
  have := lay_strs h
  simp [SeqAt.shaped, PyData.canLay0, PyData.depth, this]
theorem any_eqv (w : List Str) (x : Str) : ((w.map PyData.str).any fun y => PyData.eqv y (.str x)) = decide (x ∈ w) := by
  induction w with
  | nil => simp
  | cons y r ih =>
    rw [List.map_cons, List.any_cons, ih, eqv_str]
    by_cases h : x = y <;> simp [isS, h]
theorem in_walk {w : List Str} {x : Str} (h : ∀ y ∈ w, PyData.strOk y = true) (hx : PyData.strOk x = true) (P : Store) : inOf P (.str x) (.fz (.tuple (w.map .str))) = some (decide (x ∈ w)) := by
  rw [inOf_tup, if_pos ⟨shaped_str hx, shaped_strsT h⟩, any_eqv]
theorem in_list {w : List Str} {x : Str} (h : ∀ y ∈ w, PyData.strOk y = true) (hx : PyData.strOk x = true) (P : Store) : inOf P (.str x) (.fz (.list (w.map .str))) = some (decide (x ∈ w)) := by
  rw [inOf_lst, if_pos ⟨shaped_str hx, shaped_strsL h⟩, any_eqv]
@[simp] theorem dSl_tup (ds : List PyData) (a b : Option Int) : dSl (.tuple ds) a b = some (.tuple (cutL ds a b)) := rfl
theorem dNeg1 : dNeg (.int 1) = some (.int (-1)) := rfl
/-! ### the program's walk -/
def bF : SM := (sSeq (sSet 4 (mGetD (mVar 0) (mSub (mVar 3) (mUn dNeg (mC (.int 1)))) (mFz mDNewK)))
  (sSeq (sSet 5 (mCallF m_longest (aCons (mCall gListA (aCons (mVar 4) aNil)) (aCons (mVar 2) aNil))))
  (sSeq (sIf (mTB (mIn false (mSub (mVar 3) (mUn dNeg (mC (.int 1)))) (mSl (mVar 3) oNone (oSome (mUn dNeg (mC (.int 1))))))) (sRet (mTup (aCons (mC (.str "ring")) (aCons (mVar 3) (aCons (mVar 5) aNil))))) sNx)
  (sSeq (sIf (mTB (mBin (dIs false) (mVar 5) (mC .none))) (sRet (mTup (aCons (mC (.str "norow")) (aCons (mVar 3) (aCons (mC .none) aNil))))) sNx)
  (sSeq (sIf (mTB (mBin dEq (mSub (mVar 4) (mVar 5)) (mSub (mVar 3) (mUn dNeg (mC (.int 1)))))) (sRet (mTup (aCons (mC (.str "home")) (aCons (mVar 3) (aCons (mVar 5) aNil))))) sNx)
  (sSet 3 (mBin dAdd (mVar 3) (mTup (aCons (mSub (mVar 4) (mVar 5)) aNil)))))))))
theorem bF_ap (ρ : EV) (P : Store) : bF ρ P = (sSeq (sSet 4 (mGetD (mVar 0) (mSub (mVar 3) (mUn dNeg (mC (.int 1)))) (mFz mDNewK)))
  (sSeq (sSet 5 (mCallF m_longest (aCons (mCall gListA (aCons (mVar 4) aNil)) (aCons (mVar 2) aNil))))
  (sSeq (sIf (mTB (mIn false (mSub (mVar 3) (mUn dNeg (mC (.int 1)))) (mSl (mVar 3) oNone (oSome (mUn dNeg (mC (.int 1))))))) (sRet (mTup (aCons (mC (.str "ring")) (aCons (mVar 3) (aCons (mVar 5) aNil))))) sNx)
  (sSeq (sIf (mTB (mBin (dIs false) (mVar 5) (mC .none))) (sRet (mTup (aCons (mC (.str "norow")) (aCons (mVar 3) (aCons (mC .none) aNil))))) sNx)
  (sSeq (sIf (mTB (mBin dEq (mSub (mVar 4) (mVar 5)) (mSub (mVar 3) (mUn dNeg (mC (.int 1)))))) (sRet (mTup (aCons (mC (.str "home")) (aCons (mVar 3) (aCons (mVar 5) aNil))))) sNx)
  (sSet 3 (mBin dAdd (mVar 3) (mTup (aCons (mSub (mVar 4) (mVar 5)) aNil))))))))) ρ P := rfl
theorem b_fate_eq : b_fate = (sSeq (sSet 3 (mTup (aCons (mVar 1) aNil))) (whGo (mTB (mC (.bool true))) bF 100000)) := rfl
theorem gList_rows (r : Rows) : gListA [rowsD r] = some (.list ((r.map (·.1)).map .str)) := by
  rw [rowsD, gList_keys]; simp [Function.comp_def]
theorem sub_rows (P : Store) (r : Rows) (x : Str) : subOf P (.fz (rowsD r)) (.str x) = (lookR r x).map fun y => .fz (.str y) := by
  rw [rowsD, subOf_dct, lookD_map PyData.str]
  cases lookR r x <;> rfl
theorem get_tabs (P : Store) (T : Tabs) : dictOf P (.fz (tabsD T)) = some (.k ((T.map fun p => (p.1, rowsD p.2)).map fun p => (Sum.inr p.1, SV.fz p.2))) := by
  rw [tabsD, dictOf_dct]
theorem frz_new (P : Store) : frz (P ++ [.dK []]) (.ptr P.length) = some (rowsD [], P ++ [.fz (rowsD [])]) := by
  have h : (P ++ [Cell.dK []])[P.length]? = some (.dK []) := by simp
  simp only [frz, h, Option.bind_some]
  have hd : (Cell.dK []).dat = some (rowsD []) := rfl
  rw [hd, Option.map_some, List.set_append_right _ _ (Nat.le_refl _)]
  simp
theorem lp_fate {T : Tabs} (hT : TabOk T) {a : Str} (ha : a.length = 8) (P0 : Store) (s1 : Option SV) : ∀ (n : Nat) (w : List Str) (here : Str) (J : Store) (s4 s5 : Option SV) (d : PyData),
    (∀ y ∈ w, Nm y) → Nm here → w.length + n ≤ 1000 → fateGo T a n w here = some d → ∀ m, n ≤ m →
    ∃ ρ J', whGo (mTB (mC (.bool true))) bF m ⟨P0.length, [some (.fz (tabsD T)), s1, some (.fz (.str a)), some (.fz (.tuple ((w ++ [here]).map .str))), s4, s5]⟩ (P0 ++ J) = some (.rt (.fz d), ρ, P0 ++ J') := by
  intro n
  induction n with
  | zero => intro w here J s4 s5 d _ _ _ e; simp [fateGo] at e
  | succ n ih =>
    intro w here J s4 s5 d hw hh hl e m hm
    obtain ⟨m, rfl⟩ : ∃ k, m = k + 1 := ⟨m - 1, by omega⟩
    have hm : n ≤ m := by omega
    have e1 : ∀ S, subOf S (.fz (.tuple ((w ++ [here]).map .str))) (.int (-1)) = some (.fz (.str here)) := by
      intro S
      rw [subOf_tup, List.map_append, List.map_singleton, atI_last]; rfl
    have e2 : dSl (.tuple ((w ++ [here]).map .str)) none (some (-1)) = some (.tuple (w.map .str)) := by
      rw [dSl_tup, List.map_append, List.map_singleton, cut_last]
    have e3 : ∀ S, inOf S (.str here) (.fz (.tuple (w.map .str))) = some (decide (here ∈ w)) := in_walk (fun y hy => (hw y hy).strOk) hh.strOk
    have e4 : dlook (.k ((T.map fun p => (p.1, rowsD p.2)).map fun p => (Sum.inr p.1, SV.fz p.2))) (.str here) = some ((lookR T here).map fun r => .fz (rowsD r)) := by
      rw [dlook_dct, lookD_map rowsD]
      cases lookR T here <;> rfl
    have e5 : ((lookR T here).map fun r => SV.fz (rowsD r)).getD (.fz (rowsD [])) = .fz (rowsD (rowsOf T here)) := by
      unfold rowsOf
      cases lookR T here <;> rfl
    have e6 : ∀ S, m_longest [.fz (.list (((rowsOf T here).map (·.1)).map .str)), .fz (.str a)] S = some (.fz (optD (firstP ((rowsOf T here).map (·.1)) a sizes9)), S) := fun S => t_longest a ha _ (hT.keys here) S
    have hset : (sSet 4 (mGetD (mVar 0) (mSub (mVar 3) (mUn dNeg (mC (.int 1)))) (mFz mDNewK))) ⟨P0.length, [some (.fz (tabsD T)), s1, some (.fz (.str a)), some (.fz (.tuple ((w ++ [here]).map .str))), s4, s5]⟩ (P0 ++ J) = some (.nx, ⟨P0.length, [some (.fz (tabsD T)), s1, some (.fz (.str a)), some (.fz (.tuple ((w ++ [here]).map .str))), some (.fz (rowsD (rowsOf T here))), s5]⟩, P0 ++ (J ++ [.fz (rowsD [])])) := by
      simp [-List.map_append, -List.map_map, -subOf_tup, get_tabs, dNeg1, e1, -List.append_assoc, frz_new, e4, e5]
      simp
    have hlong : ∀ s5 S, (sSet 5 (mCallF m_longest (aCons (mCall gListA (aCons (mVar 4) aNil)) (aCons (mVar 2) aNil)))) ⟨P0.length, [some (.fz (tabsD T)), s1, some (.fz (.str a)), some (.fz (.tuple ((w ++ [here]).map .str))), some (.fz (rowsD (rowsOf T here))), s5]⟩ S = some (.nx, ⟨P0.length, [some (.fz (tabsD T)), s1, some (.fz (.str a)), some (.fz (.tuple ((w ++ [here]).map .str))), some (.fz (rowsD (rowsOf T here))), some (.fz (optD (firstP ((rowsOf T here).map (·.1)) a sizes9)))]⟩, S) := by
      intro s5 S
      simp [-List.map_append, -List.map_map, -subOf_tup, gList_rows, e6]
    generalize hW : (w ++ [here]).map PyData.str = W at *
    generalize hF : firstP ((rowsOf T here).map (·.1)) a sizes9 = F at *
    rw [whGo_T, bF_ap, sSeq_ap, hset]
    simp only [Option.bind_some]
    rw [sSeq_ap, hlong]
    simp only [Option.bind_some]
    rw [fateGo, hF, hW] at e
    by_cases h1 : here ∈ w
    · rw [if_pos h1] at e
      cases e
      simp [-inOf_tup, -subOf_tup, -dSl_tup, dNeg1, e1, e2, e3, h1]
    · rw [if_neg h1] at e
      cases F with
      | none =>
        cases e
        simp [-inOf_tup, -subOf_tup, -dSl_tup, dNeg1, e1, e2, e3, h1, optD, isNon]
      | some x =>
        simp only at e
        cases hy : lookR (rowsOf T here) x with
        | none => rw [hy] at e; cases e
        | some y =>
          rw [hy] at e
          simp only at e
          by_cases h2 : y = here
          · rw [if_pos h2] at e
            cases e
            simp [-inOf_tup, -subOf_tup, -dSl_tup, dNeg1, e1, e2, e3, h1, optD, isNon, sub_rows, hy, h2]
          · rw [if_neg h2] at e
            have hnm : Nm y := ((hT.rows here).2 _ (lookR_mem hy)).2
            obtain ⟨ρ, J', q⟩ := ih (w ++ [here]) y (J ++ [.fz (rowsD [])]) (some (.fz (rowsD (rowsOf T here)))) (some (.fz (optD (some x)))) d (fun z hz => by
              rcases List.mem_append.mp hz with hz | hz
              · exact hw z hz
              · simp at hz; subst hz; exact hh) hnm (by simp; omega) e m hm
            refine ⟨ρ, J', ?_⟩
            have hadd := dAdd_tup W [.str y] (Nat.le_trans (show W.length + 1 ≤ 1001 by rw [← hW]; simp; omega) (by decide))
            have hW2 : W ++ [.str y] = ((w ++ [here]) ++ [y]).map PyData.str := by rw [List.map_append (l₁ := w ++ [here]), hW]; rfl
            rw [hW2] at hadd
            simp [-List.map_append, -inOf_tup, -subOf_tup, -dSl_tup, dNeg1, e1, e2, e3, h1, optD, isNon, sub_rows, hy, h2, hadd]
            simpa [-List.map_append, optD] using q
end NS

set_option maxHeartbeats 1000000
set_option linter.all false
set_option maxRecDepth 10000
namespace NS
open PySem Pd L2
theorem cell_at (P0 : Store) (c : Cell) (J : Store) : (P0 ++ c :: J)[P0.length]? = some c := by simp
theorem cell_set (P0 : Store) (c c' : Cell) (J : Store) : (P0 ++ c :: J).set P0.length c' = P0 ++ c' :: J := by
  rw [List.set_append_right _ _ (Nat.le_refl _)]; simp
/-! ### the law's walk -/
def bL : SM := (sSeq (sSet 4 (mSub (mVar 3) (mUn dNeg (mC (.int 1)))))
  (sSeq (sSet 5 (mIfE (mTB (mIn false (mVar 4) (mVar 0))) (mSub (mVar 0) (mVar 4)) mDNewK))
  (sSeq (sSet 6 (mCallF m__law_longest (aCons (mVar 5) (aCons (mVar 2) aNil))))
  (sSeq (sIf (mTB (mIn false (mVar 4) (mSl (mVar 3) oNone (oSome (mUn dNeg (mC (.int 1))))))) (sRet (mTup (aCons (mC (.str "ring")) (aCons (mCall gTuple (aCons (mVar 3) aNil)) (aCons (mVar 6) aNil))))) sNx)
  (sSeq (sIf (mTB (mBin (dIs false) (mVar 6) (mC .none))) (sRet (mTup (aCons (mC (.str "norow")) (aCons (mCall gTuple (aCons (mVar 3) aNil)) (aCons (mC .none) aNil))))) sNx)
  (sSeq (sIf (mTB (mBin dEq (mSub (mVar 5) (mVar 6)) (mVar 4))) (sRet (mTup (aCons (mC (.str "home")) (aCons (mCall gTuple (aCons (mVar 3) aNil)) (aCons (mVar 6) aNil))))) sNx)
  (sEx (mApp (mVar 3) (mSub (mVar 5) (mVar 6))))))))))
theorem bL_ap (ρ : EV) (P : Store) : bL ρ P = (sSeq (sSet 4 (mSub (mVar 3) (mUn dNeg (mC (.int 1)))))
  (sSeq (sSet 5 (mIfE (mTB (mIn false (mVar 4) (mVar 0))) (mSub (mVar 0) (mVar 4)) mDNewK))
  (sSeq (sSet 6 (mCallF m__law_longest (aCons (mVar 5) (aCons (mVar 2) aNil))))
  (sSeq (sIf (mTB (mIn false (mVar 4) (mSl (mVar 3) oNone (oSome (mUn dNeg (mC (.int 1))))))) (sRet (mTup (aCons (mC (.str "ring")) (aCons (mCall gTuple (aCons (mVar 3) aNil)) (aCons (mVar 6) aNil))))) sNx)
  (sSeq (sIf (mTB (mBin (dIs false) (mVar 6) (mC .none))) (sRet (mTup (aCons (mC (.str "norow")) (aCons (mCall gTuple (aCons (mVar 3) aNil)) (aCons (mC .none) aNil))))) sNx)
  (sSeq (sIf (mTB (mBin dEq (mSub (mVar 5) (mVar 6)) (mVar 4))) (sRet (mTup (aCons (mC (.str "home")) (aCons (mCall gTuple (aCons (mVar 3) aNil)) (aCons (mVar 6) aNil))))) sNx)
  (sEx (mApp (mVar 3) (mSub (mVar 5) (mVar 6)))))))))) ρ P := rfl
theorem b__law_fate_eq : b__law_fate = (sSeq (sSet 3 (mLstC (aCons (mVar 1) aNil))) (whGo (mTB (mC (.bool true))) bL 100000)) := rfl
theorem lp_lawfate {T : Tabs} (hT : TabOk T) {a : Str} (ha : a.length = 8) (P0 : Store) (s1 : Option SV) : ∀ (n : Nat) (w : List Str) (here : Str) (J : Store) (s4 s5 s6 : Option SV) (d : PyData),
    (∀ y ∈ w, Nm y) → Nm here → w.length + n ≤ 1000 → fateGo T a n w here = some d → ∀ m, n ≤ m →
    ∃ ρ J', whGo (mTB (mC (.bool true))) bL m ⟨P0.length, [some (.fz (tabsD T)), s1, some (.fz (.str a)), some (.ptr P0.length), s4, s5, s6]⟩ (P0 ++ .lst (((w ++ [here]).map .str).map SV.fz) :: J) = some (.rt (.fz d), ρ, P0 ++ J') := by
  intro n
  induction n with
  | zero => intro w here J s4 s5 s6 d _ _ _ e; simp [fateGo] at e
  | succ n ih =>
    intro w here J s4 s5 s6 d hw hh hl e m hm
    obtain ⟨m, rfl⟩ : ∃ k, m = k + 1 := ⟨m - 1, by omega⟩
    have hm : n ≤ m := by omega
    have e1 : atI ((w ++ [here]).map PyData.str) (-1) = some (.str here) := by
      rw [List.map_append, List.map_singleton, atI_last]
    have e2 : cutL ((w ++ [here]).map PyData.str) none (some (-1)) = w.map .str := by
      rw [List.map_append, List.map_singleton, cut_last]
    have e3 : ∀ S, inOf S (.str here) (.fz (.list (w.map .str))) = some (decide (here ∈ w)) := in_list (fun y hy => (hw y hy).strOk) hh.strOk
    have e4 : ∀ S, inOf S (.str here) (.fz (tabsD T)) = some (lookR T here).isSome := by
      intro S
      rw [tabsD, inOf_dct, lookD_map rowsD]
      simp
    have e5 : ∀ S, subOf S (.fz (tabsD T)) (.str here) = (lookR T here).map fun r => .fz (rowsD r) := by
      intro S
      rw [tabsD, subOf_dct, lookD_map rowsD]
      cases lookR T here <;> rfl
    have hlen : ((w ++ [here]).map PyData.str).length ≤ 1001 := by simp; omega
    have hnext : ∀ y, ((w ++ [here]).map PyData.str) ++ [.str y] = ((w ++ [here]) ++ [y]).map PyData.str := fun y => by rw [List.map_append (l₁ := w ++ [here])]; rfl
    generalize hW : (w ++ [here]).map PyData.str = W at *
    have hfz : fzs (W.map SV.fz) = some W := fzs_map W
    have sub1 : ∀ J', subOf (P0 ++ .lst (W.map SV.fz) :: J') (.ptr P0.length) (.int (-1)) = some (.fz (.str here)) := fun J' => by
      rw [subOf_cell (cell_at _ _ _) hfz, e1]; rfl
    have flat1 : ∀ J', flat (P0 ++ .lst (W.map SV.fz) :: J') (.ptr P0.length) = some (.list W) := fun J' => by
      rw [flat_cell (cell_at _ _ _), dat_lst, hfz]; rfl
    -- the rows
    obtain ⟨rs, J1, hrow, hin, hsub⟩ : ∃ (rs : SV) (J1 : Store), (sSet 5 (mIfE (mTB (mIn false (mVar 4) (mVar 0))) (mSub (mVar 0) (mVar 4)) mDNewK)) ⟨P0.length, [some (.fz (tabsD T)), s1, some (.fz (.str a)), some (.ptr P0.length), some (.fz (.str here)), s5, s6]⟩ (P0 ++ .lst (W.map SV.fz) :: J) = some (.nx, ⟨P0.length, [some (.fz (tabsD T)), s1, some (.fz (.str a)), some (.ptr P0.length), some (.fz (.str here)), some rs, s6]⟩, P0 ++ .lst (W.map SV.fz) :: J1) ∧
        (∀ x, inOf (P0 ++ .lst (W.map SV.fz) :: J1) (.str x) rs = some (decide (x ∈ (rowsOf T here).map (·.1)))) ∧ (∀ x y, lookR (rowsOf T here) x = some y → subOf (P0 ++ .lst (W.map SV.fz) :: J1) rs (.str x) = some (.fz (.str y))) := by
      cases hl2 : lookR T here with
      | none =>
        refine ⟨.ptr (P0 ++ .lst (W.map SV.fz) :: J).length, J ++ [.dK []], ?_, fun x => ?_, fun x y hy => ?_⟩
        · simp [e4, hl2]
        · have hr : rowsOf T here = [] := by simp [rowsOf, hl2]
          rw [hr]
          have : P0 ++ Cell.lst (W.map SV.fz) :: (J ++ [Cell.dK []]) = (P0 ++ Cell.lst (W.map SV.fz) :: J) ++ [Cell.dK []] := by simp
          rw [this]
          exact in_empty _ _ x (by simp)
        · have hr : rowsOf T here = [] := by simp [rowsOf, hl2]
          rw [hr] at hy
          simp [lookR] at hy
      | some r =>
        have hr : rowsOf T here = r := by simp [rowsOf, hl2]
        rw [hr]
        refine ⟨.fz (rowsD r), J, ?_, fun x => ?_, fun x y hy => ?_⟩
        · simp [e4, e5, hl2]
        · rw [rowsD, in_keys, List.map_map]; rfl
        · rw [sub_rows, hy]; rfl
    have hlong := t_lawlongest a (by omega) (P0 ++ .lst (W.map SV.fz) :: J1) rs ((rowsOf T here).map (·.1)) hin
    generalize hF : firstP ((rowsOf T here).map (·.1)) a sizes9 = F at *
    have h4 : (sSet 4 (mSub (mVar 3) (mUn dNeg (mC (.int 1))))) ⟨P0.length, [some (.fz (tabsD T)), s1, some (.fz (.str a)), some (.ptr P0.length), s4, s5, s6]⟩ (P0 ++ .lst (W.map SV.fz) :: J) = some (.nx, ⟨P0.length, [some (.fz (tabsD T)), s1, some (.fz (.str a)), some (.ptr P0.length), some (.fz (.str here)), s5, s6]⟩, P0 ++ .lst (W.map SV.fz) :: J) := by
      simp [dNeg1, sub1]
    have h6 : (sSet 6 (mCallF m__law_longest (aCons (mVar 5) (aCons (mVar 2) aNil)))) ⟨P0.length, [some (.fz (tabsD T)), s1, some (.fz (.str a)), some (.ptr P0.length), some (.fz (.str here)), some rs, s6]⟩ (P0 ++ .lst (W.map SV.fz) :: J1) = some (.nx, ⟨P0.length, [some (.fz (tabsD T)), s1, some (.fz (.str a)), some (.ptr P0.length), some (.fz (.str here)), some rs, some (.fz (optD F))]⟩, P0 ++ .lst (W.map SV.fz) :: J1) := by
      simp [hlong]
    rw [whGo_T, bL_ap, sSeq_ap, h4]
    simp only [Option.bind_some]
    rw [sSeq_ap, hrow]
    simp only [Option.bind_some]
    rw [sSeq_ap, h6]
    simp only [Option.bind_some]
    rw [fateGo, hF, hW] at e
    by_cases h1 : here ∈ w
    · rw [if_pos h1] at e
      cases e
      simp [-inOf_lst, -inOf_tup, dNeg1, flat1, e2, e3, h1]
    · rw [if_neg h1] at e
      cases F with
      | none =>
        cases e
        simp [-inOf_lst, -inOf_tup, dNeg1, flat1, e2, e3, h1, optD, isNon]
      | some x =>
        simp only at e
        cases hy : lookR (rowsOf T here) x with
        | none => rw [hy] at e; cases e
        | some y =>
          rw [hy] at e
          simp only at e
          have hsub2 := hsub x y hy
          by_cases h2 : y = here
          · rw [if_pos h2] at e
            cases e
            simp [-inOf_lst, -inOf_tup, dNeg1, flat1, e2, e3, h1, optD, isNon, hsub2, h2]
          · rw [if_neg h2] at e
            have hnm : Nm y := ((hT.rows here).2 _ (lookR_mem hy)).2
            obtain ⟨ρ, J', q⟩ := ih (w ++ [here]) y J1 (some (.fz (.str here))) (some rs) (some (.fz (optD (some x)))) d (fun z hz => by
              rcases List.mem_append.mp hz with hz | hz
              · exact hw z hz
              · simp at hz; subst hz; exact hh) hnm (by simp; omega) e m hm
            refine ⟨ρ, J', ?_⟩
            have hz : W.length < sizeLine := Nat.lt_of_le_of_lt hlen (by decide)
            have hz2 : (W.map SV.fz).length < sizeLine := by simpa using hz
            rw [← hnext y] at q
            simp [-inOf_lst, -inOf_tup, dNeg1, flat1, e2, e3, h1, optD, isNon, hsub2, h2, cell_at, cell_set, hz]
            simpa [optD] using q
end NS

set_option maxHeartbeats 1000000
set_option linter.all false
set_option maxRecDepth 10000
namespace NS
open PySem Pd L2
theorem nodup_le {α : Type} [DecidableEq α] : ∀ (w l : List α), w.Nodup → (∀ x ∈ w, x ∈ l) → w.length ≤ l.length
  | [], l, _, _ => Nat.zero_le _
  | x :: r, l, h, hs => by
    have hn := List.nodup_cons.mp h
    have hx : x ∈ l := hs x List.mem_cons_self
    have := nodup_le r (l.erase x) hn.2 fun y hy => by
      have ne : y ≠ x := fun e => hn.1 (e ▸ hy)
      exact (List.mem_erase_of_ne ne).mpr (hs y (List.mem_cons_of_mem _ hy))
    have hl := List.length_erase_of_mem hx
    have hp : 0 < l.length := List.length_pos_of_mem hx
    simp only [List.length_cons]; omega
theorem ok_optD (n : Nat) (o : Option Str) : Ok n (optD o) := by cases o <;> constructor
theorem ok_told (x : Str) (w : List Str) (o : PyData) (hl : w.length ≤ 1000) (ho : Ok 2 o) : Ok 3 (.tuple [.str x, .tuple (w.map .str), o]) := by
  refine .tuple 2 _ (by simp) fun d hd => ?_
  simp only [List.mem_cons, List.not_mem_nil, or_false] at hd
  rcases hd with rfl | rfl | rfl
  · exact .str _ _
  · refine .tuple 1 _ (by simpa using hl) fun d hd => ?_
    simp only [List.mem_map] at hd
    obtain ⟨y, _, rfl⟩ := hd
    exact .str _ _
  · exact ho
theorem fateGo_some {T : Tabs} (hT : TabOk T) (a : Str) : ∀ (n : Nat) (w : List Str) (here : Str), w.Nodup → (∀ x ∈ w, x ∈ T.map (·.1)) → T.length < n + w.length → ∃ d, fateGo T a n w here = some d ∧ Ok 3 d := by
  intro n
  induction n with
  | zero =>
    intro w here hn hs hl
    have := nodup_le w (T.map (·.1)) hn hs
    simp at this; omega
  | succ n ih =>
    intro w here hn hs hl
    have hwl : w.length ≤ 100 := by
      have := nodup_le w (T.map (·.1)) hn hs
      have := hT.len
      simp at *; omega
    rw [fateGo]
    by_cases h1 : here ∈ w
    · rw [if_pos h1]
      exact ⟨_, rfl, ok_told _ _ _ (by simp; omega) (ok_optD _ _)⟩
    · rw [if_neg h1]
      cases hF : firstP ((rowsOf T here).map (·.1)) a sizes9 with
      | none => exact ⟨_, rfl, ok_told _ _ _ (by simp; omega) (.none _)⟩
      | some x =>
        obtain ⟨s, hs2, hx, hk, _⟩ := firstP_some (by decide) hF
        rw [← hx] at hk
        obtain ⟨y, hy⟩ := lookR_key hk
        simp only [hy]
        by_cases h2 : y = here
        · rw [if_pos h2]
          exact ⟨_, rfl, ok_told _ _ _ (by simp; omega) (.str _ _)⟩
        · rw [if_neg h2]
          refine ih (w ++ [here]) y ?_ ?_ (by simp; omega)
          · rw [List.nodup_append]
            refine ⟨hn, by simp, fun z hz u hu e => ?_⟩
            simp at hu; subst hu; subst e; exact h1 hz
          · intro z hz
            rcases List.mem_append.mp hz with hz | hz
            · exact hs z hz
            · simp at hz; subst hz
              cases hl2 : lookR T z with
              | none =>
                have hr : rowsOf T z = [] := by simp [rowsOf, hl2]
                rw [hr] at hy
                simp [lookR] at hy
              | some r => exact List.mem_map.mpr ⟨_, lookR_mem hl2, rfl⟩
def fateD (T : Tabs) (name a : Str) : PyData := (fateGo T a 200 [] name).getD .none
theorem fateD_eq {T : Tabs} (hT : TabOk T) (name a : Str) : fateGo T a 200 [] name = some (fateD T name a) ∧ Ok 3 (fateD T name a) := by
  obtain ⟨d, e, ok⟩ := fateGo_some hT a 200 [] name (by simp) (by simp) (by have := hT.len; simp; omega)
  rw [fateD, e]
  exact ⟨rfl, ok⟩
theorem t_fate {T : Tabs} (hT : TabOk T) {name a : Str} (hn : Nm name) (ha : a.length = 8) (P : Store) : m_fate [.fz (tabsD T), .fz (.str name), .fz (.str a)] P = some (.fz (fateD T name a), P) := by
  obtain ⟨ρ, J', e⟩ := lp_fate hT ha P (some (.fz (.str name))) 200 [] name [] none none _ (by simp) hn (by simp) (fateD_eq hT name a).1 100000 (by decide)
  simp only [List.nil_append, List.map_cons, List.map_nil, List.append_nil] at e
  simp only [m_fate, mFun_ap, b_fate_eq]
  rw [show startE 6 [SV.fz (tabsD T), .fz (.str name), .fz (.str a)] = [some (.fz (tabsD T)), some (.fz (.str name)), some (.fz (.str a)), none, none, none] from rfl, sSeq_ap]
  have one : (sSet 3 (mTup (aCons (mVar 1) aNil))) ⟨P.length, [some (.fz (tabsD T)), some (.fz (.str name)), some (.fz (.str a)), none, none, none]⟩ P = some (.nx, ⟨P.length, [some (.fz (tabsD T)), some (.fz (.str name)), some (.fz (.str a)), some (.fz (.tuple [.str name])), none, none]⟩, P) := by simp
  rw [one]
  simp only [Option.bind_some]
  rw [e]
  simp
theorem t_lawfate {T : Tabs} (hT : TabOk T) {name a : Str} (hn : Nm name) (ha : a.length = 8) (P : Store) : m__law_fate [.fz (tabsD T), .fz (.str name), .fz (.str a)] P = some (.fz (fateD T name a), P) := by
  obtain ⟨ρ, J', e⟩ := lp_lawfate hT ha P (some (.fz (.str name))) 200 [] name [] none none none _ (by simp) hn (by simp) (fateD_eq hT name a).1 100000 (by decide)
  simp only [List.nil_append, List.map_cons, List.map_nil] at e
  simp only [m__law_fate, mFun_ap, b__law_fate_eq]
  rw [show startE 7 [SV.fz (tabsD T), .fz (.str name), .fz (.str a)] = [some (.fz (tabsD T)), some (.fz (.str name)), some (.fz (.str a)), none, none, none, none] from rfl, sSeq_ap]
  have one : (sSet 3 (mLstC (aCons (mVar 1) aNil))) ⟨P.length, [some (.fz (tabsD T)), some (.fz (.str name)), some (.fz (.str a)), none, none, none, none]⟩ P = some (.nx, ⟨P.length, [some (.fz (tabsD T)), some (.fz (.str name)), some (.fz (.str a)), some (.ptr P.length), none, none, none]⟩, P ++ [.lst [.fz (.str name)]]) := by simp
  rw [one]
  simp only [Option.bind_some]
  rw [e]
  simp
end NS

set_option maxHeartbeats 1000000
set_option linter.all false
set_option maxRecDepth 10000
namespace NS
open PySem Pd L2
/-! ### the stretches: entries (first, last, fate) -/
abbrev Ent := Nat × Nat × PyData
def entD (e : Ent) : PyData := .tuple [.str (bin8 e.1), .str (bin8 e.2.1), e.2.2]
def stStep (f : Nat → PyData) (acc : List Ent) (k : Nat) : List Ent := match acc.getLast? with
  | none => acc ++ [(k, k, f k)]
  | some e => if PyData.eqv e.2.2 (f k) = true then acc.dropLast ++ [(e.1, k, f k)] else acc ++ [(k, k, f k)]
def stAll (f : Nat → PyData) (n : Nat) : List Ent := (List.range n).foldl (stStep f) []
theorem stAll_succ (f : Nat → PyData) (n : Nat) : stAll f (n + 1) = stStep f (stAll f n) n := by
  simp [stAll, List.range_succ]
/-- all entries are of the numbers below n -/
theorem stAll_of (f : Nat → PyData) : ∀ n, (stAll f n).length ≤ n ∧ ∀ e ∈ stAll f n, ∃ k, k < n ∧ e.2.2 = f k := by
  intro n
  induction n with
  | zero => simp [stAll]
  | succ n ih =>
    rw [stAll_succ, stStep]
    cases hl : (stAll f n).getLast? with
    | none =>
      refine ⟨by simp; exact ih.1, fun e he => ?_⟩
      rcases List.mem_append.mp he with he | he
      · obtain ⟨k, hk, h⟩ := ih.2 e he
        exact ⟨k, by omega, h⟩
      · simp at he; subst he; exact ⟨n, by omega, rfl⟩
    | some x =>
      simp only
      split
      · refine ⟨by simp; omega, fun e he => ?_⟩
        rcases List.mem_append.mp he with he | he
        · obtain ⟨k, hk, h⟩ := ih.2 e (List.dropLast_subset _ he)
          exact ⟨k, by omega, h⟩
        · simp at he; subst he; exact ⟨n, by omega, rfl⟩
      · refine ⟨by simp; exact ih.1, fun e he => ?_⟩
        rcases List.mem_append.mp he with he | he
        · obtain ⟨k, hk, h⟩ := ih.2 e he
          exact ⟨k, by omega, h⟩
        · simp at he; subst he; exact ⟨n, by omega, rfl⟩
def entC (acc : List Ent) : Cell := .lst ((acc.map entD).map SV.fz)
theorem ok_shaped : ∀ (n : Nat) (d : PyData), okD n d = true → n ≤ 64 → SeqAt.shaped d = true := fun _ _ h hn => okD_shaped h hn
theorem Nm.okD {x : Str} (n : Nat) (h : Nm x) : okD n (.str x) = true := by
  have h1 := h.strOk
  have h2 := h.1
  cases n <;> (simp only [Pd.okD, h1, Bool.true_and, decide_eq_true_eq]; omega)
theorem Bits.nm {x : Str} (h : Bits 8 x) : Nm x := ⟨by have := h.1; omega, fun k hk => by rcases h.2 k hk with rfl | rfl <;> decide⟩
theorem bin8_len (n : Nat) (h : n < 256) : (bin8 n).length = 8 := by
  have : ∀ n, n < 256 → (bin8 n).length = 8 := by decide +kernel
  exact this n h
theorem told_okD (x : Str) (w : List Str) (o : PyData) (hx : Nm x) (hw : ∀ y ∈ w, Nm y) (hl : w.length ≤ 1000) (ho : okD 2 o = true) : okD 3 (.tuple [.str x, .tuple (w.map .str), o]) = true := by
  simp only [Pd.okD, List.all_cons, List.all_nil, hx.okD, ho, Bool.and_true, Bool.true_and, List.length_map]
  simp [hl]
  exact ⟨⟨hx.strOk, by have := hx.1; omega⟩, fun y hy => (hw y hy).okD 1⟩
theorem word_nm : Nm "ring" ∧ Nm "norow" ∧ Nm "home" := by
  refine ⟨⟨by decide +kernel, ?_⟩, ⟨by decide +kernel, ?_⟩, ⟨by decide +kernel, ?_⟩⟩
  · rw [show ("ring" : Str).cps.toList = [114, 105, 110, 103] by decide +kernel]; decide
  · rw [show ("norow" : Str).cps.toList = [110, 111, 114, 111, 119] by decide +kernel]; decide
  · rw [show ("home" : Str).cps.toList = [104, 111, 109, 101] by decide +kernel]; decide
theorem fateGo_okD {T : Tabs} (hT : TabOk T) (a : Str) : ∀ (n : Nat) (w : List Str) (here : Str) (d : PyData), (∀ x ∈ w, Nm x) → Nm here → n + w.length ≤ 999 → fateGo T a n w here = some d → okD 3 d = true := by
  intro n
  induction n with
  | zero => intro w here d _ _ _ e; simp [fateGo] at e
  | succ n ih =>
    intro w here d hw hh hl e
    have hw' : ∀ x ∈ w ++ [here], Nm x := fun x hx => by
      rcases List.mem_append.mp hx with hx | hx
      · exact hw x hx
      · simp at hx; subst hx; exact hh
    have hk : ∀ x, firstP ((rowsOf T here).map (·.1)) a sizes9 = some x → Nm x := fun x hx => by
      obtain ⟨s, _, hx, hk, _⟩ := firstP_some (by decide) hx
      rw [← hx] at hk
      simp only [List.mem_map] at hk
      obtain ⟨q, hq, hqx⟩ := hk
      rw [← hqx]
      exact (((hT.rows here).2 q hq).1).nm
    rw [fateGo] at e
    by_cases h1 : here ∈ w
    · rw [if_pos h1] at e
      cases e
      refine told_okD _ _ _ word_nm.1 hw' (by simp; omega) ?_
      cases hF : firstP ((rowsOf T here).map (·.1)) a sizes9 with
      | none => rfl
      | some x => exact (hk x hF).okD 2
    · rw [if_neg h1] at e
      cases hF : firstP ((rowsOf T here).map (·.1)) a sizes9 with
      | none =>
        rw [hF] at e
        cases e
        exact told_okD _ _ _ word_nm.2.1 hw' (by simp; omega) rfl
      | some x =>
        rw [hF] at e
        simp only at e
        cases hy : lookR (rowsOf T here) x with
        | none => rw [hy] at e; cases e
        | some y =>
          rw [hy] at e
          simp only at e
          by_cases h2 : y = here
          · rw [if_pos h2] at e
            cases e
            exact told_okD _ _ _ word_nm.2.2 hw' (by simp; omega) ((hk x hF).okD 2)
          · rw [if_neg h2] at e
            exact ih _ y d hw' ((hT.rows here).2 _ (lookR_mem hy)).2 (by simp; omega) e
theorem fate_okD {T : Tabs} (hT : TabOk T) {name : Str} (hn : Nm name) (a : Str) : okD 3 (fateD T name a) = true := fateGo_okD hT a 200 [] name _ (by simp) hn (by simp) (fateD_eq hT name a).1
theorem dEq_shaped {d e : PyData} (h : SeqAt.shaped d = true) (h2 : SeqAt.shaped e = true) (hs : atom d = none) : dEq d e = some (.bool (PyData.eqv d e)) := by
  simp [dEq, dEqA, hs, dEqD, h, h2]
theorem getLast_snoc {α : Type} (l : List α) (h : l ≠ []) : ∃ m x, l = m ++ [x] := ⟨l.dropLast, l.getLast h, (List.dropLast_concat_getLast h).symm⟩
end NS

set_option maxHeartbeats 1000000
set_option linter.all false
set_option maxRecDepth 10000
namespace NS
open PySem Pd L2
theorem fateGo_tup {T : Tabs} (a : Str) : ∀ (n : Nat) (w : List Str) (here : Str) (d : PyData), fateGo T a n w here = some d → ∃ ds, d = .tuple ds := by
  intro n
  induction n with
  | zero => intro w here d e; simp [fateGo] at e
  | succ n ih =>
    intro w here d e
    rw [fateGo] at e
    split at e
    · cases e; exact ⟨_, rfl⟩
    · split at e
      · cases e; exact ⟨_, rfl⟩
      · split at e
        · cases e
        · split at e
          · cases e; exact ⟨_, rfl⟩
          · exact ih _ _ _ e
theorem ixN_last {α : Type} (xs : List α) (x : α) : ixN (xs ++ [x]).length (-1) = some xs.length := by
  simp only [ixN, List.length_append, List.length_singleton]
  rw [if_neg (by omega)]
  simp
  omega
theorem ixN_last' (n : Nat) : ixN (n + 1) (-1) = some n := by
  have := ixN_last (List.replicate n 0) 0
  simpa using this
/-- the fates f k are good data that == compares -/
structure FOk (f : Nat → PyData) : Prop where
  tup : ∀ k, ∃ ds, f k = .tuple ds
  ok : ∀ k, okD 3 (f k) = true
  Ok : ∀ k, Ok 3 (f k)
theorem FOk.eq {f : Nat → PyData} (h : FOk f) (j k : Nat) : dEq (f j) (f k) = some (.bool (PyData.eqv (f j) (f k))) := by
  refine dEq_shaped (okD_shaped (h.ok j) (by decide)) (okD_shaped (h.ok k) (by decide)) ?_
  obtain ⟨ds, e⟩ := h.tup j
  rw [e]; rfl

theorem ent_app (P0 : Store) (sl : List (Option SV)) (A : List Ent) (hl : A.length ≤ 256) (fv te : XM) (x : Ent) (hv : ∀ S, fv ⟨P0.length, sl⟩ S = some (.ptr P0.length, S)) (ht : ∀ S, te ⟨P0.length, sl⟩ S = some (.fz (entD x), S)) :
    sEx (mApp fv te) ⟨P0.length, sl⟩ (P0 ++ [entC A]) = some (.nx, ⟨P0.length, sl⟩, P0 ++ [entC (A ++ [x])]) := by
  have hlz : ((A.map entD).map SV.fz).length < sizeLine := Nat.lt_of_le_of_lt (show ((A.map entD).map SV.fz).length ≤ 256 by simp; exact hl) (by decide)
  have he : entC (A ++ [x]) = .lst ((A.map entD).map SV.fz ++ [.fz (entD x)]) := by simp [entC]
  rw [he, entC]
  generalize (A.map entD).map SV.fz = B at *
  simp [hv, ht, cell_at, cell_set, hlz]
theorem ent_set (P0 : Store) (sl : List (Option SV)) (L : List Ent) (e x : Ent) (fv te : XM) (hv : ∀ S, fv ⟨P0.length, sl⟩ S = some (.ptr P0.length, S)) (ht : te ⟨P0.length, sl⟩ (P0 ++ [entC (L.concat e)]) = some (.fz (entD x), P0 ++ [entC (L.concat e)])) :
    sAsg te (gIx fv (mUn dNeg (mC (.int 1)))) ⟨P0.length, sl⟩ (P0 ++ [entC (L.concat e)]) = some (.nx, ⟨P0.length, sl⟩, P0 ++ [entC (L ++ [x])]) := by
  have he : entC (L ++ [x]) = .lst ((L.map entD).map SV.fz ++ [.fz (entD x)]) := by simp [entC]
  have he2 : entC (L.concat e) = .lst ((L.map entD).map SV.fz ++ [.fz (entD e)]) := by simp [entC]
  rw [he]
  rw [he2] at ht ⊢
  generalize (L.map entD).map SV.fz = B at *
  simp [hv, ht, dNeg1, cell_at, cell_set, ixN_last']
/-- one turn: what the two loops share -/
theorem st_turn {f : Nat → PyData} (hf : FOk f) (P0 : Store) (i : Nat) (hi : i < 256) (M1 M2 : XM) (ρ : EV) (hb : ρ.b = P0.length) (fv : XM) (hv : ∀ S, fv ρ S = some (.ptr P0.length, S)) (h1 : ∀ S, M1 ρ S = some (.fz (.str (bin8 i)), S)) (h2 : ∀ S, M2 ρ S = some (.fz (f i), S)) :
    (sIf (mAndB (mTB (mBin dGt (mCall gLenA (aCons fv aNil)) (mC (.int 0)))) (mTB (mBin dEq (mSub (mSub fv (mUn dNeg (mC (.int 1)))) (mC (.int 2))) M2))) (sAsg (mTup (aCons (mSub (mSub fv (mUn dNeg (mC (.int 1)))) (mC (.int 0))) (aCons M1 (aCons M2 aNil)))) (gIx fv (mUn dNeg (mC (.int 1))))) (sEx (mApp fv (mTup (aCons M1 (aCons M1 (aCons M2 aNil))))))) ρ (P0 ++ [entC (stAll f i)]) = some (.nx, ρ, P0 ++ [entC (stAll f (i + 1))]) := by
  obtain ⟨b, sl⟩ := ρ
  simp only at hb
  subst hb
  obtain ⟨hl, hof⟩ := stAll_of f i
  rw [stAll_succ]
  have ht0 : ∀ S, mTup (aCons M1 (aCons M1 (aCons M2 aNil))) ⟨P0.length, sl⟩ S = some (.fz (entD (i, i, f i)), S) := fun S => by
    simp [h1, h2, entD]
  generalize hA : stAll f i = A at *
  have hfl : flat (P0 ++ [entC A]) (.ptr P0.length) = some (.list (A.map entD)) := by
    rw [flat_cell (cell_at _ _ _), entC, dat_lst, fzs_map]; rfl
  have hcnd : ∀ C : BM, mAndB (mTB (mBin dGt (mCall gLenA (aCons fv aNil)) (mC (.int 0)))) C ⟨P0.length, sl⟩ (P0 ++ [entC A]) = if decide ((0 : Int) < A.length) = true then C ⟨P0.length, sl⟩ (P0 ++ [entC A]) else some (false, P0 ++ [entC A]) := fun C => by
    simp only [mAndB_ap, mTB_ap, mBin_ap, mCall_ap, aCons_ap, aNil_ap, hv, Option.bind_some, Option.map_some, flats_cons, flats_nil, hfl, gLenA_lst, mC_ap, flat_fz, dGt_int, List.length_map]
  rw [sIf_ap, hcnd]
  rcases List.eq_nil_or_concat A with rfl | ⟨L, e, rfl⟩
  · rw [if_neg (by simp)]
    simp only [Option.bind_some, Bool.false_eq_true, if_false]
    rw [ent_app P0 sl [] (by simp) fv _ (i, i, f i) hv ht0]
    simp [stStep]
  · obtain ⟨k, _, he⟩ := hof e (by simp)
    have hdq := hf.eq k i
    rw [← he] at hdq
    have hs : ∀ j, (mSub (mSub fv (mUn dNeg (mC (.int 1)))) (mC (.int j))) ⟨P0.length, sl⟩ (P0 ++ [entC (L.concat e)]) = (atI [PyData.str (bin8 e.1), .str (bin8 e.2.1), e.2.2] j).map fun d => (.fz d, P0 ++ [entC (L.concat e)]) := by
      intro j
      have hs1 : subOf (P0 ++ [entC (L.concat e)]) (.ptr P0.length) (.int (-1)) = some (.fz (entD e)) := by
        rw [entC, subOf_cell (cell_at _ _ _) (fzs_map _), List.concat_eq_append, List.map_append, List.map_singleton, atI_last]; rfl
      simp only [mSub_ap, hv, Option.bind_some, mUn_ap, mC_ap, flat_fz, dNeg1, Option.map_some, hs1]
      rw [show entD e = .tuple [PyData.str (bin8 e.1), .str (bin8 e.2.1), e.2.2] from rfl, subOf_tup]
      cases atI [PyData.str (bin8 e.1), .str (bin8 e.2.1), e.2.2] j <;> rfl
    rw [if_pos (by simp)]
    have hlast : (L.concat e).getLast? = some e := by simp
    have hdl : (L.concat e).dropLast = L := by simp
    have hc : mTB (mBin dEq (mSub (mSub fv (mUn dNeg (mC (.int 1)))) (mC (.int 2))) M2) ⟨P0.length, sl⟩ (P0 ++ [entC (L.concat e)]) = some (PyData.eqv e.2.2 (f i), P0 ++ [entC (L.concat e)]) := by
      simp only [mTB_ap, mBin_ap, hs, atI_2, List.getElem?_cons_succ, List.getElem?_cons_zero, Option.map_some, Option.bind_some, h2, flat_fz, hdq]
    rw [hc]
    simp only [Option.bind_some]
    by_cases hq : PyData.eqv e.2.2 (f i) = true
    · have hstep : stStep f (L.concat e) i = L ++ [(e.1, i, f i)] := by simp only [stStep, hlast, hq, if_true, hdl]
      rw [hstep, if_pos hq]
      refine ent_set P0 sl L e (e.1, i, f i) fv _ hv ?_
      rw [mTup_ap, aCons_ap, hs 0]
      simp [h1, h2, entD]
    · have hstep : stStep f (L.concat e) i = L.concat e ++ [(i, i, f i)] := by simp only [stStep, hlast, hq, if_false, Bool.false_eq_true]
      rw [hstep, if_neg hq]
      exact ent_app P0 sl _ (by omega) fv _ (i, i, f i) hv ht0
end NS

set_option maxHeartbeats 1000000
set_option linter.all false
set_option maxRecDepth 10000
namespace NS
open PySem Pd L2
theorem rangeD_get {n i : Nat} {d : PyData} (h : (rangeD 0 n)[i]? = some d) : i < n ∧ d = .int i := by
  simp only [rangeD, List.getElem?_map, Option.map_eq_some_iff] at h
  obtain ⟨k, h1, rfl⟩ := h
  obtain ⟨h2, h3⟩ := List.getElem?_eq_some_iff.mp h1
  simp only [List.length_range] at h2
  simp only [List.getElem_range] at h3
  subst h3
  exact ⟨h2, by simp⟩
theorem ent_dat (A : List Ent) : (entC A).dat = some (.list (A.map entD)) := by rw [entC, dat_lst, fzs_map]; rfl
theorem t_stretches {T : Tabs} (hT : TabOk T) {name : Str} (hn : Nm name) (f : Nat → PyData) (hf : ∀ k, f k = fateD T name (bin8 k)) (P : Store) : m_stretches [.fz (tabsD T), .fz (.str name)] P = some (.fz (.list ((stAll f 256).map entD)), P) := by
  have hF : FOk f := ⟨fun k => by rw [hf]; exact fateGo_tup _ _ _ _ _ (fateD_eq hT name (bin8 k)).1, fun k => by rw [hf]; exact fate_okD hT hn _, fun k => by rw [hf]; exact (fateD_eq hT name _).2⟩
  obtain ⟨r, e, s3, s4, s5, rfl⟩ : W (forGo (gNm 3) (sSeq (sSet 4 (mCallF m_address_of (aCons (mVar 3) aNil))) (sSeq (sSet 5 (mCallF m_fate (aCons (mVar 0) (aCons (mVar 1) (aCons (mVar 4) aNil)))))
      (sIf (mAndB (mTB (mBin dGt (mCall gLenA (aCons (mVar 2) aNil)) (mC (.int 0)))) (mTB (mBin dEq (mSub (mSub (mVar 2) (mUn dNeg (mC (.int 1)))) (mC (.int 2))) (mVar 5)))) (sAsg (mTup (aCons (mSub (mSub (mVar 2) (mUn dNeg (mC (.int 1)))) (mC (.int 0))) (aCons (mVar 4) (aCons (mVar 5) aNil)))) (gIx (mVar 2) (mUn dNeg (mC (.int 1))))) (sEx (mApp (mVar 2) (mTup (aCons (mVar 4) (aCons (mVar 4) (aCons (mVar 5) aNil)))))))))
      (rangeD 0 256) ⟨P.length, [some (.fz (tabsD T)), some (.fz (.str name)), some (.ptr P.length), none, none, none]⟩ (P ++ [entC (stAll f 0)])) (fun r => ∃ s3 s4 s5, r = (.nx, ⟨P.length, [some (.fz (tabsD T)), some (.fz (.str name)), some (.ptr P.length), s3, s4, s5]⟩, P ++ [entC (stAll f 256)])) := by
    refine W_for (fun i ρ S => ∃ s3 s4 s5, ρ = ⟨P.length, [some (.fz (tabsD T)), some (.fz (.str name)), some (.ptr P.length), s3, s4, s5]⟩ ∧ S = P ++ [entC (stAll f i)]) ⟨_, _, _, rfl, rfl⟩ ?_ ?_
    · rintro i d ρ S hd ⟨s3, s4, s5, rfl, rfl⟩
      obtain ⟨hi, rfl⟩ := rangeD_get hd
      have e1 := t_address_of i hi (P ++ [entC (stAll f i)])
      have e2 := t_fate hT hn (bin8_len i hi) (P ++ [entC (stAll f i)])
      rw [← hf] at e2
      have tn := st_turn hF P i hi (mVar 4) (mVar 5) ⟨P.length, [some (.fz (tabsD T)), some (.fz (.str name)), some (.ptr P.length), some (.fz (.int i)), some (.fz (.str (bin8 i))), some (.fz (f i))]⟩ rfl (mVar 2) (fun S => by simp) (fun S => by simp) (fun S => by simp)
      rw [gNm_ap, W_some]
      have h4 : (sSet 4 (mCallF m_address_of (aCons (mVar 3) aNil))) ⟨P.length, [some (.fz (tabsD T)), some (.fz (.str name)), some (.ptr P.length), some (.fz (.int i)), s4, s5]⟩ (P ++ [entC (stAll f i)]) = some (.nx, ⟨P.length, [some (.fz (tabsD T)), some (.fz (.str name)), some (.ptr P.length), some (.fz (.int i)), some (.fz (.str (bin8 i))), s5]⟩, P ++ [entC (stAll f i)]) := by simp [e1]
      have h5 : (sSet 5 (mCallF m_fate (aCons (mVar 0) (aCons (mVar 1) (aCons (mVar 4) aNil))))) ⟨P.length, [some (.fz (tabsD T)), some (.fz (.str name)), some (.ptr P.length), some (.fz (.int i)), some (.fz (.str (bin8 i))), s5]⟩ (P ++ [entC (stAll f i)]) = some (.nx, ⟨P.length, [some (.fz (tabsD T)), some (.fz (.str name)), some (.ptr P.length), some (.fz (.int i)), some (.fz (.str (bin8 i))), some (.fz (f i))]⟩, P ++ [entC (stAll f i)]) := by simp [e2]
      show W (sSeq _ _ ⟨P.length, [some (.fz (tabsD T)), some (.fz (.str name)), some (.ptr P.length), some (.fz (.int i)), s4, s5]⟩ (P ++ [entC (stAll f i)])) _
      rw [sSeq_ap, h4]
      simp only [Option.bind_some]
      rw [sSeq_ap, h5]
      simp only [Option.bind_some]
      rw [tn, W_some]
      exact ⟨.inl rfl, _, _, _, rfl, rfl⟩
    · rintro ρ S ⟨s3, s4, s5, rfl, rfl⟩
      exact ⟨s3, s4, s5, rfl⟩
  have g1 : iRange (aCons (mC (.int 256)) aNil) ⟨P.length, [some (.fz (tabsD T)), some (.fz (.str name)), some (.ptr P.length), none, none, none]⟩ (P ++ [.lst []]) = some (rangeD 0 256, .fz .none, P ++ [.lst []]) := iRange_nat (n := 256) rfl (by decide)
  have e0 : entC (stAll f 0) = .lst [] := rfl
  rw [e0] at e
  simp only [m_stretches, mFun_ap, b_stretches]
  rw [show startE 6 [SV.fz (tabsD T), .fz (.str name)] = [some (.fz (tabsD T)), some (.fz (.str name)), none, none, none, none] from rfl, sSeq_ap]
  rw [show (sSet 2 (mLstC aNil)) ⟨P.length, [some (.fz (tabsD T)), some (.fz (.str name)), none, none, none, none]⟩ P = some (.nx, ⟨P.length, [some (.fz (tabsD T)), some (.fz (.str name)), some (.ptr P.length), none, none, none]⟩, P ++ [.lst []]) by simp]
  simp only [Option.bind_some]
  rw [sSeq_ap, sFor_ap, g1]
  simp only [Option.bind_some]
  rw [e]
  simp only [Option.bind_some, sRet_ap, mVar_ap, List.getElem?_cons_succ, List.getElem?_cons_zero, Option.join_some, Option.map_some]
  rw [exitZ_ptr (Nat.le_refl _) (cell_at _ _ _) (ent_dat _)]
  simp
def ratD (f : Nat → PyData) : PyData → PyData
  | .int i => f i.toNat
  | _ => .none
theorem t_lawstretches (f : Nat → PyData) (hF : FOk f) (P : Store) : m__law_stretches [.fz (.list ((rangeD 0 256).map (ratD f)))] P = some (.fz (.list ((stAll f 256).map entD)), P) := by
  have hsub : ∀ (i : Nat) (S : Store), i < 256 → subOf S (.fz (.list ((rangeD 0 256).map (ratD f)))) (.int i) = some (.fz (f i)) := by
    intro i S hi
    have hr : (rangeD 0 256)[i]? = some (.int i) := by
      simp only [rangeD, List.getElem?_map]
      rw [List.getElem?_range hi]; simp
    rw [subOf_lst, atI_nat', List.getElem?_map, hr]
    simp [ratD]
  generalize (PyData.list ((rangeD 0 256).map (ratD f))) = D at *
  obtain ⟨r, e, s2, rfl⟩ : W (forGo (gNm 2) (sIf (mAndB (mTB (mBin dGt (mCall gLenA (aCons (mVar 1) aNil)) (mC (.int 0)))) (mTB (mBin dEq (mSub (mSub (mVar 1) (mUn dNeg (mC (.int 1)))) (mC (.int 2))) (mSub (mVar 0) (mVar 2))))) (sAsg (mTup (aCons (mSub (mSub (mVar 1) (mUn dNeg (mC (.int 1)))) (mC (.int 0))) (aCons (mCallF m__law_address (aCons (mVar 2) aNil)) (aCons (mSub (mVar 0) (mVar 2)) aNil)))) (gIx (mVar 1) (mUn dNeg (mC (.int 1))))) (sEx (mApp (mVar 1) (mTup (aCons (mCallF m__law_address (aCons (mVar 2) aNil)) (aCons (mCallF m__law_address (aCons (mVar 2) aNil)) (aCons (mSub (mVar 0) (mVar 2)) aNil)))))))
      (rangeD 0 256) ⟨P.length, [some (.fz D), some (.ptr P.length), none]⟩ (P ++ [entC (stAll f 0)])) (fun r => ∃ s2, r = (.nx, ⟨P.length, [some (.fz D), some (.ptr P.length), s2]⟩, P ++ [entC (stAll f 256)])) := by
    refine W_for (fun i ρ S => ∃ s2, ρ = ⟨P.length, [some (.fz D), some (.ptr P.length), s2]⟩ ∧ S = P ++ [entC (stAll f i)]) ⟨_, rfl, rfl⟩ ?_ ?_
    · rintro i d ρ S hd ⟨s2, rfl, rfl⟩
      obtain ⟨hi, rfl⟩ := rangeD_get hd
      have tn := st_turn hF P i hi (mCallF m__law_address (aCons (mVar 2) aNil)) (mSub (mVar 0) (mVar 2)) ⟨P.length, [some (.fz D), some (.ptr P.length), some (.fz (.int i))]⟩ rfl (mVar 1) (fun S => by simp) (fun S => by simp [t_address i hi]) (fun S => by simp [hsub i S hi])
      rw [gNm_ap, W_some]
      show W (sIf _ _ _ ⟨P.length, [some (.fz D), some (.ptr P.length), some (.fz (.int i))]⟩ (P ++ [entC (stAll f i)])) _
      rw [tn, W_some]
      exact ⟨.inl rfl, _, rfl, rfl⟩
    · rintro ρ S ⟨s2, rfl, rfl⟩
      exact ⟨s2, rfl⟩
  have g1 : iRange (aCons (mC (.int 256)) aNil) ⟨P.length, [some (.fz D), some (.ptr P.length), none]⟩ (P ++ [.lst []]) = some (rangeD 0 256, .fz .none, P ++ [.lst []]) := iRange_nat (n := 256) rfl (by decide)
  have e0 : entC (stAll f 0) = .lst [] := rfl
  rw [e0] at e
  simp only [m__law_stretches, mFun_ap, b__law_stretches]
  rw [show startE 3 [SV.fz D] = [some (.fz D), none, none] from rfl, sSeq_ap]
  rw [show (sSet 1 (mLstC aNil)) ⟨P.length, [some (.fz D), none, none]⟩ P = some (.nx, ⟨P.length, [some (.fz D), some (.ptr P.length), none]⟩, P ++ [.lst []]) by simp]
  simp only [Option.bind_some]
  rw [sSeq_ap, sFor_ap, g1]
  simp only [Option.bind_some]
  rw [e]
  simp only [Option.bind_some, sRet_ap, mVar_ap, List.getElem?_cons_succ, List.getElem?_cons_zero, Option.join_some, Option.map_some]
  rw [exitZ_ptr (Nat.le_refl _) (cell_at _ _ _) (ent_dat _)]
  simp
end NS

set_option maxHeartbeats 1000000
set_option linter.all false
set_option maxRecDepth 10000
namespace NS
open PySem Pd L2
/-! ### the draws, as ends -/
theorem sp_next (c : St) (h : c.ok) (b : Int) (hb : 0 < b) (R : Store) : W (m__law_next [.ptr 0, .fz (.int b)] (c.cell :: R)) fun r => ∃ (v : Int) (c' : St), c'.ok ∧ 0 ≤ v ∧ v < b ∧ r = (.fz (.int v), c'.cell :: R) := by
  obtain ⟨v, c', ok, v0, v1, e⟩ := st_next c h b hb
  exact ⟨_, e R, v, c', ok, v0, v1, rfl⟩
theorem sp_pickL (c : St) (h : c.ok) (ds : List PyData) (hd : ds ≠ []) (R : Store) : W (m__law_pick [.ptr 0, .fz (.list ds)] (c.cell :: R)) fun r => ∃ d c', St.ok c' ∧ d ∈ ds ∧ r = (.fz d, St.cell c' :: R) := by
  obtain ⟨d, c', ok, hm, e⟩ := t_pickL c h ds hd
  exact ⟨_, e R, d, c', ok, hm, rfl⟩
theorem sp_pickB (c : St) (h : c.ok) (R : Store) : W (m__law_pick [.ptr 0, .fz (.str "01")] (c.cell :: R)) fun r => ∃ k c', St.ok c' ∧ (k = 48 ∨ k = 49) ∧ r = (.fz (.str ⟨#[k]⟩), St.cell c' :: R) := by
  obtain ⟨k, c', ok, hm, e⟩ := t_pickB c h
  exact ⟨_, e R, k, c', ok, hm, rfl⟩
theorem sp_prefix (c : St) (h : c.ok) (R : Store) : W (m__law_prefix [.ptr 0] (c.cell :: R)) fun r => ∃ x c', St.ok c' ∧ Bits 8 x ∧ r = (.fz (.str x), St.cell c' :: R) := by
  obtain ⟨x, c', ok, hm, e⟩ := t_prefix c h R
  exact ⟨_, e, x, c', ok, hm, rfl⟩
theorem mem_strs {d : PyData} {l : List Str} (h : d ∈ l.map PyData.str) : ∃ x, x ∈ l ∧ d = .str x := by
  obtain ⟨x, hx, rfl⟩ := List.mem_map.mp h
  exact ⟨x, hx, rfl⟩
theorem lookR_of {α : Type} {T : List (Str × α)} (hn : (T.map (·.1)).Nodup) {p : Str × α} (hp : p ∈ T) : lookR T p.1 = some p.2 := by
  induction T with
  | nil => simp at hp
  | cons q r ih =>
    simp only [List.map_cons, List.nodup_cons] at hn
    rcases List.mem_cons.mp hp with rfl | hp
    · simp [lookR, List.find?_cons]
    · have ne : ¬ q.1 = p.1 := fun e => hn.1 (e ▸ List.mem_map.mpr ⟨p, hp, rfl⟩)
      have := ih hn.2 hp
      simpa [lookR, List.find?_cons, ne] using this
/-- the keys of tables, walked -/
theorem iAny_tabs (T : Tabs) (f : XM) (ρ : EV) (P : Store) (hf : f ρ P = some (.fz (tabsD T), P)) : iAny f ρ P = some ((T.map (·.1)).map .str, .fz (tabsD T), P) := by
  rw [iAny_ap, hf]
  simp only [Option.bind_some, tabsD, dctD]
  have h1 := isKD_dct (T.map fun p => (p.1, rowsD p.2))
  have h2 := keysD_dct (T.map fun p => (p.1, rowsD p.2))
  simp only [h1, if_true, h2]
  simp [Function.comp_def]
theorem sp_near (c : St) (h : c.ok) {T : Tabs} (hT : TabOk T) (R : Store) : W (m__law_near_address [.ptr 0, .fz (tabsD T)] (c.cell :: R)) fun r => ∃ x c', St.ok c' ∧ x.length = 8 ∧ Bits 8 x ∧ r = (.fz (.str x), St.cell c' :: R) := by
  have l1 : W (forGo (gNm 3) (sSet 2 (mBin dAdd (mVar 2) (mCall gListA (aCons (mSub (mVar 1) (mVar 3)) aNil)))) ((T.map (·.1)).map .str) ⟨(c.cell :: R).length, [some (.ptr 0), some (.fz (tabsD T)), some (.fz (.list [.str ""])), none, none]⟩ (c.cell :: R)) (fun r => ∃ ps s3, (∀ p ∈ ps, Bits 8 p) ∧ ps ≠ [] ∧ r = (.nx, ⟨(c.cell :: R).length, [some (.ptr 0), some (.fz (tabsD T)), some (.fz (.list (ps.map .str))), s3, none]⟩, c.cell :: R)) := by
    refine W_for (fun i ρ S => ∃ ps s3, (∀ p ∈ ps, Bits 8 p) ∧ ps ≠ [] ∧ ps.length ≤ 1 + 100 * i ∧ ρ = ⟨(c.cell :: R).length, [some (.ptr 0), some (.fz (tabsD T)), some (.fz (.list (ps.map .str))), s3, none]⟩ ∧ S = c.cell :: R) ⟨[""], none, ?_, by simp, by simp, rfl, rfl⟩ ?_ ?_
    · intro p hp
      simp at hp; subst hp
      exact ⟨by decide +kernel, fun k hk => by
        have : ("" : Str).cps.toList = [] := by decide +kernel
        rw [this] at hk; simp at hk⟩
    · rintro i d ρ S hd ⟨ps, s3, hp, hne, hl, rfl, rfl⟩
      rw [List.getElem?_map, List.getElem?_map, Option.map_map] at hd
      simp only [Option.map_eq_some_iff, Function.comp_apply] at hd
      obtain ⟨p, hpi, rfl⟩ := hd
      have hpm := List.mem_of_getElem? hpi
      have hi : i < 100 := by
        have := (List.getElem?_eq_some_iff.mp hpi).1
        have := hT.len
        omega
      have hsub : subOf (c.cell :: R) (.fz (tabsD T)) (.str p.1) = some (.fz (rowsD p.2)) := by
        rw [tabsD, subOf_dct, lookD_map rowsD, lookR_of hT.nd hpm]; rfl
      have hadd := dAdd_lst (ps.map .str) ((p.2.map (·.1)).map .str) (Nat.le_trans (show _ ≤ 10201 by have := hT.rlen p hpm; simp; omega) (by decide))
      rw [gNm_ap, W_some]
      simp [-List.map_map, hsub, gList_rows, hadd]
      refine ⟨ps ++ p.2.map (·.1), ?_, ?_, ?_, ?_⟩
      · intro x hx
        rcases List.mem_append.mp hx with hx | hx
        · exact hp x hx
        · obtain ⟨q, hq, rfl⟩ := List.mem_map.mp hx
          exact hT.bits p hpm q hq
      · exact fun e => absurd e (by simp [hne])
      · have := hT.rlen p hpm; simp; omega
      · simp
    · rintro ρ S ⟨ps, s3, hp, hne, hl, rfl, rfl⟩
      exact ⟨ps, s3, hp, hne, rfl⟩
  obtain ⟨r, e1, ps, s3, hps, hne, rfl⟩ := l1
  refine W_fun ?_
  rw [b__law_near_address, show startE 5 [SV.ptr 0, .fz (tabsD T)] = [some (.ptr 0), some (.fz (tabsD T)), none, none, none] from rfl, sSeq_ap]
  rw [show (sSet 2 (mLst (aCons (mC (.str "")) aNil))) ⟨(c.cell :: R).length, [some (.ptr 0), some (.fz (tabsD T)), none, none, none]⟩ (c.cell :: R) = some (.nx, ⟨(c.cell :: R).length, [some (.ptr 0), some (.fz (tabsD T)), some (.fz (.list [.str ""])), none, none]⟩, c.cell :: R) by simp]
  simp only [Option.bind_some]
  rw [sSeq_ap, sFor_ap, iAny_tabs T (mVar 1) _ _ (by simp)]
  simp only [Option.bind_some]
  rw [e1]
  simp only [Option.bind_some]
  simp only [sSeq_ap, sSet_ap, mCallF_ap, aCons_ap, aNil_ap, mVar_ap, List.getElem?_cons_succ, List.getElem?_cons_zero, Option.join_some, Option.map_some, Option.bind_some, W_bind, W_map]
  refine (sp_pickL c h (ps.map .str) (by simp [hne]) R).mono ?_
  rintro _ ⟨d, c', ok', hd, rfl⟩
  obtain ⟨x, hx, rfl⟩ := mem_strs hd
  have hx8 := hps x hx
  simp only [put_ap, W_bind, List.set_cons_succ, List.set_cons_zero]
  refine W_while (fun k ρ S => ∃ y c2, St.ok c2 ∧ Bits 8 y ∧ k + y.length = 8 ∧ ρ = ⟨(c.cell :: R).length, [some (.ptr 0), some (.fz (tabsD T)), some (.fz (.list (ps.map .str))), s3, some (.fz (.str y))]⟩ ∧ S = St.cell c2 :: R) ?_ (k := 8 - x.length) ⟨x, c', ok', hx8, by have := hx8.1; omega, rfl, rfl⟩ ?_
  rotate_left
  · omega
  rintro k ρ S ⟨y, c2, ok2, hy, hk, rfl, rfl⟩
  have hg := gLenA_str (x := y) (by have := hy.1; omega)
  by_cases hlt : y.length < 8
  · have hdec : ((y.length : Int) < 8) := by omega
    simp [hg, hdec]
    refine (sp_pickB c2 ok2 R).mono ?_
    rintro _ ⟨b, c3, ok3, hb, rfl⟩
    have ha := dAdd_str y ⟨#[b]⟩ (by have := (bit1 hb).1; omega)
    simp [ha]
    have hnew := hy.app (bit1 hb)
    have hl1 : (y ++ (⟨#[b]⟩ : Str)).length = y.length + 1 := by rw [app_len]; simp [Str.length]
    exact ⟨k - 1, by omega, y ++ ⟨#[b]⟩, c3, ok3, ⟨by omega, hnew.2⟩, by omega, rfl, rfl⟩
  · have hdec : ¬ ((y.length : Int) < 8) := by omega
    simp [hg, hdec]
    refine ⟨y, c2, ok2, by have := hy.1; omega, hy, ?_⟩
    simp
end NS

set_option maxHeartbeats 1000000
set_option linter.all false
set_option maxRecDepth 10000
namespace NS
open PySem Pd L2
theorem sp_pickS (c : St) (h : c.ok) (x : Str) (hx : x.cps.toList ≠ []) (hz : x.length ≤ 1000) (R : Store) : W (m__law_pick [.ptr 0, .fz (.str x)] (c.cell :: R)) fun r => ∃ k c', St.ok c' ∧ k ∈ x.cps.toList ∧ r = (.fz (.str ⟨#[k]⟩), St.cell c' :: R) := by
  obtain ⟨k, c', ok, hm, e⟩ := t_pickS c h x hx hz
  exact ⟨_, e R, k, c', ok, hm, rfl⟩
def alnum : Str := "abcdefghijklmnopqrstuvwxyz0123456789"
def alpha : Str := "abcdefghijklmnopqrstuvwxyz"
def taken : List Str := ["any", "rest", "many", "if", "then", "and", "not", "refuse", "keep", "from", "to"]
theorem alnum_ok : alnum.cps.toList ≠ [] ∧ alnum.length ≤ 1000 ∧ ∀ k ∈ alnum.cps.toList, k < 128 := by decide +kernel
theorem alpha_ok : alpha.cps.toList.length = 26 ∧ alpha.length ≤ 1000 ∧ ∀ k ∈ alpha.cps.toList, k < 128 := by decide +kernel
theorem taken_ok : ∀ y ∈ taken, PyData.strOk y = true := by decide +kernel
/-- a text of m small signs -/
def Sm (m : Nat) (x : Str) : Prop := x.length = m ∧ ∀ k ∈ x.cps.toList, k < 128
theorem Sm.app {m n : Nat} {x y : Str} (h : Sm m x) (h2 : Sm n y) : Sm (m + n) (x ++ y) := by
  refine ⟨by rw [app_len, h.1, h2.1], fun k hk => ?_⟩
  rw [app_toList] at hk
  rcases List.mem_append.mp hk with q | q
  · exact h.2 k q
  · exact h2.2 k q
theorem Sm.one {k : Nat} (h : k < 128) : Sm 1 ⟨#[k]⟩ := ⟨by simp [Str.length], fun j hj => by simp at hj; subst hj; exact h⟩
theorem Sm.nm {m : Nat} {x : Str} (h : Sm m x) (hm : m ≤ 10) : Nm x := ⟨by rw [h.1]; exact hm, h.2⟩
theorem zero_sm : Sm 1 ("0" : Str) := ⟨by decide +kernel, by decide +kernel⟩
theorem nm_atI (v : Int) (v0 : 0 ≤ v) (v1 : v < 4) : ∃ n : Nat, n ≤ 7 ∧ atI [PyData.int 0, .int 0, .int 2, .int 7] v = some (.int n) := by
  have hv : v = 0 ∨ v = 1 ∨ v = 2 ∨ v = 3 := by omega
  rcases hv with rfl | rfl | rfl | rfl
  · exact ⟨0, by decide, rfl⟩
  · exact ⟨0, by decide, rfl⟩
  · exact ⟨2, by decide, rfl⟩
  · exact ⟨7, by decide, rfl⟩
/-- the ranges of a drawn number -/
theorem W_range {f : XM} {ρ : EV} {P : Store} {Q : List PyData × SV × Store → Prop} (h : W (f ρ P) fun r => ∃ n : Nat, n ≤ 1000 ∧ r.1 = .fz (.int n) ∧ Q (rangeD 0 n, .fz .none, r.2)) : W (iRange (aCons f aNil) ρ P) Q := by
  obtain ⟨⟨s, P1⟩, e, n, hn, e2, q⟩ := h
  simp only at e2
  subst e2
  refine ⟨_, iRange_nat (n := n) (P1 := P1) ?_ hn, q⟩
  simp [e]
theorem sp_names (c : St) (h : c.ok) (n : Nat) (hn : n ≤ 26) (R : Store) : W (m__law_names [.ptr 0, .fz (.int n)] (c.cell :: R)) fun r => ∃ (ns : List Str) (c' : St), St.ok c' ∧ ns.length = n ∧ (∀ x ∈ ns, Nm x) ∧ r = (.fz (.list (ns.map .str)), St.cell c' :: R) := by
  obtain ⟨l, c1, ok1, hperm, e1⟩ := t_mixed c h (signsD alpha) (by rw [signsD, List.length_map, alpha_ok.1]; decide) R
  have hl26 : l.length = 26 := by rw [hperm.length_eq, signsD, List.length_map, alpha_ok.1]
  have hmem : ∀ d ∈ l, ∃ x, Sm 1 x ∧ d = .str x := by
    intro d hd
    have := hperm.mem_iff.mp hd
    rw [signsD] at this
    obtain ⟨k, hk, rfl⟩ := List.mem_map.mp this
    exact ⟨_, Sm.one (alpha_ok.2.2 k hk), rfl⟩
  have hgl := gListA_str alpha_ok.2.1
  refine W_fun ?_
  rw [b__law_names, show startE 8 [SV.ptr 0, .fz (.int n)] = [some (.ptr 0), some (.fz (.int n)), none, none, none, none, none, none] from rfl, sSeq_ap]
  have hct := cut_take l n (by omega)
  have hb : (c.cell :: R).length = R.length + 1 := by simp
  rw [hb]
  rw [show (sSet 2 (mSl (mCallF m__law_mixed (aCons (mVar 0) (aCons (mCall gListA (aCons (mC (.str "abcdefghijklmnopqrstuvwxyz")) aNil)) aNil))) oNone (oSome (mVar 1)))) ⟨R.length + 1, [some (.ptr 0), some (.fz (.int n)), none, none, none, none, none, none]⟩ (c.cell :: R) = some (.nx, ⟨R.length + 1, [some (.ptr 0), some (.fz (.int n)), some (.fz (.list (l.take n))), none, none, none, none, none]⟩, c1.cell :: R) by
    have hgl' : gListA [.str "abcdefghijklmnopqrstuvwxyz"] = some (.list (signsD alpha)) := hgl
    simp [hgl', e1, hct]]
  simp only [Option.bind_some]
  rw [sSeq_ap, show (sSet 3 (mLstC aNil)) ⟨R.length + 1, [some (.ptr 0), some (.fz (.int n)), some (.fz (.list (l.take n))), none, none, none, none, none]⟩ (c1.cell :: R) = some (.nx, ⟨R.length + 1, [some (.ptr 0), some (.fz (.int n)), some (.fz (.list (l.take n))), some (.ptr (R.length + 1)), none, none, none, none]⟩, c1.cell :: (R ++ [.lst []])) by simp]
  simp only [Option.bind_some]
  rw [sSeq_ap, sFor_ap, iAny_ap]
  simp only [mVar_ap, List.getElem?_cons_succ, List.getElem?_cons_zero, Option.join_some, Option.map_some, Option.bind_some, W_bind]
  refine W_for (fun i ρ S => ∃ (ns : List Str) (c' : St) (s4 s5 s6 s7 : Option SV), St.ok c' ∧ ns.length = i ∧ (∀ x ∈ ns, Nm x) ∧ ρ = ⟨R.length + 1, [some (.ptr 0), some (.fz (.int n)), some (.fz (.list (l.take n))), some (.ptr (R.length + 1)), s4, s5, s6, s7]⟩ ∧ S = St.cell c' :: (R ++ [.lst ((ns.map .str).map SV.fz)])) ⟨[], c1, none, none, none, none, ok1, rfl, by simp, rfl, rfl⟩ ?_ ?_
  · rintro i d ρ S hd ⟨ns, c2, s4, s5, s6, s7, ok2, hi, hns, rfl, rfl⟩
    obtain ⟨x, hx, rfl⟩ := hmem d (List.mem_of_mem_take (List.mem_of_getElem? hd))
    have hi26 : i < 26 := by
      have := (List.getElem?_eq_some_iff.mp hd).1
      simp at this; omega
    rw [gNm_ap, W_some]
    simp only [sSeq_ap, sSet_ap, mVar_ap, put_ap, List.set_cons_succ, List.set_cons_zero, List.getElem?_cons_succ, List.getElem?_cons_zero, Option.join_some, Option.map_some, Option.bind_some, W_bind, sFor_ap]
    refine W_range ?_
    simp
    refine (sp_next c2 ok2 4 (by decide) _).mono ?_
    rintro _ ⟨v, c3, ok3, v0, v1, rfl⟩
    obtain ⟨m, hm, hat⟩ := nm_atI v v0 v1
    simp [hat]
    refine ⟨m, by omega, rfl, ?_⟩
    refine W_for (fun j ρ S => ∃ (y : Str) (c' : St) (s6 : Option SV), St.ok c' ∧ Sm (1 + j) y ∧ ρ = ⟨R.length + 1, [some (.ptr 0), some (.fz (.int n)), some (.fz (.list (l.take n))), some (.ptr (R.length + 1)), some (.fz (.str x)), some (.fz (.str y)), s6, s7]⟩ ∧ S = St.cell c' :: (R ++ [.lst ((ns.map .str).map SV.fz)])) ⟨x, c3, s6, ok3, hx, rfl, by simp⟩ ?_ ?_
    · rintro j d2 ρ S hd2 ⟨y, c4, s6', ok4, hy, rfl, rfl⟩
      obtain ⟨hj, rfl⟩ := rangeD_get hd2
      rw [gNm_ap, W_some]
      simp
      refine (sp_pickS c4 ok4 alnum alnum_ok.1 alnum_ok.2.1 _).mono ?_
      rintro _ ⟨k, c5, ok5, hk, rfl⟩
      have h1 := Sm.one (alnum_ok.2.2 k hk)
      have ha := dAdd_str y ⟨#[k]⟩ (by rw [hy.1, h1.1]; omega)
      simp [ha]
      exact ⟨_, c5, ok5, by rw [← Nat.add_assoc]; exact hy.app h1, rfl, rfl⟩
    · rintro ρ S ⟨y, c4, s6', ok4, hy, rfl, rfl⟩
      rw [rangeD_len] at hy
      have hyn : Nm y := hy.nm (by omega)
      have hin : ∀ S, inOf S (.str y) (.fz (.list (taken.map .str))) = some (decide (y ∈ taken)) := in_list taken_ok hyn.strOk
      have hin' : ∀ S, inOf S (.str y) (.fz (.list [.str "any", .str "rest", .str "many", .str "if", .str "then", .str "and", .str "not", .str "refuse", .str "keep", .str "from", .str "to"])) = some (decide (y ∈ taken)) := hin
      have ha := dAdd_str x "0" (by rw [hx.1, zero_sm.1]; decide)
      have hlz : ns.length < sizeLine := Nat.lt_of_lt_of_le (show ns.length < 26 by omega) (by decide)
      by_cases ht : y ∈ taken
      · simp [hin', ht, ha, -inOf_lst, hlz]
        exact ⟨ns ++ [x ++ "0"], c4, ok4, by simp [hi], by
          intro z hz
          rcases List.mem_append.mp hz with hz | hz
          · exact hns z hz
          · simp at hz; subst hz; exact (hx.app zero_sm).nm (by decide), by simp⟩
      · simp [hin', ht, -inOf_lst, hlz]
        exact ⟨ns ++ [y], c4, ok4, by simp [hi], by
          intro z hz
          rcases List.mem_append.mp hz with hz | hz
          · exact hns z hz
          · simp at hz; subst hz; exact hyn, by simp⟩
  · rintro ρ S ⟨ns, c2, s4, s5, s6, s7, ok2, hi, hns, rfl, rfl⟩
    have hx : exitZ (R.length + 1) (.ptr (R.length + 1)) (St.cell c2 :: (R ++ [.lst ((ns.map .str).map SV.fz)])) = some (.fz (.list (ns.map .str)), St.cell c2 :: R) := by
      rw [exitZ_ptr (Nat.le_refl _) (c := .lst ((ns.map .str).map SV.fz)) (by simp) (by rw [dat_lst, fzs_map]; rfl)]
      simp
    simp [-List.map_map, hx]
    rw [List.length_take] at hi
    exact ⟨ns, c2, ok2, by omega, hns, rfl, rfl⟩
end NS

set_option maxHeartbeats 1000000
set_option linter.all false
set_option maxRecDepth 10000
namespace NS
open PySem Pd L2
def putR {α : Type} (T : List (Str × α)) (x : Str) (a : α) : List (Str × α) := if (T.any fun p => decide (p.1 = x)) = true then T.map (fun p => if p.1 = x then (p.1, a) else p) else T ++ [(x, a)]
theorem putS_map {α : Type} (f : α → PyData) (T : List (Str × α)) (x : Str) (a : α) : putS (kv (T.map fun p => (p.1, f p.2))) (Sum.inr x) (.fz (f a)) = kv ((putR T x a).map fun p => (p.1, f p.2)) := by
  have h : ((kv (T.map fun p => (p.1, f p.2))).any fun p => decide (p.1 = (Sum.inr x : Key))) = (T.any fun p => decide (p.1 = x)) := by
    simp only [kv, List.map_map, List.any_map]
    congr 1
    funext p
    simp only [Function.comp_apply]
    by_cases e : p.1 = x
    · simp [e]
    · have e2 : ¬ ((Sum.inr p.1 : Key) = Sum.inr x) := fun z => e (Sum.inr.inj z)
      simp [e, e2]
  unfold putS putR
  rw [h]
  by_cases hc : (T.any fun p => decide (p.1 = x)) = true
  · rw [if_pos hc, if_pos hc]
    simp only [kv, List.map_map]
    apply List.map_congr_left
    intro p _
    by_cases e : p.1 = x
    · simp [e]
    · have e2 : ¬ ((Sum.inr p.1 : Key) = Sum.inr x) := fun z => e (Sum.inr.inj z)
      simp [e, e2]
  · rw [if_neg hc, if_neg hc]
    simp [kv]
theorem putR_mem {α : Type} {T : List (Str × α)} {x : Str} {a : α} {p : Str × α} (h : p ∈ putR T x a) : p ∈ T ∨ p = (x, a) := by
  unfold putR at h
  split at h
  · obtain ⟨q, hq, e⟩ := List.mem_map.mp h
    split at e
    · rename_i hx; subst e; right; rw [hx]
    · subst e; exact .inl hq
  · rcases List.mem_append.mp h with h | h
    · exact .inl h
    · simp at h; exact .inr h
theorem putR_len {α : Type} (T : List (Str × α)) (x : Str) (a : α) : (putR T x a).length ≤ T.length + 1 := by
  unfold putR
  split <;> simp
theorem putR_nd {α : Type} {T : List (Str × α)} (x : Str) (a : α) (h : (T.map (·.1)).Nodup) : ((putR T x a).map (·.1)).Nodup := by
  unfold putR
  split
  · have : (T.map fun p => if p.1 = x then (p.1, a) else p).map (·.1) = T.map (·.1) := by
      rw [List.map_map]
      apply List.map_congr_left
      intro p _
      by_cases e : p.1 = x <;> simp [e]
    rw [this]; exact h
  · rename_i hc
    rw [List.map_append, List.nodup_append]
    refine ⟨h, by simp, fun y hy z hz e => ?_⟩
    simp at hz
    subst hz; subst e
    apply hc
    obtain ⟨p, hp, hpe⟩ := List.mem_map.mp hy
    rw [List.any_eq_true]
    exact ⟨p, hp, by simp [hpe]⟩
def rkv (r : Rows) : List (Key × SV) := kv (r.map fun q => (q.1, .str q.2))
def tkv (T : Tabs) : List (Key × SV) := kv (T.map fun p => (p.1, rowsD p.2))
theorem rkv_put (r : Rows) (x y : Str) : putS (rkv r) (Sum.inr x) (.fz (.str y)) = rkv (putR r x y) := putS_map PyData.str r x y
theorem tkv_put (T : Tabs) (x : Str) (r : Rows) : putS (tkv T) (Sum.inr x) (.fz (rowsD r)) = tkv (putR T x r) := putS_map rowsD T x r
theorem rkv_len (r : Rows) : (rkv r).length = r.length := by simp [rkv, kv]
theorem tkv_len (T : Tabs) : (tkv T).length = T.length := by simp [tkv, kv]
theorem rkv_dat (r : Rows) : (Cell.dK (rkv r)).dat = some (rowsD r) := dat_kv _
theorem tkv_dat (T : Tabs) : (Cell.dK (tkv T)).dat = some (tabsD T) := dat_kv _
structure RowOk (r : Rows) (m : Nat) : Prop where
  len : r.length ≤ m
  nd : (r.map (·.1)).Nodup
  bits : ∀ q ∈ r, Bits 8 q.1
  nm : ∀ q ∈ r, Nm q.2
theorem RowOk.put {r : Rows} {m : Nat} (h : RowOk r m) {x y : Str} (hx : Bits 8 x) (hy : Nm y) : RowOk (putR r x y) (m + 1) := by
  refine ⟨Nat.le_trans (putR_len _ _ _) (by have := h.len; omega), putR_nd _ _ h.nd, fun q hq => ?_, fun q hq => ?_⟩
  · rcases putR_mem hq with hq | rfl
    · exact h.bits q hq
    · exact hx
  · rcases putR_mem hq with hq | rfl
    · exact h.nm q hq
    · exact hy
theorem TabOk.put {T : Tabs} (h : TabOk T) {x : Str} {r : Rows} (hx : Nm x) (hr : RowOk r 100) (hl : T.length + 1 ≤ 100) : TabOk (putR T x r) := by
  refine ⟨Nat.le_trans (putR_len _ _ _) hl, putR_nd _ _ h.nd, fun q hq => ?_, fun q hq => ?_, fun q hq => ?_, fun q hq => ?_, fun q hq => ?_⟩ <;> rcases putR_mem hq with hq | rfl
  · exact h.nm q hq
  · exact hx
  · exact h.rlen q hq
  · exact hr.len
  · exact h.rnd q hq
  · exact hr.nd
  · exact h.bits q hq
  · exact hr.bits
  · exact h.rnm q hq
  · exact hr.nm
theorem TabOk.nil : TabOk [] := ⟨by simp, by simp, by simp, by simp, by simp, by simp, by simp⟩
theorem nobody_nm : Nm "nobody" := ⟨by decide +kernel, by decide +kernel⟩
theorem dGt_next (v : Int) : dGt (.int v) (.int 0) = some (.bool (decide (0 < v))) := rfl
/-- the rows of one router -/
def bRow : SM := (sSeq (sSet 7 (mIfE (mTB (mBin dGt (mCallF m__law_next (aCons (mVar 0) (aCons (mC (.int 3)) aNil))) (mC (.int 0)))) (mCallF m__law_pick (aCons (mVar 0) (aCons (mVar 3) aNil))) (mCallF m__law_prefix (aCons (mVar 0) aNil))))
  (sDPut (mVar 5) (mVar 7) (mCallF m__law_pick (aCons (mVar 0) (aCons (mBin dAdd (mVar 1) (mLst (aCons (mVar 4) (aCons (mVar 4) (aCons (mC (.str "nobody")) aNil))))) aNil)))))
theorem lp_rows (n0 : Nat) (ns ps : List Str) (x : Str) (hns : ∀ y ∈ ns, Nm y) (hnl : ns.length ≤ 100) (hps : ∀ p ∈ ps, Bits 8 p) (hpne : ps ≠ []) (hx : Nm x) (s2 s6 s7 : Option SV) (B : Store) (hB : n0 ≤ B.length + 1) (c : St) (h : c.ok) (m : Nat) (hm : m ≤ 10) :
    W (forGo (gNm 6) bRow (rangeD 0 m) ⟨n0, [some (.ptr 0), some (.fz (.list (ns.map .str))), s2, some (.fz (.list (ps.map .str))), some (.fz (.str x)), some (.ptr (B.length + 1)), s6, s7]⟩ (c.cell :: (B ++ [.dK (rkv [])]))) fun r => ∃ (rs : Rows) (c' : St) (s6 s7 : Option SV), St.ok c' ∧ RowOk rs m ∧ r = (.nx, ⟨n0, [some (.ptr 0), some (.fz (.list (ns.map .str))), s2, some (.fz (.list (ps.map .str))), some (.fz (.str x)), some (.ptr (B.length + 1)), s6, s7]⟩, St.cell c' :: (B ++ [.dK (rkv rs)])) := by
  refine W_for (fun j ρ S => ∃ (rs : Rows) (c' : St) (s6 s7 : Option SV), St.ok c' ∧ RowOk rs j ∧ ρ = ⟨n0, [some (.ptr 0), some (.fz (.list (ns.map .str))), s2, some (.fz (.list (ps.map .str))), some (.fz (.str x)), some (.ptr (B.length + 1)), s6, s7]⟩ ∧ S = St.cell c' :: (B ++ [.dK (rkv rs)])) ⟨[], c, s6, s7, h, ⟨by simp, by simp, by simp, by simp⟩, rfl, rfl⟩ ?_ ?_
  · rintro j d ρ S hd ⟨rs, c1, s6, s7, ok1, hrs, rfl, rfl⟩
    obtain ⟨hj, rfl⟩ := rangeD_get hd
    rw [gNm_ap, W_some]
    -- the row is put
    have put : ∀ (p : Str) (c2 : St) (s6 : Option SV), c2.ok → Bits 8 p → W (sDPut (mVar 5) (mVar 7) (mCallF m__law_pick (aCons (mVar 0) (aCons (mBin dAdd (mVar 1) (mLst (aCons (mVar 4) (aCons (mVar 4) (aCons (mC (.str "nobody")) aNil))))) aNil))) ⟨n0, [some (.ptr 0), some (.fz (.list (ns.map .str))), s2, some (.fz (.list (ps.map .str))), some (.fz (.str x)), some (.ptr (B.length + 1)), s6, some (.fz (.str p))]⟩ (c2.cell :: (B ++ [.dK (rkv rs)]))) fun r => (r.1 = .nx ∨ r.1 = .ct) ∧ ∃ (rs : Rows) (c' : St) (s6 s7 : Option SV), St.ok c' ∧ RowOk rs (j + 1) ∧ r.2.1 = ⟨n0, [some (.ptr 0), some (.fz (.list (ns.map .str))), s2, some (.fz (.list (ps.map .str))), some (.fz (.str x)), some (.ptr (B.length + 1)), s6, s7]⟩ ∧ r.2.2 = St.cell c' :: (B ++ [.dK (rkv rs)]) := by
      intro p c2 s6 ok2 hp
      have hadd := dAdd_lst (ns.map .str) [.str x, .str x, .str "nobody"] (Nat.le_trans (show _ ≤ 103 by simp; omega) (by decide))
      have hl : ns.map PyData.str ++ [.str x, .str x, .str "nobody"] = (ns ++ [x, x, "nobody"]).map PyData.str := by simp
      rw [hl] at hadd
      have hlz : (rkv rs).length < sizeLine := by rw [rkv_len]; exact Nat.lt_of_le_of_lt hrs.len (Nat.lt_of_lt_of_le (show j < 10 by omega) (by decide))
      have hcell : ∀ c3 : Cell, (c3 :: (B ++ [Cell.dK (rkv rs)]))[B.length + 1]? = some (.dK (rkv rs)) := fun c3 => by simp
      simp [Pd.sDPut, hadd, -List.map_append]
      refine (sp_pickL c2 ok2 _ (by simp) _).mono ?_
      rintro _ ⟨d, c3, ok3, hd, rfl⟩
      obtain ⟨y, hy, rfl⟩ := mem_strs hd
      have hyn : Nm y := by
        simp only [List.mem_append, List.mem_cons, List.not_mem_nil, or_false] at hy
        rcases hy with hy | rfl | rfl | rfl
        · exact hns y hy
        · exact hx
        · exact hx
        · exact nobody_nm
      have hset : ∀ c3 : Cell, (c3 :: (B ++ [Cell.dK (rkv rs)])).set (B.length + 1) (.dK (putS (rkv rs) (Sum.inr p) (.fz (.str y)))) = c3 :: (B ++ [.dK (rkv (putR rs p y))]) := fun c3 => by
        rw [rkv_put, List.set_cons_succ, List.set_append_right _ _ (Nat.le_refl _)]; simp
      have hput := rkv_put rs p y
      simp [hlz, keyOf, hput]
      exact ⟨putR rs p y, c3, ok3, hrs.put hp hyn, rfl, rfl⟩
    simp [bRow]
    refine (sp_next c1 ok1 3 (by decide) _).mono ?_
    rintro _ ⟨v, c2, ok2, v0, v1, rfl⟩
    simp
    by_cases hv : 0 < v
    · simp [hv]
      refine (sp_pickL c2 ok2 _ (by simp [hpne]) _).mono ?_
      rintro _ ⟨d, c3, ok3, hd, rfl⟩
      obtain ⟨p, hp, rfl⟩ := mem_strs hd
      exact put p c3 _ ok3 (hps p hp)
    · simp [hv]
      refine (sp_prefix c2 ok2 _).mono ?_
      rintro _ ⟨p, c3, ok3, hp, rfl⟩
      exact put p c3 _ ok3 hp
  · rintro ρ S ⟨rs, c1, s6, s7, ok1, hrs, rfl, rfl⟩
    rw [rangeD_len] at hrs
    exact ⟨rs, c1, s6, s7, ok1, hrs, rfl⟩
end NS

set_option maxHeartbeats 1000000
set_option linter.all false
set_option maxRecDepth 10000
namespace NS
open PySem Pd L2
theorem b__law_tables_eq : b__law_tables = (sSeq (sSet 2 mDNewK)
  (sSeq (sSet 3 (mLC [6] (iRange (aCons (mBin dAdd (mC (.int 1)) (mCallF m__law_next (aCons (mVar 0) (aCons (mC (.int 4)) aNil)))) aNil)) (gNm 6) bYes (mCallF m__law_prefix (aCons (mVar 0) aNil))))
  (sSeq (sFor (iAny (mVar 1)) (gNm 4) (sSeq (sSet 5 mDNewK)
  (sSeq (sFor (iRange (aCons (mCallF m__law_next (aCons (mVar 0) (aCons (mC (.int 5)) aNil))) aNil)) (gNm 6) bRow)
  (sDPut (mVar 2) (mVar 4) (mFz (mVar 5))))))
  (sRet (mVar 2))))) := rfl
theorem sp_base (n0 : Nat) (a1 a2 a3 a4 a5 a6 a7 : Option SV) (c : St) (h : c.ok) (R : Store) :
    W (mLC [6] (iRange (aCons (mBin dAdd (mC (.int 1)) (mCallF m__law_next (aCons (mVar 0) (aCons (mC (.int 4)) aNil)))) aNil)) (gNm 6) bYes (mCallF m__law_prefix (aCons (mVar 0) aNil)) ⟨n0, [some (.ptr 0), a1, a2, a3, a4, a5, a6, a7]⟩ (c.cell :: R)) fun r => ∃ (ps : List Str) (c' : St), St.ok c' ∧ ps ≠ [] ∧ (∀ p ∈ ps, Bits 8 p) ∧ r = (.fz (.list (ps.map .str)), St.cell c' :: R) := by
  obtain ⟨_, e, v, c1, ok1, v0, v1, rfl⟩ := sp_next c h 4 (by decide) R
  obtain ⟨n, rfl⟩ := Int.eq_ofNat_of_zero_le v0
  have hr : iRange (aCons (mBin dAdd (mC (.int 1)) (mCallF m__law_next (aCons (mVar 0) (aCons (mC (.int 4)) aNil)))) aNil) ⟨n0, [some (.ptr 0), a1, a2, a3, a4, a5, a6, a7]⟩ (c.cell :: R) = some (rangeD 0 (n + 1), .fz .none, c1.cell :: R) := by
    refine iRange_nat ?_ (by omega)
    simp [e]
    omega
  refine W_lc (fun i acc S => ∃ (ps : List Str) (c' : St), St.ok c' ∧ ps.length = i ∧ (∀ p ∈ ps, Bits 8 p) ∧ acc = ps.map .str ∧ S = St.cell c' :: R) hr (by rw [rangeD_len]; exact Nat.le_trans (show n + 1 ≤ 100 by omega) (by decide)) ⟨[], c1, ok1, rfl, by simp, rfl, rfl⟩ ?_ ?_
  · rintro i d acc S hd ⟨ps, c2, ok2, hi, hps, rfl, rfl⟩ hS
    rw [gNm_ap, W_some]
    simp [EV.wipe]
    refine (sp_prefix c2 ok2 _).mono ?_
    rintro _ ⟨p, c3, ok3, hp, rfl⟩
    refine ⟨.str p, St.cell c3 :: R, by simp, by simp, ps ++ [p], c3, ok3, by simp [hi], ?_, by simp, rfl⟩
    intro z hz
    rcases List.mem_append.mp hz with hz | hz
    · exact hps z hz
    · simp at hz; subst hz; exact hp
  · rintro acc S ⟨ps, c2, ok2, hi, hps, rfl, rfl⟩ _ _
    rw [rangeD_len] at hi
    exact ⟨ps, c2, ok2, fun e => by subst e; simp at hi, hps, rfl⟩
theorem sp_tables (c : St) (h : c.ok) (ns : List Str) (hns : ∀ y ∈ ns, Nm y) (hnl : ns.length ≤ 26) (R : Store) : W (m__law_tables [.ptr 0, .fz (.list (ns.map .str))] (c.cell :: R)) fun r => ∃ (T : Tabs) (c' : St), St.ok c' ∧ TabOk T ∧ r = (.fz (tabsD T), St.cell c' :: R) := by
  refine W_fun ?_
  rw [b__law_tables_eq, show startE 8 [SV.ptr 0, .fz (.list (ns.map .str))] = [some (.ptr 0), some (.fz (.list (ns.map .str))), none, none, none, none, none, none] from rfl, sSeq_ap]
  have hb : (c.cell :: R).length = R.length + 1 := by simp
  rw [hb]
  rw [show (sSet 2 mDNewK) ⟨R.length + 1, [some (.ptr 0), some (.fz (.list (ns.map .str))), none, none, none, none, none, none]⟩ (c.cell :: R) = some (.nx, ⟨R.length + 1, [some (.ptr 0), some (.fz (.list (ns.map .str))), some (.ptr (R.length + 1)), none, none, none, none, none]⟩, c.cell :: (R ++ [.dK (tkv [])])) by simp [tkv, kv]]
  simp only [Option.bind_some, sSeq_ap, W_bind, sSet_ap, W_map]
  refine (sp_base (R.length + 1) _ _ _ _ _ _ _ c h _).mono ?_
  rintro _ ⟨ps, c1, ok1, hne, hps, rfl⟩
  simp only [put_ap, List.set_cons_succ, List.set_cons_zero, sFor_ap, W_bind, iAny_ap, mVar_ap, List.getElem?_cons_succ, List.getElem?_cons_zero, Option.join_some, Option.map_some, Option.bind_some, W_some]
  refine W_for (fun i ρ S => ∃ (T : Tabs) (c' : St) (J : Store) (s4 s5 s6 s7 : Option SV), St.ok c' ∧ TabOk T ∧ T.length ≤ i ∧ ρ = ⟨R.length + 1, [some (.ptr 0), some (.fz (.list (ns.map .str))), some (.ptr (R.length + 1)), some (.fz (.list (ps.map .str))), s4, s5, s6, s7]⟩ ∧ S = St.cell c' :: (R ++ .dK (tkv T) :: J)) ⟨[], c1, [], none, none, none, none, ok1, TabOk.nil, by simp, rfl, rfl⟩ ?_ ?_
  · rintro i d ρ S hd ⟨T, c2, J, s4, s5, s6, s7, ok2, hT, hTl, rfl, rfl⟩
    have hi : i < 26 := by
      have := (List.getElem?_eq_some_iff.mp hd).1
      simp at this; omega
    obtain ⟨x, hx, rfl⟩ := mem_strs (List.mem_of_getElem? hd)
    have hxn := hns x hx
    rw [gNm_ap, W_some]
    generalize hB : R ++ Cell.dK (tkv T) :: J = B
    have hBl : B.length = R.length + 1 + J.length := by rw [← hB]; simp; omega
    have hBat : ∀ X : Store, (B ++ X)[R.length]? = some (.dK (tkv T)) := fun X => by rw [← hB]; simp
    have hBset : ∀ (X : Store) (r : Rows), (B ++ X).set R.length (.dK (tkv (putR T x r))) = R ++ .dK (tkv (putR T x r)) :: (J ++ X) := fun X r => by
      rw [← hB, List.append_assoc, List.set_append_right _ _ (Nat.le_refl _)]; simp
    simp only [sSeq_ap, W_bind, sSet_ap, mDNewK_ap, Option.map_some, put_ap, List.set_cons_succ, List.set_cons_zero, W_some, sFor_ap, List.length_cons]
    refine W_range ?_
    simp
    refine (sp_next c2 ok2 5 (by decide) _).mono ?_
    rintro _ ⟨v, c3, ok3, v0, v1, rfl⟩
    obtain ⟨n, rfl⟩ := Int.eq_ofNat_of_zero_le v0
    refine ⟨n, by omega, rfl, ?_⟩
    refine (lp_rows (R.length + 1) ns ps x hns (by omega) hps hne hxn (some (.ptr (R.length + 1))) s6 s7 B (by omega) c3 ok3 n (by omega)).mono ?_
    rintro _ ⟨rs, c4, s6', s7', ok4, hrs, rfl⟩
    have hrs2 : RowOk rs 100 := ⟨Nat.le_trans hrs.len (by omega), hrs.nd, hrs.bits, hrs.nm⟩
    have hfz : frz (St.cell c4 :: (B ++ [.dK (rkv rs)])) (.ptr (B.length + 1)) = some (rowsD rs, St.cell c4 :: (B ++ [.fz (rowsD rs)])) := by
      have h1 : (St.cell c4 :: (B ++ [Cell.dK (rkv rs)]))[B.length + 1]? = some (.dK (rkv rs)) := by simp
      simp only [frz, h1, Option.bind_some, rkv_dat, Option.map_some]
      rw [List.set_cons_succ, List.set_append_right _ _ (Nat.le_refl _)]; simp
    have hlz : (tkv T).length < sizeLine := by rw [tkv_len]; exact Nat.lt_of_le_of_lt hTl (Nat.lt_of_lt_of_le hi (by decide))
    have hput := tkv_put T x rs
    simp [Pd.sDPut, hfz, hBat, hlz, keyOf, hput, hBset]
    exact ⟨putR T x rs, c4, ok4, hT.put hxn hrs2 (by omega), Nat.le_trans (putR_len _ _ _) (by omega), rfl, rfl⟩
  · rintro ρ S ⟨T, c2, J, s4, s5, s6, s7, ok2, hT, hTl, rfl, rfl⟩
    have hx : exitZ (R.length + 1) (.ptr (R.length + 1)) (St.cell c2 :: (R ++ .dK (tkv T) :: J)) = some (.fz (tabsD T), St.cell c2 :: R) := by
      rw [exitZ_ptr (Nat.le_refl _) (c := .dK (tkv T)) (by simp) (tkv_dat T)]
      simp
    simp [hx]
    exact ⟨T, c2, ok2, hT, rfl, rfl⟩
end NS

set_option maxHeartbeats 1000000
set_option linter.all false
set_option maxRecDepth 10000
namespace NS
open PySem Pd L2
theorem dMul_r (i j : Int) (h : j.natAbs < 2 ^ 64) : dMulI (.int i) (.int j) = some (.int (i * j)) := by
  have : cMul i j = true := by
    simp only [cMul, Bool.or_eq_true, Bool.and_eq_true, decide_eq_true_eq]
    right; omega
  rw [dMulI_int, if_pos this]
theorem dPow18 : dPow (.int 10) (.int 18) = some (.int 1000000000000000000) := by simp [dPow, dIC, dI, cPow]
def numC (xs : List Int) : Cell := .lst ((xs.map PyData.int).map SV.fz)
def bIn : SM := (sSeq (sSet 3 (mBin dMod (mCall gInt (aCons (mBin dAdd (mBin dAdd (mBin dMulI (mVar 3) (mC (.int 48271))) (mC (.int 12345))) (mVar 4)) aNil)) (mC (.int 2147483647))))
  (sSeq (sSet 5 (mBin dMod (mCall gInt (aCons (mBin dAdd (mBin dMulI (mVar 3) (mC (.int 69621))) (mBin dMulI (mC (.int 977)) (mVar 4))) aNil)) (mC (.int 2147483629))))
  (sSeq (sEx (mApp (mVar 1) (mIfE (mTB (mBin dGe (mVar 2) (mBin dPow (mC (.int 10)) (mC (.int 18))))) (mBin dMod (mCall gInt (aCons (mVar 2) aNil)) (mC (.int 1048576))) (mBin dMod (mCall gInt (aCons (mBin dDiv (mVar 5) (mC (.int 3))) aNil)) (mC (.int 1048576))))))
  (sSet 2 (mIfE (mTB (mBin dGe (mVar 2) (mBin dPow (mC (.int 10)) (mC (.int 18))))) (mBin dDiv (mVar 2) (mC (.int 1048576))) (mVar 2))))))
theorem lp_in (s0 : Option SV) (xs : List Int) (hx : xs.length ≤ 9000) (cell seed : Int) (s4 s5 : Option SV) : W (forGo (gNm 4) bIn (rangeD 0 40) ⟨0, [s0, some (.ptr 0), some (.fz (.int cell)), some (.fz (.int seed)), s4, s5]⟩ [numC xs]) fun r => ∃ (ys : List Int) (cell seed : Int) (s4 s5 : Option SV), ys.length = xs.length + 40 ∧ r = (.nx, ⟨0, [s0, some (.ptr 0), some (.fz (.int cell)), some (.fz (.int seed)), s4, s5]⟩, [numC ys]) := by
  refine W_for (fun i ρ S => ∃ (ys : List Int) (cell seed : Int) (s4 s5 : Option SV), ys.length = xs.length + i ∧ ρ = ⟨0, [s0, some (.ptr 0), some (.fz (.int cell)), some (.fz (.int seed)), s4, s5]⟩ ∧ S = [numC ys]) ⟨xs, cell, seed, s4, s5, rfl, rfl, rfl⟩ ?_ ?_
  · rintro i d ρ S hd ⟨ys, cell, seed, s4, s5, hl, rfl, rfl⟩
    obtain ⟨hi, rfl⟩ := rangeD_get hd
    rw [gNm_ap, W_some]
    have hlz : ys.length < sizeLine := Nat.lt_of_le_of_lt (show ys.length ≤ 9040 by omega) (by decide)
    have hm1 := fun a : Int => dMul_r a 48271 (by decide)
    have hm2 := fun a : Int => dMul_r a 69621 (by decide)
    have hm3 := dMul_r 977 (i : Int) (by omega)
    have hd1 := fun a : Int => dMod_ok a 2147483647 (by decide)
    have hd2 := fun a : Int => dMod_ok a 2147483629 (by decide)
    have hd3 := fun a : Int => dMod_ok a 1048576 (by decide)
    have hq1 := fun a : Int => dDiv_ok a 1048576 (by decide) (by decide)
    have hq2 := fun a : Int => dDiv_ok a 3 (by decide) (by decide)
    have happ : ∀ z : Int, [numC ys].set 0 (.lst ((ys.map PyData.int).map SV.fz ++ [.fz (.int z)])) = [numC (ys ++ [z])] := fun z => by simp [numC]
    have hcell : [numC ys][0]? = some (.lst ((ys.map PyData.int).map SV.fz)) := rfl
    by_cases hc : (1000000000000000000 : Int) ≤ cell
    · simp [bIn, -dMod_int, -dDiv_int, -dMulI_int, hm1, hm2, hm3, hd1, hd2, hd3, hq1, hq2, dPow18, hc, numC, hlz]
      exact ⟨ys ++ [cell.fmod 1048576], by simp; omega, by simp⟩
    · simp [bIn, -dMod_int, -dDiv_int, -dMulI_int, hm1, hm2, hm3, hd1, hd2, hd3, hq1, hq2, dPow18, hc, numC, hlz]
      exact ⟨ys ++ [_], by simp; omega, by simp; rfl⟩
  · rintro ρ S ⟨ys, cell, seed, s4, s5, hl, rfl, rfl⟩
    rw [rangeD_len] at hl
    exact ⟨ys, cell, seed, s4, s5, hl, rfl⟩
end NS

set_option maxHeartbeats 1000000
set_option linter.all false
set_option maxRecDepth 10000
namespace NS
open PySem Pd L2
theorem b__law_draws_eq : b__law_draws = (sSeq (sSet 1 (mLstC aNil))
  (sSeq (sFor (iAny (mVar 0)) (gNm 2) (sSeq (sSet 3 (mBin dMod (mCall gInt (aCons (mVar 2) aNil)) (mC (.int 2147483647)))) (sFor (iRange (aCons (mC (.int 40)) aNil)) (gNm 4) bIn)))
  (sRet (mDisp (dCons (mC (.str "numbers")) (mFz (mVar 1)) (dCons (mC (.str "at")) (mC (.int 0)) dNil)))))) := rfl
theorem sp_draws (cs : List Int) (hne : cs ≠ []) (hl : cs.length ≤ 100) : W (m__law_draws [.fz (.list (cs.map .int))] []) fun r => ∃ c : St, c.ok ∧ r = (.ptr 0, [c.cell]) := by
  refine W_fun ?_
  rw [b__law_draws_eq, show startE 6 [SV.fz (.list (cs.map .int))] = [some (.fz (.list (cs.map .int))), none, none, none, none, none] from rfl]
  simp only [sSeq_ap, W_bind, sSet_ap, mLstC_ap, aNil_ap, Option.bind_some, List.length_nil, Option.map_some, put_ap, List.set_cons_succ, List.set_cons_zero, W_some, sFor_ap, iAny_ap, mVar_ap, List.getElem?_cons_succ, List.getElem?_cons_zero, Option.join_some, List.nil_append]
  rw [if_pos (Nat.zero_le _)]
  simp only [sSeq_ap, W_bind, sSet_ap, Option.bind_some, Option.map_some, put_ap, List.set_cons_succ, List.set_cons_zero, W_some, sFor_ap, iAny_ap, mVar_ap, List.getElem?_cons_succ, List.getElem?_cons_zero, Option.join_some]
  refine W_for (fun i ρ S => ∃ (xs : List Int) (s2 s3 s4 s5 : Option SV), xs.length = 40 * i ∧ ρ = ⟨0, [some (.fz (.list (cs.map .int))), some (.ptr 0), s2, s3, s4, s5]⟩ ∧ S = [numC xs]) ⟨[], none, none, none, none, rfl, rfl, rfl⟩ ?_ ?_
  · rintro i d ρ S hd ⟨xs, s2, s3, s4, s5, hx, rfl, rfl⟩
    have hi : i < 100 := by
      have := (List.getElem?_eq_some_iff.mp hd).1
      simp at this; omega
    obtain ⟨z, _, rfl⟩ := List.mem_map.mp (List.mem_of_getElem? hd)
    have hd1 := fun a : Int => dMod_ok a 2147483647 (by decide)
    rw [gNm_ap, W_some]
    have g1 : ∀ ρ S, iRange (aCons (mC (.int 40)) aNil) ρ S = some (rangeD 0 40, .fz .none, S) := fun ρ S => iRange_nat (n := 40) rfl (by decide)
    have e1 : (sSet 3 (mBin dMod (mCall gInt (aCons (mVar 2) aNil)) (mC (.int 2147483647)))) ⟨0, [some (.fz (.list (cs.map .int))), some (.ptr 0), some (.fz (.int z)), s3, s4, s5]⟩ [numC xs] = some (.nx, ⟨0, [some (.fz (.list (cs.map .int))), some (.ptr 0), some (.fz (.int z)), some (.fz (.int (z.fmod 2147483647))), s4, s5]⟩, [numC xs]) := by
      simp [-dMod_int, hd1]
    simp only [put_ap, List.set_cons_succ, List.set_cons_zero]
    rw [sSeq_ap, e1]
    simp only [Option.bind_some]
    rw [sFor_ap, g1]
    simp only [Option.bind_some]
    refine (lp_in _ xs (by omega) z _ s4 s5).mono ?_
    rintro _ ⟨ys, cell, seed, s4, s5, hy, rfl⟩
    exact ⟨.inl rfl, ys, _, _, _, _, by omega, rfl, rfl⟩
  · rintro ρ S ⟨xs, s2, s3, s4, s5, hx, rfl, rfl⟩
    rw [List.length_map] at hx
    have hok : St.ok ⟨xs, 0⟩ := by
      have : 0 < cs.length := List.length_pos_iff.mpr hne
      exact ⟨fun e => by simp only at e; rw [e] at hx; simp at hx; omega, by show xs.length ≤ 10000; omega⟩
    have hf : frz [numC xs, Cell.dK []] (.ptr 0) = some (.list (xs.map .int), [.fz (.list (xs.map .int)), .dK []]) := by
      have : (numC xs).dat = some (.list (xs.map .int)) := by rw [numC, dat_lst, fzs_map]; rfl
      simp [frz, this]
    have hd : mDisp (dCons (mC (.str "numbers")) (mFz (mVar 1)) (dCons (mC (.str "at")) (mC (.int 0)) dNil)) ⟨0, [some (.fz (.list (cs.map .int))), some (.ptr 0), s2, s3, s4, s5]⟩ [numC xs] = some (.ptr 1, [.fz (.list (xs.map .int)), St.cell ⟨xs, 0⟩]) := by
      simp [mDisp, dCons, dNil, hf, keyOf, putS, St.cell, St.l]
    simp only
    rw [sRet_ap, hd]
    simp only [Option.map_some, W_some]
    refine ⟨_, ?_, _, hok, rfl⟩
    simp [exitC, St.cell, St.l, Cell.ps, SV.ps]
end NS

set_option maxHeartbeats 1000000
set_option linter.all false
set_option maxRecDepth 10000
namespace NS
open PySem Pd L2
theorem ok_rows {T : Tabs} (hT : TabOk T) : Ok 2 (tabsD T) := by
  have h1 : (T.map fun p => (p.1, rowsD p.2)).map (·.1) = T.map (·.1) := by simp [Function.comp_def]
  refine .dct 1 _ (by have := hT.len; simp; omega) (by rw [h1]; exact hT.nd) fun p hp => ?_
  obtain ⟨q, hq, rfl⟩ := List.mem_map.mp hp
  have h2 : (q.2.map fun q => (q.1, PyData.str q.2)).map (·.1) = q.2.map (·.1) := by simp [Function.comp_def]
  refine .dct 0 _ (by have := hT.rlen q hq; simp; omega) (by rw [h2]; exact hT.rnd q hq) fun p hp => ?_
  obtain ⟨r, hr, rfl⟩ := List.mem_map.mp hp
  exact .str _ _
theorem ok_stall {f : Nat → PyData} (hF : FOk f) : Ok 5 (.list ((stAll f 256).map entD)) := by
  obtain ⟨h1, h2⟩ := stAll_of f 256
  refine .list 4 _ (by simp; omega) fun d hd => ?_
  obtain ⟨e, he, rfl⟩ := List.mem_map.mp hd
  obtain ⟨k, _, hk⟩ := h2 e he
  refine .tuple 3 _ (by simp) fun d hd => ?_
  simp only [List.mem_cons, List.not_mem_nil, or_false] at hd
  rcases hd with rfl | rfl | rfl
  · exact .str _ _
  · exact .str _ _
  · rw [hk]; exact hF.Ok k
def nobody : Str := "nobody"
/-- one ask -/
def bAsk : SM := (sSeq (sAsg (mTup (aCons (mCallF m__law_pick (aCons (mVar 1) (aCons (mBin dAdd (mVar 3) (mLst (aCons (mC (.str "nobody")) aNil))) aNil))) (aCons (mCallF m__law_near_address (aCons (mVar 1) (aCons (mVar 4) aNil))) aNil))) (gTu 2 (gsCons (gNm 7) (gsCons (gNm 8) gsNil))))
  (sIf (mNotB (mTB (mCallF (m__law_same 40) (aCons (mCallF m_fate (aCons (mVar 5) (aCons (mVar 7) (aCons (mVar 8) aNil)))) (aCons (mCallF m__law_fate (aCons (mVar 4) (aCons (mVar 7) (aCons (mVar 8) aNil)))) aNil))))) (sRet (mC (.bool false))) sNx))
theorem lp_ask (a0 a2 a9 a10 : Option SV) {T : Tabs} (hT : TabOk T) (ns : List Str) (hns : ∀ y ∈ ns, Nm y) (hnl : ns.length ≤ 26) (c : St) (h : c.ok) (s6 s7 s8 : Option SV) :
    W (forGo (gNm 6) bAsk (rangeD 0 8) ⟨0, [a0, some (.ptr 0), a2, some (.fz (.list (ns.map .str))), some (.fz (tabsD T)), some (.fz (tabsD T)), s6, s7, s8, a9, a10]⟩ [c.cell]) fun r => ∃ (c : St) (s6 s7 s8 : Option SV), c.ok ∧ r = (.nx, ⟨0, [a0, some (.ptr 0), a2, some (.fz (.list (ns.map .str))), some (.fz (tabsD T)), some (.fz (tabsD T)), s6, s7, s8, a9, a10]⟩, [c.cell]) := by
  refine W_for (fun i ρ S => ∃ (c : St) (s6 s7 s8 : Option SV), c.ok ∧ ρ = ⟨0, [a0, some (.ptr 0), a2, some (.fz (.list (ns.map .str))), some (.fz (tabsD T)), some (.fz (tabsD T)), s6, s7, s8, a9, a10]⟩ ∧ S = [c.cell]) ⟨c, s6, s7, s8, h, rfl, rfl⟩ ?_ ?_
  · rintro i d ρ S hd ⟨c, s6, s7, s8, ok, rfl, rfl⟩
    rw [gNm_ap, W_some]
    have hadd := dAdd_lst (ns.map .str) [.str "nobody"] (Nat.le_trans (show _ ≤ 103 by simp; omega) (by decide))
    have hl : ns.map PyData.str ++ [.str "nobody"] = (ns ++ [nobody]).map PyData.str := by simp [nobody]
    rw [hl] at hadd
    simp [bAsk, hadd, -List.map_append]
    refine (sp_pickL c ok _ (by simp) _).mono ?_
    rintro _ ⟨d, c2, ok2, hd, rfl⟩
    obtain ⟨y, hy, rfl⟩ := mem_strs hd
    have hyn : Nm y := by
      simp only [List.mem_append, List.mem_cons, List.not_mem_nil, or_false] at hy
      rcases hy with hy | rfl
      · exact hns y hy
      · exact nobody_nm
    simp
    refine (sp_near c2 ok2 hT []).mono ?_
    rintro _ ⟨x, c3, ok3, hx8, hx, rfl⟩
    have e1 := t_fate hT hyn hx8
    have e2 := t_lawfate hT hyn hx8
    have e3 := t_same 40 3 _ (fateD_eq hT y x).2 (by decide)
    simp [e1, e2, e3]
    exact ⟨c3, ok3, rfl⟩
  · rintro ρ S ⟨c, s6, s7, s8, ok, rfl, rfl⟩
    exact ⟨c, s6, s7, s8, ok, rfl⟩
/-- one turn -/
def bTurn : SM := (sSeq (sSet 3 (mCallF m__law_names (aCons (mVar 1) (aCons (mBin dAdd (mC (.int 1)) (mCallF m__law_next (aCons (mVar 1) (aCons (mC (.int 8)) aNil)))) aNil))))
  (sSeq (sSet 4 (mCallF m__law_tables (aCons (mVar 1) (aCons (mVar 3) aNil))))
  (sSeq (sSet 5 (mCallF (m__law_copied 40) (aCons (mVar 4) aNil)))
  (sSeq (sFor (iRange (aCons (mC (.int 8)) aNil)) (gNm 6) bAsk)
  (sSeq (sSet 7 (mCallF m__law_pick (aCons (mVar 1) (aCons (mVar 3) aNil))))
  (sSeq (sSet 9 (mLC [10] (iRange (aCons (mC (.int 256)) aNil)) (gNm 10) bYes (mCallF m__law_fate (aCons (mVar 4) (aCons (mVar 7) (aCons (mCallF m__law_address (aCons (mVar 10) aNil)) aNil))))))
  (sIf (mOrB (mNotB (mTB (mCallF (m__law_same 40) (aCons (mCallF m_stretches (aCons (mVar 5) (aCons (mVar 7) aNil))) (aCons (mCallF m__law_stretches (aCons (mVar 9) aNil)) aNil))))) (mNotB (mTB (mCallF (m__law_same 40) (aCons (mVar 5) (aCons (mVar 4) aNil)))))) (sRet (mC (.bool false))) sNx)))))))
theorem b_law_eq : b_law = (sSeq (sSet 1 (mCallF m__law_draws (aCons (mBin dAdd (mSl (mVar 0) oNone (oSome (mC (.int 24)))) (mLst (aCons (mC (.int 42)) aNil))) aNil)))
  (sSeq (sFor (iRange (aCons (mC (.int 3)) aNil)) (gNm 2) bTurn)
  (sRet (mC (.bool true))))) := rfl
theorem sp_turn (a0 a2 s3 s4 s5 s6 s7 s8 s9 s10 : Option SV) (c : St) (h : c.ok) :
    W (bTurn ⟨0, [a0, some (.ptr 0), a2, s3, s4, s5, s6, s7, s8, s9, s10]⟩ [c.cell]) fun r => r.1 = .nx ∧ ∃ (c : St) (s3 s4 s5 s6 s7 s8 s9 : Option SV), c.ok ∧ r.2 = (⟨0, [a0, some (.ptr 0), a2, s3, s4, s5, s6, s7, s8, s9, s10]⟩, [c.cell]) := by
  simp only [bTurn, sSeq_ap, W_bind, sSet_ap, W_map, mCallF_ap, aCons_ap, aNil_ap, mVar_ap, List.getElem?_cons_succ, List.getElem?_cons_zero, Option.join_some, Option.map_some, Option.bind_some, W_some, mBin_ap, mC_ap]
  refine (sp_next c h 8 (by decide) []).mono ?_
  rintro _ ⟨v, c1, ok1, v0, v1, rfl⟩
  obtain ⟨n, rfl⟩ := Int.eq_ofNat_of_zero_le v0
  simp only [flat_fz, Option.bind_some, dAdd_int, Option.map_some, W_some]
  rw [show (1 : Int) + (n : Int) = ((n + 1 : Nat) : Int) by omega]
  refine (sp_names c1 ok1 (n + 1) (by omega) []).mono ?_
  rintro _ ⟨ns, c2, ok2, hnl, hns, rfl⟩
  simp
  refine (sp_tables c2 ok2 ns hns (by omega) []).mono ?_
  rintro _ ⟨T, c3, ok3, hT, rfl⟩
  have ec := t_copied 40 2 _ (ok_rows hT) (by decide)
  have g8 : ∀ ρ S, iRange (aCons (mC (.int 8)) aNil) ρ S = some (rangeD 0 8, .fz .none, S) := fun ρ S => iRange_nat (n := 8) rfl (by decide)
  simp [ec, -iRange_ap]
  refine (lp_ask a0 a2 _ _ hT ns hns (by omega) c3 ok3 _ _ _).mono ?_
  rintro _ ⟨c4, s6, s7, s8, ok4, rfl⟩
  simp
  refine (sp_pickL c4 ok4 (ns.map .str) (by intro e; rw [List.map_eq_nil_iff] at e; subst e; simp at hnl) []).mono ?_
  rintro _ ⟨d, c5, ok5, hd, rfl⟩
  obtain ⟨y, hy, rfl⟩ := mem_strs hd
  have hyn := hns y hy
  have g256 : ∀ ρ S, iRange (aCons (mC (.int 256)) aNil) ρ S = some (rangeD 0 256, .fz .none, S) := fun ρ S => iRange_nat (n := 256) rfl (by decide)
  have hF : FOk fun k => fateD T y (bin8 k) := ⟨fun k => fateGo_tup _ _ _ _ _ (fateD_eq hT y (bin8 k)).1, fun k => fate_okD hT hyn _, fun k => (fateD_eq hT y _).2⟩
  have hs1 := t_stretches hT hyn (fun k => fateD T y (bin8 k)) (fun _ => rfl)
  have hs2 := t_lawstretches (fun k => fateD T y (bin8 k)) hF
  have hs3 := t_same 40 5 _ (ok_stall hF) (by decide)
  have hs4 := t_same 40 2 _ (ok_rows hT) (by decide)
  have e5 : (mLC [10] (iRange (aCons (mC (.int 256)) aNil)) (gNm 10) bYes (mCallF m__law_fate (aCons (mVar 4) (aCons (mVar 7) (aCons (mCallF m__law_address (aCons (mVar 10) aNil)) aNil))))) ⟨0, [a0, some (.ptr 0), a2, some (.fz (.list (ns.map .str))), some (.fz (tabsD T)), some (.fz (tabsD T)), s6, some (.fz (.str y)), s8, s9, s10]⟩ [c5.cell] = some (.fz (.list ((rangeD 0 256).map (ratD fun k => fateD T y (bin8 k)))), [c5.cell]) := by
    refine mLC_map (ratD fun k => fateD T y (bin8 k)) (g256 _ _) (by rw [rangeD_len]; decide) fun d hd S => ⟨_, rfl, ?_⟩
    obtain ⟨i, hi, rfl⟩ : ∃ i : Nat, i < 256 ∧ d = .int i := by
      simp only [rangeD, List.mem_map, List.mem_range] at hd
      obtain ⟨i, hi, rfl⟩ := hd
      exact ⟨i, hi, by simp⟩
    have e1 := t_address i hi
    have e2 := t_lawfate hT hyn (bin8_len i hi)
    simp [EV.wipe, e1, e2, ratD]
  simp [e5, hs1, hs2, hs3, hs4]
  exact ⟨c5, ok5, rfl⟩
theorem law_true (ns : List Int) (hl : ns.length ≤ 63) : m_law [.fz (.list (ns.map .int))] [] = some (.fz (.bool true), []) := by
  refine W.of ?_
  refine W_fun ?_
  have hcut : cutL (ns.map PyData.int) none (some 24) = (ns.take 24).map .int := by
    have : HT.sIx (ns.map PyData.int).length (ns.map PyData.int).length (some (24 : Int)) = min 24 ns.length := by
      have := HT.sIx_nat (ns.map PyData.int).length (ns.map PyData.int).length 24
      rw [List.length_map] at this ⊢
      exact this
    rw [cutL, HT.sIx_none, this, List.map_take]
    simp
  have hadd := dAdd_lst ((ns.take 24).map .int) [.int 42] (Nat.le_trans (show _ ≤ 100 by simp; omega) (by decide))
  have hcs : (ns.take 24).map PyData.int ++ [.int 42] = (ns.take 24 ++ [42]).map PyData.int := by simp
  rw [hcs] at hadd
  rw [b_law_eq, show startE 11 [SV.fz (.list (ns.map .int))] = [some (.fz (.list (ns.map .int))), none, none, none, none, none, none, none, none, none, none] from rfl]
  have ea : (mBin dAdd (mSl (mVar 0) oNone (oSome (mC (.int 24)))) (mLst (aCons (mC (.int 42)) aNil))) ⟨0, [some (.fz (.list (ns.map .int))), none, none, none, none, none, none, none, none, none, none]⟩ [] = some (.fz (.list ((ns.take 24 ++ [42]).map .int)), []) := by
    simp [hcut, hadd, -List.map_append, -List.map_take]
  simp only [sSeq_ap, W_bind, sSet_ap, W_map, mCallF_ap, aCons_ap, aNil_ap, List.length_nil, ea, Option.map_some, Option.bind_some, W_some]
  refine (sp_draws _ (by simp) (by simp; omega)).mono ?_
  rintro _ ⟨c, ok, rfl⟩
  have g3 : ∀ ρ S, iRange (aCons (mC (.int 3)) aNil) ρ S = some (rangeD 0 3, .fz .none, S) := fun ρ S => iRange_nat (n := 3) rfl (by decide)
  simp only [put_ap, List.set_cons_succ, List.set_cons_zero, sFor_ap, g3, Option.bind_some, W_bind]
  refine W_for (fun i ρ S => ∃ (c : St) (s2 s3 s4 s5 s6 s7 s8 s9 : Option SV), c.ok ∧ ρ = ⟨0, [some (.fz (.list (ns.map .int))), some (.ptr 0), s2, s3, s4, s5, s6, s7, s8, s9, none]⟩ ∧ S = [c.cell]) ⟨c, _, _, _, _, _, _, _, _, ok, rfl, rfl⟩ ?_ ?_
  · rintro i d ρ S hd ⟨c, s2, s3, s4, s5, s6, s7, s8, s9, ok, rfl, rfl⟩
    rw [gNm_ap, W_some]
    refine (sp_turn _ (some (.fz d)) s3 s4 s5 s6 s7 s8 s9 none c ok).mono ?_
    rintro ⟨fl, ρ2, S2⟩ ⟨rfl, c2, s3, s4, s5, s6, s7, s8, s9, ok2, e⟩
    cases e
    exact ⟨.inl rfl, c2, _, _, _, _, _, _, _, _, ok2, rfl, rfl⟩
  · rintro ρ S ⟨c, s2, s3, s4, s5, s6, s7, s8, s9, ok, rfl, rfl⟩
    simp
end NS

set_option Elab.async false
set_option linter.all false
set_option maxRecDepth 100000
set_option maxHeartbeats 4000000
namespace NS
open PySem PySem.Spec PyProof.Rows L2 Pd
theorem all_mk {l : PySem.W.OpenLaw} {w : World} {K : PySem.W.Frag} {h : Heap} {mg : Str → Option Value} {fa : Addr} {f0 : Addr} {od0 an0 : Option Addr} {sl0 : Array (Option Value)} {oc0 kV0 dc0 pm0 cd0 ct0 : Value} {f1 : Addr} {od1 an1 : Option Addr} {sl1 : Array (Option Value)} {oc1 kV1 dc1 pm1 cd1 ct1 : Value} {f2 : Addr} {od2 an2 : Option Addr} {sl2 : Array (Option Value)} {oc2 kV2 dc2 pm2 cd2 ct2 : Value} {f3 : Addr} {od3 an3 : Option Addr} {sl3 : Array (Option Value)} {oc3 kV3 dc3 pm3 cd3 ct3 : Value} {f4 : Addr} {od4 an4 : Option Addr} {sl4 : Array (Option Value)} {oc4 kV4 dc4 pm4 cd4 ct4 : Value} {f5 : Addr} {od5 an5 : Option Addr} {sl5 : Array (Option Value)} {oc5 kV5 dc5 pm5 cd5 ct5 : Value} {f6 : Addr} {od6 an6 : Option Addr} {sl6 : Array (Option Value)} {oc6 kV6 dc6 pm6 cd6 ct6 : Value} {f7 : Addr} {od7 an7 : Option Addr} {sl7 : Array (Option Value)} {oc7 kV7 dc7 pm7 cd7 ct7 : Value} {f8 : Addr} {od8 an8 : Option Addr} {sl8 : Array (Option Value)} {oc8 kV8 dc8 pm8 cd8 ct8 : Value} {f9 : Addr} {od9 an9 : Option Addr} {sl9 : Array (Option Value)} {oc9 kV9 dc9 pm9 cd9 ct9 : Value} {f10 : Addr} {od10 an10 : Option Addr} {sl10 : Array (Option Value)} {oc10 kV10 dc10 pm10 cd10 ct10 : Value} {f11 : Addr} {od11 an11 : Option Addr} {sl11 : Array (Option Value)} {oc11 kV11 dc11 pm11 cd11 ct11 : Value} {f12 : Addr} {od12 an12 : Option Addr} {sl12 : Array (Option Value)} {oc12 kV12 dc12 pm12 cd12 ct12 : Value} {f13 : Addr} {od13 an13 : Option Addr} {sl13 : Array (Option Value)} {oc13 kV13 dc13 pm13 cd13 ct13 : Value} {f14 : Addr} {od14 an14 : Option Addr} {sl14 : Array (Option Value)} {oc14 kV14 dc14 pm14 cd14 ct14 : Value} {f15 : Addr} {od15 an15 : Option Addr} {sl15 : Array (Option Value)} {oc15 kV15 dc15 pm15 cd15 ct15 : Value} {f16 : Addr} {od16 an16 : Option Addr} {sl16 : Array (Option Value)} {oc16 kV16 dc16 pm16 cd16 ct16 : Value} {f17 : Addr} {od17 an17 : Option Addr} {sl17 : Array (Option Value)} {oc17 kV17 dc17 pm17 cd17 ct17 : Value} {f18 : Addr} {od18 an18 : Option Addr} {sl18 : Array (Option Value)} {oc18 kV18 dc18 pm18 cd18 ct18 : Value} {f19 : Addr} {od19 an19 : Option Addr} {sl19 : Array (Option Value)} {oc19 kV19 dc19 pm19 cd19 ct19 : Value} {q0 : Tok} (X : K.In h) (G : h.Ns mainGlobals mg) (hfa : mg "law" = some (.ref fa))
  (a0 : PySem.W.nsIn K mainGlobals "_law_address" = some (some (.ref f0))) (l0 : K.lookup f0 = some ⟨oc0, od0, .func (PySem.W.fnOf "_law_address" "_law_address" (defArgs s__law_address) (defBody s__law_address) (defScope s__law_address) .none kV0 dc0 pm0 an0 cd0 ct0), sl0⟩) (c0 : PySem.W.codeIn K cd0 "_law_address" = true) (k0 : PySem.W.keepIn K (.ref f0) = true)
  (a1 : PySem.W.nsIn K mainGlobals "_law_copied" = some (some (.ref f1))) (l1 : K.lookup f1 = some ⟨oc1, od1, .func (PySem.W.fnOf "_law_copied" "_law_copied" (defArgs s__law_copied) (defBody s__law_copied) (defScope s__law_copied) .none kV1 dc1 pm1 an1 cd1 ct1), sl1⟩) (c1 : PySem.W.codeIn K cd1 "_law_copied" = true) (k1 : PySem.W.keepIn K (.ref f1) = true)
  (a2 : PySem.W.nsIn K mainGlobals "_law_draws" = some (some (.ref f2))) (l2 : K.lookup f2 = some ⟨oc2, od2, .func (PySem.W.fnOf "_law_draws" "_law_draws" (defArgs s__law_draws) (defBody s__law_draws) (defScope s__law_draws) .none kV2 dc2 pm2 an2 cd2 ct2), sl2⟩) (c2 : PySem.W.codeIn K cd2 "_law_draws" = true) (k2 : PySem.W.keepIn K (.ref f2) = true)
  (a3 : PySem.W.nsIn K mainGlobals "_law_longest" = some (some (.ref f3))) (l3 : K.lookup f3 = some ⟨oc3, od3, .func (PySem.W.fnOf "_law_longest" "_law_longest" (defArgs s__law_longest) (defBody s__law_longest) (defScope s__law_longest) .none kV3 dc3 pm3 an3 cd3 ct3), sl3⟩) (c3 : PySem.W.codeIn K cd3 "_law_longest" = true) (k3 : PySem.W.keepIn K (.ref f3) = true)
  (a4 : PySem.W.nsIn K mainGlobals "_law_fate" = some (some (.ref f4))) (l4 : K.lookup f4 = some ⟨oc4, od4, .func (PySem.W.fnOf "_law_fate" "_law_fate" (defArgs s__law_fate) (defBody s__law_fate) (defScope s__law_fate) .none kV4 dc4 pm4 an4 cd4 ct4), sl4⟩) (c4 : PySem.W.codeIn K cd4 "_law_fate" = true) (k4 : PySem.W.keepIn K (.ref f4) = true)
  (a5 : PySem.W.nsIn K mainGlobals "_law_next" = some (some (.ref f5))) (l5 : K.lookup f5 = some ⟨oc5, od5, .func (PySem.W.fnOf "_law_next" "_law_next" (defArgs s__law_next) (defBody s__law_next) (defScope s__law_next) .none kV5 dc5 pm5 an5 cd5 ct5), sl5⟩) (c5 : PySem.W.codeIn K cd5 "_law_next" = true) (k5 : PySem.W.keepIn K (.ref f5) = true)
  (a6 : PySem.W.nsIn K mainGlobals "_law_mixed" = some (some (.ref f6))) (l6 : K.lookup f6 = some ⟨oc6, od6, .func (PySem.W.fnOf "_law_mixed" "_law_mixed" (defArgs s__law_mixed) (defBody s__law_mixed) (defScope s__law_mixed) .none kV6 dc6 pm6 an6 cd6 ct6), sl6⟩) (c6 : PySem.W.codeIn K cd6 "_law_mixed" = true) (k6 : PySem.W.keepIn K (.ref f6) = true)
  (a7 : PySem.W.nsIn K mainGlobals "_law_pick" = some (some (.ref f7))) (l7 : K.lookup f7 = some ⟨oc7, od7, .func (PySem.W.fnOf "_law_pick" "_law_pick" (defArgs s__law_pick) (defBody s__law_pick) (defScope s__law_pick) .none kV7 dc7 pm7 an7 cd7 ct7), sl7⟩) (c7 : PySem.W.codeIn K cd7 "_law_pick" = true) (k7 : PySem.W.keepIn K (.ref f7) = true)
  (a8 : PySem.W.nsIn K mainGlobals "_law_names" = some (some (.ref f8))) (l8 : K.lookup f8 = some ⟨oc8, od8, .func (PySem.W.fnOf "_law_names" "_law_names" (defArgs s__law_names) (defBody s__law_names) (defScope s__law_names) .none kV8 dc8 pm8 an8 cd8 ct8), sl8⟩) (c8 : PySem.W.codeIn K cd8 "_law_names" = true) (k8 : PySem.W.keepIn K (.ref f8) = true)
  (a9 : PySem.W.nsIn K mainGlobals "_law_near_address" = some (some (.ref f9))) (l9 : K.lookup f9 = some ⟨oc9, od9, .func (PySem.W.fnOf "_law_near_address" "_law_near_address" (defArgs s__law_near_address) (defBody s__law_near_address) (defScope s__law_near_address) .none kV9 dc9 pm9 an9 cd9 ct9), sl9⟩) (c9 : PySem.W.codeIn K cd9 "_law_near_address" = true) (k9 : PySem.W.keepIn K (.ref f9) = true)
  (a10 : PySem.W.nsIn K mainGlobals "_law_same" = some (some (.ref f10))) (l10 : K.lookup f10 = some ⟨oc10, od10, .func (PySem.W.fnOf "_law_same" "_law_same" (defArgs s__law_same) (defBody s__law_same) (defScope s__law_same) .none kV10 dc10 pm10 an10 cd10 ct10), sl10⟩) (c10 : PySem.W.codeIn K cd10 "_law_same" = true) (k10 : PySem.W.keepIn K (.ref f10) = true)
  (a11 : PySem.W.nsIn K mainGlobals "_law_stretches" = some (some (.ref f11))) (l11 : K.lookup f11 = some ⟨oc11, od11, .func (PySem.W.fnOf "_law_stretches" "_law_stretches" (defArgs s__law_stretches) (defBody s__law_stretches) (defScope s__law_stretches) .none kV11 dc11 pm11 an11 cd11 ct11), sl11⟩) (c11 : PySem.W.codeIn K cd11 "_law_stretches" = true) (k11 : PySem.W.keepIn K (.ref f11) = true)
  (a12 : PySem.W.nsIn K mainGlobals "_law_prefix" = some (some (.ref f12))) (l12 : K.lookup f12 = some ⟨oc12, od12, .func (PySem.W.fnOf "_law_prefix" "_law_prefix" (defArgs s__law_prefix) (defBody s__law_prefix) (defScope s__law_prefix) .none kV12 dc12 pm12 an12 cd12 ct12), sl12⟩) (c12 : PySem.W.codeIn K cd12 "_law_prefix" = true) (k12 : PySem.W.keepIn K (.ref f12) = true)
  (a13 : PySem.W.nsIn K mainGlobals "_law_tables" = some (some (.ref f13))) (l13 : K.lookup f13 = some ⟨oc13, od13, .func (PySem.W.fnOf "_law_tables" "_law_tables" (defArgs s__law_tables) (defBody s__law_tables) (defScope s__law_tables) .none kV13 dc13 pm13 an13 cd13 ct13), sl13⟩) (c13 : PySem.W.codeIn K cd13 "_law_tables" = true) (k13 : PySem.W.keepIn K (.ref f13) = true)
  (a14 : PySem.W.nsIn K mainGlobals "covers" = some (some (.ref f14))) (l14 : K.lookup f14 = some ⟨oc14, od14, .func (PySem.W.fnOf "covers" "covers" (defArgs s_covers) (defBody s_covers) (defScope s_covers) .none kV14 dc14 pm14 an14 cd14 ct14), sl14⟩) (c14 : PySem.W.codeIn K cd14 "covers" = true) (k14 : PySem.W.keepIn K (.ref f14) = true)
  (a15 : PySem.W.nsIn K mainGlobals "longest" = some (some (.ref f15))) (l15 : K.lookup f15 = some ⟨oc15, od15, .func (PySem.W.fnOf "longest" "longest" (defArgs s_longest) (defBody s_longest) (defScope s_longest) .none kV15 dc15 pm15 an15 cd15 ct15), sl15⟩) (c15 : PySem.W.codeIn K cd15 "longest" = true) (k15 : PySem.W.keepIn K (.ref f15) = true)
  (a16 : PySem.W.nsIn K mainGlobals "fate" = some (some (.ref f16))) (l16 : K.lookup f16 = some ⟨oc16, od16, .func (PySem.W.fnOf "fate" "fate" (defArgs s_fate) (defBody s_fate) (defScope s_fate) .none kV16 dc16 pm16 an16 cd16 ct16), sl16⟩) (c16 : PySem.W.codeIn K cd16 "fate" = true) (k16 : PySem.W.keepIn K (.ref f16) = true)
  (a17 : PySem.W.nsIn K mainGlobals "address_of" = some (some (.ref f17))) (l17 : K.lookup f17 = some ⟨oc17, od17, .func (PySem.W.fnOf "address_of" "address_of" (defArgs s_address_of) (defBody s_address_of) (defScope s_address_of) .none kV17 dc17 pm17 an17 cd17 ct17), sl17⟩) (c17 : PySem.W.codeIn K cd17 "address_of" = true) (k17 : PySem.W.keepIn K (.ref f17) = true)
  (a18 : PySem.W.nsIn K mainGlobals "stretches" = some (some (.ref f18))) (l18 : K.lookup f18 = some ⟨oc18, od18, .func (PySem.W.fnOf "stretches" "stretches" (defArgs s_stretches) (defBody s_stretches) (defScope s_stretches) .none kV18 dc18 pm18 an18 cd18 ct18), sl18⟩) (c18 : PySem.W.codeIn K cd18 "stretches" = true) (k18 : PySem.W.keepIn K (.ref f18) = true)
  (a19 : PySem.W.nsIn K mainGlobals "law" = some (some (.ref f19))) (l19 : K.lookup f19 = some ⟨oc19, od19, .func (PySem.W.fnOf "law" "law" (defArgs s_law) (defBody s_law) (defScope s_law) .none kV19 dc19 pm19 an19 cd19 ct19), sl19⟩) (c19 : PySem.W.codeIn K cd19 "law" = true) (k19 : PySem.W.keepIn K (.ref f19) = true)
  (z0 : PySem.W.nsIn K mainGlobals "all" = some none)
  (z1 : PySem.W.nsIn K mainGlobals "bool" = some none)
  (z2 : PySem.W.nsIn K mainGlobals "dict" = some none)
  (z3 : PySem.W.nsIn K mainGlobals "int" = some none)
  (z4 : PySem.W.nsIn K mainGlobals "isinstance" = some none)
  (z5 : PySem.W.nsIn K mainGlobals "len" = some none)
  (z6 : PySem.W.nsIn K mainGlobals "list" = some none)
  (z7 : PySem.W.nsIn K mainGlobals "range" = some none)
  (z8 : PySem.W.nsIn K mainGlobals "str" = some none)
  (z9 : PySem.W.nsIn K mainGlobals "tuple" = some none)
  (y0 : PySem.W.nsIn K mainGlobals "ADDRESSES" = some (some (.int 256 q0))) :
    ∃ fd : FuncData, (∀ (s : Shared) (v : Value), BindsTo s fd ⟨[v], []⟩ [("script", v)]) ∧ ∀ base : Heap, K.In base → base.Ns mainGlobals mg → FnOk l.prog w K mg base CX0 41 fa fd ["script"] (spM K m_law 1) := by
  have e := hfa.symm.trans (PySem.W.mg_of X G a19)
  cases e
  let T : Txt K mg := {
    a__law_address := f0, d__law_address := _, F__law_address := fun_mk (st := s__law_address) l0 c0 k0, m__law_address := PySem.W.mg_of X G a0, b__law_address := (fun_mk (st := s__law_address) l0 c0 k0).binds (ps := ["number"]) (fun _ _ _ _ _ _ us hl => (match us, hl with | [_], _ => rfl)),
    a__law_copied := f1, d__law_copied := _, F__law_copied := fun_mk (st := s__law_copied) l1 c1 k1, m__law_copied := PySem.W.mg_of X G a1, b__law_copied := (fun_mk (st := s__law_copied) l1 c1 k1).binds (ps := ["value"]) (fun _ _ _ _ _ _ us hl => (match us, hl with | [_], _ => rfl)),
    a__law_draws := f2, d__law_draws := _, F__law_draws := fun_mk (st := s__law_draws) l2 c2 k2, m__law_draws := PySem.W.mg_of X G a2, b__law_draws := (fun_mk (st := s__law_draws) l2 c2 k2).binds (ps := ["cells"]) (fun _ _ _ _ _ _ us hl => (match us, hl with | [_], _ => rfl)),
    a__law_longest := f3, d__law_longest := _, F__law_longest := fun_mk (st := s__law_longest) l3 c3 k3, m__law_longest := PySem.W.mg_of X G a3, b__law_longest := (fun_mk (st := s__law_longest) l3 c3 k3).binds (ps := ["rows", "address"]) (fun _ _ _ _ _ _ us hl => (match us, hl with | [_, _], _ => rfl)),
    a__law_fate := f4, d__law_fate := _, F__law_fate := fun_mk (st := s__law_fate) l4 c4 k4, m__law_fate := PySem.W.mg_of X G a4, b__law_fate := (fun_mk (st := s__law_fate) l4 c4 k4).binds (ps := ["tables", "name", "address"]) (fun _ _ _ _ _ _ us hl => (match us, hl with | [_, _, _], _ => rfl)),
    a__law_next := f5, d__law_next := _, F__law_next := fun_mk (st := s__law_next) l5 c5 k5, m__law_next := PySem.W.mg_of X G a5, b__law_next := (fun_mk (st := s__law_next) l5 c5 k5).binds (ps := ["state", "bound"]) (fun _ _ _ _ _ _ us hl => (match us, hl with | [_, _], _ => rfl)),
    a__law_mixed := f6, d__law_mixed := _, F__law_mixed := fun_mk (st := s__law_mixed) l6 c6 k6, m__law_mixed := PySem.W.mg_of X G a6, b__law_mixed := (fun_mk (st := s__law_mixed) l6 c6 k6).binds (ps := ["state", "things"]) (fun _ _ _ _ _ _ us hl => (match us, hl with | [_, _], _ => rfl)),
    a__law_pick := f7, d__law_pick := _, F__law_pick := fun_mk (st := s__law_pick) l7 c7 k7, m__law_pick := PySem.W.mg_of X G a7, b__law_pick := (fun_mk (st := s__law_pick) l7 c7 k7).binds (ps := ["state", "things"]) (fun _ _ _ _ _ _ us hl => (match us, hl with | [_, _], _ => rfl)),
    a__law_names := f8, d__law_names := _, F__law_names := fun_mk (st := s__law_names) l8 c8 k8, m__law_names := PySem.W.mg_of X G a8, b__law_names := (fun_mk (st := s__law_names) l8 c8 k8).binds (ps := ["state", "many"]) (fun _ _ _ _ _ _ us hl => (match us, hl with | [_, _], _ => rfl)),
    a__law_near_address := f9, d__law_near_address := _, F__law_near_address := fun_mk (st := s__law_near_address) l9 c9 k9, m__law_near_address := PySem.W.mg_of X G a9, b__law_near_address := (fun_mk (st := s__law_near_address) l9 c9 k9).binds (ps := ["state", "tables"]) (fun _ _ _ _ _ _ us hl => (match us, hl with | [_, _], _ => rfl)),
    a__law_same := f10, d__law_same := _, F__law_same := fun_mk (st := s__law_same) l10 c10 k10, m__law_same := PySem.W.mg_of X G a10, b__law_same := (fun_mk (st := s__law_same) l10 c10 k10).binds (ps := ["one", "other"]) (fun _ _ _ _ _ _ us hl => (match us, hl with | [_, _], _ => rfl)),
    a__law_stretches := f11, d__law_stretches := _, F__law_stretches := fun_mk (st := s__law_stretches) l11 c11 k11, m__law_stretches := PySem.W.mg_of X G a11, b__law_stretches := (fun_mk (st := s__law_stretches) l11 c11 k11).binds (ps := ["rows"]) (fun _ _ _ _ _ _ us hl => (match us, hl with | [_], _ => rfl)),
    a__law_prefix := f12, d__law_prefix := _, F__law_prefix := fun_mk (st := s__law_prefix) l12 c12 k12, m__law_prefix := PySem.W.mg_of X G a12, b__law_prefix := (fun_mk (st := s__law_prefix) l12 c12 k12).binds (ps := ["state"]) (fun _ _ _ _ _ _ us hl => (match us, hl with | [_], _ => rfl)),
    a__law_tables := f13, d__law_tables := _, F__law_tables := fun_mk (st := s__law_tables) l13 c13 k13, m__law_tables := PySem.W.mg_of X G a13, b__law_tables := (fun_mk (st := s__law_tables) l13 c13 k13).binds (ps := ["state", "names"]) (fun _ _ _ _ _ _ us hl => (match us, hl with | [_, _], _ => rfl)),
    a_covers := f14, d_covers := _, F_covers := fun_mk (st := s_covers) l14 c14 k14, m_covers := PySem.W.mg_of X G a14, b_covers := (fun_mk (st := s_covers) l14 c14 k14).binds (ps := ["prefix", "other"]) (fun _ _ _ _ _ _ us hl => (match us, hl with | [_, _], _ => rfl)),
    a_longest := f15, d_longest := _, F_longest := fun_mk (st := s_longest) l15 c15 k15, m_longest := PySem.W.mg_of X G a15, b_longest := (fun_mk (st := s_longest) l15 c15 k15).binds (ps := ["prefixes", "address"]) (fun _ _ _ _ _ _ us hl => (match us, hl with | [_, _], _ => rfl)),
    a_fate := f16, d_fate := _, F_fate := fun_mk (st := s_fate) l16 c16 k16, m_fate := PySem.W.mg_of X G a16, b_fate := (fun_mk (st := s_fate) l16 c16 k16).binds (ps := ["tables", "router", "address"]) (fun _ _ _ _ _ _ us hl => (match us, hl with | [_, _, _], _ => rfl)),
    a_address_of := f17, d_address_of := _, F_address_of := fun_mk (st := s_address_of) l17 c17 k17, m_address_of := PySem.W.mg_of X G a17, b_address_of := (fun_mk (st := s_address_of) l17 c17 k17).binds (ps := ["number"]) (fun _ _ _ _ _ _ us hl => (match us, hl with | [_], _ => rfl)),
    a_stretches := f18, d_stretches := _, F_stretches := fun_mk (st := s_stretches) l18 c18 k18, m_stretches := PySem.W.mg_of X G a18, b_stretches := (fun_mk (st := s_stretches) l18 c18 k18).binds (ps := ["tables", "router"]) (fun _ _ _ _ _ _ us hl => (match us, hl with | [_, _], _ => rfl)),
    a_law := fa, d_law := _, F_law := fun_mk (st := s_law) l19 c19 k19, m_law := PySem.W.mg_of X G a19, b_law := (fun_mk (st := s_law) l19 c19 k19).binds (ps := ["script"]) (fun _ _ _ _ _ _ us hl => (match us, hl with | [_], _ => rfl)),
    z_all := PySem.W.mg_none_of X G z0,
    z_bool := PySem.W.mg_none_of X G z1,
    z_dict := PySem.W.mg_none_of X G z2,
    z_int := PySem.W.mg_none_of X G z3,
    z_isinstance := PySem.W.mg_none_of X G z4,
    z_len := PySem.W.mg_none_of X G z5,
    z_list := PySem.W.mg_none_of X G z6,
    z_range := PySem.W.mg_none_of X G z7,
    z_str := PySem.W.mg_none_of X G z8,
    z_tuple := PySem.W.mg_none_of X G z9,
    t_ADDRESSES := q0, c_ADDRESSES := PySem.W.mg_of X G y0 }
  refine ⟨PySem.W.fnOf "law" "law" (defArgs s_law) (defBody s_law) (defScope s_law) .none kV19 dc19 pm19 an19 cd19 ct19, fun s v => .of_eq rfl, fun base _ _ => ?_⟩
  have G__law_address := ok__law_address (P := l.prog) (w := w) (base := base) T  
  have G__law_copied := ok__law_copied (P := l.prog) (w := w) (base := base) T  40
  have G__law_draws := ok__law_draws (P := l.prog) (w := w) (base := base) T  
  have G__law_longest := ok__law_longest (P := l.prog) (w := w) (base := base) T  
  have G__law_fate := ok__law_fate (P := l.prog) (w := w) (base := base) T G__law_longest 
  have G__law_next := ok__law_next (P := l.prog) (w := w) (base := base) T  
  have G__law_mixed := ok__law_mixed (P := l.prog) (w := w) (base := base) T G__law_next 
  have G__law_pick := ok__law_pick (P := l.prog) (w := w) (base := base) T G__law_next 
  have G__law_names := ok__law_names (P := l.prog) (w := w) (base := base) T G__law_mixed G__law_next G__law_pick 
  have G__law_near_address := ok__law_near_address (P := l.prog) (w := w) (base := base) T G__law_pick 
  have G__law_same := ok__law_same (P := l.prog) (w := w) (base := base) T  40
  have G__law_stretches := ok__law_stretches (P := l.prog) (w := w) (base := base) T G__law_address 
  have G__law_prefix := ok__law_prefix (P := l.prog) (w := w) (base := base) T G__law_next G__law_pick 
  have G__law_tables := ok__law_tables (P := l.prog) (w := w) (base := base) T G__law_next G__law_pick G__law_prefix 
  have G_covers := ok_covers (P := l.prog) (w := w) (base := base) T  
  have G_longest := ok_longest (P := l.prog) (w := w) (base := base) T G_covers 
  have G_fate := ok_fate (P := l.prog) (w := w) (base := base) T G_longest 
  have G_address_of := ok_address_of (P := l.prog) (w := w) (base := base) T  
  have G_stretches := ok_stretches (P := l.prog) (w := w) (base := base) T G_address_of G_fate 
  have G_law := ok_law (P := l.prog) (w := w) (base := base) T G__law_address G__law_copied G__law_draws G__law_fate G__law_names G__law_near_address G__law_next G__law_pick G__law_same G__law_stretches G__law_tables G_fate G_stretches 
  exact G_law
end NS

set_option Elab.async false
set_option linter.all false
set_option maxRecDepth 100000
set_option maxHeartbeats 4000000
open PySem PySem.W PyProof.Rows
set_option maxHeartbeats 0 in
theorem PySem.Challenge.cw_routesrest_k42_whole_fates_of_packets_holds : PySem.Challenge.rw_routesrest_k42_whole_fates_of_packets.Holds := by
  w_on; o_law; k_head; (case hw => w_witness2)
  k_fill
  refine L2.walk_of (l := PySem.Challenge.rw_routesrest_k42_whole_fates_of_packets) (n := 63) (k := 41) (x := "script") (CX := fun _ => L2.CX0) (sp := fun w => Pd.spM _ NS.m_law 1) rfl (by decide) rfl ⟨rfl, by decide, by decide⟩ (fun w h Y => PySem.W.kIn_of Y) ?F (fun _ _ a ns hl hO hS => Pd.law_of (NS.law_true ns hl) hO hS) (fun _ _ _ _ _ h => h)
  case F =>
    intro w mg fa h KX G hmg
    refine' NS.all_mk KX G hmg ?a0 ?l0 ?c0 ?k0 ?a1 ?l1 ?c1 ?k1 ?a2 ?l2 ?c2 ?k2 ?a3 ?l3 ?c3 ?k3 ?a4 ?l4 ?c4 ?k4 ?a5 ?l5 ?c5 ?k5 ?a6 ?l6 ?c6 ?k6 ?a7 ?l7 ?c7 ?k7 ?a8 ?l8 ?c8 ?k8 ?a9 ?l9 ?c9 ?k9 ?a10 ?l10 ?c10 ?k10 ?a11 ?l11 ?c11 ?k11 ?a12 ?l12 ?c12 ?k12 ?a13 ?l13 ?c13 ?k13 ?a14 ?l14 ?c14 ?k14 ?a15 ?l15 ?c15 ?k15 ?a16 ?l16 ?c16 ?k16 ?a17 ?l17 ?c17 ?k17 ?a18 ?l18 ?c18 ?k18 ?a19 ?l19 ?c19 ?k19 ?z0 ?z1 ?z2 ?z3 ?z4 ?z5 ?z6 ?z7 ?z8 ?z9 ?y0
    (case a0 => k_is); (case l0 => k_is); (case c0 => k_is); (case k0 => k_is); (case a1 => k_is); (case l1 => k_is); (case c1 => k_is); (case k1 => k_is); (case a2 => k_is); (case l2 => k_is); (case c2 => k_is); (case k2 => k_is); (case a3 => k_is); (case l3 => k_is); (case c3 => k_is); (case k3 => k_is); (case a4 => k_is); (case l4 => k_is); (case c4 => k_is); (case k4 => k_is); (case a5 => k_is); (case l5 => k_is); (case c5 => k_is); (case k5 => k_is); (case a6 => k_is); (case l6 => k_is); (case c6 => k_is); (case k6 => k_is); (case a7 => k_is); (case l7 => k_is); (case c7 => k_is); (case k7 => k_is); (case a8 => k_is); (case l8 => k_is); (case c8 => k_is); (case k8 => k_is); (case a9 => k_is); (case l9 => k_is); (case c9 => k_is); (case k9 => k_is); (case a10 => k_is); (case l10 => k_is); (case c10 => k_is); (case k10 => k_is); (case a11 => k_is); (case l11 => k_is); (case c11 => k_is); (case k11 => k_is); (case a12 => k_is); (case l12 => k_is); (case c12 => k_is); (case k12 => k_is); (case a13 => k_is); (case l13 => k_is); (case c13 => k_is); (case k13 => k_is); (case a14 => k_is); (case l14 => k_is); (case c14 => k_is); (case k14 => k_is); (case a15 => k_is); (case l15 => k_is); (case c15 => k_is); (case k15 => k_is); (case a16 => k_is); (case l16 => k_is); (case c16 => k_is); (case k16 => k_is); (case a17 => k_is); (case l17 => k_is); (case c17 => k_is); (case k17 => k_is); (case a18 => k_is); (case l18 => k_is); (case c18 => k_is); (case k18 => k_is); (case a19 => k_is); (case l19 => k_is); (case c19 => k_is); (case k19 => k_is); (case z0 => k_is); (case z1 => k_is); (case z2 => k_is); (case z3 => k_is); (case z4 => k_is); (case z5 => k_is); (case z6 => k_is); (case z7 => k_is); (case z8 => k_is); (case z9 => k_is); (case y0 => k_is)

