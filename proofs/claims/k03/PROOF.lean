import PyProof.Rows.All
import Wide.All
import OpenK.AllK
import Wide.FinOn
import HandS.ForMost
import HandS.Conv
import HandS.Deep
import HandS.TupAny
import HandS.Wide
import HandS.TupLe
import HandS.IsInst
import PySem.Challenge.RW_routesrest_k03_rules_that_are_none
set_option Elab.async false
set_option linter.all false
set_option maxRecDepth 100000
set_option maxHeartbeats 1000000

/-! The layer Pd, part A: data, the store, the relation. -/
namespace Pd
open PySem PySem.Spec PyProof.Rows L2

def keyD : Key → PyData
  | .inl i => .int i
  | .inr x => .str x

mutual
/-- the frozen heap F holds the data d at v -/
inductive Fz (K : PySem.W.Frag) (F : Hp) : V → PyData → Prop
  | non : Fz K F .non .none
  | bl (b : Bool) : Fz K F (.bl b) (.bool b)
  | int (i : Int) : Fz K F (.int i) (.int i)
  | str (x : Str) : Fz K F (.str x) (.str x)
  | lst {a : Addr} {xs : List V} {ds : List PyData} : SqL K F a xs → FzA K F xs ds → Fz K F (.ref a) (.list ds)
  | tup {a : Addr} {xs : List V} {ds : List PyData} : F a = some (.tup xs) → FzA K F xs ds → Fz K F (.ref a) (.tuple ds)
  | dK {a : Addr} {ks : List Key} {xs : List V} {ds : List PyData} : F a = some (.dK (ks.zip xs)) → ks.length = xs.length → FzA K F xs ds → Fz K F (.ref a) (.dict ((ks.map keyD).zip ds))
  | dT {a : Addr} {ks : List (List Key)} {xs : List V} {ds : List PyData} : F a = some (.dT (ks.zip xs)) → ks.length = xs.length → FzA K F xs ds → Fz K F (.ref a) (.dict ((ks.map fun k => .tuple (k.map keyD)).zip ds))
inductive FzA (K : PySem.W.Frag) (F : Hp) : List V → List PyData → Prop
  | nil : FzA K F [] []
  | cons {v : V} {vs : List V} {d : PyData} {ds : List PyData} : Fz K F v d → FzA K F vs ds → FzA K F (v :: vs) (d :: ds)
end

theorem FzA.length {K : PySem.W.Frag} {F : Hp} : ∀ {vs : List V} {ds : List PyData}, FzA K F vs ds → vs.length = ds.length
  | _, _, .nil => rfl
  | _, _, .cons _ t => congrArg (· + 1) (FzA.length t)
theorem FzA.append {K : PySem.W.Frag} {F : Hp} : ∀ {vs ws : List V} {ds es : List PyData}, FzA K F vs ds → FzA K F ws es → FzA K F (vs ++ ws) (ds ++ es)
  | _, _, _, _, .nil, h => h
  | _, _, _, _, .cons a t, h => .cons a (FzA.append t h)
theorem FzA.get {K : PySem.W.Frag} {F : Hp} : ∀ {vs : List V} {ds : List PyData} {i : Nat} {v : V}, FzA K F vs ds → vs[i]? = some v → ∃ d, ds[i]? = some d ∧ Fz K F v d
  | _, _, i, _, .nil, e => by simp at e
  | _, _, 0, _, .cons a _, e => by simp at e; subst e; exact ⟨_, rfl, a⟩
  | _, _, i + 1, _, .cons _ t, e => by
    obtain ⟨d, h1, h2⟩ := FzA.get (i := i) t (by simpa using e)
    exact ⟨d, by simpa using h1, h2⟩
theorem FzA.getD {K : PySem.W.Frag} {F : Hp} : ∀ {vs : List V} {ds : List PyData} {i : Nat} {d : PyData}, FzA K F vs ds → ds[i]? = some d → ∃ v, vs[i]? = some v ∧ Fz K F v d
  | _, _, i, _, .nil, e => by simp at e
  | _, _, 0, _, .cons a _, e => by simp at e; subst e; exact ⟨_, rfl, a⟩
  | _, _, i + 1, _, .cons _ t, e => by
    obtain ⟨d, h1, h2⟩ := FzA.getD (i := i) t (by simpa using e)
    exact ⟨d, by simpa using h1, h2⟩
theorem FzA.take {K : PySem.W.Frag} {F : Hp} : ∀ {vs : List V} {ds : List PyData} (n : Nat), FzA K F vs ds → FzA K F (vs.take n) (ds.take n)
  | _, _, 0, _ => .nil
  | _, _, _ + 1, .nil => .nil
  | _, _, n + 1, .cons a t => .cons a (FzA.take n t)
theorem FzA.drop {K : PySem.W.Frag} {F : Hp} : ∀ {vs : List V} {ds : List PyData} (n : Nat), FzA K F vs ds → FzA K F (vs.drop n) (ds.drop n)
  | _, _, 0, h => h
  | _, _, _ + 1, .nil => .nil
  | _, _, n + 1, .cons _ t => FzA.drop n t

/-- F is a part of the heap (a dict may be locked) -/
def IsDct : HO → Bool
  | .dK _ => true
  | _ => false
def Sub (F H : Hp) : Prop := ∀ a u, F a = some u → H a = some u ∨ (IsDct u = true ∧ ∃ o, H a = some (.frz o u))
def Le (F G : Hp) : Prop := ∀ a u, F a = some u → G a = some u
theorem Le.refl (F : Hp) : Le F F := fun _ _ h => h
theorem Le.trans {F G J : Hp} (a : Le F G) (b : Le G J) : Le F J := fun x u h => b x u (a x u h)
theorem Sub.rd {F H : Hp} (s : Sub F H) {a : Addr} {u : HO} (hu : ∀ o x, u ≠ .frz o x) (h : Rd F a u) : Rd H a u := by
  rcases h with h | ⟨o, h⟩
  · rcases s a u h with e | ⟨_, o, e⟩
    · exact .inl e
    · exact .inr ⟨o, e⟩
  · rcases s a _ h with e | ⟨n, _⟩
    · exact .inr ⟨o, e⟩
    · cases n
theorem Sub.sqL {K : PySem.W.Frag} {F H : Hp} (s : Sub F H) {a : Addr} {xs : List V} (h : SqL K F a xs) : SqL K H a xs := by
  rcases h with h | h
  · exact .inl (s.rd (fun _ _ z => by cases z) h)
  · exact .inr h
theorem Sub.tup {F H : Hp} (s : Sub F H) {a : Addr} {xs : List V} (h : F a = some (.tup xs)) : H a = some (.tup xs) := by
  rcases s a _ h with e | ⟨n, _⟩
  · exact e
  · cases n
theorem Le.rd {F H : Hp} (s : Le F H) {a : Addr} {u : HO} (h : Rd F a u) : Rd H a u := by
  rcases h with h | ⟨o, h⟩
  · exact .inl (s _ _ h)
  · exact .inr ⟨o, s _ _ h⟩
theorem Le.sqL {K : PySem.W.Frag} {F H : Hp} (s : Le F H) {a : Addr} {xs : List V} (h : SqL K F a xs) : SqL K H a xs := by
  rcases h with (h | ⟨o, h⟩) | h
  · exact .inl (.inl (s _ _ h))
  · exact .inl (.inr ⟨o, s _ _ h⟩)
  · exact .inr h
mutual
theorem Fz.mono {K : PySem.W.Frag} {F G : Hp} (l : Le F G) : ∀ {v : V} {d : PyData}, Fz K F v d → Fz K G v d
  | _, _, .non => .non
  | _, _, .bl b => .bl b
  | _, _, .int i => .int i
  | _, _, .str x => .str x
  | _, _, .lst h t => .lst (l.sqL h) (FzA.mono l t)
  | _, _, .tup h t => .tup (l _ _ h) (FzA.mono l t)
  | _, _, .dK h e t => .dK (l _ _ h) e (FzA.mono l t)
  | _, _, .dT h e t => .dT (l _ _ h) e (FzA.mono l t)
theorem FzA.mono {K : PySem.W.Frag} {F G : Hp} (l : Le F G) : ∀ {v : List V} {d : List PyData}, FzA K F v d → FzA K G v d
  | _, _, .nil => .nil
  | _, _, .cons a t => .cons (Fz.mono l a) (FzA.mono l t)
end
mutual
theorem Fz.dp {K : PySem.W.Frag} {F H : Hp} (s : Sub F H) : ∀ {v : V} {d : PyData}, Fz K F v d → d.canLay0 = true → Dp K H v d
  | _, _, .non, _ => .non
  | _, _, .bl b, _ => .bl b
  | _, _, .int i, _ => .int i
  | _, _, .str x, _ => .str x
  | _, _, .lst h t, e => .lst (s.sqL h) (FzA.dp s t (by simpa [PyData.canLay0] using e))
  | _, _, .tup h t, e => .tup (.inl (.inl (s.tup h))) (FzA.dp s t (by simpa [PyData.canLay0] using e))
  | _, _, .dK h _ t, e => by simp [PyData.canLay0] at e
  | _, _, .dT h _ t, e => by simp [PyData.canLay0] at e
theorem FzA.dp {K : PySem.W.Frag} {F H : Hp} (s : Sub F H) : ∀ {v : List V} {d : List PyData}, FzA K F v d → PyData.canLayAll0 d = true → DpAll K H v d
  | _, _, .nil, _ => .nil
  | _, _, .cons a t, e => by
    simp only [PyData.canLayAll0, Bool.and_eq_true] at e
    exact .cons (Fz.dp s a e.1) (FzA.dp s t e.2)
end

/-! ### the store of what may change -/
/-- a value of the mirror: data that never changes, or the k-th cell -/
inductive SV where
  | fz (d : PyData)
  | ptr (k : Nat)
inductive Cell where
  | fz (d : PyData)
  | lst (l : List SV)
  | dK (l : List (Key × SV))
  | dT (l : List (List Key × SV))
abbrev Store := List Cell

def SVR (K : PySem.W.Frag) (F : Hp) (ad : List Addr) : V → SV → Prop
  | v, .fz d => Fz K F v d
  | v, .ptr k => ∃ a, ad[k]? = some a ∧ v = .ref a
inductive SVA (K : PySem.W.Frag) (F : Hp) (ad : List Addr) : List V → List SV → Prop
  | nil : SVA K F ad [] []
  | cons {v : V} {vs : List V} {d : SV} {ds : List SV} : SVR K F ad v d → SVA K F ad vs ds → SVA K F ad (v :: vs) (d :: ds)
def CellR (K : PySem.W.Frag) (F H : Hp) (ad : List Addr) (a : Addr) : Cell → Prop
  | .fz d => Fz K F (.ref a) d
  | .lst l => F a = none ∧ ∃ xs, H a = some (.lst xs) ∧ SVA K F ad xs l
  | .dK l => F a = none ∧ ∃ xs, H a = some (.dK ((l.map (·.1)).zip xs)) ∧ SVA K F ad xs (l.map (·.2))
  | .dT l => F a = none ∧ ∃ xs, H a = some (.dT ((l.map (·.1)).zip xs)) ∧ SVA K F ad xs (l.map (·.2))

theorem SVA.length {K : PySem.W.Frag} {F : Hp} {ad : List Addr} : ∀ {vs : List V} {ds : List SV}, SVA K F ad vs ds → vs.length = ds.length
  | _, _, .nil => rfl
  | _, _, .cons _ t => congrArg (· + 1) (SVA.length t)
theorem SVA.append {K : PySem.W.Frag} {F : Hp} {ad : List Addr} : ∀ {vs ws : List V} {ds es : List SV}, SVA K F ad vs ds → SVA K F ad ws es → SVA K F ad (vs ++ ws) (ds ++ es)
  | _, _, _, _, .nil, h => h
  | _, _, _, _, .cons a t, h => .cons a (SVA.append t h)
theorem SVA.get {K : PySem.W.Frag} {F : Hp} {ad : List Addr} : ∀ {vs : List V} {ds : List SV} {i : Nat} {d : SV}, SVA K F ad vs ds → ds[i]? = some d → ∃ v, vs[i]? = some v ∧ SVR K F ad v d
  | _, _, i, _, .nil, e => by simp at e
  | _, _, 0, _, .cons a _, e => by simp at e; subst e; exact ⟨_, rfl, a⟩
  | _, _, i + 1, _, .cons _ t, e => by
    obtain ⟨d, h1, h2⟩ := SVA.get (i := i) t (by simpa using e)
    exact ⟨d, by simpa using h1, h2⟩
theorem SVA.set {K : PySem.W.Frag} {F : Hp} {ad : List Addr} {v : V} {d : SV} (h : SVR K F ad v d) : ∀ {vs : List V} {ds : List SV} (i : Nat), SVA K F ad vs ds → SVA K F ad (vs.set i v) (ds.set i d)
  | _, _, _, .nil => .nil
  | _, _, 0, .cons _ t => .cons h t
  | _, _, i + 1, .cons a t => .cons a (SVA.set h i t)
theorem SVA.dropLast {K : PySem.W.Frag} {F : Hp} {ad : List Addr} : ∀ {vs : List V} {ds : List SV}, SVA K F ad vs ds → SVA K F ad vs.dropLast ds.dropLast
  | _, _, .nil => .nil
  | _, _, .cons a .nil => .nil
  | _, _, .cons a (.cons b t) => .cons a (SVA.dropLast (.cons b t))

/-- pointers grow, the frozen part grows -/
def Pre (ad ad' : List Addr) : Prop := ∀ (k : Nat) (a : Addr), ad[k]? = some a → ad'[k]? = some a
theorem Pre.refl (ad : List Addr) : Pre ad ad := fun _ _ h => h
theorem Pre.push (ad : List Addr) (a : Addr) : Pre ad (ad ++ [a]) := fun k b h => by
  have hk : k < ad.length := (List.getElem?_eq_some_iff.mp h).1
  rw [List.getElem?_append_left hk]; exact h
theorem SVR.mono {K : PySem.W.Frag} {F G : Hp} {ad ad' : List Addr} (l : Le F G) (p : Pre ad ad') {v : V} : ∀ {s : SV}, SVR K F ad v s → SVR K G ad' v s
  | .fz _, h => Fz.mono l h
  | .ptr _, ⟨a, h1, h2⟩ => ⟨a, p _ _ h1, h2⟩
theorem SVA.mono {K : PySem.W.Frag} {F G : Hp} {ad ad' : List Addr} (l : Le F G) (p : Pre ad ad') : ∀ {vs : List V} {ds : List SV}, SVA K F ad vs ds → SVA K G ad' vs ds
  | _, _, .nil => .nil
  | _, _, .cons a t => .cons (a.mono l p) (SVA.mono l p t)

/-- the cells that a cell points to -/
def SV.ps : SV → List Nat
  | .fz _ => []
  | .ptr k => [k]
def Cell.ps : Cell → List Nat
  | .fz _ => []
  | .lst l => l.flatMap SV.ps
  | .dK l => l.flatMap fun p => p.2.ps
  | .dT l => l.flatMap fun p => p.2.ps

/-- the slots of a def: b, the length of the store at its entry; sl, what each name holds -/
structure EV where
  b : Nat
  sl : List (Option SV)
def SlR (K : PySem.W.Frag) (F : Hp) (ad : List Addr) (sl : List (Option SV)) (σ : L2.St) : Prop :=
  σ.length = sl.length ∧ ∀ (i : Nat) (s : SV), sl[i]? = some (some s) → ∃ v, σ[i]? = some (some v) ∧ SVR K F ad v s
/-- the entries' lengths of the defs that run: bs, the newest first -/
structure Bas (bs : List Nat) (P : Store) : Prop where
  le : ∀ c ∈ bs, c ≤ P.length
  low : ∀ c ∈ bs, ∀ (k : Nat) (x : Cell), k < c → P[k]? = some x → ∀ j ∈ x.ps, j < c

structure RelX (K : PySem.W.Frag) (bs : List Nat) (ρ : EV) (σ : L2.St) (os : List SV) (vs : List V) (P : Store) (H F : Hp) (ad : List Addr) : Prop where
  sub : Sub F H
  len : ad.length = P.length
  nd : ad.Nodup
  there : ∀ a ∈ ad, ∃ o, H a = some o
  cells : ∀ (k : Nat) (c : Cell) (a : Addr), P[k]? = some c → ad[k]? = some a → CellR K F H ad a c
  slots : SlR K F ad ρ.sl σ
  tops : SVA K F ad vs os
  bas : Bas bs P
  bb : ∀ c ∈ bs, c ≤ ρ.b
def Rel (K : PySem.W.Frag) (bs : List Nat) (ρ : EV) (σ : L2.St) (os : List SV) (vs : List V) (P : Store) (H : Hp) : Prop := ∃ F ad, RelX K bs ρ σ os vs P H F ad

section
variable {K : PySem.W.Frag} {bs : List Nat} {ρ : EV} {σ : L2.St} {os : List SV} {vs : List V} {P : Store} {H F : Hp} {ad : List Addr}
theorem RelX.tops_of (R : RelX K bs ρ σ os vs P H F ad) {os' : List SV} {vs' : List V} (t : SVA K F ad vs' os') : RelX K bs ρ σ os' vs' P H F ad := { R with tops := t }
theorem RelX.push (R : RelX K bs ρ σ os vs P H F ad) {d : SV} {v : V} (h : SVR K F ad v d) : RelX K bs ρ σ (d :: os) (v :: vs) P H F ad := R.tops_of (.cons h R.tops)
theorem RelX.atom (R : RelX K bs ρ σ os vs P H F ad) {d : PyData} {v : V} (h : Fz K F v d) : Rel K bs ρ σ (.fz d :: os) (v :: vs) P H := ⟨F, ad, R.push h⟩
theorem RelX.pop {d : SV} {v : V} (R : RelX K bs ρ σ (d :: os) (v :: vs) P H F ad) : SVR K F ad v d ∧ RelX K bs ρ σ os vs P H F ad := by
  have t := R.tops
  cases t with
  | cons h t => exact ⟨h, { R with tops := t }⟩

/-- a new frozen object is laid -/
theorem upd_le {F : Hp} {p : Addr} {o : HO} (n : F p = none) : Le F (upd F p o) := fun a u e => by
  rw [upd_ne (ne_of_none e n)]; exact e
theorem RelX.free (R : RelX K bs ρ σ os vs P H F ad) {p : Addr} (n : H p = none) : F p = none := by
  cases e : F p with
  | none => rfl
  | some u =>
    rcases R.sub p u e with q | ⟨_, o, q⟩ <;> (rw [n] at q; cases q)
theorem CellR.grow {G H' : Hp} {ad' : List Addr} {a : Addr} {c : Cell} (l : Le F G) (p : Pre ad ad') (hH : H' a = H a) (hF : F a = none → G a = none) (h : CellR K F H ad a c) : CellR K G H' ad' a c := by
  cases c with
  | fz d => exact Fz.mono l h
  | lst _ => obtain ⟨n, xs, e, t⟩ := h; exact ⟨hF n, xs, hH.trans e, t.mono l p⟩
  | dK _ => obtain ⟨n, xs, e, t⟩ := h; exact ⟨hF n, xs, hH.trans e, t.mono l p⟩
  | dT _ => obtain ⟨n, xs, e, t⟩ := h; exact ⟨hF n, xs, hH.trans e, t.mono l p⟩
theorem SlR.mono {G : Hp} {ad' : List Addr} {sl : List (Option SV)} (l : Le F G) (p : Pre ad ad') (h : SlR K F ad sl σ) : SlR K G ad' sl σ :=
  ⟨h.1, fun i s e => let ⟨v, e1, r⟩ := h.2 i s e; ⟨v, e1, r.mono l p⟩⟩
/-- a new object o at p, frozen -/
theorem RelX.lay (R : RelX K bs ρ σ os vs P H F ad) {p : Addr} {o : HO} (n : H p = none) : RelX K bs ρ σ os vs P (upd H p o) (upd F p o) ad := by
  have l : Le F (upd F p o) := upd_le (R.free n)
  refine ⟨fun a u e => ?_, R.len, R.nd, fun a ha => ?_, fun k c a e1 e2 => ?_, R.slots.mono l (.refl _), R.tops.mono l (.refl _), R.bas, R.bb⟩
  · by_cases h : a = p
    · subst h; rw [upd_same] at e ⊢; exact .inl e
    · rw [upd_ne h] at e
      rw [upd_ne h]
      exact R.sub a u e
  · obtain ⟨u, e⟩ := R.there a ha
    exact ⟨u, by rw [upd_ne (ne_of_none e n)]; exact e⟩
  · obtain ⟨u, e⟩ := R.there a (List.mem_of_getElem? e2)
    have ne := ne_of_none e n
    exact (R.cells k c a e1 e2).grow l (.refl _) (upd_ne ne) fun z => by rw [upd_ne ne]; exact z
/-- a new object at p, a new cell -/
theorem RelX.cell (R : RelX K bs ρ σ os vs P H F ad) {p : Addr} {o : HO} {c : Cell} (n : H p = none) (h : ∀ ad', Pre ad ad' → CellR K F (upd H p o) ad' p c) :
    RelX K bs ρ σ (.ptr P.length :: os) (.ref p :: vs) (P ++ [c]) (upd H p o) F (ad ++ [p]) := by
  have fr := R.free n
  have pr : Pre ad (ad ++ [p]) := .push _ _
  refine ⟨fun a u e => ?_, by simp [R.len], ?_, fun a ha => ?_, fun k x a e1 e2 => ?_, R.slots.mono (.refl _) pr, .cons ⟨p, by rw [← R.len]; simp, rfl⟩ (R.tops.mono (.refl _) pr), ⟨fun c hc => ?_, fun c hc k x hk e j hj => ?_⟩, R.bb⟩
  · rw [upd_ne (ne_of_none e fr)]; exact R.sub a u e
  · rw [List.nodup_append]
    refine ⟨R.nd, by simp, fun a ha b hb e => ?_⟩
    obtain ⟨u, q⟩ := R.there a ha
    have : b = p := by simpa using hb
    subst this; subst e
    rw [n] at q; cases q
  · rcases List.mem_append.mp ha with ha | ha
    · obtain ⟨u, e⟩ := R.there a ha
      exact ⟨u, by rw [upd_ne (ne_of_none e n)]; exact e⟩
    · have : a = p := by simpa using ha
      subst this
      exact ⟨_, upd_same⟩
  · by_cases hk : k < P.length
    · rw [List.getElem?_append_left hk] at e1
      rw [List.getElem?_append_left (by rw [R.len]; exact hk)] at e2
      obtain ⟨u, e⟩ := R.there a (List.mem_of_getElem? e2)
      exact (R.cells k x a e1 e2).grow (.refl _) pr (upd_ne (ne_of_none e n)) id
    · have hk' : k = P.length := by
        have := (List.getElem?_eq_some_iff.mp e1).1
        simp at this
        omega
      subst hk'
      have e1' : c = x := by simpa using e1
      have e2' : p = a := by rw [← R.len] at e2; simpa using e2
      subst e1'; subst e2'
      exact h _ pr
  · have := R.bas.le c hc
    simp; omega
  · have hl := R.bas.le c hc
    rw [List.getElem?_append_left (by omega)] at e
    exact R.bas.low c hc k x hk e j hj
/-- a cell is written -/
theorem RelX.put (R : RelX K bs ρ σ os vs P H F ad) {k : Nat} {a : Addr} {o : HO} {c c0 : Cell} (hk : P[k]? = some c0) (ha : ad[k]? = some a) (hF : F a = none) (hc : CellR K F (upd H a o) ad a c)
    (hp : ∀ j ∈ c.ps, j ∈ c0.ps ∨ ρ.b ≤ k) : RelX K bs ρ σ os vs (P.set k c) (upd H a o) F ad := by
  refine ⟨fun x u e => ?_, by simp [R.len], R.nd, fun x hx => ?_, fun j x b e1 e2 => ?_, R.slots, R.tops, ⟨fun c hc => by simpa using R.bas.le c hc, fun d hd j x hj e i hi => ?_⟩, R.bb⟩
  · rw [upd_ne (ne_of_none e hF)]; exact R.sub x u e
  · by_cases h : x = a
    · subst h; exact ⟨_, upd_same⟩
    · rw [upd_ne h]; exact R.there x hx
  · by_cases hj : j = k
    · subst hj
      have hl := (List.getElem?_eq_some_iff.mp hk).1
      rw [List.getElem?_set_self hl] at e1
      cases e1
      rw [ha] at e2; cases e2
      exact hc
    · rw [List.getElem?_set_ne (Ne.symm hj)] at e1
      have ne : b ≠ a := fun z => by
        subst z
        obtain ⟨h1, q1⟩ := List.getElem?_eq_some_iff.mp e2
        obtain ⟨h2, q2⟩ := List.getElem?_eq_some_iff.mp ha
        exact hj ((List.getElem_inj R.nd).mp (q1.trans q2.symm))
      exact (R.cells j x b e1 e2).grow (.refl _) (.refl _) (upd_ne ne) id
  · by_cases hjk : j = k
    · subst hjk
      have hl := (List.getElem?_eq_some_iff.mp hk).1
      rw [List.getElem?_set_self hl] at e
      cases e
      rcases hp i hi with z | z
      · exact R.bas.low d hd j c0 hj hk i z
      · have := R.bb d hd
        omega
    · rw [List.getElem?_set_ne (Ne.symm hjk)] at e
      exact R.bas.low d hd j x hj e i hi
end
end Pd

set_option Elab.async false
set_option linter.all false
set_option maxRecDepth 100000
set_option maxHeartbeats 1000000
/-! The layer Pd, part B: what a value shows, new objects, expressions. -/
namespace Pd
open PySem PySem.Spec PyProof.Rows L2

/-! ### what a value shows -/
inductive Vw (K : PySem.W.Frag) (F H : Hp) : V → PyData → Prop
  | fz {v : V} {d : PyData} : Fz K F v d → Vw K F H v d
  | lst {a : Addr} {xs : List V} {ds : List PyData} : H a = some (.lst xs) → FzA K F xs ds → Vw K F H (.ref a) (.list ds)
  | dK {a : Addr} {ks : List Key} {xs : List V} {ds : List PyData} : H a = some (.dK (ks.zip xs)) → ks.length = xs.length → FzA K F xs ds → Vw K F H (.ref a) (.dict ((ks.map keyD).zip ds))
  | dT {a : Addr} {ks : List (List Key)} {xs : List V} {ds : List PyData} : H a = some (.dT (ks.zip xs)) → ks.length = xs.length → FzA K F xs ds → Vw K F H (.ref a) (.dict ((ks.map fun k => .tuple (k.map keyD)).zip ds))
section
variable {K : PySem.W.Frag} {F H : Hp} {v : V}
theorem Vw.lists {ds : List PyData} (h : Vw K F H v (.list ds)) (s : Sub F H) : ∃ a xs, v = .ref a ∧ SqL K H a xs ∧ FzA K F xs ds := by
  cases h with
  | fz h => cases h with
    | lst h t => exact ⟨_, _, rfl, s.sqL h, t⟩
  | lst h t => exact ⟨_, _, rfl, .of h, t⟩
theorem Vw.tups {ds : List PyData} (h : Vw K F H v (.tuple ds)) (s : Sub F H) : ∃ a xs, v = .ref a ∧ H a = some (.tup xs) ∧ FzA K F xs ds ∧ Fz K F v (.tuple ds) := by
  cases h with
  | fz h => cases h with
    | tup h t => exact ⟨_, _, rfl, s.tup h, t, .tup h t⟩
theorem Vw.ints {i : Int} (h : Vw K F H v (.int i)) : v = .int i := by cases h with | fz h => cases h; rfl
theorem Vw.strs {i : Str} (h : Vw K F H v (.str i)) : v = .str i := by cases h with | fz h => cases h; rfl
theorem Vw.bls {i : Bool} (h : Vw K F H v (.bool i)) : v = .bl i := by cases h with | fz h => cases h; rfl
theorem Vw.nons (h : Vw K F H v .none) : v = .non := by cases h with | fz h => cases h; rfl
theorem Vw.dp {d : PyData} (h : Vw K F H v d) (s : Sub F H) (e : d.canLay0 = true) : Dp K H v d := by
  cases h with
  | fz h => exact h.dp s e
  | lst h t => exact .lst (.inl (.inl h)) (t.dp s (by simpa [PyData.canLay0] using e))
  | dK => simp [PyData.canLay0] at e
  | dT => simp [PyData.canLay0] at e
end

def SV.fz? : SV → Option PyData
  | .fz d => some d
  | .ptr _ => none
def fzs : List SV → Option (List PyData)
  | [] => some []
  | .fz d :: r => (fzs r).map (d :: ·)
  | .ptr _ :: _ => none
/-- what a cell holds, where all its parts are frozen -/
def Cell.dat : Cell → Option PyData
  | .fz d => some d
  | .lst l => (fzs l).map .list
  | .dK l => (fzs (l.map (·.2))).map fun ds => .dict ((l.map fun p => keyD p.1).zip ds)
  | .dT l => (fzs (l.map (·.2))).map fun ds => .dict ((l.map fun p => .tuple (p.1.map keyD)).zip ds)
/-- what a value shows now -/
def flat (P : Store) : SV → Option PyData
  | .fz d => some d
  | .ptr k => P[k]?.bind Cell.dat
/-- .. and does not change any more -/
def frz (P : Store) : SV → Option (PyData × Store)
  | .fz d => some (d, P)
  | .ptr k => (P[k]?.bind Cell.dat).map fun d => (d, P.set k (.fz d))

theorem fzs_some {K : PySem.W.Frag} {F : Hp} {ad : List Addr} : ∀ {vs : List V} {l : List SV} {ds : List PyData}, SVA K F ad vs l → fzs l = some ds → FzA K F vs ds
  | _, _, _, .nil, e => by
    simp only [fzs, Option.some.injEq] at e
    subst e; exact .nil
  | _, _, _, .cons (d := .fz d) a t, e => by
    simp only [fzs, Option.map_eq_some_iff] at e
    obtain ⟨r, e1, e2⟩ := e
    subst e2
    exact .cons a (fzs_some t e1)
  | _, _, _, .cons (d := .ptr _) a t, e => by simp [fzs] at e
theorem fzs_len : ∀ {l : List SV} {ds : List PyData}, fzs l = some ds → ds.length = l.length
  | [], _, e => by simp only [fzs, Option.some.injEq] at e; subst e; rfl
  | .fz d :: r, _, e => by
    simp only [fzs, Option.map_eq_some_iff] at e
    obtain ⟨x, e1, e2⟩ := e
    subst e2
    simp [fzs_len e1]
  | .ptr _ :: _, _, e => by simp [fzs] at e

section
variable {K : PySem.W.Frag} {bs : List Nat} {ρ : EV} {σ : L2.St} {os : List SV} {vs : List V} {P : Store} {H F : Hp} {ad : List Addr}
theorem RelX.at (R : RelX K bs ρ σ os vs P H F ad) {v : V} {k : Nat} {c : Cell} (h : SVR K F ad v (.ptr k)) (e : P[k]? = some c) : ∃ a, ad[k]? = some a ∧ v = .ref a ∧ CellR K F H ad a c :=
  let ⟨a, h1, h2⟩ := h; ⟨a, h1, h2, R.cells k c a e h1⟩
theorem RelX.view (R : RelX K bs ρ σ os vs P H F ad) {v : V} {s : SV} {d : PyData} (h : SVR K F ad v s) (e : flat P s = some d) : Vw K F H v d := by
  cases s with
  | fz d' =>
    simp only [flat, Option.some.injEq] at e
    subst e
    exact .fz h
  | ptr k =>
    simp only [flat, Option.bind_eq_some_iff] at e
    obtain ⟨c, e1, e2⟩ := e
    obtain ⟨a, ha, rfl, hc⟩ := R.at h e1
    cases c with
    | fz d' => simp only [Cell.dat, Option.some.injEq] at e2; subst e2; exact .fz hc
    | lst l =>
      simp only [Cell.dat, Option.map_eq_some_iff] at e2
      obtain ⟨ds, e3, rfl⟩ := e2
      obtain ⟨_, xs, hx, t⟩ := hc
      exact .lst hx (fzs_some t e3)
    | dK l =>
      simp only [Cell.dat, Option.map_eq_some_iff] at e2
      obtain ⟨ds, e3, rfl⟩ := e2
      obtain ⟨_, xs, hx, t⟩ := hc
      have := Vw.dK (K := K) (F := F) hx (by have := t.length; simp at this ⊢; omega) (fzs_some t e3)
      simpa [List.map_map, Function.comp_def] using this
    | dT l =>
      simp only [Cell.dat, Option.map_eq_some_iff] at e2
      obtain ⟨ds, e3, rfl⟩ := e2
      obtain ⟨_, xs, hx, t⟩ := hc
      have := Vw.dT (K := K) (F := F) hx (by have := t.length; simp at this ⊢; omega) (fzs_some t e3)
      simpa [List.map_map, Function.comp_def] using this
/-- a cell is frozen -/
theorem RelX.freezeC (R : RelX K bs ρ σ os vs P H F ad) {k : Nat} {a : Addr} {c : Cell} {o : HO} {d : PyData} (e : P[k]? = some c) (ha : ad[k]? = some a) (hF : F a = none) (ho : H a = some o) (hd : ∀ G, Le F G → G a = some o → Fz K G (.ref a) d) :
    RelX K bs ρ σ os vs (P.set k (.fz d)) H (upd F a o) ad ∧ Le F (upd F a o) ∧ Fz K (upd F a o) (.ref a) d := by
  have l : Le F (upd F a o) := upd_le hF
  have fd := hd (upd F a o) l upd_same
  refine ⟨⟨fun x u q => ?_, by simp [R.len], R.nd, R.there, fun j x b e1 e2 => ?_, R.slots.mono l (.refl _), R.tops.mono l (.refl _), ⟨fun c hc => by simpa using R.bas.le c hc, fun q hq j x hj e i hi => ?_⟩, R.bb⟩, l, fd⟩
  · by_cases h : x = a
    · subst h; rw [upd_same] at q; cases q; exact .inl ho
    · rw [upd_ne h] at q; exact R.sub x u q
  · by_cases hj : j = k
    · subst hj
      have hl := (List.getElem?_eq_some_iff.mp e).1
      rw [List.getElem?_set_self hl] at e1
      cases e1
      rw [ha] at e2; cases e2
      exact fd
    · rw [List.getElem?_set_ne (Ne.symm hj)] at e1
      have ne : b ≠ a := fun z => by
        subst z
        obtain ⟨h1, q1⟩ := List.getElem?_eq_some_iff.mp e2
        obtain ⟨h2, q2⟩ := List.getElem?_eq_some_iff.mp ha
        exact hj ((List.getElem_inj R.nd).mp (q1.trans q2.symm))
      exact (R.cells j x b e1 e2).grow l (.refl _) rfl fun z => by rw [upd_ne ne]; exact z
  · by_cases hjk : j = k
    · subst hjk
      have hl := (List.getElem?_eq_some_iff.mp (by assumption : P[j]? = some c)).1
      rw [List.getElem?_set_self hl] at e
      cases e
      simp [Cell.ps] at hi
    · rw [List.getElem?_set_ne (Ne.symm hjk)] at e
      exact R.bas.low q hq j x hj e i hi
theorem RelX.freeze (R : RelX K bs ρ σ os vs P H F ad) {v : V} {s : SV} {d : PyData} {P' : Store} (h : SVR K F ad v s) (e : frz P s = some (d, P')) : ∃ G, RelX K bs ρ σ os vs P' H G ad ∧ Le F G ∧ Fz K G v d := by
  cases s with
  | fz d' =>
    simp only [frz, Option.some.injEq, Prod.mk.injEq] at e
    obtain ⟨rfl, rfl⟩ := e
    exact ⟨F, R, .refl _, h⟩
  | ptr k =>
    simp only [frz, Option.map_eq_some_iff, Prod.mk.injEq, Option.bind_eq_some_iff] at e
    obtain ⟨d', ⟨c, e1, e2⟩, rfl, rfl⟩ := e
    obtain ⟨a, ha, rfl, hc⟩ := R.at h e1
    cases c with
    | fz d2 =>
      simp only [Cell.dat, Option.some.injEq] at e2
      subst e2
      refine ⟨F, ?_, .refl _, hc⟩
      have : P.set k (.fz d2) = P := by
        apply List.ext_getElem?
        intro i
        by_cases hi : i = k
        · subst hi
          rw [List.getElem?_set_self (List.getElem?_eq_some_iff.mp e1).1, e1]
        · rw [List.getElem?_set_ne (Ne.symm hi)]
      rw [this]; exact R
    | lst l =>
      simp only [Cell.dat, Option.map_eq_some_iff] at e2
      obtain ⟨ds, e3, rfl⟩ := e2
      obtain ⟨hF, xs, hx, t⟩ := hc
      exact ⟨_, R.freezeC e1 ha hF hx fun G l g => .lst (.of g) ((fzs_some t e3).mono l)⟩
    | dK l =>
      simp only [Cell.dat, Option.map_eq_some_iff] at e2
      obtain ⟨ds, e3, rfl⟩ := e2
      obtain ⟨hF, xs, hx, t⟩ := hc
      refine ⟨_, R.freezeC e1 ha hF hx fun G le g => ?_⟩
      have := Fz.dK (K := K) (F := G) g (by have := t.length; simp at this ⊢; omega) ((fzs_some t e3).mono le)
      simpa [List.map_map, Function.comp_def] using this
    | dT l =>
      simp only [Cell.dat, Option.map_eq_some_iff] at e2
      obtain ⟨ds, e3, rfl⟩ := e2
      obtain ⟨hF, xs, hx, t⟩ := hc
      refine ⟨_, R.freezeC e1 ha hF hx fun G le g => ?_⟩
      have := Fz.dT (K := K) (F := G) g (by have := t.length; simp at this ⊢; omega) ((fzs_some t e3).mono le)
      simpa [List.map_map, Function.comp_def] using this
end

/-- new frozen objects -/
inductive Ext : Hp → Hp → Hp → Hp → Prop
  | refl {F H : Hp} : Ext F H F H
  | lay {F H F1 H1 : Hp} {p : Addr} {o : HO} : Ext F H F1 H1 → H1 p = none → Ext F H (upd F1 p o) (upd H1 p o)
theorem RelX.ext {K : PySem.W.Frag} {bs : List Nat} {ρ : EV} {σ : L2.St} {os : List SV} {vs : List V} {P : Store} {H F F1 H1 : Hp} {ad : List Addr} (R : RelX K bs ρ σ os vs P H F ad) (x : Ext F H F1 H1) : RelX K bs ρ σ os vs P H1 F1 ad := by
  induction x with
  | refl => exact R
  | lay x n ih => exact ih.lay n
theorem Ext.one {F H : Hp} {p : Addr} {o : HO} (n : H p = none) : Ext F H (upd F p o) (upd H p o) := .lay .refl n

/-! ### expressions -/
abbrev XM := EV → Store → Option (SV × Store)
abbrev BM := EV → Store → Option (Bool × Store)
abbrev AM := EV → Store → Option (List SV × Store)
/-- what the end of a part wants -/
def PEd (X : Cx) (e : Expr) (f : XM) : Prop := ∃ t, PE X e t ∧ ∀ (bs : List Nat) (ρ : EV) (σ : L2.St) (os : List SV) (vs : List V) (P : Store) (H : Hp) (Q : VK) (r : SV) (P' : Store), Rel X.K bs ρ σ os vs P H → f ρ P = some (r, P') →
  (∀ v H', Rel X.K bs ρ σ (r :: os) (v :: vs) P' H' → Q v H') → t σ H Q
def PTd (X : Cx) (e : Expr) (f : BM) : Prop := ∃ t, PT X e t ∧ ∀ (bs : List Nat) (ρ : EV) (σ : L2.St) (os : List SV) (vs : List V) (P : Store) (H : Hp) (Q : Bool → Hp → Prop) (r : Bool) (P' : Store), Rel X.K bs ρ σ os vs P H → f ρ P = some (r, P') →
  (∀ H', Rel X.K bs ρ σ os vs P' H' → Q r H') → t σ H Q
/-- arguments: pushed from the left -/
def PAd (X : Cx) (es : List Expr) (f : AM) : Prop := ∃ t, PA X es t ∧ ∀ (bs : List Nat) (ρ : EV) (σ : L2.St) (os : List SV) (vs : List V) (P : Store) (H : Hp) (Q : List V → Hp → Prop) (r : List SV) (P' : Store), Rel X.K bs ρ σ os vs P H → f ρ P = some (r, P') →
  (∀ ws H', ws.length = r.length → Rel X.K bs ρ σ (r.reverse ++ os) (ws.reverse ++ vs) P' H' → Q ws H') → t σ H Q

def mC (d : PyData) : XM := fun _ P => some (.fz d, P)
def mVar (i : Nat) : XM := fun ρ P => match ρ.sl[i]? with
  | some (some s) => some (s, P)
  | _ => none
section
variable {X : Cx} {pos : Pos}
theorem ped_atom {e : Expr} {v : V} {d : PyData} (h : PE X e (tC v)) (hd : ∀ F, Fz X.K F v d) : PEd X e (mC d) := ⟨_, h, fun bs ρ σ os vs P H Q r P' R e q => by
  simp only [mC, Option.some.injEq, Prod.mk.injEq] at e
  obtain ⟨rfl, rfl⟩ := e
  obtain ⟨F, ad, R⟩ := R
  exact q _ _ (R.atom (hd F))⟩
theorem ped_int {i : Int} {j} : PEd X (.Constant (.int i) j pos) (mC (.int i)) := ped_atom pe_int fun _ => .int i
theorem ped_bl {b : Bool} {j} : PEd X (.Constant (.bool b) j pos) (mC (.bool b)) := ped_atom pe_bl fun _ => .bl b
theorem ped_non {j} : PEd X (.Constant .none j pos) (mC .none) := ped_atom pe_non fun _ => .non
theorem ped_str {x : Str} {j} : PEd X (.Constant (.str x) j pos) (mC (.str x)) := ped_atom pe_str fun _ => .str x
theorem ped_glob {x : Str} {v : V} {u : Value} {d : PyData} (hg : Gl X x) (hm : X.mg x = some u) (r : RelV v u) (hd : ∀ F, Fz X.K F v d) (hdb : (x == ("__debug__" : Str)) = false := by decide) : PEd X (.Name x pos) (mC d) := ped_atom (pe_glob hg hm r hdb) hd
theorem ped_var (i : Nat) {x : Str} (hN : X.N[i]? = some x := by rfl) (hv : Vis X.env.scope x := by first | exact Or.inl rfl | exact Or.inr (Or.inl rfl) | exact Or.inr (Or.inr rfl)) (hd : (x == ("__debug__" : Str)) = false := by decide)
    (hcd : (x == ("__classdict__" : Str)) = false := by decide) : PEd X (.Name x pos) (mVar i) := ⟨_, pe_var hN hv hd hcd, fun bs ρ σ os vs P H Q r P' R e q => by
  obtain ⟨F, ad, R⟩ := R
  unfold mVar at e
  cases h : ρ.sl[i]? with
  | none => rw [h] at e; cases e
  | some s =>
    cases s with
    | none => rw [h] at e; cases e
    | some s =>
      rw [h] at e
      simp only [Option.some.injEq, Prod.mk.injEq] at e
      obtain ⟨rfl, rfl⟩ := e
      obtain ⟨v, hv, r⟩ := R.slots.2 i s h
      exact ⟨v, hv, q v H ⟨F, ad, R.push r⟩⟩⟩

/-! two-place operations -/
def OpD (X : Cx) (f : Value → Value → Sem Value) (g : PyData → PyData → Option PyData) : Prop := ∃ r, OpR X f r ∧ ∀ (F H : Hp) (x y : V) (d e z : PyData) (Q : VK), Sub F H → Vw X.K F H x d → Vw X.K F H y e → g d e = some z →
  (∀ v H' F', Ext F H F' H' → Fz X.K F' v z → Q v H') → r x y H Q
def mBin (g : PyData → PyData → Option PyData) (f1 f2 : XM) : XM := fun ρ P => (f1 ρ P).bind fun (a, P1) => (f2 ρ P1).bind fun (b, P2) => (flat P2 a).bind fun d => (flat P2 b).bind fun e => (g d e).map fun z => (.fz z, P2)
theorem bin_d {a b : Expr} {f : Value → Value → Sem Value} {g : PyData → PyData → Option PyData} {f1 f2 : XM} {t1 t2 : TE} {r : R2}
    (hr : ∀ (F H : Hp) (x y : V) (d e z : PyData) (Q : VK), Sub F H → Vw X.K F H x d → Vw X.K F H y e → g d e = some z → (∀ v H' F', Ext F H F' H' → Fz X.K F' v z → Q v H') → r x y H Q)
    (h1 : ∀ (bs : List Nat) (ρ : EV) (σ : L2.St) (os : List SV) (vs : List V) (P : Store) (H : Hp) (Q : VK) (r : SV) (P' : Store), Rel X.K bs ρ σ os vs P H → f1 ρ P = some (r, P') → (∀ v H', Rel X.K bs ρ σ (r :: os) (v :: vs) P' H' → Q v H') → t1 σ H Q)
    (h2 : ∀ (bs : List Nat) (ρ : EV) (σ : L2.St) (os : List SV) (vs : List V) (P : Store) (H : Hp) (Q : VK) (r : SV) (P' : Store), Rel X.K bs ρ σ os vs P H → f2 ρ P = some (r, P') → (∀ v H', Rel X.K bs ρ σ (r :: os) (v :: vs) P' H' → Q v H') → t2 σ H Q)
    (bs : List Nat) (ρ : EV) (σ : L2.St) (os : List SV) (vs : List V) (P : Store) (H : Hp) (Q : VK) (w : SV) (P' : Store) (R : Rel X.K bs ρ σ os vs P H) (e : mBin g f1 f2 ρ P = some (w, P'))
    (q : ∀ v H', Rel X.K bs ρ σ (w :: os) (v :: vs) P' H' → Q v H') : tOp r t1 t2 σ H Q := by
  simp only [mBin, Option.bind_eq_some_iff, Option.map_eq_some_iff, Prod.mk.injEq] at e
  obtain ⟨⟨s1, P1⟩, e1, ⟨s2, P2⟩, e2, d1, e3, d2, e4, z, e5, rfl, rfl⟩ := e
  refine h1 bs ρ σ os vs P H _ s1 P1 R e1 fun x H1 R1 => ?_
  refine h2 bs ρ σ _ _ P1 H1 _ s2 P2 R1 e2 fun y H2 R2 => ?_
  obtain ⟨F, ad, R2⟩ := R2
  obtain ⟨r2, R2⟩ := R2.pop
  obtain ⟨r1, R2⟩ := R2.pop
  refine hr F H2 x y d1 d2 z Q R2.sub (R2.view r1 e3) (R2.view r2 e4) e5 fun v H' F' x f => ?_
  exact q v H' ((R2.ext x).atom f)
theorem ped_bin {a b : Expr} {op : Operator} {g : PyData → PyData → Option PyData} {f1 f2 : XM} (ho : OpD X (binaryOp op) g) (ha : PEd X a f1) (hb : PEd X b f2) : PEd X (.BinOp a op b pos) (mBin g f1 f2) := by
  obtain ⟨r, h, hr⟩ := ho
  obtain ⟨t1, p1, h1⟩ := ha
  obtain ⟨t2, p2, h2⟩ := hb
  exact ⟨_, pe_op h p1 p2, bin_d (a := a) (b := b) (f := binaryOp op) hr h1 h2⟩
theorem ped_cmp {a b : Expr} {op : CmpOp} {g : PyData → PyData → Option PyData} {f1 f2 : XM} (ho : OpD X (compareOp op) g) (ha : PEd X a f1) (hb : PEd X b f2) (hm : behindInMarks op b = false) : PEd X (.Compare a [op] [b] pos) (mBin g f1 f2) := by
  obtain ⟨r, h, hr⟩ := ho
  obtain ⟨t1, p1, h1⟩ := ha
  obtain ⟨t2, p2, h2⟩ := hb
  exact ⟨_, pe_cmpR h p1 p2 hm, bin_d (a := a) (b := b) (f := compareOp op) hr h1 h2⟩
theorem OpD.or {f : Value → Value → Sem Value} {g g' : PyData → PyData → Option PyData} (h : OpD X f g) (h' : OpD X f g') : OpD X f (fun d e => (g d e).or (g' d e)) := by
  obtain ⟨r, h, hr⟩ := h
  obtain ⟨r', h', hr'⟩ := h'
  refine ⟨_, h.or h', fun F H x y d e z Q s vx vy eq q => ?_⟩
  have eq : (g d e).or (g' d e) = some z := eq
  cases hz : g d e with
  | some w =>
    rw [hz] at eq
    simp only [Option.some_or, Option.some.injEq] at eq
    subst eq
    exact .inl (hr F H x y d e w Q s vx vy hz q)
  | none =>
    rw [hz] at eq
    exact .inr (hr' F H x y d e z Q s vx vy (by simpa using eq) q)
end
end Pd

set_option Elab.async false
set_option linter.all false
set_option maxRecDepth 100000
set_option maxHeartbeats 1000000
/-! The layer Pd, part C: operations on data. -/
namespace Pd
open PySem PySem.Spec PyProof.Rows L2
section
variable {X : Cx}

/-- two ints -/
def dI (g : Int → Int → Option PyData) : PyData → PyData → Option PyData
  | .int i, .int j => g i j
  | _, _ => none
theorem dI_some {g : Int → Int → Option PyData} {d e z : PyData} (h : dI g d e = some z) : ∃ i j, d = .int i ∧ e = .int j ∧ g i j = some z := by
  unfold dI at h
  split at h
  · exact ⟨_, _, rfl, rfl, h⟩
  · cases h
def dIC (C : Int → Int → Bool) (g : Int → Int → PyData) : PyData → PyData → Option PyData := dI fun i j => if C i j = true then some (g i j) else none
theorem dIC_some {C : Int → Int → Bool} {g : Int → Int → PyData} {d e z : PyData} (h : dIC C g d e = some z) : ∃ i j, d = .int i ∧ e = .int j ∧ C i j = true ∧ z = g i j := by
  obtain ⟨i, j, e1, e2, h⟩ := dI_some h
  by_cases hc : C i j = true
  · rw [if_pos hc] at h
    exact ⟨i, j, e1, e2, hc, (Option.some.inj h).symm⟩
  · rw [if_neg hc] at h; cases h
theorem opd_int {f : Value → Value → Sem Value} {C : Int → Int → Prop} {c : Int → Int → Bool} {g : Int → Int → V} {g' : Int → Int → PyData} (h : OpR X f (rI C g)) (hc : ∀ i j, c i j = true → C i j) (hg : ∀ F i j, Fz X.K F (g i j) (g' i j)) : OpD X f (dIC c g') := by
  refine ⟨_, h, fun F H x y d e z Q s vx vy eq q => ?_⟩
  obtain ⟨i, j, rfl, rfl, hcc, rfl⟩ := dIC_some eq
  exact ⟨i, j, vx.ints, vy.ints, hc i j hcc, q _ _ _ .refl (hg F i j)⟩
theorem opd_int0 {f : Value → Value → Sem Value} {g : Int → Int → V} {g' : Int → Int → PyData} (h : OpR X f (rI0 g)) (hg : ∀ F i j, Fz X.K F (g i j) (g' i j)) : OpD X f (dI fun i j => some (g' i j)) := by
  refine ⟨_, h, fun F H x y d e z Q s vx vy eq q => ?_⟩
  obtain ⟨i, j, rfl, rfl, hz⟩ := dI_some eq
  cases hz
  exact ⟨i, j, vx.ints, vy.ints, q _ _ _ .refl (hg F i j)⟩

/-- two texts -/
def dS (g : Str → Str → Option PyData) : PyData → PyData → Option PyData
  | .str i, .str j => g i j
  | _, _ => none
theorem dS_some {g : Str → Str → Option PyData} {d e z : PyData} (h : dS g d e = some z) : ∃ i j, d = .str i ∧ e = .str j ∧ g i j = some z := by
  unfold dS at h
  split at h
  · exact ⟨_, _, rfl, rfl, h⟩
  · cases h

/-! ### + -/
def dAddS : PyData → PyData → Option PyData := dS fun x y => if x.length + y.length ≤ sizeLine then some (.str (x ++ y)) else none
def dAddL : PyData → PyData → Option PyData
  | .list xs, .list ys => if xs.length + ys.length ≤ sizeLine then some (.list (xs ++ ys)) else none
  | _, _ => none
def dAddT : PyData → PyData → Option PyData
  | .tuple xs, .tuple ys => if xs.length + ys.length ≤ sizeLine then some (.tuple (xs ++ ys)) else none
  | _, _ => none
def rCatR (K : PySem.W.Frag) : R2 := fun x y H Q => ∃ l b xs zs, x = .ref l ∧ y = .ref b ∧ SqL K H l xs ∧ SqL K H b zs ∧ xs.length + zs.length ≤ sizeLine ∧ ∀ p, H p = none → Q (.ref p) (upd H p (.lst (xs ++ zs)))
theorem op_catR : OpR X (binaryOp .Add) (rCatR X.K) := by
  intro pins s σ H x y v u Q I rx ry h
  obtain ⟨l, b, xs, zs, rfl, rfl, hH, hB, hz, q⟩ := h
  cases rx
  cases ry
  obtain ⟨vs, r, hl, z1⟩ := I.list hH
  obtain ⟨ws, r2, hb, z2⟩ := I.list hB
  have hlen := r.length
  have hlen2 := r2.length
  obtain ⟨⟨cls, dd, data, sl⟩, ho, hc, n, hd⟩ := hl.isList
  obtain ⟨⟨cls2, dd2, data2, sl2⟩, ho2, hc2, n2, hd2⟩ := hb.isList
  simp only at hc hd hc2 hd2
  subst hc hd hc2 hd2
  have ea : vs.toArray ++ ws.toArray = (vs ++ ws).toArray := by simp
  refine concat_meets ⟨_, ho, rfl⟩ ⟨_, ho2, rfl⟩ noFill_list_add seq_list_add PySem.F.slot_list_add PySem.F.entry_list_add (PySem.F.args_list_add_2 _ _) (list_addW l b vs.toArray ws.toArray n n2 dd dd2 sl sl2 (by simp; omega)) ⟨ho, ho2, ?_⟩
  rw [ea]
  exact ⟨.ref _, _, I.lnew (t' := s.toks) (r.append r2) (by rw [List.length_append]; omega), rfl, q _ I.fresh⟩
theorem opd_addS : OpD X (binaryOp .Add) dAddS := by
  refine ⟨_, op_add_str, fun F H x y d e z Q s vx vy eq q => ?_⟩
  obtain ⟨i, j, rfl, rfl, hz⟩ := dS_some eq
  by_cases hl : i.length + j.length ≤ sizeLine
  · rw [if_pos hl] at hz
    cases hz
    exact ⟨i, j, vx.strs, vy.strs, hl, q _ _ _ .refl (.str _)⟩
  · rw [if_neg hl] at hz; cases hz
theorem opd_addL : OpD X (binaryOp .Add) dAddL := by
  refine ⟨_, op_catR, fun F H x y d e z Q s vx vy eq q => ?_⟩
  unfold dAddL at eq
  split at eq
  · rename_i xs ys
    split at eq
    · rename_i hl
      cases eq
      obtain ⟨a, us, rfl, ha, ta⟩ := vx.lists s
      obtain ⟨b, ws, rfl, hb, tb⟩ := vy.lists s
      refine ⟨a, b, us, ws, rfl, rfl, ha, hb, by rw [ta.length, tb.length]; exact hl, fun p n => ?_⟩
      refine q _ _ _ (.one n) (.lst (.of upd_same) ?_)
      have fr : F p = none := by
        cases e : F p with
        | none => rfl
        | some u => rcases s p u e with z | ⟨_, o, z⟩ <;> (rw [n] at z; cases z)
      exact (ta.append tb).mono (upd_le fr)
    · cases eq
  · cases eq
theorem Sub.none {F H : Hp} (s : Sub F H) {p : Addr} (n : H p = none) : F p = none := by
  cases e : F p with
  | none => rfl
  | some u => rcases s p u e with z | ⟨_, o, z⟩ <;> (rw [n] at z; cases z)
theorem opd_addT : OpD X (binaryOp .Add) dAddT := by
  refine ⟨_, op_catA, fun F H x y d e z Q s vx vy eq q => ?_⟩
  unfold dAddT at eq
  split at eq
  · rename_i xs ys
    split at eq
    · rename_i hl
      cases eq
      obtain ⟨a, us, rfl, ha, ta, fa⟩ := vx.tups s
      obtain ⟨b, ws, rfl, hb, tb, fb⟩ := vy.tups s
      refine ⟨a, b, us, ws, rfl, rfl, .inl (.inl ha), .inl (.inl hb), by rw [ta.length, tb.length]; exact hl, fun e0 => ?_, fun _ e0 => ?_, fun _ _ p n => ?_⟩
      · have : xs = [] := List.eq_nil_of_length_eq_zero (by rw [← ta.length, e0]; rfl)
        subst this
        exact q _ _ _ .refl fb
      · have : ys = [] := List.eq_nil_of_length_eq_zero (by rw [← tb.length, e0]; rfl)
        subst this
        rw [List.append_nil] at q
        exact q _ _ _ .refl fa
      · exact q _ _ _ (.one n) (.tup upd_same ((ta.append tb).mono (upd_le (s.none n))))
    · cases eq
  · cases eq
def dAdd : PyData → PyData → Option PyData := fun d e => (dI (fun i j => some (.int (i + j))) d e).or ((dAddS d e).or ((dAddL d e).or (dAddT d e)))
theorem opd_add : OpD X (binaryOp .Add) dAdd := (opd_int0 op_add fun _ _ _ => .int _).or (opd_addS.or (opd_addL.or opd_addT))
def dSub : PyData → PyData → Option PyData := dI fun i j => some (.int (i - j))
theorem opd_sub : OpD X (binaryOp .Sub) dSub := opd_int0 op_sub fun _ _ _ => .int _
/-- * of ints of which one is below 2 ^ 64 -/
def cMul (i j : Int) : Bool := (decide (-(2 ^ 64) < i) && decide (i < 2 ^ 64)) || (decide (-(2 ^ 64) < j) && decide (j < 2 ^ 64))
def dMulI : PyData → PyData → Option PyData := dIC cMul fun i j => .int (i * j)
theorem opd_mulI : OpD X (binaryOp .Mult) dMulI := opd_int op_mul (fun i j h => by simpa [cMul, CMul] using h) fun _ _ _ => .int _
def cDiv (i j : Int) : Bool := decide (j ≠ 0) && decide (j.natAbs < 1073741824)
def dDiv : PyData → PyData → Option PyData := dIC cDiv fun i j => .int (i.fdiv j)
theorem opd_div : OpD X (binaryOp .FloorDiv) dDiv := opd_int op_fdivN (fun i j h => by simpa [cDiv, CDivN] using h) fun _ _ _ => .int _
def dMod : PyData → PyData → Option PyData := dIC (fun _ j => decide (j ≠ 0)) fun i j => .int (i.fmod j)
theorem opd_mod : OpD X (binaryOp .Mod) dMod := opd_int op_modN (fun i j h => by simpa using h) fun _ _ _ => .int _
def cPow (i j : Int) : Bool := decide (0 ≤ j) && (decide (j ≤ 1000000) && decide (i.natAbs < 2 ^ 64))
def dShl : PyData → PyData → Option PyData := dIC cPow fun i j => .int (i * 2 ^ j.toNat)
theorem opd_shl : OpD X (binaryOp .LShift) dShl := opd_int op_shl (fun i j h => by simpa [cPow, CPow] using h) fun _ _ _ => .int _

/-! ### order -/
def dLt : PyData → PyData → Option PyData := fun d e => (dI (fun i j => some (.bool (decide (i < j)))) d e).or (dS (fun x y => some (.bool (decide (x.cps.toList < y.cps.toList)))) d e)
def dLe : PyData → PyData → Option PyData := fun d e => (dI (fun i j => some (.bool (decide (i ≤ j)))) d e).or (dS (fun x y => some (.bool (!decide (y.cps.toList < x.cps.toList)))) d e)
def dGt : PyData → PyData → Option PyData := fun d e => (dI (fun i j => some (.bool (decide (j < i)))) d e)
def dGe : PyData → PyData → Option PyData := fun d e => (dI (fun i j => some (.bool (decide (j ≤ i)))) d e)
theorem opd_strs {f : Value → Value → Sem Value} {g : Str → Str → V} {g' : Str → Str → PyData} (h : OpR X f (fun x y H Q => ∃ i j, x = .str i ∧ y = .str j ∧ Q (g i j) H)) (hg : ∀ F i j, Fz X.K F (g i j) (g' i j)) : OpD X f (dS fun i j => some (g' i j)) := by
  refine ⟨_, h, fun F H x y d e z Q s vx vy eq q => ?_⟩
  obtain ⟨i, j, rfl, rfl, hz⟩ := dS_some eq
  cases hz
  exact ⟨i, j, vx.strs, vy.strs, q _ _ _ .refl (hg F i j)⟩
theorem opd_lt : OpD X (compareOp .Lt) dLt := (opd_int0 op_lt fun _ _ _ => .bl _).or (opd_strs op_lt_str fun _ _ _ => .bl _)
theorem opd_le : OpD X (compareOp .LtE) dLe := (opd_int0 op_le fun _ _ _ => .bl _).or (opd_strs op_le_str fun _ _ _ => .bl _)
theorem opd_gt : OpD X (compareOp .Gt) dGt := opd_int0 op_gt fun _ _ _ => .bl _
theorem opd_ge : OpD X (compareOp .GtE) dGe := opd_int0 op_ge fun _ _ _ => .bl _

/-! ### ==, is -/
def atom : PyData → Option V
  | .none => some .non
  | .bool b => some (.bl b)
  | .int i => some (.int i)
  | .str x => some (.str x)
  | _ => none
theorem Vw.atom {K : PySem.W.Frag} {F H : Hp} {v w : V} {d : PyData} (h : Vw K F H v d) (e : atom d = some w) : v = w := by
  cases d with
  | none => rw [h.nons]; exact Option.some.inj e
  | bool b => rw [h.bls]; exact Option.some.inj e
  | int i => rw [h.ints]; exact Option.some.inj e
  | str x => rw [h.strs]; exact Option.some.inj e
  | list _ => cases e
  | tuple _ => cases e
  | dict _ => cases e
def dEqA (n : Bool) : PyData → PyData → Option PyData := fun d e => match atom d, atom e with
  | some x, some y => if scal x y = true then some (.bool (n != decide (x = y))) else none
  | _, _ => none
def dEqD (n : Bool) : PyData → PyData → Option PyData := fun d e => if SeqAt.shaped d = true ∧ SeqAt.shaped e = true then some (.bool (n != PyData.eqv d e)) else none
def dEq : PyData → PyData → Option PyData := fun d e => (dEqA false d e).or (dEqD false d e)
def dNe : PyData → PyData → Option PyData := fun d e => (dEqA true d e).or (dEqD true d e)
theorem opd_eqA : OpD X (compareOp .Eq) (dEqA false) := by
  refine ⟨_, op_eq, fun F H x y d e z Q s vx vy eq q => ?_⟩
  unfold dEqA at eq
  split at eq
  · rename_i u w h1 h2
    split at eq
    · rename_i hs
      cases eq
      have e1 := vx.atom h1
      have e2 := vy.atom h2
      subst e1; subst e2
      exact ⟨hs, q _ _ _ .refl (by simpa using Fz.bl _)⟩
    · cases eq
  · cases eq
theorem opd_neA : OpD X (compareOp .NotEq) (dEqA true) := by
  refine ⟨_, op_ne, fun F H x y d e z Q s vx vy eq q => ?_⟩
  unfold dEqA at eq
  split at eq
  · rename_i u w h1 h2
    split at eq
    · rename_i hs
      cases eq
      have e1 := vx.atom h1
      have e2 := vy.atom h2
      subst e1; subst e2
      exact ⟨hs, q _ _ _ .refl (by simpa using Fz.bl _)⟩
    · cases eq
  · cases eq
theorem shaped_lay {d : PyData} (h : SeqAt.shaped d = true) : d.canLay0 = true := SeqAt.canLay_of_shaped h
theorem opd_eqD (hu : X.A.units + 65 < cLine) : OpD X (compareOp .Eq) (dEqD false) := by
  refine ⟨_, op_eqD (by omega), fun F H x y d e z Q s vx vy eq q => ?_⟩
  unfold dEqD at eq
  split at eq
  · rename_i h
    cases eq
    exact ⟨d, e, vx.dp s (shaped_lay h.1), vy.dp s (shaped_lay h.2), h.1, h.2, q _ _ _ .refl (by simpa using Fz.bl _)⟩
  · cases eq
theorem opd_neD (hu : X.A.units + 65 < cLine) : OpD X (compareOp .NotEq) (dEqD true) := by
  refine ⟨_, op_neD (by omega), fun F H x y d e z Q s vx vy eq q => ?_⟩
  unfold dEqD at eq
  split at eq
  · rename_i h
    cases eq
    exact ⟨d, e, vx.dp s (shaped_lay h.1), vy.dp s (shaped_lay h.2), h.1, h.2, q _ _ _ .refl (by simpa using Fz.bl _)⟩
  · cases eq
theorem opd_eq (hu : X.A.units + 65 < cLine) : OpD X (compareOp .Eq) dEq := opd_eqA.or (opd_eqD hu)
theorem opd_ne (hu : X.A.units + 65 < cLine) : OpD X (compareOp .NotEq) dNe := opd_neA.or (opd_neD hu)
def isNon : PyData → Bool
  | .none => true
  | _ => false
def dIs (n : Bool) : PyData → PyData → Option PyData
  | d, .none => some (.bool (n != isNon d))
  | .bool a, .bool b => some (.bool (n != decide (a = b)))
  | _, _ => none
theorem Fz.isNon {K : PySem.W.Frag} {F : Hp} {v : V} {d : PyData} (h : Fz K F v d) : decide (v = .non) = isNon d := by cases h <;> simp [Pd.isNon]
theorem Vw.isNon {K : PySem.W.Frag} {F H : Hp} {v : V} {d : PyData} (h : Vw K F H v d) : decide (v = .non) = Pd.isNon d := by
  cases h with
  | fz h => exact h.isNon
  | lst => simp [Pd.isNon]
  | dK => simp [Pd.isNon]
  | dT => simp [Pd.isNon]
theorem opd_is : OpD X (compareOp .Is) (dIs false) := by
  refine ⟨_, op_isN.or op_is_bl, fun F H x y d e z Q s vx vy eq q => ?_⟩
  unfold dIs at eq
  split at eq
  · cases eq
    refine .inl ⟨vy.nons, ?_⟩
    rw [vx.isNon]
    exact q _ _ _ .refl (by simpa using Fz.bl _)
  · cases eq
    exact .inr ⟨_, _, vx.bls, vy.bls, q _ _ _ .refl (by simpa using Fz.bl _)⟩
  · cases eq
theorem opd_isnot : OpD X (compareOp .IsNot) (dIs true) := by
  refine ⟨_, op_notN.or op_isnot_bl, fun F H x y d e z Q s vx vy eq q => ?_⟩
  unfold dIs at eq
  split at eq
  · cases eq
    refine .inl ⟨vy.nons, ?_⟩
    rw [vx.isNon]
    exact q _ _ _ .refl (by simpa using Fz.bl _)
  · cases eq
    exact .inr ⟨_, _, vx.bls, vy.bls, q _ _ _ .refl (by simpa using Fz.bl _)⟩
  · cases eq

/-! ### in -/
/-- an item of a list or tuple of data; a part of a text; a key of a dict -/
def dInS (n : Bool) : PyData → PyData → Option PyData
  | d, .list ds => if SeqAt.shaped d = true ∧ SeqAt.shaped (.list ds) = true then some (.bool (n != ds.any fun y => PyData.eqv y d)) else none
  | d, .tuple ds => if SeqAt.shaped d = true ∧ SeqAt.shaped (.tuple ds) = true then some (.bool (n != ds.any fun y => PyData.eqv y d)) else none
  | .str x, .str y => some (.bool (n != !(Builtin.Str.occurrences y x 0 y.length 1).isEmpty))
  | _, _ => none
def rInTD (K : PySem.W.Frag) (neg : Bool) : R2 := fun x y H Q => ∃ (d : PyData) (ds : List PyData), Dp K H x d ∧ Dp K H y (.tuple ds) ∧ SeqAt.shaped d = true ∧ SeqAt.shaped (.tuple ds) = true ∧ Q (.bl (neg != ds.any fun z => PyData.eqv z d)) H
theorem roomT {A : Around} {ds : List PyData} {d : PyData} (sd : SeqAt.shaped d = true) (hu : A.units + 65 < cLine) : A.units + 1 + min (PyData.depthAll ds) d.depth < cLine := by
  have h : d.depth ≤ 64 := by
    have := (Bool.and_eq_true_iff.mp sd).2
    simpa using this
  omega
theorem op_inTD (hu : X.A.units + 65 < cLine) : OpR X (compareOp .In) (rInTD X.K false) := by
  intro pins s σ H x y v u Q I rx ry h
  obtain ⟨d, ds, hd, he, sd, se, q⟩ := h
  obtain ⟨as, r1⟩ := Dp.reads I d x v hd rx
  obtain ⟨bs, r2⟩ := Dp.reads I (.tuple ds) y u he ry
  exact SeqAt.in_tuple_reads r2 r1 (by simpa [PyData.canLay0] using SeqAt.canLay_of_shaped se) (SeqAt.canLay_of_shaped sd) (roomT sd hu) ⟨.bl _, H, I, rfl, by simpa using q⟩
theorem op_notInTD (hu : X.A.units + 65 < cLine) : OpR X (compareOp .NotIn) (rInTD X.K true) := by
  intro pins s σ H x y v u Q I rx ry h
  obtain ⟨d, ds, hd, he, sd, se, q⟩ := h
  obtain ⟨as, r1⟩ := Dp.reads I d x v hd rx
  obtain ⟨bs, r2⟩ := Dp.reads I (.tuple ds) y u he ry
  exact SeqAt.notIn_tuple_reads r2 r1 (by simpa [PyData.canLay0] using SeqAt.canLay_of_shaped se) (SeqAt.canLay_of_shaped sd) (roomT sd hu) ⟨.bl _, H, I, rfl, by simpa using q⟩
theorem opd_in (hu : X.A.units + 65 < cLine) : OpD X (compareOp .In) (dInS false) := by
  refine ⟨_, (op_inD hu).or ((op_inTD hu).or op_in_str), fun F H x y d e z Q s vx vy eq q => ?_⟩
  unfold dInS at eq
  split at eq
  · split at eq
    · rename_i h
      cases eq
      exact .inl ⟨_, _, vx.dp s (shaped_lay h.1), vy.dp s (shaped_lay h.2), h.1, h.2, q _ _ _ .refl (by simpa using Fz.bl _)⟩
    · cases eq
  · split at eq
    · rename_i h
      cases eq
      exact .inr (.inl ⟨_, _, vx.dp s (shaped_lay h.1), vy.dp s (shaped_lay h.2), h.1, h.2, q _ _ _ .refl (by simpa using Fz.bl _)⟩)
    · cases eq
  · cases eq
    exact .inr (.inr ⟨_, _, vx.strs, vy.strs, q _ _ _ .refl (by simpa using Fz.bl _)⟩)
  · cases eq
theorem opd_notin (hu : X.A.units + 65 < cLine) : OpD X (compareOp .NotIn) (dInS true) := by
  refine ⟨_, (op_notInD hu).or ((op_notInTD hu).or L2.op_notin_str), fun F H x y d e z Q s vx vy eq q => ?_⟩
  unfold dInS at eq
  split at eq
  · split at eq
    · rename_i h
      cases eq
      exact .inl ⟨_, _, vx.dp s (shaped_lay h.1), vy.dp s (shaped_lay h.2), h.1, h.2, q _ _ _ .refl (by simpa using Fz.bl _)⟩
    · cases eq
  · split at eq
    · rename_i h
      cases eq
      exact .inr (.inl ⟨_, _, vx.dp s (shaped_lay h.1), vy.dp s (shaped_lay h.2), h.1, h.2, q _ _ _ .refl (by simpa using Fz.bl _)⟩)
    · cases eq
  · cases eq
    exact .inr (.inr ⟨_, _, vx.strs, vy.strs, q _ _ _ .refl (by simpa using Fz.bl _)⟩)
  · cases eq

/-! ### an item -/
def dIx : PyData → PyData → Option PyData
  | .list ds, .int i => atI ds i
  | .tuple ds, .int i => atI ds i
  | .str z, .int i => if z.length ≤ sizeLine then (atI z.cps.toList i).map fun c => .str ⟨#[c]⟩ else none
  | _, _ => none
theorem FzA.atI {K : PySem.W.Frag} {F : Hp} {vs : List V} {ds : List PyData} {i : Int} {d : PyData} (h : FzA K F vs ds) (e : L2.atI ds i = some d) : ∃ v, L2.atI vs i = some v ∧ Fz K F v d := by
  unfold L2.atI at e ⊢
  rw [h.length]
  cases hn : ixN ds.length i with
  | none => rw [hn] at e; cases e
  | some j =>
    rw [hn] at e
    exact h.getD e
def IxD (X : Cx) (g : PyData → PyData → Option PyData) : Prop := ∃ r, IxR X r ∧ ∀ (F H : Hp) (x y : V) (d e z : PyData) (Q : VK), Sub F H → Vw X.K F H x d → Vw X.K F H y e → g d e = some z →
  (∀ v H' F', Ext F H F' H' → Fz X.K F' v z → Q v H') → r x y H Q
theorem ixd_seq : IxD X dIx := by
  refine ⟨_, ix_seq, fun F H x y d e z Q s vx vy eq q => ?_⟩
  unfold dIx at eq
  split at eq
  · obtain ⟨a, us, rfl, ha, ta⟩ := vx.lists s
    obtain ⟨v, hv, fv⟩ := ta.atI eq
    exact .inl ⟨a, us, _, v, rfl, vy.ints, ha, hv, q _ _ _ .refl fv⟩
  · obtain ⟨a, us, rfl, ha, ta, _⟩ := vx.tups s
    obtain ⟨v, hv, fv⟩ := ta.atI eq
    exact .inr (.inl ⟨a, us, _, v, rfl, vy.ints, .inl (.inl ha), hv, q _ _ _ .refl fv⟩)
  · split at eq
    · rename_i hl
      simp only [Option.map_eq_some_iff] at eq
      obtain ⟨c, hc, rfl⟩ := eq
      exact .inr (.inr ⟨_, _, c, vx.strs, vy.ints, hl, hc, q _ _ _ .refl (.str _)⟩)
    · cases eq
  · cases eq
theorem ped_ix {a b : Expr} {g : PyData → PyData → Option PyData} {f1 f2 : XM} {pos : Pos} (ho : IxD X g) (ha : PEd X a f1) (hb : PEd X b f2) (hs : PlainIx b) : PEd X (.Subscript a b pos) (mBin g f1 f2) := by
  obtain ⟨r, h, hr⟩ := ho
  obtain ⟨t1, p1, h1⟩ := ha
  obtain ⟨t2, p2, h2⟩ := hb
  exact ⟨_, pe_ix h p1 p2 hs, bin_d (a := a) (b := b) (f := fun x y => getItem x y) hr h1 h2⟩

/-! ### one-place operations -/
def mUn (g : PyData → Option PyData) (f : XM) : XM := fun ρ P => (f ρ P).bind fun (a, P1) => (flat P1 a).bind fun d => (g d).map fun z => (.fz z, P1)
def dNeg : PyData → Option PyData
  | .int i => some (.int (-i))
  | _ => none
theorem ped_neg {a : Expr} {f : XM} {pos : Pos} (ha : PEd X a f) : PEd X (.UnaryOp .USub a pos) (mUn dNeg f) := by
  obtain ⟨t1, p1, h1⟩ := ha
  refine ⟨_, pe_un un_neg p1, fun bs ρ σ os vs P H Q r P' R e q => ?_⟩
  simp only [mUn, Option.bind_eq_some_iff, Option.map_eq_some_iff, Prod.mk.injEq] at e
  obtain ⟨⟨s1, P1⟩, e1, d1, e3, z, e5, rfl, rfl⟩ := e
  refine h1 bs ρ σ os vs P H _ s1 P1 R e1 fun x H1 R1 => ?_
  obtain ⟨F, ad, R1⟩ := R1
  obtain ⟨r1, R1⟩ := R1.pop
  have vw := R1.view r1 e3
  unfold dNeg at e5
  split at e5
  · cases e5
    exact ⟨_, vw.ints, q _ _ (R1.atom (.int _))⟩
  · cases e5

/-! ### conditions -/
def mTB (f : XM) : BM := fun ρ P => (f ρ P).bind fun (a, P1) => match a with
  | .fz (.bool b) => some (b, P1)
  | _ => none
/-- an expression whose value is True or False -/
theorem ptd_val {e : Expr} {f : XM} (h : PEd X e f) (he : ∀ whole, isTrue e X.env whole = (do let v ← whole; standAt e.pos; holding [v] (truthy v)) := by intro _; rfl) : PTd X e (mTB f) := by
  obtain ⟨t, p, h1⟩ := h
  refine ⟨_, pt_val p he, fun bs ρ σ os vs P H Q r P' R e q => ?_⟩
  simp only [mTB, Option.bind_eq_some_iff] at e
  obtain ⟨⟨s1, P1⟩, e1, e2⟩ := e
  refine h1 bs ρ σ os vs P H _ s1 P1 R e1 fun x H1 R1 => ?_
  simp only at e2
  split at e2
  · cases e2
    obtain ⟨F, ad, R0⟩ := R1
    obtain ⟨r1, R2⟩ := R0.pop
    cases r1
    exact ⟨_, rfl, q _ ⟨F, ad, R2⟩⟩
  · cases e2
theorem ptd_cmp {a b : Expr} {op : CmpOp} {g : PyData → PyData → Option PyData} {f1 f2 : XM} {pos : Pos} (ho : OpD X (compareOp op) g) (ha : PEd X a f1) (hb : PEd X b f2) (hm : behindInMarks op b = false) : PTd X (.Compare a [op] [b] pos) (mTB (mBin g f1 f2)) := by
  obtain ⟨r, h, hr⟩ := ho
  obtain ⟨t1, p1, h1⟩ := ha
  obtain ⟨t2, p2, h2⟩ := hb
  refine ⟨_, pt_cmpR h p1 p2 hm, fun bs ρ σ os vs P H Q w P' R e q => ?_⟩
  simp only [mTB, Option.bind_eq_some_iff] at e
  obtain ⟨⟨s1, P1⟩, e1, e2⟩ := e
  refine bin_d (a := a) (b := b) (f := compareOp op) hr h1 h2 bs ρ σ os vs P H _ s1 P1 R e1 fun x H1 R1 => ?_
  simp only at e2
  split at e2
  · cases e2
    obtain ⟨F, ad, R0⟩ := R1
    obtain ⟨r1, R2⟩ := R0.pop
    cases r1
    exact ⟨_, rfl, q _ ⟨F, ad, R2⟩⟩
  · cases e2
def mNotB (f : BM) : BM := fun ρ P => (f ρ P).map fun (a, P1) => (!a, P1)
def mAndB (f g : BM) : BM := fun ρ P => (f ρ P).bind fun (a, P1) => if a = true then g ρ P1 else some (false, P1)
def mOrB (f g : BM) : BM := fun ρ P => (f ρ P).bind fun (a, P1) => if a = true then some (true, P1) else g ρ P1
theorem ptd_not {a : Expr} {f : BM} {pos : Pos} (h : PTd X a f) : PTd X (.UnaryOp .Not a pos) (mNotB f) := by
  obtain ⟨t, p, h1⟩ := h
  refine ⟨_, pt_not p, fun bs ρ σ os vs P H Q r P' R e q => ?_⟩
  simp only [mNotB, Option.map_eq_some_iff, Prod.mk.injEq] at e
  obtain ⟨⟨s1, P1⟩, e1, rfl, rfl⟩ := e
  exact h1 bs ρ σ os vs P H _ s1 P1 R e1 fun H1 R1 => q _ R1
/-- a chain of and, of or, as a test -/
def PWd (X : Cx) (e : Expr) (f : BM) : Prop := ∃ t, PW X e t ∧ ∀ (bs : List Nat) (ρ : EV) (σ : L2.St) (os : List SV) (vs : List V) (P : Store) (H : Hp) (Q : Bool → Hp → Prop) (r : Bool) (P' : Store), Rel X.K bs ρ σ os vs P H → f ρ P = some (r, P') →
  (∀ H', Rel X.K bs ρ σ os vs P' H' → Q r H') → t σ H Q
theorem PWd.pt {e : Expr} {f : BM} (h : PWd X e f) : PTd X e f := let ⟨t, p, q⟩ := h; ⟨t, p.pt, q⟩
theorem pwd_and1 {a : Expr} {f : BM} {pos : Pos} (h : PTd X a f) : PWd X (.BoolOp .And [a] pos) f := let ⟨t, p, q⟩ := h; ⟨t, pw_and1 p, q⟩
theorem pwd_or1 {a : Expr} {f : BM} {pos : Pos} (h : PTd X a f) : PWd X (.BoolOp .Or [a] pos) f := let ⟨t, p, q⟩ := h; ⟨t, pw_or1 p, q⟩
theorem and_d {f g : BM} {t u : TT}
    (h1 : ∀ (bs : List Nat) (ρ : EV) (σ : L2.St) (os : List SV) (vs : List V) (P : Store) (H : Hp) (Q : Bool → Hp → Prop) (r : Bool) (P' : Store), Rel X.K bs ρ σ os vs P H → f ρ P = some (r, P') → (∀ H', Rel X.K bs ρ σ os vs P' H' → Q r H') → t σ H Q)
    (h2 : ∀ (bs : List Nat) (ρ : EV) (σ : L2.St) (os : List SV) (vs : List V) (P : Store) (H : Hp) (Q : Bool → Hp → Prop) (r : Bool) (P' : Store), Rel X.K bs ρ σ os vs P H → g ρ P = some (r, P') → (∀ H', Rel X.K bs ρ σ os vs P' H' → Q r H') → u σ H Q)
    (bs : List Nat) (ρ : EV) (σ : L2.St) (os : List SV) (vs : List V) (P : Store) (H : Hp) (Q : Bool → Hp → Prop) (r : Bool) (P' : Store) (R : Rel X.K bs ρ σ os vs P H) (e : mAndB f g ρ P = some (r, P')) (q : ∀ H', Rel X.K bs ρ σ os vs P' H' → Q r H') : tAnd t u σ H Q := by
  simp only [mAndB, Option.bind_eq_some_iff] at e
  obtain ⟨⟨s1, P1⟩, e1, e2⟩ := e
  refine h1 bs ρ σ os vs P H _ s1 P1 R e1 fun H1 R1 => ?_
  simp only at e2
  cases s1 with
  | true =>
    rw [if_pos rfl] at e2 ⊢
    exact h2 bs ρ σ os vs P1 H1 _ r P' R1 e2 q
  | false =>
    rw [if_neg Bool.false_ne_true] at e2 ⊢
    cases e2
    exact q _ R1
theorem or_d {f g : BM} {t u : TT}
    (h1 : ∀ (bs : List Nat) (ρ : EV) (σ : L2.St) (os : List SV) (vs : List V) (P : Store) (H : Hp) (Q : Bool → Hp → Prop) (r : Bool) (P' : Store), Rel X.K bs ρ σ os vs P H → f ρ P = some (r, P') → (∀ H', Rel X.K bs ρ σ os vs P' H' → Q r H') → t σ H Q)
    (h2 : ∀ (bs : List Nat) (ρ : EV) (σ : L2.St) (os : List SV) (vs : List V) (P : Store) (H : Hp) (Q : Bool → Hp → Prop) (r : Bool) (P' : Store), Rel X.K bs ρ σ os vs P H → g ρ P = some (r, P') → (∀ H', Rel X.K bs ρ σ os vs P' H' → Q r H') → u σ H Q)
    (bs : List Nat) (ρ : EV) (σ : L2.St) (os : List SV) (vs : List V) (P : Store) (H : Hp) (Q : Bool → Hp → Prop) (r : Bool) (P' : Store) (R : Rel X.K bs ρ σ os vs P H) (e : mOrB f g ρ P = some (r, P')) (q : ∀ H', Rel X.K bs ρ σ os vs P' H' → Q r H') : tOr t u σ H Q := by
  simp only [mOrB, Option.bind_eq_some_iff] at e
  obtain ⟨⟨s1, P1⟩, e1, e2⟩ := e
  refine h1 bs ρ σ os vs P H _ s1 P1 R e1 fun H1 R1 => ?_
  simp only at e2
  cases s1 with
  | false =>
    rw [if_neg Bool.false_ne_true] at e2 ⊢
    exact h2 bs ρ σ os vs P1 H1 _ r P' R1 e2 q
  | true =>
    rw [if_pos rfl] at e2 ⊢
    cases e2
    exact q _ R1
theorem pwd_and {a b : Expr} {rest : List Expr} {f g : BM} {pos : Pos} (h : PTd X a f) (h' : PWd X (.BoolOp .And (b :: rest) pos) g) : PWd X (.BoolOp .And (a :: b :: rest) pos) (mAndB f g) := by
  obtain ⟨t, p, h1⟩ := h
  obtain ⟨u, p', h2⟩ := h'
  exact ⟨_, pw_and p p', and_d h1 h2⟩
theorem pwd_or {a b : Expr} {rest : List Expr} {f g : BM} {pos : Pos} (h : PTd X a f) (h' : PWd X (.BoolOp .Or (b :: rest) pos) g) : PWd X (.BoolOp .Or (a :: b :: rest) pos) (mOrB f g) := by
  obtain ⟨t, p, h1⟩ := h
  obtain ⟨u, p', h2⟩ := h'
  exact ⟨_, pw_or p p', or_d h1 h2⟩
/-- .. as values (bools) -/
def mAndV (f g : XM) : XM := fun ρ P => (f ρ P).bind fun (a, P1) => match a with
  | .fz (.bool true) => g ρ P1
  | .fz (.bool false) => some (.fz (.bool false), P1)
  | _ => none
def mOrV (f g : XM) : XM := fun ρ P => (f ρ P).bind fun (a, P1) => match a with
  | .fz (.bool false) => g ρ P1
  | .fz (.bool true) => some (.fz (.bool true), P1)
  | _ => none
def mNotV (f : XM) : XM := fun ρ P => (f ρ P).bind fun (a, P1) => match a with
  | .fz (.bool b) => some (.fz (.bool (!b)), P1)
  | _ => none
theorem ped_one {op} {a : Expr} {f : XM} {pos : Pos} (h : PEd X a f) : PEd X (.BoolOp op [a] pos) f := let ⟨t, p, q⟩ := h; ⟨t, pe_one p, q⟩
theorem ped_and {a b : Expr} {rest : List Expr} {f g : XM} {pos : Pos} (h : PEd X a f) (h' : PEd X (.BoolOp .And (b :: rest) pos) g) : PEd X (.BoolOp .And (a :: b :: rest) pos) (mAndV f g) := by
  obtain ⟨t, p, h1⟩ := h
  obtain ⟨u, p', h2⟩ := h'
  refine ⟨_, pe_and p p', fun bs ρ σ os vs P H Q r P' R e q => ?_⟩
  simp only [mAndV, Option.bind_eq_some_iff] at e
  obtain ⟨⟨s1, P1⟩, e1, e2⟩ := e
  refine h1 bs ρ σ os vs P H _ s1 P1 R e1 fun x H1 R1 => ?_
  simp only at e2
  obtain ⟨F, ad, R0⟩ := R1
  obtain ⟨r1, R2⟩ := R0.pop
  split at e2
  · cases r1
    exact ⟨true, rfl, by rw [if_pos rfl]; exact h2 bs ρ σ os vs P1 H1 _ r P' ⟨F, ad, R2⟩ e2 q⟩
  · cases r1
    cases e2
    exact ⟨false, rfl, by rw [if_neg Bool.false_ne_true]; exact q _ _ (R2.atom (.bl _))⟩
  · cases e2
theorem ped_or {a b : Expr} {rest : List Expr} {f g : XM} {pos : Pos} (h : PEd X a f) (h' : PEd X (.BoolOp .Or (b :: rest) pos) g) : PEd X (.BoolOp .Or (a :: b :: rest) pos) (mOrV f g) := by
  obtain ⟨t, p, h1⟩ := h
  obtain ⟨u, p', h2⟩ := h'
  refine ⟨_, pe_or p p', fun bs ρ σ os vs P H Q r P' R e q => ?_⟩
  simp only [mOrV, Option.bind_eq_some_iff] at e
  obtain ⟨⟨s1, P1⟩, e1, e2⟩ := e
  refine h1 bs ρ σ os vs P H _ s1 P1 R e1 fun x H1 R1 => ?_
  simp only at e2
  obtain ⟨F, ad, R0⟩ := R1
  obtain ⟨r1, R2⟩ := R0.pop
  split at e2
  · cases r1
    exact ⟨false, rfl, by rw [if_neg Bool.false_ne_true]; exact h2 bs ρ σ os vs P1 H1 _ r P' ⟨F, ad, R2⟩ e2 q⟩
  · cases r1
    cases e2
    exact ⟨true, rfl, by rw [if_pos rfl]; exact q _ _ (R2.atom (.bl _))⟩
  · cases e2
theorem ped_not {a : Expr} {f : XM} {pos : Pos} (h : PEd X a f) : PEd X (.UnaryOp .Not a pos) (mNotV f) := by
  obtain ⟨t, p, h1⟩ := h
  refine ⟨_, pe_not p, fun bs ρ σ os vs P H Q r P' R e q => ?_⟩
  simp only [mNotV, Option.bind_eq_some_iff] at e
  obtain ⟨⟨s1, P1⟩, e1, e2⟩ := e
  refine h1 bs ρ σ os vs P H _ s1 P1 R e1 fun x H1 R1 => ?_
  simp only at e2
  obtain ⟨F, ad, R0⟩ := R1
  obtain ⟨r1, R2⟩ := R0.pop
  split at e2
  · cases r1
    cases e2
    exact ⟨_, rfl, q _ _ (R2.atom (.bl _))⟩
  · cases e2
def mIfE (c : BM) (f g : XM) : XM := fun ρ P => (c ρ P).bind fun (b, P1) => if b = true then f ρ P1 else g ρ P1
theorem ped_if {c a b : Expr} {fc : BM} {f g : XM} {pos : Pos} (hc : PTd X c fc) (ha : PEd X a f) (hb : PEd X b g) : PEd X (.IfExp c a b pos) (mIfE fc f g) := by
  obtain ⟨t0, p0, h0⟩ := hc
  obtain ⟨t, p, h1⟩ := ha
  obtain ⟨u, p', h2⟩ := hb
  refine ⟨_, pe_ifExp p0 p p', fun bs ρ σ os vs P H Q r P' R e q => ?_⟩
  simp only [mIfE, Option.bind_eq_some_iff] at e
  obtain ⟨⟨s1, P1⟩, e1, e2⟩ := e
  refine h0 bs ρ σ os vs P H _ s1 P1 R e1 fun H1 R1 => ?_
  simp only at e2
  cases s1 with
  | true => rw [if_pos rfl] at e2 ⊢; exact h1 bs ρ σ os vs P1 H1 _ r P' R1 e2 q
  | false => rw [if_neg Bool.false_ne_true] at e2 ⊢; exact h2 bs ρ σ os vs P1 H1 _ r P' R1 e2 q
/-- a < b < c -/
def mChain (g g' : PyData → PyData → Option PyData) (f1 f2 f3 : XM) : XM := fun ρ P => (f1 ρ P).bind fun (a, P1) => (f2 ρ P1).bind fun (b, P2) => (flat P2 a).bind fun d => (flat P2 b).bind fun e => (g d e).bind fun z => match z with
  | .bool true => (f3 ρ P2).bind fun (c, P3) => (flat P3 b).bind fun e' => (flat P3 c).bind fun k => (g' e' k).map fun z' => (.fz z', P3)
  | .bool false => some (.fz (.bool false), P2)
  | _ => none
theorem chain_d {g g' : PyData → PyData → Option PyData} {f1 f2 f3 : XM} {t1 t2 t3 : TE} {r r' : R2}
    (hr : ∀ (F H : Hp) (x y : V) (d e z : PyData) (Q : VK), Sub F H → Vw X.K F H x d → Vw X.K F H y e → g d e = some z → (∀ v H' F', Ext F H F' H' → Fz X.K F' v z → Q v H') → r x y H Q)
    (hr' : ∀ (F H : Hp) (x y : V) (d e z : PyData) (Q : VK), Sub F H → Vw X.K F H x d → Vw X.K F H y e → g' d e = some z → (∀ v H' F', Ext F H F' H' → Fz X.K F' v z → Q v H') → r' x y H Q)
    (h1 : ∀ (bs : List Nat) (ρ : EV) (σ : L2.St) (os : List SV) (vs : List V) (P : Store) (H : Hp) (Q : VK) (r : SV) (P' : Store), Rel X.K bs ρ σ os vs P H → f1 ρ P = some (r, P') → (∀ v H', Rel X.K bs ρ σ (r :: os) (v :: vs) P' H' → Q v H') → t1 σ H Q)
    (h2 : ∀ (bs : List Nat) (ρ : EV) (σ : L2.St) (os : List SV) (vs : List V) (P : Store) (H : Hp) (Q : VK) (r : SV) (P' : Store), Rel X.K bs ρ σ os vs P H → f2 ρ P = some (r, P') → (∀ v H', Rel X.K bs ρ σ (r :: os) (v :: vs) P' H' → Q v H') → t2 σ H Q)
    (h3 : ∀ (bs : List Nat) (ρ : EV) (σ : L2.St) (os : List SV) (vs : List V) (P : Store) (H : Hp) (Q : VK) (r : SV) (P' : Store), Rel X.K bs ρ σ os vs P H → f3 ρ P = some (r, P') → (∀ v H', Rel X.K bs ρ σ (r :: os) (v :: vs) P' H' → Q v H') → t3 σ H Q)
    (bs : List Nat) (ρ : EV) (σ : L2.St) (os : List SV) (vs : List V) (P : Store) (H : Hp) (Q : VK) (w : SV) (P' : Store) (R : Rel X.K bs ρ σ os vs P H) (e : mChain g g' f1 f2 f3 ρ P = some (w, P'))
    (q : ∀ v H', Rel X.K bs ρ σ (w :: os) (v :: vs) P' H' → Q v H') : tChain r r' t1 t2 t3 σ H Q := by
  simp only [mChain, Option.bind_eq_some_iff] at e
  obtain ⟨⟨s1, P1⟩, e1, ⟨s2, P2⟩, e2, d1, e3, d2, e4, z, e5, e6⟩ := e
  refine h1 bs ρ σ os vs P H _ s1 P1 R e1 fun x H1 R1 => ?_
  refine h2 bs ρ σ _ _ P1 H1 _ s2 P2 R1 e2 fun y H2 R2 => ?_
  obtain ⟨F, ad, R2⟩ := R2
  obtain ⟨r2, R3⟩ := R2.pop
  obtain ⟨r1, R4⟩ := R3.pop
  refine hr F H2 x y d1 d2 z _ R2.sub (R2.view r1 e3) (R2.view r2 e4) e5 fun v H' F' xx f => ?_
  simp only at e6
  split at e6
  · cases f
    refine ⟨true, rfl, ?_⟩
    rw [if_pos rfl]
    simp only [Option.bind_eq_some_iff, Option.map_eq_some_iff, Prod.mk.injEq] at e6
    obtain ⟨⟨s3, P3⟩, e7, d3, e8, d4, e9, z', e10, rfl, rfl⟩ := e6
    refine h3 bs ρ σ _ _ P2 H' _ s3 P3 ⟨F', ad, R2.ext xx⟩ e7 fun y3 H3 R5 => ?_
    obtain ⟨F3, ad3, R5⟩ := R5
    obtain ⟨r3, R6⟩ := R5.pop
    obtain ⟨r4, R7⟩ := R6.pop
    obtain ⟨_, R8⟩ := R7.pop
    exact hr' F3 H3 y y3 d3 d4 z' _ R5.sub (R5.view r4 e8) (R5.view r3 e9) e10 fun v H' F' x f => q v H' ((R8.ext x).atom f)
  · cases f
    refine ⟨false, rfl, ?_⟩
    rw [if_neg Bool.false_ne_true]
    cases e6
    exact q _ _ ((R4.ext xx).atom (.bl _))
  · cases e6
theorem ped_chain {a b c : Expr} {op op' : CmpOp} {g g' : PyData → PyData → Option PyData} {f1 f2 f3 : XM} {pos : Pos} (ho : OpD X (compareOp op) g) (ho' : OpD X (compareOp op') g') (ha : PEd X a f1) (hb : PEd X b f2) (hc : PEd X c f3)
    (hm : lastMarks [op, op'] [b, c] = false := by with_unfolding_all rfl) : PEd X (.Compare a [op, op'] [b, c] pos) (mChain g g' f1 f2 f3) := by
  obtain ⟨r, h, hr⟩ := ho
  obtain ⟨r', h', hr'⟩ := ho'
  obtain ⟨t1, p1, h1⟩ := ha
  obtain ⟨t2, p2, h2⟩ := hb
  obtain ⟨t3, p3, h3⟩ := hc
  exact ⟨_, pe_chain h h' p1 p2 p3 hm, chain_d hr hr' h1 h2 h3⟩
theorem ptd_chain {a b c : Expr} {op op' : CmpOp} {g g' : PyData → PyData → Option PyData} {f1 f2 f3 : XM} {pos : Pos} (ho : OpD X (compareOp op) g) (ho' : OpD X (compareOp op') g') (ha : PEd X a f1) (hb : PEd X b f2) (hc : PEd X c f3)
    (hm : lastMarks [op, op'] [b, c] = false := by with_unfolding_all rfl) : PTd X (.Compare a [op, op'] [b, c] pos) (mTB (mChain g g' f1 f2 f3)) := by
  obtain ⟨r, h, hr⟩ := ho
  obtain ⟨r', h', hr'⟩ := ho'
  obtain ⟨t1, p1, h1⟩ := ha
  obtain ⟨t2, p2, h2⟩ := hb
  obtain ⟨t3, p3, h3⟩ := hc
  refine ⟨_, pt_chain h h' p1 p2 p3 hm, fun bs ρ σ os vs P H Q w P' R e q => ?_⟩
  simp only [mTB, Option.bind_eq_some_iff] at e
  obtain ⟨⟨s1, P1⟩, e1, e2⟩ := e
  refine chain_d hr hr' h1 h2 h3 bs ρ σ os vs P H _ s1 P1 R e1 fun x H1 R1 => ?_
  simp only at e2
  split at e2
  · cases e2
    obtain ⟨F, ad, R0⟩ := R1
    obtain ⟨r1, R2⟩ := R0.pop
    cases r1
    exact ⟨_, rfl, q _ ⟨F, ad, R2⟩⟩
  · cases e2
end
end Pd

set_option Elab.async false
set_option linter.all false
set_option maxRecDepth 100000
set_option maxHeartbeats 1000000
/-! The layer Pd, part D: arguments, displays, built-in calls, slices. -/
namespace Pd
open PySem PySem.Spec PyProof.Rows L2
section
variable {X : Cx} {pos : Pos}

/-- the value is frozen -/
def mFz (f : XM) : XM := fun ρ P => (f ρ P).bind fun (a, P1) => (frz P1 a).map fun (d, P2) => (.fz d, P2)
theorem ped_fz {e : Expr} {f : XM} (h : PEd X e f) : PEd X e (mFz f) := by
  obtain ⟨t, p, h1⟩ := h
  refine ⟨t, p, fun bs ρ σ os vs P H Q r P' R e q => ?_⟩
  simp only [mFz, Option.bind_eq_some_iff, Option.map_eq_some_iff, Prod.mk.injEq] at e
  obtain ⟨⟨s1, P1⟩, e1, ⟨d, P2⟩, e2, rfl, rfl⟩ := e
  refine h1 bs ρ σ os vs P H _ s1 P1 R e1 fun x H1 R1 => ?_
  obtain ⟨F, ad, R0⟩ := R1
  obtain ⟨r1, R2⟩ := R0.pop
  obtain ⟨G, R3, _, fd⟩ := R2.freeze r1 e2
  exact q _ _ ⟨G, ad, R3.push fd⟩

def aNil : AM := fun _ P => some ([], P)
def aCons (f : XM) (g : AM) : AM := fun ρ P => (f ρ P).bind fun (a, P1) => (g ρ P1).map fun (l, P2) => (a :: l, P2)
theorem pad_nil : PAd X [] aNil := ⟨_, pa_nil, fun bs ρ σ os vs P H Q r P' R e q => by
  simp only [aNil, Option.some.injEq, Prod.mk.injEq] at e
  obtain ⟨rfl, rfl⟩ := e
  exact q [] H rfl R⟩
theorem pad_cons {e : Expr} {es : List Expr} {f : XM} {g : AM} (h : PEd X e f) (h' : PAd X es g) (hs : starEach (e :: es) X.env = (false, eval e X.env) :: starEach es X.env := by rfl) : PAd X (e :: es) (aCons f g) := by
  obtain ⟨t, p, h1⟩ := h
  obtain ⟨u, p', h2⟩ := h'
  refine ⟨_, pa_cons p p' hs, fun bs ρ σ os vs P H Q r P' R e q => ?_⟩
  simp only [aCons, Option.bind_eq_some_iff, Option.map_eq_some_iff, Prod.mk.injEq] at e
  obtain ⟨⟨s1, P1⟩, e1, ⟨l, P2⟩, e2, rfl, rfl⟩ := e
  refine h1 bs ρ σ os vs P H _ s1 P1 R e1 fun x H1 R1 => ?_
  refine h2 bs ρ σ _ _ P1 H1 _ l P2 R1 e2 fun ws H2 hl R2 => ?_
  refine q (x :: ws) H2 (by simp [hl]) ?_
  simpa using R2
theorem SVA.rev {K : PySem.W.Frag} {F : Hp} {ad : List Addr} : ∀ {l : List SV} {ws : List V} {os : List SV} {vs : List V}, ws.length = l.length → SVA K F ad (ws.reverse ++ vs) (l.reverse ++ os) → SVA K F ad ws l ∧ SVA K F ad vs os
  | [], [], os, vs, _, h => ⟨.nil, by simpa using h⟩
  | a :: l, w :: ws, os, vs, e, h => by
    have h' : SVA K F ad (ws.reverse ++ (w :: vs)) (l.reverse ++ (a :: os)) := by simpa using h
    obtain ⟨h1, h2⟩ := SVA.rev (l := l) (ws := ws) (by simpa using e) h'
    cases h2 with
    | cons a b => exact ⟨.cons a h1, b⟩
  | [], _ :: _, _, _, e, _ => by simp at e
  | _ :: _, [], _, _, e, _ => by simp at e
theorem RelX.args {K : PySem.W.Frag} {bs : List Nat} {ρ : EV} {σ : L2.St} {os : List SV} {vs : List V} {P : Store} {H F : Hp} {ad : List Addr} {l : List SV} {ws : List V} (R : RelX K bs ρ σ (l.reverse ++ os) (ws.reverse ++ vs) P H F ad) (e : ws.length = l.length) :
    SVA K F ad ws l ∧ RelX K bs ρ σ os vs P H F ad := let ⟨a, b⟩ := SVA.rev e R.tops; ⟨a, R.tops_of b⟩

/-! ### displays -/
def mTup (g : AM) : XM := fun ρ P => (g ρ P).bind fun (l, P1) => (fzs l).bind fun ds => if ds.length ≤ sizeLine then some (.fz (.tuple ds), P1) else none
def mLst (g : AM) : XM := fun ρ P => (g ρ P).bind fun (l, P1) => (fzs l).bind fun ds => if ds.length ≤ sizeLine then some (.fz (.list ds), P1) else none
/-- a list that may change -/
def mLstC (g : AM) : XM := fun ρ P => (g ρ P).bind fun (l, P1) => if l.length ≤ sizeLine then some (.ptr P1.length, P1 ++ [.lst l]) else none
theorem ped_tup {es : List Expr} {x1} {g : AM} (h : PAd X es g) : PEd X (.Tuple es x1 pos) (mTup g) := by
  obtain ⟨t, p, h1⟩ := h
  refine ⟨_, pe_tup p, fun bs ρ σ os vs P H Q r P' R e q => ?_⟩
  simp only [mTup, Option.bind_eq_some_iff] at e
  obtain ⟨⟨l, P1⟩, e1, ds, e2, e3⟩ := e
  split at e3
  · rename_i hz
    cases e3
    refine h1 bs ρ σ os vs P H _ l P1 R e1 fun ws H1 hl R1 => ?_
    obtain ⟨F, ad, R1⟩ := R1
    obtain ⟨a, R2⟩ := R1.args hl
    have fa := fzs_some a e2
    refine ⟨by rw [fa.length]; exact hz, fun p n => q _ _ ⟨_, ad, (R2.lay n).push ?_⟩⟩
    exact .tup upd_same (fa.mono (upd_le (R2.free n)))
  · cases e3
theorem ped_lst {es : List Expr} {g : AM} (h : PAd X es g) : PEd X (.List es pos) (mLst g) := by
  obtain ⟨t, p, h1⟩ := h
  refine ⟨_, pe_lst p, fun bs ρ σ os vs P H Q r P' R e q => ?_⟩
  simp only [mLst, Option.bind_eq_some_iff] at e
  obtain ⟨⟨l, P1⟩, e1, ds, e2, e3⟩ := e
  split at e3
  · rename_i hz
    cases e3
    refine h1 bs ρ σ os vs P H _ l P1 R e1 fun ws H1 hl R1 => ?_
    obtain ⟨F, ad, R1⟩ := R1
    obtain ⟨a, R2⟩ := R1.args hl
    have fa := fzs_some a e2
    refine ⟨by rw [fa.length]; exact hz, fun p n => q _ _ ⟨_, ad, (R2.lay n).push ?_⟩⟩
    exact .lst (.of upd_same) (fa.mono (upd_le (R2.free n)))
  · cases e3
theorem ped_lstC {es : List Expr} {g : AM} (h : PAd X es g) : PEd X (.List es pos) (mLstC g) := by
  obtain ⟨t, p, h1⟩ := h
  refine ⟨_, pe_lst p, fun bs ρ σ os vs P H Q r P' R e q => ?_⟩
  simp only [mLstC, Option.bind_eq_some_iff] at e
  obtain ⟨⟨l, P1⟩, e1, e3⟩ := e
  split at e3
  · rename_i hz
    cases e3
    refine h1 bs ρ σ os vs P H _ l P1 R e1 fun ws H1 hl R1 => ?_
    obtain ⟨F, ad, R1⟩ := R1
    obtain ⟨a, R2⟩ := R1.args hl
    refine ⟨by rw [a.length]; exact hz, fun p n => q _ _ ⟨F, ad ++ [p], R2.cell n fun ad' pr => ⟨R2.free n, ws, upd_same, a.mono (.refl _) pr⟩⟩⟩
  · cases e3

/-! ### calls of built-ins -/
inductive VwA (K : PySem.W.Frag) (F H : Hp) : List V → List PyData → Prop
  | nil : VwA K F H [] []
  | cons {v : V} {vs : List V} {d : PyData} {ds : List PyData} : Vw K F H v d → VwA K F H vs ds → VwA K F H (v :: vs) (d :: ds)
def flats (P : Store) : List SV → Option (List PyData)
  | [] => some []
  | a :: l => (flat P a).bind fun d => (flats P l).map (d :: ·)
theorem RelX.views {K : PySem.W.Frag} {bs : List Nat} {ρ : EV} {σ : L2.St} {os : List SV} {vs : List V} {P : Store} {H F : Hp} {ad : List Addr} (R : RelX K bs ρ σ os vs P H F ad) :
    ∀ {ws : List V} {l : List SV} {ds : List PyData}, SVA K F ad ws l → flats P l = some ds → VwA K F H ws ds
  | _, _, _, .nil, e => by simp only [flats, Option.some.injEq] at e; subst e; exact .nil
  | _, _, _, .cons a t, e => by
    simp only [flats, Option.bind_eq_some_iff, Option.map_eq_some_iff] at e
    obtain ⟨d, e1, r, e2, rfl⟩ := e
    exact .cons (R.view a e1) (R.views t e2)
def CallD (X : Cx) (f : Value) (g : List PyData → Option PyData) : Prop := ∃ r, CallR X f r ∧ ∀ (F H : Hp) (xs : List V) (ds : List PyData) (z : PyData) (Q : VK), Sub F H → VwA X.K F H xs ds → g ds = some z →
  (∀ v H' F', Ext F H F' H' → Fz X.K F' v z → Q v H') → r xs H Q
def mCall (g : List PyData → Option PyData) (fs : AM) : XM := fun ρ P => (fs ρ P).bind fun (l, P1) => (flats P1 l).bind fun ds => (g ds).map fun z => (.fz z, P1)
theorem CallD.or {f : Value} {g g' : List PyData → Option PyData} (h : CallD X f g) (h' : CallD X f g') : CallD X f (fun ds => (g ds).or (g' ds)) := by
  obtain ⟨r, h, hr⟩ := h
  obtain ⟨r', h', hr'⟩ := h'
  refine ⟨_, h.or h', fun F H xs ds z Q s vx eq q => ?_⟩
  have eq : (g ds).or (g' ds) = some z := eq
  cases hz : g ds with
  | some w =>
    rw [hz] at eq
    simp only [Option.some_or, Option.some.injEq] at eq
    subst eq
    exact .inl (hr F H xs ds w Q s vx hz q)
  | none =>
    rw [hz] at eq
    exact .inr (hr' F H xs ds z Q s vx (by simpa using eq) q)
theorem call_d {g : List PyData → Option PyData} {fs : AM} {t : TA} {r : List V → Hp → VK → Prop}
    (hr : ∀ (F H : Hp) (xs : List V) (ds : List PyData) (z : PyData) (Q : VK), Sub F H → VwA X.K F H xs ds → g ds = some z → (∀ v H' F', Ext F H F' H' → Fz X.K F' v z → Q v H') → r xs H Q)
    (h1 : ∀ (bs : List Nat) (ρ : EV) (σ : L2.St) (os : List SV) (vs : List V) (P : Store) (H : Hp) (Q : List V → Hp → Prop) (r : List SV) (P' : Store), Rel X.K bs ρ σ os vs P H → fs ρ P = some (r, P') →
      (∀ ws H', ws.length = r.length → Rel X.K bs ρ σ (r.reverse ++ os) (ws.reverse ++ vs) P' H' → Q ws H') → t σ H Q)
    (bs : List Nat) (ρ : EV) (σ : L2.St) (os : List SV) (vs : List V) (P : Store) (H : Hp) (Q : VK) (w : SV) (P' : Store) (R : Rel X.K bs ρ σ os vs P H) (e : mCall g fs ρ P = some (w, P'))
    (q : ∀ v H', Rel X.K bs ρ σ (w :: os) (v :: vs) P' H' → Q v H') : t σ H fun xs H1 => r xs H1 Q := by
  simp only [mCall, Option.bind_eq_some_iff, Option.map_eq_some_iff, Prod.mk.injEq] at e
  obtain ⟨⟨l, P1⟩, e1, ds, e2, z, e3, rfl, rfl⟩ := e
  refine h1 bs ρ σ os vs P H _ l P1 R e1 fun ws H1 hl R1 => ?_
  obtain ⟨F, ad, R1⟩ := R1
  obtain ⟨a, R2⟩ := R1.args hl
  exact hr F H1 ws ds z Q R2.sub (R2.views a e2) e3 fun v H' F' x f => q v H' ((R2.ext x).atom f)
theorem ped_callB {x : Str} {id : String} {e : Expr} {es : List Expr} {g : List PyData → Option PyData} {fs : AM} {p : Pos} (hc : CallD X (.builtin id) g) (hg : Gl X x) (hm : X.mg x = none) (hv : bootBuiltins x = some (.builtin id)) (ha : PAd X (e :: es) fs)
    (hn : x ≠ "__name__" := by decide) (hdb : (x == ("__debug__" : Str)) = false := by decide)
    (he : starEach (e :: es) X.env = (false, eval e X.env) :: starEach es X.env := by rfl) (hpl : (backTo pos (starEach es X.env)).any (·.1) = false := by rfl) : PEd X (.Call (.Name x p) (e :: es) [] pos) (mCall g fs) := by
  obtain ⟨r, h, hr⟩ := hc
  obtain ⟨t, p, h1⟩ := ha
  exact ⟨_, pe_callB h hg hm hv p hn hdb he hpl, call_d hr h1⟩
theorem ped_callT {x : Str} {T : String} {e : Expr} {es : List Expr} {g : List PyData → Option PyData} {fs : AM} {p : Pos} (hc : CallD X (.type T) g) (hg : Gl X x) (hm : X.mg x = none) (hv : bootBuiltins x = some (.type T)) (ha : PAd X (e :: es) fs)
    (hn : x ≠ "__name__" := by decide) (hdb : (x == ("__debug__" : Str)) = false := by decide)
    (he : starEach (e :: es) X.env = (false, eval e X.env) :: starEach es X.env := by rfl) (hpl : (backTo pos (starEach es X.env)).any (·.1) = false := by rfl) : PEd X (.Call (.Name x p) (e :: es) [] pos) (mCall g fs) := by
  obtain ⟨r, h, hr⟩ := hc
  obtain ⟨t, p, h1⟩ := ha
  exact ⟨_, pe_callTy h hg hm hv p hn hdb he hpl, call_d hr h1⟩

/-! the built-ins -/
def gLen : List PyData → Option PyData
  | [.list ds] => some (.int ds.length)
  | [.tuple ds] => some (.int ds.length)
  | [.str z] => if z.length ≤ sizeLine then some (.int z.length) else none
  | _ => none
theorem calld_len : CallD X (.builtin "len") gLen := by
  refine ⟨_, call_len_seq.or call_len_str, fun F H xs ds z Q s vx eq q => ?_⟩
  unfold gLen at eq
  split at eq
  · cases eq
    cases vx with | cons a t => cases t; obtain ⟨p, us, rfl, hp, t⟩ := a.lists s; exact .inl ⟨p, us, rfl, .inl hp, by rw [t.length]; exact q _ _ _ .refl (.int _)⟩
  · cases eq
    cases vx with | cons a t => cases t; obtain ⟨p, us, rfl, hp, t, _⟩ := a.tups s; exact .inl ⟨p, us, rfl, .inr (.inl (.inl hp)), by rw [t.length]; exact q _ _ _ .refl (.int _)⟩
  · split at eq
    · rename_i hl
      cases eq
      cases vx with | cons a t => cases t; exact .inr ⟨_, by rw [a.strs], hl, q _ _ _ .refl (.int _)⟩
    · cases eq
  · cases eq
def gList : List PyData → Option PyData
  | [.list ds] => some (.list ds)
  | [.tuple ds] => some (.list ds)
  | _ => none
theorem calld_list : CallD X (.type "list") gList := by
  refine ⟨_, call_list_of, fun F H xs ds z Q s vx eq q => ?_⟩
  unfold gList at eq
  split at eq
  · cases eq
    cases vx with | cons a t => cases t; obtain ⟨p, us, rfl, hp, t⟩ := a.lists s; exact ⟨p, us, rfl, .inl hp, fun l n => q _ _ _ (.one n) (.lst (.of upd_same) (t.mono (upd_le (s.none n))))⟩
  · cases eq
    cases vx with | cons a t => cases t; obtain ⟨p, us, rfl, hp, t, _⟩ := a.tups s; exact ⟨p, us, rfl, .inr (.inl (.inl hp)), fun l n => q _ _ _ (.one n) (.lst (.of upd_same) (t.mono (upd_le (s.none n))))⟩
  · cases eq
def gTuple : List PyData → Option PyData
  | [.list ds] => some (.tuple ds)
  | [.tuple ds] => some (.tuple ds)
  | _ => none
theorem calld_tuple : CallD X (.type "tuple") gTuple := by
  refine ⟨_, call_tuple_of, fun F H xs ds z Q s vx eq q => ?_⟩
  unfold gTuple at eq
  split at eq
  · cases eq
    cases vx with | cons a t => cases t; obtain ⟨p, us, rfl, hp, t⟩ := a.lists s; exact ⟨p, us, rfl, .inl ⟨hp, fun l n => q _ _ _ (.one n) (.tup upd_same (t.mono (upd_le (s.none n))))⟩⟩
  · cases eq
    cases vx with | cons a t => cases t; obtain ⟨p, us, rfl, hp, t, f⟩ := a.tups s; exact ⟨p, us, rfl, .inr ⟨.inl (.inl hp), q _ _ _ .refl f⟩⟩
  · cases eq
def gInt : List PyData → Option PyData
  | [.int i] => some (.int i)
  | _ => none
theorem calld_int : CallD X (.type "int") gInt := by
  refine ⟨_, call_int1, fun F H xs ds z Q s vx eq q => ?_⟩
  unfold gInt at eq
  split at eq
  · cases eq
    cases vx with | cons a t => cases t; exact .inl ⟨_, by rw [a.ints], q _ _ _ .refl (.int _)⟩
  · cases eq
def bools : List PyData → Option (List Bool)
  | [] => some []
  | .bool b :: r => (bools r).map (b :: ·)
  | _ :: _ => none
def intsD : List PyData → Option (List Int)
  | [] => some []
  | .int b :: r => (intsD r).map (b :: ·)
  | _ :: _ => none
def strsD : List PyData → Option (List Str)
  | [] => some []
  | .str b :: r => (strsD r).map (b :: ·)
  | _ :: _ => none
theorem FzA.bools {K : PySem.W.Frag} {F : Hp} : ∀ {ds : List PyData} {vs : List V} {bs : List Bool}, FzA K F vs ds → Pd.bools ds = some bs → vs = bs.map V.bl
  | [], _, _, .nil, e => by simp only [Pd.bools, Option.some.injEq] at e; subst e; rfl
  | .bool b :: r, _, _, .cons a t, e => by
    simp only [Pd.bools, Option.map_eq_some_iff] at e
    obtain ⟨l, e1, rfl⟩ := e
    cases a
    rw [FzA.bools t e1]; rfl
  | .none :: _, _, _, _, e => by simp [Pd.bools] at e
  | .int _ :: _, _, _, _, e => by simp [Pd.bools] at e
  | .str _ :: _, _, _, _, e => by simp [Pd.bools] at e
  | .list _ :: _, _, _, _, e => by simp [Pd.bools] at e
  | .tuple _ :: _, _, _, _, e => by simp [Pd.bools] at e
  | .dict _ :: _, _, _, _, e => by simp [Pd.bools] at e
theorem FzA.intsD {K : PySem.W.Frag} {F : Hp} : ∀ {ds : List PyData} {vs : List V} {bs : List Int}, FzA K F vs ds → Pd.intsD ds = some bs → vs = bs.map V.int
  | [], _, _, .nil, e => by simp only [Pd.intsD, Option.some.injEq] at e; subst e; rfl
  | .int b :: r, _, _, .cons a t, e => by
    simp only [Pd.intsD, Option.map_eq_some_iff] at e
    obtain ⟨l, e1, rfl⟩ := e
    cases a
    rw [FzA.intsD t e1]; rfl
  | .none :: _, _, _, _, e => by simp [Pd.intsD] at e
  | .bool _ :: _, _, _, _, e => by simp [Pd.intsD] at e
  | .str _ :: _, _, _, _, e => by simp [Pd.intsD] at e
  | .list _ :: _, _, _, _, e => by simp [Pd.intsD] at e
  | .tuple _ :: _, _, _, _, e => by simp [Pd.intsD] at e
  | .dict _ :: _, _, _, _, e => by simp [Pd.intsD] at e
theorem FzA.strs {K : PySem.W.Frag} {F : Hp} : ∀ {ds : List PyData} {vs : List V} {bs : List Str}, FzA K F vs ds → Pd.strsD ds = some bs → vs = bs.map V.str
  | [], _, _, .nil, e => by simp only [Pd.strsD, Option.some.injEq] at e; subst e; rfl
  | .str b :: r, _, _, .cons a t, e => by
    simp only [Pd.strsD, Option.map_eq_some_iff] at e
    obtain ⟨l, e1, rfl⟩ := e
    cases a
    rw [FzA.strs t e1]; rfl
  | .none :: _, _, _, _, e => by simp [Pd.strsD] at e
  | .bool _ :: _, _, _, _, e => by simp [Pd.strsD] at e
  | .int _ :: _, _, _, _, e => by simp [Pd.strsD] at e
  | .list _ :: _, _, _, _, e => by simp [Pd.strsD] at e
  | .tuple _ :: _, _, _, _, e => by simp [Pd.strsD] at e
  | .dict _ :: _, _, _, _, e => by simp [Pd.strsD] at e
def gAll : List PyData → Option PyData
  | [.list ds] => (bools ds).map fun bs => .bool (bs.all id)
  | _ => none
theorem calld_all (hc : X.calm = true) : CallD X (.builtin "all") gAll := by
  refine ⟨_, cr_all hc, fun F H xs ds z Q s vx eq q => ?_⟩
  unfold gAll at eq
  split at eq
  · simp only [Option.map_eq_some_iff] at eq
    obtain ⟨bs, e1, rfl⟩ := eq
    cases vx with | cons a t => cases t; obtain ⟨p, us, rfl, hp, t⟩ := a.lists s; exact ⟨p, bs, rfl, by rw [← t.bools e1]; exact hp, q _ _ _ .refl (.bl _)⟩
  · cases eq
def gAny : List PyData → Option PyData
  | [.list ds] => (bools ds).map fun bs => .bool (bs.any id)
  | _ => none
theorem calld_any (hc : X.calm = true) : CallD X (.builtin "any") gAny := by
  refine ⟨_, cr_any hc, fun F H xs ds z Q s vx eq q => ?_⟩
  unfold gAny at eq
  split at eq
  · simp only [Option.map_eq_some_iff] at eq
    obtain ⟨bs, e1, rfl⟩ := eq
    cases vx with | cons a t => cases t; obtain ⟨p, us, rfl, hp, t⟩ := a.lists s; exact ⟨p, bs, rfl, by rw [← t.bools e1]; exact hp, q _ _ _ .refl (.bl _)⟩
  · cases eq
def gSum : List PyData → Option PyData
  | [.list ds] => (intsD ds).map fun bs => .int bs.sum
  | _ => none
theorem calld_sum (hc : X.calm = true) : CallD X (.builtin "sum") gSum := by
  refine ⟨_, cr_sum hc, fun F H xs ds z Q s vx eq q => ?_⟩
  unfold gSum at eq
  split at eq
  · simp only [Option.map_eq_some_iff] at eq
    obtain ⟨bs, e1, rfl⟩ := eq
    cases vx with | cons a t => cases t; obtain ⟨p, us, rfl, hp, t⟩ := a.lists s; exact ⟨p, bs, rfl, by rw [← t.intsD e1]; exact hp, q _ _ _ .refl (.int _)⟩
  · cases eq
def gMax2 : List PyData → Option PyData
  | [.int i, .int j] => some (.int (if j > i then j else i))
  | _ => none
theorem calld_max2 (hc : X.calm = true) : CallD X (.builtin "max") gMax2 := by
  refine ⟨_, call_max2 hc, fun F H xs ds z Q s vx eq q => ?_⟩
  unfold gMax2 at eq
  split at eq
  · cases eq
    cases vx with | cons a t => cases t with | cons b t => cases t; exact ⟨_, _, by rw [a.ints, b.ints], q _ _ _ .refl (.int _)⟩
  · cases eq
def gMin2 : List PyData → Option PyData
  | [.int i, .int j] => some (.int (if j < i then j else i))
  | _ => none
theorem calld_min2 (hc : X.calm = true) : CallD X (.builtin "min") gMin2 := by
  refine ⟨_, call_min2 hc, fun F H xs ds z Q s vx eq q => ?_⟩
  unfold gMin2 at eq
  split at eq
  · cases eq
    cases vx with | cons a t => cases t with | cons b t => cases t; exact ⟨_, _, by rw [a.ints, b.ints], q _ _ _ .refl (.int _)⟩
  · cases eq

/-! ### isinstance -/
def tyOf : PyData → String
  | .none => "NoneType"
  | .bool _ => "bool"
  | .int _ => "int"
  | .str _ => "str"
  | .list _ => "list"
  | .tuple _ => "tuple"
  | .dict _ => "dict"
theorem Vw.ty {K : PySem.W.Frag} {F H : Hp} {v : V} {d : PyData} (h : Vw K F H v d) (s : Sub F H) : TyX K H v (.type (tyOf d)) := by
  cases d with
  | none => rw [h.nons]; exact .base .non
  | bool b => rw [h.bls]; exact .base (.bl b)
  | int i => rw [h.ints]; exact .base (.int i)
  | str x => rw [h.strs]; exact .base (.str x)
  | list ds =>
    obtain ⟨a, xs, rfl, hp, _⟩ := h.lists s
    rcases hp with (hp | ⟨o, hp⟩) | ⟨o, _, _, hp, hc, _⟩
    · exact .base (.lst hp)
    · exact .base (.frz hp)
    · exact .kList hp hc
  | tuple ds =>
    obtain ⟨a, xs, rfl, hp, _⟩ := h.tups s
    exact .base (.tup hp)
  | dict ds =>
    cases h with
    | fz h =>
      cases h with
      | dK h _ _ =>
        rcases s _ _ h with e | ⟨_, o, e⟩
        · exact .base (.dK e)
        · exact .fDict e
      | dT h _ _ =>
        rcases s _ _ h with e | ⟨z, _⟩
        · exact .base (.dT e)
        · cases z
    | dK h _ _ => exact .base (.dK h)
    | dT h _ _ => exact .base (.dT h)
end
end Pd

set_option Elab.async false
set_option linter.all false
set_option maxRecDepth 100000
set_option maxHeartbeats 1000000
/-! The layer Pd, part E: isinstance, slices, methods, statements. -/
namespace Pd
open PySem PySem.Spec PyProof.Rows L2
theorem _root_.List.mem_of_mem_dropLast' {α : Type} {a : α} : ∀ {l : List α}, a ∈ l.dropLast → a ∈ l := fun {l} h => (List.dropLast_sublist l).subset h
section
variable {X : Cx} {pos : Pos}

/-! ### isinstance -/
inductive Ty | int | str | bool | list | tuple | dict
def Ty.nm : Ty → String
  | .int => "int" | .str => "str" | .bool => "bool" | .list => "list" | .tuple => "tuple" | .dict => "dict"
def inst : Ty → PyData → Bool
  | .int, .int _ => true
  | .int, .bool _ => true
  | .str, .str _ => true
  | .bool, .bool _ => true
  | .list, .list _ => true
  | .tuple, .tuple _ => true
  | .dict, .dict _ => true
  | _, _ => false
theorem kit_inst (T : Ty) (d : PyData) : kitB (tyOf d) T.nm = some (inst T d) := by
  cases T <;> cases d <;> (simp only [tyOf, Ty.nm, inst]; decide +kernel)
theorem kitAny_inst {K : PySem.W.Frag} (d : PyData) : ∀ Ts : List Ty, PySem.W.kitAny K (.type (tyOf d)) (Ts.map fun T => .type T.nm) = some (Ts.any fun T => inst T d)
  | [] => rfl
  | T :: r => by
    have h := kit_ty (K := K) (kit_inst T d)
    refine kitAny_cons (b := inst T d) h (fun e => ?_) fun e => by simp [e]
    rw [kitAny_inst d r]; simp [e]
def mIs (g : PyData → Bool) (f : XM) : XM := fun ρ P => (f ρ P).bind fun (a, P1) => (flat P1 a).map fun d => (.fz (.bool (g d)), P1)
theorem ped_isi {a : Expr} {f : XM} {p q : Pos} (T : Ty) (hg : Gl X "isinstance") (hm : X.mg "isinstance" = none) (hgT : Gl X T.nm) (hmT : X.mg T.nm = none) (hv : bootBuiltins T.nm = some (.type T.nm)) (ha : PEd X a f)
    (he : starEach [a, .Name T.nm q] X.env = (false, eval a X.env) :: starEach [.Name T.nm q] X.env := by rfl) (hpl : (backTo pos (starEach [.Name T.nm q] X.env)).any (·.1) = false := by rfl)
    (hs2 : starEach [.Name T.nm q] X.env = (false, eval (.Name T.nm q) X.env) :: starEach [] X.env := by rfl) (hn : (T.nm : Str) ≠ "__name__" := by decide) (hdb : ((T.nm : Str) == ("__debug__" : Str)) = false := by decide) :
    PEd X (.Call (.Name "isinstance" p) [a, .Name T.nm q] [] pos) (mIs (inst T) f) := by
  obtain ⟨t, pa, h1⟩ := ha
  refine ⟨_, pe_callB call_isi hg hm (by decide +kernel) (pa_cons pa (pa_cons (pe_bltn (v := .ty T.nm) hgT hmT hv rfl hn hdb) pa_nil hs2) he) (he := he) (hpl := hpl), fun bs ρ σ os vs P H Q r P' R e q => ?_⟩
  simp only [mIs, Option.bind_eq_some_iff, Option.map_eq_some_iff, Prod.mk.injEq] at e
  obtain ⟨⟨s1, P1⟩, e1, d, e2, rfl, rfl⟩ := e
  refine h1 bs ρ σ os vs P H _ s1 P1 R e1 fun x H1 R1 => ?_
  obtain ⟨F, ad, R1⟩ := R1
  obtain ⟨r1, R2⟩ := R1.pop
  exact ⟨x, .ty T.nm, _, _, _, rfl, .ty _, (R1.view r1 e2).ty R1.sub, kit_ty (kit_inst T d), q _ _ (R2.atom (.bl _))⟩

/-! ### slices -/
abbrev OM := EV → Store → Option (Option Int × Store)
def POd (X : Cx) (e : Option Expr) (f : OM) : Prop := ∃ t, PO X e t ∧ ∀ (bs : List Nat) (ρ : EV) (σ : L2.St) (os : List SV) (vs : List V) (P : Store) (H : Hp) (Q : Option Int → Hp → Prop) (r : Option Int) (P' : Store), Rel X.K bs ρ σ os vs P H → f ρ P = some (r, P') →
  (∀ H', Rel X.K bs ρ σ os vs P' H' → Q r H') → t σ H Q
def oNone : OM := fun _ P => some (none, P)
def oSome (f : XM) : OM := fun ρ P => (f ρ P).bind fun (a, P1) => match a with
  | .fz (.int i) => some (some i, P1)
  | _ => none
theorem pod_none : POd X none oNone := ⟨_, po_none, fun bs ρ σ os vs P H Q r P' R e q => by
  simp only [oNone, Option.some.injEq, Prod.mk.injEq] at e
  obtain ⟨rfl, rfl⟩ := e
  exact q H R⟩
theorem pod_some {e : Expr} {f : XM} (h : PEd X e f) : POd X (some e) (oSome f) := by
  obtain ⟨t, p, h1⟩ := h
  refine ⟨_, po_some p, fun bs ρ σ os vs P H Q r P' R e q => ?_⟩
  simp only [oSome, Option.bind_eq_some_iff] at e
  obtain ⟨⟨s1, P1⟩, e1, e2⟩ := e
  refine h1 bs ρ σ os vs P H _ s1 P1 R e1 fun x H1 R1 => ?_
  obtain ⟨F, ad, R1⟩ := R1
  obtain ⟨r1, R2⟩ := R1.pop
  simp only at e2
  split at e2
  · cases r1
    cases e2
    exact ⟨_, rfl, q _ ⟨F, ad, R2⟩⟩
  · cases e2
def cutL {α : Type} (xs : List α) (lo hi : Option Int) : List α := (xs.drop (HT.sIx xs.length 0 lo)).take (HT.sIx xs.length xs.length hi - HT.sIx xs.length 0 lo)
theorem FzA.cut {K : PySem.W.Frag} {F : Hp} {vs : List V} {ds : List PyData} (h : FzA K F vs ds) (lo hi : Option Int) : FzA K F (cutV vs lo hi) (cutL ds lo hi) := by
  unfold cutV cutL
  rw [h.length]
  exact (h.drop _).take _
def dSl : PyData → Option Int → Option Int → Option PyData
  | .list ds, lo, hi => some (.list (cutL ds lo hi))
  | .tuple ds, lo, hi => some (.tuple (cutL ds lo hi))
  | .str z, lo, hi => if z.length ≤ sizeLine then some (.str (cutS z lo hi)) else none
  | _, _, _ => none
def mSl (f : XM) (lo hi : OM) : XM := fun ρ P => (f ρ P).bind fun (a, P1) => (lo ρ P1).bind fun (l, P2) => (hi ρ P2).bind fun (u, P3) => (flat P3 a).bind fun d => (dSl d l u).map fun z => (.fz z, P3)
theorem cut_whole {ds : List PyData} {lo hi : Option Int} (h : HT.sIx ds.length 0 lo = 0 ∧ HT.sIx ds.length ds.length hi = ds.length) : cutL ds lo hi = ds := by
  unfold cutL
  rw [h.1, h.2]
  simp
theorem ped_sl {e : Expr} {lo hi : Option Expr} {f : XM} {g h : OM} {p2 : Pos} (he : PEd X e f) (hl : POd X lo g) (hh : POd X hi h) : PEd X (.Subscript e (.Slice lo hi none p2) pos) (mSl f g h) := by
  obtain ⟨t, p, h1⟩ := he
  obtain ⟨u, pl, h2⟩ := hl
  obtain ⟨w, ph, h3⟩ := hh
  refine ⟨_, pe_slice (sl_list.or (sl_tupA.or sl_str)) p pl ph, fun bs ρ σ os vs P H Q r P' R e q => ?_⟩
  simp only [mSl, Option.bind_eq_some_iff, Option.map_eq_some_iff, Prod.mk.injEq] at e
  obtain ⟨⟨s1, P1⟩, e1, ⟨l, P2⟩, e2, ⟨u, P3⟩, e3, d, e4, z, e5, rfl, rfl⟩ := e
  refine h1 bs ρ σ os vs P H _ s1 P1 R e1 fun x H1 R1 => ?_
  refine h2 bs ρ σ _ _ P1 H1 _ l P2 R1 e2 fun H2 R2 => ?_
  refine h3 bs ρ σ _ _ P2 H2 _ u P3 R2 e3 fun H3 R3 => ?_
  obtain ⟨F, ad, R3⟩ := R3
  obtain ⟨r3, R4⟩ := R3.pop
  have vw := R3.view r3 e4
  unfold dSl at e5
  split at e5
  · cases e5
    obtain ⟨a, xs, rfl, hp, t⟩ := vw.lists R3.sub
    exact .inl ⟨a, xs, rfl, hp, fun p n => q _ _ ⟨_, ad, (R4.lay n).push (show Fz X.K _ _ _ from .lst (.of upd_same) ((t.cut l u).mono (upd_le (R4.free n))))⟩⟩
  · cases e5
    obtain ⟨a, xs, rfl, hp, t, ff⟩ := vw.tups R3.sub
    refine .inr (.inl ⟨a, xs, rfl, .inl (.inl hp), fun hw => ?_, fun _ p n => q _ _ ⟨_, ad, (R4.lay n).push (show Fz X.K _ _ _ from .tup upd_same ((t.cut l u).mono (upd_le (R4.free n))))⟩⟩)
    rw [t.length] at hw
    rw [cut_whole hw] at q
    exact q _ _ (R4.atom ff)
  · split at e5
    · rename_i hz
      cases e5
      exact .inr (.inr ⟨_, vw.strs, hz, q _ _ (R4.atom (.str _))⟩)
    · cases e5
  · cases e5

/-! ### x.append(e), x.pop() of a cell -/
def okPtr (b k : Nat) : SV → Bool
  | .fz _ => true
  | .ptr _ => decide (b ≤ k)
theorem okPtr_ps {b k : Nat} {s : SV} (h : okPtr b k s = true) : ∀ j ∈ s.ps, b ≤ k := by
  cases s with
  | fz d => intro j hj; simp [SV.ps] at hj
  | ptr i => intro j _; simpa [okPtr] using h
def isLst : Option Cell → Bool
  | some (.lst _) => true
  | _ => false
def mApp (fo fe : XM) : XM := fun ρ P => (fo ρ P).bind fun (o, P1) => (fe ρ P1).bind fun (r, P2) => match o with
  | .ptr k => match P2[k]? with
    | some (.lst l) => if l.length < sizeLine ∧ okPtr ρ.b k r = true ∧ isLst P1[k]? = true then some (.fz .none, P2.set k (.lst (l ++ [r]))) else none
    | _ => none
  | _ => none
theorem lst_at {K : PySem.W.Frag} {bs : List Nat} {ρ : EV} {σ : L2.St} {os : List SV} {x : V} {vs : List V} {P : Store} {H : Hp} {k : Nat} (R : Rel K bs ρ σ (.ptr k :: os) (x :: vs) P H) (h : isLst P[k]? = true) : ∃ a, tyV K "list" (.ref a) H ∧ x = .ref a := by
  obtain ⟨F, ad, R⟩ := R
  obtain ⟨r, R1⟩ := R.pop
  cases e : P[k]? with
  | none => rw [e] at h; cases h
  | some c =>
    cases c with
    | lst l =>
      obtain ⟨a, _, rfl, _, xs, hx, _⟩ := R1.at r e
      exact ⟨a, .inl ⟨rfl, xs, .of hx⟩, rfl⟩
    | fz => rw [e] at h; cases h
    | dK => rw [e] at h; cases h
    | dT => rw [e] at h; cases h
def mPop (fo : XM) : XM := fun ρ P => (fo ρ P).bind fun (o, P1) => match o with
  | .ptr k => match P1[k]? with
    | some (.lst l) => (l[l.length - 1]?).map fun r => (r, P1.set k (.lst l.dropLast))
    | _ => none
  | _ => none
theorem ped_pop {o : Expr} {fo : XM} {apos cpos : Pos} (ho : PEd X o fo)
    (hbase : attributeBase o "pop" X.env (eval o X.env) = eval o X.env := by rfl) (hline : (apos.endLine == cpos.line) = true := by rfl) :
    PEd X (.Call (.Attribute o "pop" apos) [] [] cpos) (mPop fo) := by
  obtain ⟨t, p, h1⟩ := ho
  refine ⟨_, pe_bm0 PySem.F.plainAttrs_list PySem.F.slot_list_pop PySem.F.type_list_pop mt_pop p (hbase := hbase) (hline := hline), fun bs ρ σ os vs P H Q r P' R e q => ?_⟩
  simp only [mPop, Option.bind_eq_some_iff] at e
  obtain ⟨⟨s1, P1⟩, e1, e3⟩ := e
  simp only at e3
  split at e3
  · rename_i k
    split at e3
    · rename_i l hk
      simp only [Option.map_eq_some_iff, Prod.mk.injEq] at e3
      obtain ⟨s, hl, rfl, rfl⟩ := e3
      refine h1 bs ρ σ os vs P H _ _ P1 R e1 fun x H1 R1 => ?_
      obtain ⟨a, ty, rfl⟩ := lst_at R1 (by rw [hk]; rfl)
      refine ⟨ty, ?_⟩
      obtain ⟨F, ad, R2⟩ := R1
      obtain ⟨r1, R4⟩ := R2.pop
      obtain ⟨a', ha, e', hc⟩ := R4.at r1 hk
      cases e'
      obtain ⟨hF, xs, hx, tx⟩ := hc
      obtain ⟨v, hv, rv⟩ := tx.get hl
      refine ⟨a, xs, v, rfl, rfl, hx, by rw [tx.length]; exact hv, q _ _ ⟨F, ad, (R4.put (c := .lst l.dropLast) hk ha hF ⟨hF, _, upd_same, tx.dropLast⟩ ?_).push rv⟩⟩
      intro j hj
      simp only [Cell.ps, List.mem_flatMap] at hj ⊢
      obtain ⟨x, hx, hj⟩ := hj
      exact .inl ⟨x, List.mem_of_mem_dropLast' hx, hj⟩
    · cases e3
  · cases e3
theorem ped_append {o e : Expr} {fo fe : XM} {apos cpos : Pos} (ho : PEd X o fo) (he : PEd X e fe)
    (hbase : attributeBase o "append" X.env (eval o X.env) = eval o X.env := by rfl)
    (hfew : ((backTo cpos (starEach [e] X.env)).all (fun x => !x.1) && (backToKw cpos (keywordEach [] X.env)).all (fun x => x.1.isSome)
      && decide ([e].length + ([] : List Keyword).length + (if ([] : List Keyword).isEmpty then 0 else 1) < 30)) = true := by rfl)
    (hline : (apos.endLine == cpos.line) = true := by rfl) (hs : starEach [e] X.env = (false, eval e X.env) :: starEach [] X.env := by rfl) (hplain : (backTo cpos (starEach [] X.env)).any (·.1) = false := by rfl) :
    PEd X (.Call (.Attribute o "append" apos) [e] [] cpos) (mApp fo fe) := by
  obtain ⟨t, p, h1⟩ := ho
  obtain ⟨u, p', h2⟩ := he
  refine ⟨_, pe_bm PySem.F.plainAttrs_list PySem.F.slot_list_append PySem.F.type_list_append mt_append p (pa_cons p' pa_nil hs) (hbase := hbase) (hfew := hfew) (hline := hline) (hs := hs) (hplain := hplain), fun bs ρ σ os vs P H Q r P' R e q => ?_⟩
  simp only [mApp, Option.bind_eq_some_iff] at e
  obtain ⟨⟨s1, P1⟩, e1, ⟨s2, P2⟩, e2, e3⟩ := e
  simp only at e3
  split at e3
  · rename_i k
    split at e3
    · rename_i l hk
      split at e3
      · rename_i hz
        cases e3
        refine h1 bs ρ σ os vs P H _ _ P1 R e1 fun x H1 R1 => ?_
        obtain ⟨a, ty, rfl⟩ := lst_at R1 hz.2.2
        refine ⟨ty, ?_⟩
        refine h2 bs ρ σ _ _ P1 H1 _ s2 P2 R1 e2 fun y H2 R2 => ?_
        obtain ⟨F, ad, R2⟩ := R2
        obtain ⟨r2, R3⟩ := R2.pop
        obtain ⟨r1, R4⟩ := R3.pop
        obtain ⟨a', ha, e', hc⟩ := R4.at r1 hk
        cases e'
        obtain ⟨hF, xs, hx, tx⟩ := hc
        refine ⟨a, xs, y, rfl, rfl, hx, by rw [tx.length]; exact hz.1, q _ _ ⟨F, ad, (R4.put (c := .lst (l ++ [s2])) hk ha hF ⟨hF, _, upd_same, tx.append (.cons r2 .nil)⟩ ?_).push (show Fz X.K F _ _ from .non)⟩⟩
        intro j hj
        simp only [Cell.ps, List.flatMap_append, List.flatMap_cons, List.flatMap_nil, List.append_nil, List.mem_append] at hj
        rcases hj with hj | hj
        · exact .inl hj
        · exact .inr (okPtr_ps hz.2.1 j hj)
      · cases e3
    · cases e3
  · cases e3
end
end Pd

set_option Elab.async false
set_option linter.all false
set_option maxRecDepth 100000
set_option maxHeartbeats 1000000
/-! The layer Pd, part F: statements. -/
namespace Pd
open PySem PySem.Spec PyProof.Rows L2

inductive Fl
  | nx | rt (r : SV) | bk | ct
abbrev SM := EV → Store → Option (Fl × EV × Store)
def EV.put (ρ : EV) (i : Nat) (s : SV) : EV := { ρ with sl := ρ.sl.set i (some s) }
/-- what is asked behind a statement -/
def After (K : PySem.W.Frag) (bs : List Nat) (os : List SV) (vs : List V) (D : Ends) : Fl × EV × Store → Prop
  | (.nx, ρ, P) => ∀ σ H, Rel K bs ρ σ os vs P H → D.nx σ H
  | (.bk, ρ, P) => ∀ σ H, Rel K bs ρ σ os vs P H → D.bk σ H
  | (.ct, ρ, P) => ∀ σ H, Rel K bs ρ σ os vs P H → D.ct σ H
  | (.rt r, ρ, P) => ∀ σ v H, Rel K bs ρ σ (r :: os) (v :: vs) P H → D.rt v H
def PSd (X : Cx) (st : Stmt) (m : SM) : Prop := ∃ t, PS X st t ∧ ∀ (bs : List Nat) (ρ : EV) (σ : L2.St) (os : List SV) (vs : List V) (P : Store) (H : Hp) (D : Ends) (r : Fl × EV × Store), Rel X.K bs ρ σ os vs P H → m ρ P = some r → After X.K bs os vs D r → t D σ H
def PSsd (X : Cx) (st : List Stmt) (m : SM) : Prop := ∃ t, PSs X st t ∧ ∀ (bs : List Nat) (ρ : EV) (σ : L2.St) (os : List SV) (vs : List V) (P : Store) (H : Hp) (D : Ends) (r : Fl × EV × Store), Rel X.K bs ρ σ os vs P H → m ρ P = some r → After X.K bs os vs D r → t D σ H
section
variable {K : PySem.W.Frag} {bs : List Nat} {ρ : EV} {σ : L2.St} {os : List SV} {vs : List V} {P : Store} {H F : Hp} {ad : List Addr}
theorem RelX.store (R : RelX K bs ρ σ os vs P H F ad) {s : SV} {v : V} (h : SVR K F ad v s) (i : Nat) : RelX K bs (ρ.put i s) (σ.set i (some v)) os vs P H F ad := by
  refine { R with slots := ⟨by simp [EV.put, R.slots.1], fun j t e => ?_⟩, bb := R.bb }
  by_cases hj : i = j
  · subst hj
    by_cases hl : i < ρ.sl.length
    · have e : (ρ.sl.set i (some s))[i]? = some (some t) := e
      rw [List.getElem?_set_self hl] at e
      cases e
      exact ⟨v, by rw [List.getElem?_set_self (by rw [R.slots.1]; exact hl)], h⟩
    · have e : (ρ.sl.set i (some s))[i]? = some (some t) := e
      rw [List.getElem?_eq_none (by simpa using hl)] at e; cases e
  · have e : (ρ.sl.set i (some s))[j]? = some (some t) := e
    rw [List.getElem?_set_ne hj] at e
    obtain ⟨w, hw, r⟩ := R.slots.2 j t e
    exact ⟨w, by rw [List.getElem?_set_ne hj]; exact hw, r⟩
theorem Rel.store {s : SV} {v : V} (R : Rel K bs ρ σ (s :: os) (v :: vs) P H) (i : Nat) : Rel K bs (ρ.put i s) (σ.set i (some v)) os vs P H := by
  obtain ⟨F, ad, R⟩ := R
  obtain ⟨r, R1⟩ := R.pop
  exact ⟨F, ad, R1.store r i⟩
theorem Rel.pop {s : SV} {v : V} (R : Rel K bs ρ σ (s :: os) (v :: vs) P H) : Rel K bs ρ σ os vs P H := by
  obtain ⟨F, ad, R⟩ := R
  exact ⟨F, ad, R.pop.2⟩
end

section
variable {X : Cx} {pos : Pos}
def sNx : SM := fun ρ P => some (.nx, ρ, P)
def sSeq (m n : SM) : SM := fun ρ P => (m ρ P).bind fun r => match r with
  | (.nx, ρ1, P1) => n ρ1 P1
  | r => some r
theorem pssd_nil : PSsd X [] sNx := ⟨_, pss_nil, fun bs ρ σ os vs P H D r R e q => by
  simp only [sNx, Option.some.injEq] at e
  subst e
  exact q σ H R⟩
theorem pssd_one {st : Stmt} {m : SM} (h : PSd X st m) : PSsd X [st] m := let ⟨t, p, q⟩ := h; ⟨t, pss_one p, q⟩
theorem pssd_cons {st : Stmt} {rest : List Stmt} {m n : SM} (h : PSd X st m) (h' : PSsd X rest n) : PSsd X (st :: rest) (sSeq m n) := by
  obtain ⟨t, p, h1⟩ := h
  obtain ⟨u, p', h2⟩ := h'
  refine ⟨_, pss_cons p p', fun bs ρ σ os vs P H D r R e q => ?_⟩
  simp only [sSeq, Option.bind_eq_some_iff] at e
  obtain ⟨⟨f, ρ1, P1⟩, e1, e2⟩ := e
  refine h1 bs ρ σ os vs P H { D with nx := u D } _ R e1 ?_
  cases f with
  | nx => exact fun σ1 H1 R1 => h2 bs ρ1 σ1 os vs P1 H1 D r R1 e2 q
  | rt s => cases e2; exact q
  | bk => cases e2; exact q
  | ct => cases e2; exact q
def sRet (f : XM) : SM := fun ρ P => (f ρ P).map fun (s, P1) => (.rt s, ρ, P1)
theorem psd_ret {e : Expr} {f : XM} (h : PEd X e f) : PSd X (.Return (some e) pos) (sRet f) := by
  obtain ⟨t, p, h1⟩ := h
  refine ⟨_, ps_ret p, fun bs ρ σ os vs P H D r R e q => ?_⟩
  simp only [sRet, Option.map_eq_some_iff] at e
  obtain ⟨⟨s, P1⟩, e1, rfl⟩ := e
  exact h1 bs ρ σ os vs P H D.rt s P1 R e1 fun v H1 R1 => q σ v H1 R1
theorem psd_retN : PSd X (.Return none pos) (sRet (mC .none)) := ⟨_, ps_retN, fun bs ρ σ os vs P H D r R e q => by
  simp only [sRet, mC, Option.map_some, Option.some.injEq] at e
  subst e
  obtain ⟨F, ad, R⟩ := R
  exact q σ .non H (R.atom .non)⟩
def sEx (f : XM) : SM := fun ρ P => (f ρ P).map fun (_, P1) => (.nx, ρ, P1)
theorem psd_expr {e : Expr} {f : XM} (h : PEd X e f) (hs : swapsWith e none pos.line X.env = pure false := by rfl) : PSd X (.Expr e pos) (sEx f) := by
  obtain ⟨t, p, h1⟩ := h
  refine ⟨_, ps_expr p hs, fun bs ρ σ os vs P H D r R e q => ?_⟩
  simp only [sEx, Option.map_eq_some_iff] at e
  obtain ⟨⟨s, P1⟩, e1, rfl⟩ := e
  exact h1 bs ρ σ os vs P H _ s P1 R e1 fun v H1 R1 => q σ H1 R1.pop
theorem psd_pass : PSd X (.Pass pos) sNx := ⟨_, ps_pass, fun bs ρ σ os vs P H D r R e q => by
  simp only [sNx, Option.some.injEq] at e
  subst e
  exact q σ H R⟩
def sBk : SM := fun ρ P => some (.bk, ρ, P)
def sCt : SM := fun ρ P => some (.ct, ρ, P)
theorem psd_break : PSd X (.Break pos) sBk := ⟨_, ps_break, fun bs ρ σ os vs P H D r R e q => by
  simp only [sBk, Option.some.injEq] at e
  subst e
  exact q σ H R⟩
theorem psd_continue : PSd X (.Continue pos) sCt := ⟨_, ps_continue, fun bs ρ σ os vs P H D r R e q => by
  simp only [sCt, Option.some.injEq] at e
  subst e
  exact q σ H R⟩
/-- code that is never come to -/
def sNo : SM := fun _ _ => none
theorem psd_never {st : Stmt} : PSd X st sNo := ⟨_, ps_never, fun bs ρ σ os vs P H D r R e q => by simp [sNo] at e⟩
theorem pssd_never {st : List Stmt} : PSsd X st sNo := ⟨_, pss_never, fun bs ρ σ os vs P H D r R e q => by simp [sNo] at e⟩
def sIf (c : BM) (m n : SM) : SM := fun ρ P => (c ρ P).bind fun (b, P1) => if b = true then m ρ P1 else n ρ P1
theorem psd_if {c : Expr} {a b : List Stmt} {fc : BM} {m n : SM} (hc : PTd X c fc) (ha : PSsd X a m) (hb : PSsd X b n) : PSd X (.If c a b pos) (sIf fc m n) := by
  obtain ⟨t0, p0, h0⟩ := hc
  obtain ⟨t, p, h1⟩ := ha
  obtain ⟨u, p', h2⟩ := hb
  refine ⟨_, ps_if p0 p p', fun bs ρ σ os vs P H D r R e q => ?_⟩
  simp only [sIf, Option.bind_eq_some_iff] at e
  obtain ⟨⟨s1, P1⟩, e1, e2⟩ := e
  refine h0 bs ρ σ os vs P H _ s1 P1 R e1 fun H1 R1 => ?_
  simp only at e2
  cases s1 with
  | true => rw [if_pos rfl] at e2 ⊢; exact h1 bs ρ σ os vs P1 H1 D r R1 e2 q
  | false => rw [if_neg Bool.false_ne_true] at e2 ⊢; exact h2 bs ρ σ os vs P1 H1 D r R1 e2 q

/-! ### assignments -/
def sSet (i : Nat) (f : XM) : SM := fun ρ P => (f ρ P).map fun (s, P1) => (.nx, ρ.put i s, P1)
theorem psd_set {i : Nat} {x : Str} {e : Expr} {f : XM} {pos' : Pos} (hN : X.N.Nodup) (hi : X.N[i]? = some x) (hx : Loc X.env.scope x) (h : PEd X e f) (hs : swapsWith e (some (.Name x pos')) pos.line X.env = pure false := by rfl)
    (hf : X.fn x = true ∨ X.env.scope.names.lookup x = some .local := by first | exact .inl rfl | exact .inr rfl | assumption) : PSd X (.Assign [.Name x pos'] e pos) (sSet i f) := by
  obtain ⟨t, p, h1⟩ := h
  refine ⟨_, ps_set hN hi hx p hs hf, fun bs ρ σ os vs P H D r R e q => ?_⟩
  simp only [sSet, Option.map_eq_some_iff] at e
  obtain ⟨⟨s, P1⟩, e1, rfl⟩ := e
  exact h1 bs ρ σ os vs P H _ s P1 R e1 fun v H1 R1 => q _ H1 (R1.store i)
/-- targets: a value, the slots and the store behind -/
abbrev GM := SV → EV → Store → Option (EV × Store)
def Keeps (ts : List Nat) (σ σ' : L2.St) : Prop := σ'.length = σ.length ∧ ∀ i, i ∉ ts → σ'[i]? = σ[i]?
def PGd (X : Cx) (tg : Expr) (ts : List Nat) (g : GM) : Prop := ∃ t, PG X tg t ∧ ∀ (bs : List Nat) (ρ : EV) (σ : L2.St) (os : List SV) (vs : List V) (P : Store) (H : Hp) (s : SV) (v : V) (Q : L2.St → Hp → Prop) (ρ' : EV) (P' : Store), Rel X.K bs ρ σ (s :: os) (v :: vs) P H → g s ρ P = some (ρ', P') →
  (∀ σ' H', Rel X.K bs ρ' σ' os vs P' H' → Keeps ts σ σ' → Q σ' H') → t v σ H Q
def PGsd (X : Cx) (tgs : List Expr) (ts : List Nat) (g : List PyData → EV → Store → Option (EV × Store)) : Prop := ∃ t, PGs X tgs t ∧ ∀ (bs : List Nat) (ρ : EV) (σ : L2.St) (os : List SV) (vs : List V) (P : Store) (H : Hp) (ds : List PyData) (ws : List V) (Q : L2.St → Hp → Prop) (ρ' : EV) (P' : Store),
  Rel X.K bs ρ σ ((ds.map SV.fz) ++ os) (ws ++ vs) P H → ws.length = ds.length → g ds ρ P = some (ρ', P') → (∀ σ' H', Rel X.K bs ρ' σ' os vs P' H' → Keeps ts σ σ' → Q σ' H') → t ws σ H Q
def gNm (i : Nat) : GM := fun s ρ P => some (ρ.put i s, P)
theorem pgd_name {i : Nat} {x : Str} (hN : X.N.Nodup) (hi : X.N[i]? = some x) (hx : Loc X.env.scope x) (hf : X.fn x = true ∨ X.env.scope.names.lookup x = some .local := by first | exact .inl rfl | exact .inr rfl | assumption) : PGd X (.Name x pos) [i] (gNm i) :=
  ⟨_, pg_name hN hi hx hf, fun bs ρ σ os vs P H s v Q ρ' P' R e q => by
    simp only [gNm, Option.some.injEq, Prod.mk.injEq] at e
    obtain ⟨rfl, rfl⟩ := e
    exact q _ H (R.store i) ⟨List.length_set, fun j hj => List.getElem?_set_ne (fun z => hj (by simp [z]))⟩⟩
def gsNil : List PyData → EV → Store → Option (EV × Store)
  | [], ρ, P => some (ρ, P)
  | _, _, _ => none
def gsCons (g : GM) (h : List PyData → EV → Store → Option (EV × Store)) : List PyData → EV → Store → Option (EV × Store)
  | d :: r, ρ, P => (g (.fz d) ρ P).bind fun (ρ1, P1) => h r ρ1 P1
  | _, _, _ => none
theorem pgsd_nil : PGsd X [] [] gsNil := ⟨_, pgs_nil, fun bs ρ σ os vs P H ds ws Q ρ' P' R hl e q => by
  cases ds with
  | nil =>
    simp only [gsNil, Option.some.injEq, Prod.mk.injEq] at e
    obtain ⟨rfl, rfl⟩ := e
    have : ws = [] := List.eq_nil_of_length_eq_zero hl
    subst this
    exact ⟨rfl, q σ H (by simpa using R) ⟨rfl, fun _ _ => rfl⟩⟩
  | cons => cases e⟩
theorem pgsd_cons {e : Expr} {es : List Expr} {g : GM} {h : List PyData → EV → Store → Option (EV × Store)} {ts1 ts2 : List Nat} (h1 : PGd X e ts1 g) (h2 : PGsd X es ts2 h)
    (hs : (assignEach (e :: es) X.env).map (·.2) = assign e X.env :: (assignEach es X.env).map (·.2) := by rfl) : PGsd X (e :: es) (ts1 ++ ts2) (gsCons g h) := by
  obtain ⟨t, p, q1⟩ := h1
  obtain ⟨u, p', q2⟩ := h2
  refine ⟨_, pgs_cons p p' hs, fun bs ρ σ os vs P H ds ws Q ρ' P' R hl e q => ?_⟩
  cases ds with
  | nil => cases e
  | cons d ds =>
    cases ws with
    | nil => simp at hl
    | cons w ws =>
      simp only [gsCons, Option.bind_eq_some_iff] at e
      obtain ⟨⟨ρ1, P1⟩, e1, e2⟩ := e
      refine ⟨w, ws, rfl, q1 bs ρ σ (ds.map SV.fz ++ os) (ws ++ vs) P H (.fz d) w _ ρ1 P1 R e1 fun σ1 H1 R1 k1 => ?_⟩
      exact q2 bs ρ1 σ1 os vs P1 H1 ds ws Q ρ' P' R1 (by simpa using hl) e2 fun σ2 H2 R2 k2 => q σ2 H2 R2 ⟨k2.1.trans k1.1, fun i hi => (k2.2 i fun z => hi (List.mem_append_right _ z)).trans (k1.2 i fun z => hi (List.mem_append_left _ z))⟩
def gTu (n : Nat) (h : List PyData → EV → Store → Option (EV × Store)) : GM := fun s ρ P => match s with
  | .fz (.tuple ds) => if ds.length = n then h ds ρ P else none
  | _ => none
theorem pgd_tup {es : List Expr} {k : Nat} {h : List PyData → EV → Store → Option (EV × Store)} {n : Nat} {ts : List Nat} (hc : X.calm = true) (h1 : PGsd X es ts h)
    (hn : (assignEach es X.env).length = n := by rfl) (hst : (assignEach es X.env).findIdx? (·.1) = none := by rfl) : PGd X (.Tuple es k pos) ts (gTu n h) := by
  obtain ⟨t, p, q1⟩ := h1
  refine ⟨_, pg_tup hc p hn hst, fun bs ρ σ os vs P H s v Q ρ' P' R e q => ?_⟩
  unfold gTu at e
  split at e
  · split at e
    · rename_i ds hl
      obtain ⟨F, ad, R⟩ := R
      obtain ⟨r, R1⟩ := R.pop
      cases r with
      | tup ht tt =>
        refine ⟨_, _, rfl, .inl (.inl (R.sub.tup ht)), by rw [tt.length]; exact hl, q1 bs ρ σ os vs P H ds _ Q ρ' P' ⟨F, ad, R1.tops_of ?_⟩ tt.length e q⟩
        have : ∀ {xs : List V} {ds : List PyData}, FzA X.K F xs ds → SVA X.K F ad (xs ++ vs) (ds.map SV.fz ++ os) := by
          intro xs ds h
          induction xs generalizing ds with
          | nil => cases h; exact R1.tops
          | cons x xs ih => cases h with | cons a b => exact .cons a (ih b)
        exact this tt
    · cases e
  · cases e
def sAsg (f : XM) (g : GM) : SM := fun ρ P => (f ρ P).bind fun (s, P1) => (g s ρ P1).map fun (ρ2, P2) => (.nx, ρ2, P2)
theorem psd_asg {tg e : Expr} {f : XM} {g : GM} {ts : List Nat} (he : PEd X e f) (hg : PGd X tg ts g) (hs : swapsWithSole [tg] e pos.line X.env = pure false := by rfl) (hw : swappedStores [tg] e X.env = pure none := by rfl)
    (h1 : (assignEach [tg] X.env).map (·.2) = [assign tg X.env] := by rfl) : PSd X (.Assign [tg] e pos) (sAsg f g) := by
  obtain ⟨t, p, q1⟩ := he
  obtain ⟨u, p', q2⟩ := hg
  refine ⟨_, ps_asg p p' hs hw h1, fun bs ρ σ os vs P H D r R e q => ?_⟩
  simp only [sAsg, Option.bind_eq_some_iff, Option.map_eq_some_iff] at e
  obtain ⟨⟨s, P1⟩, e1, ⟨ρ2, P2⟩, e2, rfl⟩ := e
  exact q1 bs ρ σ os vs P H _ s P1 R e1 fun v H1 R1 => q2 bs ρ σ os vs P1 H1 s v D.nx ρ2 P2 R1 e2 fun σ' H' R' _ => q σ' H' R'
/-- a, b = x, y: names -/
def sPar (i j : Nat) (g : AM) : SM := fun ρ P => (g ρ P).bind fun (l, P1) => match l with
  | [a, b] => some (.nx, (ρ.put i a).put j b, P1)
  | _ => none
theorem psd_par {i j : Nat} {x y : Str} {a b : Expr} {g : AM} {px py pt : Pos} {kt k2 pt2} (hc : X.calm = true) (hN : X.N.Nodup) (hi : X.N[i]? = some x) (hj : X.N[j]? = some y) (hij : i ≠ j)
    (hx : X.env.scope.names.lookup x = some .local) (hy : X.env.scope.names.lookup y = some .local) (ha : PAd X [a, b] g)
    (hw : swappedStores [.Tuple [.Name x px, .Name y py] kt pt] (.Tuple [a, b] k2 pt2) X.env = pure (some [x, y]))
    (hs : swapsWithSole [.Tuple [.Name x px, .Name y py] kt pt] (.Tuple [a, b] k2 pt2) pos.line X.env = pure false := by rfl) :
    PSd X (.Assign [.Tuple [.Name x px, .Name y py] kt pt] (.Tuple [a, b] k2 pt2) pos) (sPar i j g) := by
  obtain ⟨t, p, q1⟩ := ha
  refine ⟨_, ps_par hc hN hi hj hij hx hy p hw hs, fun bs ρ σ os vs P H D r R e q => ?_⟩
  simp only [sPar, Option.bind_eq_some_iff] at e
  obtain ⟨⟨l, P1⟩, e1, e2⟩ := e
  refine q1 bs ρ σ os vs P H _ l P1 R e1 fun ws H1 hl R1 => ?_
  simp only at e2
  split at e2
  · cases e2
    match ws, hl with
    | [u, w], _ =>
      obtain ⟨F, ad, R1⟩ := R1
      obtain ⟨ra, R2⟩ := R1.args rfl
      cases ra with
      | cons r1 ra =>
        cases ra with
        | cons r2 _ => exact ⟨u, w, rfl, q _ H1 ⟨F, ad, (R2.store r1 i).store r2 j⟩⟩
  · cases e2
/-- x op= e -/
def sAug (i : Nat) (g : PyData → PyData → Option PyData) (f : XM) : SM := fun ρ P => match ρ.sl[i]? with
  | some (some (.fz d)) => (f ρ P).bind fun (a, P1) => (flat P1 a).bind fun e => (g d e).map fun z => (.nx, ρ.put i (.fz z), P1)
  | _ => none
theorem psd_augI {i : Nat} {x : Str} {e : Expr} {op : Operator} {f : XM} {h : Int → Int → Int} {pos' : Pos} (hN : X.N.Nodup) (hi : X.N[i]? = some x) (hx : Loc X.env.scope x) (he : PEd X e f) (ho : PIp X op (ipI h))
    (hf : X.fn x = true ∨ X.env.scope.names.lookup x = some .local := by first | exact .inl rfl | exact .inr rfl | assumption) : PSd X (.AugAssign (.Name x pos') op e pos) (sAug i (dI fun a b => some (.int (h a b))) f) := by
  obtain ⟨t, p, q1⟩ := he
  refine ⟨_, ps_aug hN hi hx p ho hf, fun bs ρ σ os vs P H D r R e q => ?_⟩
  unfold sAug at e
  split at e
  · rename_i d hd
    simp only [Option.bind_eq_some_iff, Option.map_eq_some_iff] at e
    obtain ⟨⟨s, P1⟩, e1, d2, e2, z, e3, rfl⟩ := e
    obtain ⟨a, b, rfl, rfl, hz⟩ := dI_some e3
    cases hz
    have hv : ∃ v, σ[i]? = some (some v) ∧ v = .int a := by
      obtain ⟨F, ad, R⟩ := R
      obtain ⟨v, hv, r⟩ := R.slots.2 i _ hd
      cases r
      exact ⟨_, hv, rfl⟩
    obtain ⟨_, hv, rfl⟩ := hv
    refine ⟨_, hv, q1 bs ρ σ os vs P H _ s P1 R e1 fun v H1 R1 => ?_⟩
    obtain ⟨F, ad, R1⟩ := R1
    obtain ⟨r1, R2⟩ := R1.pop
    exact ⟨a, b, rfl, (R1.view r1 e2).ints, q _ H1 ⟨F, ad, R2.store (s := .fz (.int (h a b))) (v := .int (h a b)) (show Fz X.K F _ _ from .int _) i⟩⟩
  · cases e

/-! ### loops -/
/-- what a loop walks: its items, as data -/
abbrev IM := EV → Store → Option (List PyData × SV × Store)
def ItOk (K : PySem.W.Frag) (J : It) (items : List PyData) (src : SV) (v : V) : Prop := ∀ (bs : List Nat) (ρ : EV) (σ : L2.St) (os : List SV) (vs : List V) (P : Store) (H : Hp) (i : Nat), Rel K bs ρ σ (src :: os) (v :: vs) P H →
  (i < items.length → J.go i H ∧ ∀ x H', J.yld i H x H' → ∃ d, items[i]? = some d ∧ Rel K bs ρ σ (.fz d :: src :: os) (x :: v :: vs) P H') ∧ (items.length ≤ i → J.stop i H)
def PId (X : Cx) (tg iter : Expr) (f : IM) : Prop := ∃ wi, PI X tg iter wi ∧ ∀ (bs : List Nat) (ρ : EV) (σ : L2.St) (os : List SV) (vs : List V) (P : Store) (H : Hp) (R : It → Hp → Prop) (items : List PyData) (src : SV) (P' : Store), Rel X.K bs ρ σ os vs P H → f ρ P = some (items, src, P') →
  (∀ J v H', Rel X.K bs ρ σ (src :: os) (v :: vs) P' H' → ItOk X.K J items src v → R J H') → wi σ H R
def forGo (g : GM) (body : SM) : List PyData → SM
  | [], ρ, P => some (.nx, ρ, P)
  | d :: r, ρ, P => (g (.fz d) ρ P).bind fun (ρ1, P1) => (body ρ1 P1).bind fun (fl, ρ2, P2) => match fl with
    | .nx => forGo g body r ρ2 P2
    | .ct => forGo g body r ρ2 P2
    | .bk => some (.nx, ρ2, P2)
    | .rt s => some (.rt s, ρ2, P2)
def sFor (f : IM) (g : GM) (body : SM) : SM := fun ρ P => (f ρ P).bind fun (items, _, P1) => forGo g body items ρ P1
theorem Rel.pop2 {K : PySem.W.Frag} {bs : List Nat} {ρ : EV} {σ : L2.St} {s s2 : SV} {v v2 : V} {os : List SV} {vs : List V} {P : Store} {H : Hp} (R : Rel K bs ρ σ (s :: s2 :: os) (v :: v2 :: vs) P H) : Rel K bs ρ σ (s :: os) (v :: vs) P H := by
  obtain ⟨F, ad, R⟩ := R
  obtain ⟨r, R1⟩ := R.pop
  obtain ⟨_, R2⟩ := R1.pop
  exact ⟨F, ad, R2.push r⟩
theorem psd_for {tg iter : Expr} {body : List Stmt} {f : IM} {g : GM} {m : SM} {ts : List Nat} (hp : PassesOwn (model X.prog X.w) X.A X.env X.xe) (hc : X.calm = true) (hi : PId X tg iter f) (hg : PGd X tg ts g) (hb : PSsd X body m)
    (hs : ∀ x, foldedSetIterable iter X.env x = pure x := by intro _; rfl) : PSd X (.For tg iter body [] pos) (sFor f g m) := by
  obtain ⟨wi, p0, h0⟩ := hi
  obtain ⟨t, p1, h1⟩ := hg
  obtain ⟨u, p2, h2⟩ := hb
  refine ⟨_, ps_for hp hc p0 p1 p2 hs, fun bs ρ σ os vs P H D r R e q => ?_⟩
  simp only [sFor, Option.bind_eq_some_iff] at e
  obtain ⟨⟨items, src, P1⟩, e0, e1⟩ := e
  refine h0 bs ρ σ os vs P H _ items src P1 R e0 fun J v H1 R1 ok => ?_
  refine ⟨fun i n σ H => ∃ ρ P, n = items.length - i ∧ i ≤ items.length ∧ Rel X.K bs ρ σ (src :: os) (v :: vs) P H ∧ forGo g m (items.drop i) ρ P = some r, ⟨_, ρ, P1, rfl, Nat.zero_le _, R1, by simpa using e1⟩, ?_⟩
  rintro i n σ2 H2 ⟨ρ2, P2, rfl, hle, R2, e2⟩
  obtain ⟨ok1, ok2⟩ := ok bs ρ2 σ2 os vs P2 H2 i R2
  by_cases hlt : i < items.length
  · obtain ⟨go, yl⟩ := ok1 hlt
    refine .inr ⟨go, fun σ H => ∃ ρ P, Rel X.K bs ρ σ (src :: os) (v :: vs) P H ∧ forGo g m (items.drop (i + 1)) ρ P = some r, fun σ3 H3 ⟨ρ3, P3, R3, e3⟩ => ⟨items.length - (i + 1), by omega, ρ3, P3, rfl, hlt, R3, e3⟩, fun x H' hy => ?_⟩
    obtain ⟨d, hd, R3⟩ := yl x H' hy
    rw [List.drop_eq_getElem_cons hlt] at e2
    have ed : items[i] = d := by rw [List.getElem?_eq_getElem hlt] at hd; exact Option.some.inj hd
    rw [ed] at e2
    simp only [forGo, Option.bind_eq_some_iff] at e2
    obtain ⟨⟨ρ4, P4⟩, e4, ⟨fl, ρ5, P5⟩, e5, e6⟩ := e2
    refine h1 bs ρ2 σ2 (src :: os) (v :: vs) P2 H' (.fz d) x _ ρ4 P4 R3 e4 fun σ4 H4 R4 _ => ?_
    refine h2 bs ρ4 σ4 (src :: os) (v :: vs) P4 H4 _ (fl, ρ5, P5) R4 e5 ?_
    cases fl with
    | nx => exact fun σ5 H5 R5 => ⟨ρ5, P5, R5, e6⟩
    | ct => exact fun σ5 H5 R5 => ⟨ρ5, P5, R5, e6⟩
    | bk => cases e6; exact fun σ5 H5 R5 => q σ5 H5 R5.pop
    | rt s => cases e6; exact fun σ5 w H5 R5 => q σ5 w H5 R5.pop2
  · have : i = items.length := by omega
    subst this
    rw [List.drop_length] at e2
    simp only [forGo, Option.some.injEq] at e2
    subst e2
    exact .inl ⟨ok2 (Nat.le_refl _), q σ2 H2 R2.pop⟩
/-- the items of a list or tuple that stands -/
def iSeq (f : XM) : IM := fun ρ P => (f ρ P).bind fun (a, P1) => match a with
  | .fz (.list ds) => some (ds, a, P1)
  | .fz (.tuple ds) => some (ds, a, P1)
  | _ => none
theorem RelX.push2 {K : PySem.W.Frag} {bs : List Nat} {ρ : EV} {σ : L2.St} {os : List SV} {vs : List V} {P : Store} {H F : Hp} {ad : List Addr} (R : RelX K bs ρ σ os vs P H F ad) {d : PyData} {v : V} (h : Fz K F v d) : Rel K bs ρ σ (.fz d :: os) (v :: vs) P H := ⟨F, ad, R.push h⟩
theorem pid_list {tg e : Expr} {f : XM} (h : PEd X e f) : PId X tg e (fun ρ P => (f ρ P).bind fun (a, P1) => match a with | .fz (.list ds) => some (ds, a, P1) | _ => none) := by
  obtain ⟨t, p, h1⟩ := h
  refine ⟨_, pi_list p, fun bs ρ σ os vs P H R items src P' Rl e q => ?_⟩
  simp only [Option.bind_eq_some_iff] at e
  obtain ⟨⟨a, P1⟩, e1, e2⟩ := e
  refine h1 bs ρ σ os vs P H _ a P1 Rl e1 fun v H1 R1 => ?_
  simp only at e2
  split at e2
  · rename_i ds
    cases e2
    have R1' := R1
    obtain ⟨F, ad, R1⟩ := R1
    obtain ⟨r1, R2⟩ := R1.pop
    have hv : ∃ l, v = .ref l := by cases r1; exact ⟨_, rfl⟩
    obtain ⟨l, rfl⟩ := hv
    have hl : ∃ xs, SqL X.K H1 l xs := by
      cases r1 with
      | lst hp _ => exact ⟨_, R1.sub.sqL hp⟩
    refine ⟨l, rfl, hl, q (Itl X.K l) (.ref l) H1 R1' fun bs ρ σ os vs P H i R => ?_⟩
    obtain ⟨F, ad, R⟩ := R
    obtain ⟨r, R3⟩ := R.pop
    cases r with
    | lst hp tt =>
      rename_i xs
      have hs : SqL X.K H l xs := R.sub.sqL hp
      have hln := tt.length
      refine ⟨fun hi => ?_, fun hi => ⟨xs, hs, by omega⟩⟩
      have hx : xs[i]? = some xs[i] := List.getElem?_eq_getElem (by omega)
      refine ⟨⟨xs, xs[i], hs, hx⟩, fun x H' ⟨e1, e2⟩ => ?_⟩
      subst e1
      have ex : x = xs[i] := Option.some.inj ((e2 xs hs).symm.trans hx)
      subst ex
      obtain ⟨d, hd, fd⟩ := tt.get hx
      exact ⟨d, hd, R.push2 fd⟩
  · cases e2
theorem pid_tup {tg e : Expr} {f : XM} (h : PEd X e f) : PId X tg e (fun ρ P => (f ρ P).bind fun (a, P1) => match a with | .fz (.tuple ds) => some (ds, a, P1) | _ => none) := by
  obtain ⟨t, p, h1⟩ := h
  refine ⟨_, pi_tup p, fun bs ρ σ os vs P H R items src P' Rl e q => ?_⟩
  simp only [Option.bind_eq_some_iff] at e
  obtain ⟨⟨a, P1⟩, e1, e2⟩ := e
  refine h1 bs ρ σ os vs P H _ a P1 Rl e1 fun v H1 R1 => ?_
  simp only at e2
  split at e2
  · rename_i ds
    cases e2
    have R1' := R1
    obtain ⟨F, ad, R1⟩ := R1
    obtain ⟨r1, R2⟩ := R1.pop
    have hv : ∃ l, v = .ref l := by cases r1; exact ⟨_, rfl⟩
    obtain ⟨l, rfl⟩ := hv
    have hl : ∃ xs, SqT X.K H1 l xs := by
      cases r1 with
      | tup hp _ => exact ⟨_, .inl (.inl (R1.sub.tup hp))⟩
    refine ⟨l, rfl, hl, q (Itt X.K l) (.ref l) H1 R1' fun bs ρ σ os vs P H i R => ?_⟩
    obtain ⟨F, ad, R⟩ := R
    obtain ⟨r, R3⟩ := R.pop
    cases r with
    | tup hp tt =>
      rename_i xs
      have hs : SqT X.K H l xs := .inl (.inl (R.sub.tup hp))
      have hln := tt.length
      refine ⟨fun hi => ?_, fun hi => ⟨xs, hs, by omega⟩⟩
      have hx : xs[i]? = some xs[i] := List.getElem?_eq_getElem (by omega)
      refine ⟨⟨xs, xs[i], hs, hx⟩, fun x H' ⟨e1, e2⟩ => ?_⟩
      subst e1
      have ex : x = xs[i] := Option.some.inj ((e2 xs hs).symm.trans hx)
      subst ex
      obtain ⟨d, hd, fd⟩ := tt.get hx
      exact ⟨d, hd, R.push2 fd⟩
  · cases e2
def whGo (c : BM) (body : SM) : Nat → SM
  | 0, _, _ => none
  | n + 1, ρ, P => (c ρ P).bind fun (b, P1) => if b = true then (body ρ P1).bind fun (fl, ρ2, P2) => match fl with
      | .nx => whGo c body n ρ2 P2
      | .ct => whGo c body n ρ2 P2
      | .bk => some (.nx, ρ2, P2)
      | .rt s => some (.rt s, ρ2, P2)
    else some (.nx, ρ, P1)
theorem psd_while (n : Nat) {c : Expr} {body : List Stmt} {fc : BM} {m : SM} (hp : PassesOwn (model X.prog X.w) X.A X.env X.xe) (hc : PTd X c fc) (hb : PSsd X body m) : PSd X (.While c body [] pos) (whGo fc m n) := by
  obtain ⟨t, p1, h1⟩ := hc
  obtain ⟨u, p2, h2⟩ := hb
  refine ⟨_, ps_while hp p1 p2, fun bs ρ σ os vs P H D r R e q => ?_⟩
  refine ⟨fun k σ H => ∃ ρ P, Rel X.K bs ρ σ os vs P H ∧ whGo fc m k ρ P = some r, ⟨n, ρ, P, R, e⟩, ?_⟩
  rintro k σ2 H2 ⟨ρ2, P2, R2, e2⟩
  cases k with
  | zero => simp [whGo] at e2
  | succ k =>
    simp only [whGo, Option.bind_eq_some_iff] at e2
    obtain ⟨⟨b, P3⟩, e3, e4⟩ := e2
    refine h1 bs ρ2 σ2 os vs P2 H2 _ b P3 R2 e3 fun H3 R3 => ?_
    cases b with
    | true =>
      simp only [if_true, Option.bind_eq_some_iff] at e4
      obtain ⟨⟨fl, ρ5, P5⟩, e5, e6⟩ := e4
      rw [if_pos rfl]
      refine ⟨fun σ H => ∃ ρ P, Rel X.K bs ρ σ os vs P H ∧ whGo fc m k ρ P = some r, fun σ' H' h => ⟨k, Nat.lt_succ_self k, h⟩, ?_⟩
      refine h2 bs ρ2 σ2 os vs P3 H3 _ (fl, ρ5, P5) R3 e5 ?_
      cases fl with
      | nx => exact fun σ5 H5 R5 => ⟨ρ5, P5, R5, e6⟩
      | ct => exact fun σ5 H5 R5 => ⟨ρ5, P5, R5, e6⟩
      | bk => cases e6; exact q
      | rt s => cases e6; exact q
    | false =>
      rw [if_neg Bool.false_ne_true] at e4 ⊢
      cases e4
      exact q σ2 H3 R3
end
end Pd

set_option Elab.async false
set_option linter.all false
set_option maxRecDepth 100000
set_option maxHeartbeats 1000000
/-! The layer Pd, part G: what a loop walks, comprehensions. -/
namespace Pd
open PySem PySem.Spec PyProof.Rows L2

/-! ### cutting the store -/
section
variable {K : PySem.W.Frag} {bs : List Nat} {ρ : EV} {σ : L2.St} {os : List SV} {vs : List V} {P : Store} {H F : Hp} {ad : List Addr} {n : Nat}
def SV.lt (n : Nat) : SV → Prop
  | .fz _ => True
  | .ptr k => k < n
theorem SVR.ltOf {v : V} {s : SV} (h : SVR K F ad v s) : s.lt ad.length := by
  cases s with
  | fz d => trivial
  | ptr k => obtain ⟨a, e, _⟩ := h; exact (List.getElem?_eq_some_iff.mp e).1
theorem SVR.take {v : V} {s : SV} (h : SVR K F ad v s) (l : s.lt n) : SVR K F (ad.take n) v s := by
  cases s with
  | fz d => exact h
  | ptr k => obtain ⟨a, e, q⟩ := h; exact ⟨a, by rw [List.getElem?_take_of_lt l]; exact e, q⟩
theorem SVA.ltOf : ∀ {vs : List V} {l : List SV}, SVA K F ad vs l → ∀ s ∈ l, s.lt ad.length
  | _, _, .nil, s, h => by simp at h
  | _, _, .cons a t, s, h => by
    rcases List.mem_cons.mp h with rfl | h
    · exact a.ltOf
    · exact SVA.ltOf t s h
theorem SVA.take : ∀ {vs : List V} {l : List SV}, SVA K F ad vs l → (∀ s ∈ l, s.lt n) → SVA K F (ad.take n) vs l
  | _, _, .nil, _ => .nil
  | _, _, .cons a t, h => .cons (a.take (h _ List.mem_cons_self)) (SVA.take t fun s hs => h s (List.mem_cons_of_mem _ hs))
theorem ps_lt {l : List SV} (h : ∀ j ∈ l.flatMap SV.ps, j < n) : ∀ s ∈ l, s.lt n := fun s hs => by
  cases s with
  | fz d => trivial
  | ptr k => exact h k (List.mem_flatMap.mpr ⟨_, hs, by simp [SV.ps]⟩)
theorem lt_ps {l : List SV} (h : ∀ s ∈ l, s.lt n) : ∀ j ∈ l.flatMap SV.ps, j < n := fun j hj => by
  obtain ⟨s, hs, q⟩ := List.mem_flatMap.mp hj
  cases s with
  | fz d => simp [SV.ps] at q
  | ptr k => simp only [SV.ps, List.mem_singleton] at q; subst q; exact h _ hs
theorem CellR.lows {a : Addr} {c : Cell} (h : CellR K F H ad a c) : ∀ j ∈ c.ps, j < ad.length := by
  cases c with
  | fz d => intro j hj; simp [Cell.ps] at hj
  | lst l => obtain ⟨_, xs, _, t⟩ := h; exact lt_ps t.ltOf
  | dK l =>
    obtain ⟨_, xs, _, t⟩ := h
    intro j hj
    refine lt_ps t.ltOf j ?_
    simpa [Cell.ps, List.flatMap_map] using hj
  | dT l =>
    obtain ⟨_, xs, _, t⟩ := h
    intro j hj
    refine lt_ps t.ltOf j ?_
    simpa [Cell.ps, List.flatMap_map] using hj
theorem CellR.take {a : Addr} {c : Cell} (h : CellR K F H ad a c) (l : ∀ j ∈ c.ps, j < n) : CellR K F H (ad.take n) a c := by
  cases c with
  | fz d => exact h
  | lst r => obtain ⟨f, xs, e, t⟩ := h; exact ⟨f, xs, e, t.take (ps_lt l)⟩
  | dK r =>
    obtain ⟨f, xs, e, t⟩ := h
    exact ⟨f, xs, e, t.take (ps_lt (by simpa [Cell.ps, List.flatMap_map] using l))⟩
  | dT r =>
    obtain ⟨f, xs, e, t⟩ := h
    exact ⟨f, xs, e, t.take (ps_lt (by simpa [Cell.ps, List.flatMap_map] using l))⟩
/-- a new base at the store's end -/
theorem RelX.enter (R : RelX K bs ρ σ os vs P H F ad) : RelX K (P.length :: bs) { ρ with b := P.length } σ os vs P H F ad := by
  refine { R with slots := R.slots, bas := ⟨fun c hc => ?_, fun c hc k x hk e j hj => ?_⟩, bb := fun c hc => ?_ }
  · rcases List.mem_cons.mp hc with rfl | hc
    · exact Nat.le_refl _
    · exact R.bas.le c hc
  · rcases List.mem_cons.mp hc with rfl | hc
    · have hl : k < ad.length := by rw [R.len]; exact hk
      have := (R.cells k x ad[k] e (List.getElem?_eq_getElem hl)).lows j hj
      rw [R.len] at this; exact this
    · exact R.bas.low c hc k x hk e j hj
  · rcases List.mem_cons.mp hc with rfl | hc
    · exact Nat.le_refl _
    · exact R.bas.le c hc
theorem RelX.slotsLt (R : RelX K bs ρ σ os vs P H F ad) : ∀ (i : Nat) (s : SV), ρ.sl[i]? = some (some s) → s.lt P.length := fun i s e => by
  obtain ⟨v, _, r⟩ := R.slots.2 i s e
  rw [← R.len]; exact r.ltOf
theorem RelX.topsLt (R : RelX K bs ρ σ os vs P H F ad) : ∀ s ∈ os, s.lt P.length := by rw [← R.len]; exact R.tops.ltOf
/-- .. and back to it -/
theorem RelX.cut (R : RelX K (n :: bs) ρ σ os vs P H F ad) {ρ' : EV} {σ' : L2.St} {os' : List SV} {vs' : List V} (hs : SlR K F ad ρ'.sl σ') (hl : ∀ (i : Nat) (s : SV), ρ'.sl[i]? = some (some s) → s.lt n) (ht : SVA K F ad vs' os') (hlt : ∀ s ∈ os', s.lt n) (hb : ∀ c ∈ bs, c ≤ ρ'.b) (hbn : ∀ c ∈ bs, c ≤ n) :
    RelX K bs ρ' σ' os' vs' (P.take n) H F (ad.take n) := by
  refine ⟨R.sub, by simp [R.len], R.nd.sublist (List.take_sublist _ _), fun a ha => R.there a (List.mem_of_mem_take ha), fun k c a e1 e2 => ?_, ⟨hs.1, fun i s e => ?_⟩, ht.take hlt, ⟨fun c hc => ?_, fun c hc k x hk e j hj => ?_⟩, hb⟩
  · have hk : k < n := by
      have := (List.getElem?_eq_some_iff.mp e1).1
      rw [List.length_take] at this; omega
    rw [List.getElem?_take_of_lt hk] at e1 e2
    exact (R.cells k c a e1 e2).take (R.bas.low n List.mem_cons_self k c hk e1)
  · obtain ⟨v, e1, r⟩ := hs.2 i s e
    exact ⟨v, e1, r.take (hl i s e)⟩
  · have h1 := R.bas.le c (List.mem_cons_of_mem _ hc)
    have h2 := hbn c hc
    rw [List.length_take]; omega
  · have h2 := hbn c hc
    rw [List.getElem?_take_of_lt (by omega)] at e
    exact R.bas.low c (List.mem_cons_of_mem _ hc) k x hk e j hj
end

/-! ### what is walked -/
section
variable {X : Cx} {tg : Expr}
theorem PI.or {iter : Expr} {w w' : TI} (h : PI X tg iter w) (h' : PI X tg iter w') : PI X tg iter (fun σ H R => w σ H R ∨ w' σ H R) :=
  ⟨fun pins s σ H R I q => q.elim (h.run pins s σ H R I) (h'.run pins s σ H R I)⟩
theorem PId.or {iter : Expr} {f g : IM} (h : PId X tg iter f) (h' : PId X tg iter g) : PId X tg iter (fun ρ P => (f ρ P).or (g ρ P)) := by
  obtain ⟨w, p, h1⟩ := h
  obtain ⟨w', p', h2⟩ := h'
  refine ⟨_, PI.or p p', fun bs ρ σ os vs P H R items src P' Rl e q => ?_⟩
  have e : (f ρ P).or (g ρ P) = some (items, src, P') := e
  cases hf : f ρ P with
  | some z =>
    rw [hf] at e
    simp only [Option.some_or, Option.some.injEq] at e
    subst e
    exact .inl (h1 bs ρ σ os vs P H R items src P' Rl hf q)
  | none =>
    rw [hf] at e
    exact .inr (h2 bs ρ σ os vs P H R items src P' Rl (by simpa using e) q)
def signsD (x : Str) : List PyData := x.cps.toList.map fun c => .str ⟨#[c]⟩
theorem pid_str {e : Expr} {f : XM} (h : PEd X e f) : PId X tg e (fun ρ P => (f ρ P).bind fun (a, P1) => match a with | .fz (.str x) => some (signsD x, a, P1) | _ => none) := by
  obtain ⟨t, p, h1⟩ := h
  refine ⟨_, pi_str p, fun bs ρ σ os vs P H R items src P' Rl e q => ?_⟩
  simp only [Option.bind_eq_some_iff] at e
  obtain ⟨⟨a, P1⟩, e1, e2⟩ := e
  refine h1 bs ρ σ os vs P H _ a P1 Rl e1 fun v H1 R1 => ?_
  simp only at e2
  split at e2
  · rename_i x
    cases e2
    have hv : v = .str x := by
      obtain ⟨F, ad, R1⟩ := R1
      obtain ⟨r1, _⟩ := R1.pop
      cases r1; rfl
    subst hv
    refine ⟨x, rfl, q (Its x) (.str x) H1 R1 fun bs ρ σ os vs P H i R => ⟨fun hi => ?_, fun hi => ?_⟩⟩
    · have hi' : i < x.cps.size := by simpa [signsD] using hi
      refine ⟨hi', fun y H' ⟨e1, c, hc, ey⟩ => ?_⟩
      subst e1; subst ey
      obtain ⟨F, ad, R⟩ := R
      refine ⟨.str ⟨#[c]⟩, ?_, ⟨F, ad, R.push (show Fz X.K F _ _ from .str _)⟩⟩
      unfold signsD
      rw [List.getElem?_map, Array.getElem?_toList, hc]; rfl
    · show x.cps.size ≤ i
      simpa [signsD] using hi
  · cases e2
/-- a list, a tuple, a text -/
def iAny (f : XM) : IM := fun ρ P => (f ρ P).bind fun (a, P1) => match a with
  | .fz (.list ds) => some (ds, a, P1)
  | .fz (.tuple ds) => some (ds, a, P1)
  | .fz (.str x) => some (signsD x, a, P1)
  | _ => none
theorem pid_any {e : Expr} {f : XM} (h : PEd X e f) : PId X tg e (iAny f) := by
  have h1 := (pid_list (tg := tg) h).or ((pid_tup h).or (pid_str h))
  have e1 : (fun ρ P => ((f ρ P).bind fun (a, P1) => match a with | .fz (.list ds) => some (ds, a, P1) | _ => none).or (((f ρ P).bind fun (a, P1) => match a with | .fz (.tuple ds) => some (ds, a, P1) | _ => none).or
      ((f ρ P).bind fun (a, P1) => match a with | .fz (.str x) => some (signsD x, a, P1) | _ => none))) = iAny f := by
    funext ρ P
    unfold iAny
    cases f ρ P with
    | none => rfl
    | some z =>
      obtain ⟨a, P1⟩ := z
      cases a with
      | ptr k => rfl
      | fz d => cases d <;> rfl
  rw [← e1]; exact h1
def rangeD (lo : Int) (n : Nat) : List PyData := (List.range n).map fun i => .int (lo + (i : Nat))
theorem rangeD_len (lo : Int) (n : Nat) : (rangeD lo n).length = n := by simp [rangeD]
theorem itok_range {K : PySem.W.Frag} {lo : Int} {n : Nat} {d : SV} {v : V} : ItOk K (Itr lo n) (rangeD lo n) d v := fun bs ρ σ os vs P H i R => by
  refine ⟨fun hi => ?_, fun hi => by rw [rangeD_len] at hi; exact hi⟩
  rw [rangeD_len] at hi
  refine ⟨hi, fun x H' ⟨e1, e2⟩ => ?_⟩
  subst e1; subst e2
  obtain ⟨F, ad, R⟩ := R
  exact ⟨.int (lo + i), by simp [rangeD, hi], ⟨F, ad, R.push (show Fz K F _ _ from .int _)⟩⟩
def iRange (g : AM) : IM := fun ρ P => (g ρ P).bind fun (l, P1) => match l with
  | [.fz (.int j)] => if -(2 ^ 62) ≤ j ∧ j < 2 ^ 62 then some (rangeD 0 j.toNat, .fz .none, P1) else none
  | [.fz (.int i), .fz (.int j)] => if -(2 ^ 62) ≤ i ∧ i < 2 ^ 62 ∧ -(2 ^ 62) ≤ j ∧ j < 2 ^ 62 then some (rangeD i (j - i).toNat, .fz .none, P1) else none
  | _ => none
theorem pid_range1 {a : Expr} {f : XM} {p pos : Pos} (hg : Gl X "range") (hm : X.mg "range" = none) (ha : PEd X a f) (hs : starEach [a] X.env = [(false, eval a X.env)] := by rfl) : PId X tg (.Call (.Name "range" p) [a] [] pos) (iRange (aCons f aNil)) := by
  obtain ⟨t, pa, h1⟩ := pad_cons ha pad_nil (by rw [hs]; rfl)
  refine ⟨_, pi_range1 hg hm pa hs, fun bs ρ σ os vs P H R items src P' Rl e q => ?_⟩
  simp only [iRange, Option.bind_eq_some_iff] at e
  obtain ⟨⟨l, P1⟩, e1, e2⟩ := e
  refine h1 bs ρ σ os vs P H _ l P1 Rl e1 fun ws H1 hl R1 => ?_
  obtain ⟨F, ad, R1⟩ := R1
  obtain ⟨ra, R2⟩ := R1.args hl
  simp only at e2
  split at e2
  · split at e2
    · rename_i hz
      cases e2
      cases ra with
      | cons r1 ra =>
        cases ra
        cases r1
        exact ⟨_, rfl, hz.1, hz.2, q _ .non H1 ⟨F, ad, R2.push (show Fz X.K F _ _ from .non)⟩ itok_range⟩
    · cases e2
  · simp [aCons, aNil, Option.bind_eq_some_iff] at e1
  · cases e2
theorem pid_range2 {a b : Expr} {f g : XM} {p pos : Pos} (hg : Gl X "range") (hm : X.mg "range" = none) (ha : PEd X a f) (hb : PEd X b g) (hs : starEach [a, b] X.env = [(false, eval a X.env), (false, eval b X.env)] := by rfl) (hs2 : starEach [b] X.env = [(false, eval b X.env)] := by rfl) :
    PId X tg (.Call (.Name "range" p) [a, b] [] pos) (iRange (aCons f (aCons g aNil))) := by
  obtain ⟨t, pa, h1⟩ := pad_cons ha (pad_cons hb pad_nil (by rw [hs2]; rfl)) (by rw [hs, hs2])
  refine ⟨_, pi_range2 hg hm pa hs hs2, fun bs ρ σ os vs P H R items src P' Rl e q => ?_⟩
  simp only [iRange, Option.bind_eq_some_iff] at e
  obtain ⟨⟨l, P1⟩, e1, e2⟩ := e
  refine h1 bs ρ σ os vs P H _ l P1 Rl e1 fun ws H1 hl R1 => ?_
  obtain ⟨F, ad, R1⟩ := R1
  obtain ⟨ra, R2⟩ := R1.args hl
  simp only at e2
  split at e2
  · simp [aCons, aNil, Option.bind_eq_some_iff] at e1
  · split at e2
    · rename_i hz
      cases e2
      cases ra with
      | cons r1 ra =>
        cases ra with
        | cons r2 ra =>
          cases ra
          cases r1
          cases r2
          exact ⟨_, _, rfl, hz, q _ .non H1 ⟨F, ad, R2.push (show Fz X.K F _ _ from .non)⟩ itok_range⟩
    · cases e2
  · cases e2
end

/-! ### comprehensions -/
def EV.wipe (ρ : EV) (vs : List Nat) : EV := { ρ with sl := vs.foldr (fun v l => l.set v none) ρ.sl }
theorem SlR.wipe {K : PySem.W.Frag} {F : Hp} {ad : List Addr} {sl : List (Option SV)} {σ : L2.St} (h : SlR K F ad sl σ) : ∀ vs : List Nat, SlR K F ad (vs.foldr (fun v l => l.set v none) sl) (L2.wipe σ vs)
  | [] => h
  | v :: vs => by
    have ih := SlR.wipe h vs
    refine ⟨by simp [L2.wipe, ih.1], fun i s e => ?_⟩
    simp only [List.foldr_cons] at e
    by_cases hi : v = i
    · subst hi
      by_cases hl : v < (vs.foldr (fun v l => l.set v none) sl).length
      · rw [List.getElem?_set_self hl] at e; cases e
      · rw [List.getElem?_eq_none (by simpa using hl)] at e; cases e
    · rw [List.getElem?_set_ne hi] at e
      obtain ⟨w, hw, r⟩ := ih.2 i s e
      exact ⟨w, by show ((L2.wipe σ vs).set v none)[i]? = _; rw [List.getElem?_set_ne hi]; exact hw, r⟩
def lcGo (g : GM) (tt : BM) (te : XM) (ρ : EV) (n : Nat) : List PyData → Store → Option Store
  | [], S => some S
  | d :: r, S => (g (.fz d) ρ S).bind fun (ρ1, S1) => (tt ρ1 S1).bind fun (b, S2) =>
    if b = true then (te ρ1 S2).bind fun (s, S3) => match s, S3[n]? with
      | .fz z, some (.lst acc) => if acc.length < sizeLine then lcGo g tt te ρ n r (S3.set n (.lst (acc ++ [.fz z]))) else none
      | _, _ => none
    else lcGo g tt te ρ n r S2
def mLC (own : List Nat) (f : IM) (g : GM) (tt : BM) (te : XM) : XM := fun ρ P => (f ρ P).bind fun (items, _, P1) =>
  (lcGo g tt te { ρ.wipe own with b := P1.length } P1.length items (P1 ++ [.lst []])).bind fun S => match S[P1.length]? with
    | some (.lst acc) => (fzs acc).map fun ds => (.fz (.list ds), S.take P1.length)
    | _ => none
def PTsd (X : Cx) (ifs : List Expr) (f : BM) : Prop := ∃ t, PTs X ifs t ∧ ∀ (bs : List Nat) (ρ : EV) (σ : L2.St) (os : List SV) (vs : List V) (P : Store) (H : Hp) (Q : Bool → Hp → Prop) (r : Bool) (P' : Store), Rel X.K bs ρ σ os vs P H → f ρ P = some (r, P') →
  (∀ H', Rel X.K bs ρ σ os vs P' H' → Q r H') → t σ H Q
def bYes : BM := fun _ P => some (true, P)
theorem ptsd_nil {X : Cx} : PTsd X [] bYes := ⟨_, pts_nil, fun bs ρ σ os vs P H Q r P' R e q => by
  simp only [bYes, Option.some.injEq, Prod.mk.injEq] at e
  obtain ⟨rfl, rfl⟩ := e
  exact q H R⟩
theorem ptsd_one {X : Cx} {c : Expr} {f : BM} (h : PTd X c f) : PTsd X [c] f := let ⟨t, p, q⟩ := h; ⟨t, pts_one p, q⟩
end Pd

set_option Elab.async false
set_option linter.all false
set_option maxRecDepth 100000
set_option maxHeartbeats 1000000
/-! The layer Pd, part H: comprehensions' proof. -/
namespace Pd
open PySem PySem.Spec PyProof.Rows L2

def tM (K : PySem.W.Frag) (f : XM) : TE := fun σ H Q => ∃ (bs : List Nat) (ρ : EV) (os : List SV) (vs : List V) (P : Store) (r : SV) (P' : Store), Rel K bs ρ σ os vs P H ∧ f ρ P = some (r, P') ∧ ∀ v H', Rel K bs ρ σ (r :: os) (v :: vs) P' H' → Q v H'
def tMT (K : PySem.W.Frag) (f : BM) : TT := fun σ H Q => ∃ (bs : List Nat) (ρ : EV) (os : List SV) (vs : List V) (P : Store) (r : Bool) (P' : Store), Rel K bs ρ σ os vs P H ∧ f ρ P = some (r, P') ∧ ∀ H', Rel K bs ρ σ os vs P' H' → Q r H'
def tMG (K : PySem.W.Frag) (ts : List Nat) (g : GM) : TG := fun v σ H Q => ∃ (bs : List Nat) (ρ : EV) (os : List SV) (vs : List V) (P : Store) (s : SV) (ρ' : EV) (P' : Store), Rel K bs ρ σ (s :: os) (v :: vs) P H ∧ g s ρ P = some (ρ', P') ∧
  ∀ σ' H', Rel K bs ρ' σ' os vs P' H' → Keeps ts σ σ' → Q σ' H'
theorem PEd.canon {X : Cx} {e : Expr} {f : XM} (h : PEd X e f) : PE X e (tM X.K f) := by
  obtain ⟨t, p, h1⟩ := h
  exact ⟨fun pins s σ H Q I ⟨bs, ρ, os, vs, P, r, P', R, e, q⟩ => p.run pins s σ H Q I (h1 bs ρ σ os vs P H Q r P' R e q)⟩
theorem PTsd.canon {X : Cx} {e : List Expr} {f : BM} (h : PTsd X e f) : PTs X e (tMT X.K f) := by
  obtain ⟨t, p, h1⟩ := h
  exact ⟨fun pins s σ H Q I ⟨bs, ρ, os, vs, P, r, P', R, e, q⟩ => p.run pins s σ H Q I (h1 bs ρ σ os vs P H Q r P' R e q)⟩
theorem PGd.canon {X : Cx} {e : Expr} {ts : List Nat} {g : GM} (h : PGd X e ts g) : PG X e (tMG X.K ts g) := by
  obtain ⟨t, p, h1⟩ := h
  exact ⟨fun pins s σ H v u Q I r ⟨bs, ρ, os, vs, P, sv, ρ', P', R, e, q⟩ => p.run pins s σ H v u Q I r (h1 bs ρ σ os vs P H sv v Q ρ' P' R e q)⟩

theorem wipe_at {σ : L2.St} {i : Nat} : ∀ {vs : List Nat}, i ∈ vs → (L2.wipe σ vs)[i]? = if i < σ.length then some none else none
  | v :: vs, h => by
    show ((L2.wipe σ vs).set v none)[i]? = _
    by_cases hv : v = i
    · subst hv
      by_cases hl : v < σ.length
      · rw [List.getElem?_set_self (by rw [L2.wipe_length]; exact hl), if_pos hl]
      · rw [List.getElem?_eq_none (by rw [List.length_set, L2.wipe_length]; omega), if_neg hl]
    · rw [List.getElem?_set_ne hv]
      rcases List.mem_cons.mp h with e | h
      · exact absurd e.symm hv
      · exact wipe_at h
theorem wipe_keeps {σ σ' : L2.St} {own ts : List Nat} (h : ∀ i ∈ ts, i ∈ own) (k : Keeps ts (L2.wipe σ own) σ') : L2.wipe σ' own = L2.wipe σ own := by
  have hl : σ'.length = σ.length := k.1.trans (L2.wipe_length _ _)
  apply List.ext_getElem?
  intro i
  by_cases hi : i ∈ own
  · rw [wipe_at hi, wipe_at hi, hl]
  · rw [L2.wipe_out hi, k.2 i fun z => hi (h i z)]
theorem SVA.split {K : PySem.W.Frag} {F : Hp} {ad : List Addr} : ∀ {ws vs : List V} {ls os : List SV}, ws.length = ls.length → SVA K F ad (ws ++ vs) (ls ++ os) → SVA K F ad ws ls ∧ SVA K F ad vs os
  | [], _, [], _, _, h => ⟨.nil, h⟩
  | w :: ws, vs, l :: ls, os, e, h => by
    cases h with
    | cons a t =>
      obtain ⟨h1, h2⟩ := SVA.split (ws := ws) (ls := ls) (by simpa using e) t
      exact ⟨.cons a h1, h2⟩
  | [], _, _ :: _, _, e, _ => by simp at e
  | _ :: _, _, [], _, e, _ => by simp at e
/-- what the slots hold, as a list -/
theorem SlR.list {K : PySem.W.Frag} : ∀ {sl : List (Option SV)} {σ : L2.St} {F : Hp} {ad : List Addr}, SlR K F ad sl σ → ∃ (ls : List SV) (ws : List V), SVA K F ad ws ls ∧ ∀ F' ad', SVA K F' ad' ws ls → SlR K F' ad' sl σ
  | [], σ, F, ad, h => ⟨[], [], .nil, fun F' ad' _ => ⟨h.1, fun i s e => by simp at e⟩⟩
  | o :: sl, [], F, ad, h => by have := h.1; simp at this
  | o :: sl, v :: σ, F, ad, h => by
    have h' : SlR K F ad sl σ := ⟨by simpa using h.1, fun i s e => h.2 (i + 1) s e⟩
    obtain ⟨ls, ws, a, b⟩ := SlR.list h'
    cases o with
    | none =>
      refine ⟨ls, ws, a, fun F' ad' x => ?_⟩
      obtain ⟨c, d⟩ := b F' ad' x
      refine ⟨by simp [c], fun i s e => ?_⟩
      cases i with
      | zero => simp at e
      | succ i => exact d i s (by simpa using e)
    | some s =>
      obtain ⟨w, hw, r⟩ := h.2 0 s rfl
      have hv : v = some w := by simpa using hw
      subst hv
      refine ⟨s :: ls, w :: ws, .cons r a, fun F' ad' x => ?_⟩
      cases x with
      | cons r' x =>
        obtain ⟨c, d⟩ := b F' ad' x
        refine ⟨by simp [c], fun i t e => ?_⟩
        cases i with
        | zero =>
          have : s = t := by simpa using e
          subst this
          exact ⟨w, rfl, r'⟩
        | succ i => exact d i t (by simpa using e)
/-- the turns of a comprehension -/
theorem lc_go {K : PySem.W.Frag} {J : It} {items : List PyData} {src : SV} {w : V} (ok : ItOk K J items src w) {g : GM} {ts : List Nat} {tt : BM} {te : XM} {own : List Nat} {bs : List Nat} {ρ : EV} {σ : L2.St} {os : List SV} {vs : List V} {P : Store} {H1 : Hp} {S : Store} {Df : Hp → Prop} {D : Addr}
    (hts : ∀ i ∈ ts, i ∈ own)
    (R : Rel K bs ρ σ (src :: os) (w :: vs) P H1) (hD : H1 D = none) (e : lcGo g tt te { ρ.wipe own with b := P.length } P.length items (P ++ [.lst []]) = some S)
    (q : ∀ H, Rel K (P.length :: bs) { ρ with b := P.length } σ (.ptr P.length :: src :: os) (.ref D :: w :: vs) S H → Df H) :
    ∃ W : Nat → Nat → Hp → Prop, (∃ m, W 0 m (upd H1 D (.lst []))) ∧ ∀ i m H, W i m H →
      (J.stop i H ∧ Df H) ∨ (J.go i H ∧ ∃ Nx : Hp → Prop, (∀ H', Nx H' → ∃ m', m' < m ∧ W (i + 1) m' H') ∧ ∀ x H', J.yld i H x H' → tMG K ts g x (L2.wipe σ own) H' fun σ2 H2 => L2.wipe σ2 own = L2.wipe σ own ∧ tMT K tt σ2 H2 fun b H3 =>
        if b = true then tM K te σ2 H3 fun y H4 => ∃ acc, H4 D = some (.lst acc) ∧ acc.length < sizeLine ∧ Nx (upd H4 D (.lst (acc ++ [y]))) else Nx H3) := by
  -- what the def's slots hold, on the stack
  have hls : ∃ (ls : List SV) (ws : List V), ws.length = ls.length ∧ (∀ F ad, SVA K F ad ws ls → SlR K F ad ρ.sl σ) ∧ Rel K bs ρ σ (src :: (ls ++ os)) (w :: (ws ++ vs)) P H1 := by
    obtain ⟨F, ad, R⟩ := R
    obtain ⟨ls, ws, a, b⟩ := R.slots.list
    obtain ⟨r, R1⟩ := R.pop
    exact ⟨ls, ws, a.length, b, F, ad, R.tops_of (.cons r (a.append R1.tops))⟩
  obtain ⟨ls, ws, hlen, hb, Rl⟩ := hls
  have start : ∃ ρx σx, ρx.b = P.length ∧ Rel K (P.length :: bs) ρx σx (.ptr P.length :: src :: (ls ++ os)) (.ref D :: w :: (ws ++ vs)) (P ++ [.lst []]) (upd H1 D (.lst [])) := by
    obtain ⟨F, ad, R⟩ := Rl
    exact ⟨_, _, rfl, F, ad ++ [D], R.enter.cell hD fun ad' pr => ⟨R.free hD, [], upd_same, .nil⟩⟩
  refine ⟨fun i m H => m = items.length - i ∧ i ≤ items.length ∧ ∃ T ρx σx, ρx.b = P.length ∧ Rel K (P.length :: bs) ρx σx (.ptr P.length :: src :: (ls ++ os)) (.ref D :: w :: (ws ++ vs)) T H ∧ lcGo g tt te { ρ.wipe own with b := P.length } P.length (items.drop i) T = some S, ⟨_, rfl, Nat.zero_le _, _, start.choose, start.choose_spec.choose, start.choose_spec.choose_spec.1, start.choose_spec.choose_spec.2, by simpa using e⟩, ?_⟩
  rintro i m H ⟨rfl, hle, T, ρx, σx, hbx, RT, eT⟩
  have under : Rel K (P.length :: bs) ρx σx (src :: .ptr P.length :: (ls ++ os)) (w :: .ref D :: (ws ++ vs)) T H := by
    obtain ⟨F, ad, R⟩ := RT
    obtain ⟨r1, R1⟩ := R.pop
    obtain ⟨r2, R2⟩ := R1.pop
    exact ⟨F, ad, (R2.push r1).push r2⟩
  obtain ⟨ok1, ok2⟩ := ok _ _ _ _ _ _ _ i under
  by_cases hlt : i < items.length
  · obtain ⟨go, yl⟩ := ok1 hlt
    refine .inr ⟨go, fun H => ∃ T ρx σx, ρx.b = P.length ∧ Rel K (P.length :: bs) ρx σx (.ptr P.length :: src :: (ls ++ os)) (.ref D :: w :: (ws ++ vs)) T H ∧ lcGo g tt te { ρ.wipe own with b := P.length } P.length (items.drop (i + 1)) T = some S, fun H' ⟨T', ρ', σ', b', R', e'⟩ => ⟨items.length - (i + 1), by omega, rfl, hlt, T', ρ', σ', b', R', e'⟩, fun x H' hy => ?_⟩
    obtain ⟨d, hd, R3⟩ := yl x H' hy
    rw [List.drop_eq_getElem_cons hlt] at eT
    have ed : items[i] = d := by rw [List.getElem?_eq_getElem hlt] at hd; exact Option.some.inj hd
    rw [ed] at eT
    simp only [lcGo, Option.bind_eq_some_iff] at eT
    obtain ⟨⟨ρ4, P4⟩, e4, ⟨b, P5⟩, e5, e6⟩ := eT
    have R4 : Rel K (P.length :: bs) { ρ.wipe own with b := P.length } (L2.wipe σ own) (.fz d :: .ptr P.length :: src :: (ls ++ os)) (x :: .ref D :: w :: (ws ++ vs)) T H' := by
      obtain ⟨F, ad, R⟩ := R3
      obtain ⟨r0, R1⟩ := R.pop
      obtain ⟨r1, R2⟩ := R1.pop
      obtain ⟨r2, R3⟩ := R2.pop
      have sp := (SVA.split hlen R3.tops).1
      refine ⟨F, ad, { R with slots := (hb F ad sp).wipe own, tops := .cons r0 (.cons r2 (.cons r1 R3.tops)), bb := fun c hc => ?_ }⟩
      have := R.bb c hc
      show c ≤ P.length
      rw [hbx] at this; exact this
    refine ⟨_, _, _, _, _, _, ρ4, P4, R4, e4, fun σ4 H4 R5 k4 => ⟨wipe_keeps hts k4, _, _, _, _, _, b, P5, R5, e5, fun H5 R6 => ?_⟩⟩
    simp only at e6
    have hb4 : ∀ {bs : List Nat} {os : List SV} {vs : List V} {P' : Store} {H : Hp}, Rel K (P.length :: bs) ρ4 σ4 os vs P' H → P.length ≤ ρ4.b := fun ⟨F, ad, R⟩ => R.bb _ List.mem_cons_self
    cases b with
    | true =>
      rw [if_pos rfl] at e6 ⊢
      simp only [Option.bind_eq_some_iff] at e6
      obtain ⟨⟨s, P6⟩, e7, e8⟩ := e6
      refine ⟨_, _, _, _, _, s, P6, R6, e7, fun y H6 R7 => ?_⟩
      simp only at e8
      split at e8
      · rename_i z acc hacc
        split at e8
        · rename_i hz
          obtain ⟨F, ad, R7⟩ := R7
          obtain ⟨ry, R8⟩ := R7.pop
          obtain ⟨rD, R9⟩ := R8.pop
          obtain ⟨a, ha, ea, hc⟩ := R8.at rD hacc
          cases ea
          obtain ⟨hF, xs, hx, tx⟩ := hc
          refine ⟨xs, hx, by rw [tx.length]; exact hz, P6.set P.length (.lst (acc ++ [.fz z])), { ρ4 with b := P.length }, σ4, rfl, ⟨F, ad, ?_⟩, e8⟩
          have R10 := R8.put (c := .lst (acc ++ [.fz z])) hacc ha hF ⟨hF, _, upd_same, tx.append (.cons ry .nil)⟩ (fun j hj => by
            refine .inl ?_
            simpa [Cell.ps, SV.ps] using hj)
          refine { R10 with slots := R10.slots, bb := fun c hc => ?_ }
          rcases List.mem_cons.mp hc with rfl | hc
          · exact Nat.le_refl _
          · obtain ⟨F0, ad0, R0⟩ := R
            exact R0.bas.le c hc
        · cases e8
      · cases e8
    | false =>
      rw [if_neg Bool.false_ne_true] at e6 ⊢
      refine ⟨P5, { ρ4 with b := P.length }, σ4, rfl, ?_, e6⟩
      obtain ⟨F, ad, R6⟩ := R6
      refine ⟨F, ad, { R6 with slots := R6.slots, bb := fun c hc => ?_ }⟩
      rcases List.mem_cons.mp hc with rfl | hc
      · exact Nat.le_refl _
      · obtain ⟨F0, ad0, R0⟩ := R
        exact R0.bas.le c hc
  · have : i = items.length := by omega
    subst this
    rw [List.drop_length] at eT
    simp only [lcGo, Option.some.injEq] at eT
    subst eT
    refine .inl ⟨ok2 (Nat.le_refl _), q H ?_⟩
    obtain ⟨F, ad, RX⟩ := RT
    obtain ⟨r1, R1⟩ := RX.pop
    obtain ⟨r2, R2⟩ := R1.pop
    obtain ⟨sp, so⟩ := SVA.split hlen R2.tops
    refine ⟨F, ad, { RX with slots := hb F ad sp, tops := .cons r1 (.cons r2 so), bb := fun c hc => ?_ }⟩
    have := RX.bb c hc
    show c ≤ P.length
    rw [hbx] at this; exact this

section
variable {X : Cx} {pos : Pos}
theorem lc_d {f : IM} {g : GM} {tt : BM} {te : XM} {ts own : List Nat} {wi : TI} (hts : ∀ i ∈ ts, i ∈ own)
    (h0 : ∀ (bs : List Nat) (ρ : EV) (σ : L2.St) (os : List SV) (vs : List V) (P : Store) (H : Hp) (R : It → Hp → Prop) (items : List PyData) (src : SV) (P' : Store), Rel X.K bs ρ σ os vs P H → f ρ P = some (items, src, P') →
      (∀ J v H', Rel X.K bs ρ σ (src :: os) (v :: vs) P' H' → ItOk X.K J items src v → R J H') → wi σ H R)
    (bs : List Nat) (ρ : EV) (σ : L2.St) (os : List SV) (vs : List V) (P : Store) (H : Hp) (Q : VK) (r : SV) (P' : Store) (R : Rel X.K bs ρ σ os vs P H) (e : mLC own f g tt te ρ P = some (r, P'))
    (q : ∀ v H', Rel X.K bs ρ σ (r :: os) (v :: vs) P' H' → Q v H') : tLc wi (tMG X.K ts g) (tMT X.K tt) (tM X.K te) own σ H Q := by
  simp only [mLC, Option.bind_eq_some_iff] at e
  obtain ⟨⟨items, src, P1⟩, e0, S, e1, e2⟩ := e
  refine h0 bs ρ σ os vs P H _ items src P1 R e0 fun J w H1 R1 ok => fun D hD => ?_
  refine lc_go (Df := fun H => Q (.ref D) H) ok hts R1 hD e1 fun H2 R2 => ?_
  simp only at e2
  split at e2
  · rename_i acc hacc
    simp only [Option.map_eq_some_iff, Prod.mk.injEq] at e2
    obtain ⟨ds, hds, rfl, rfl⟩ := e2
    obtain ⟨F, ad, R2⟩ := R2
    obtain ⟨F1, ad1, R1⟩ := R1
    obtain ⟨rD, R3⟩ := R2.pop
    obtain ⟨a, ha, ea, hc⟩ := R3.at rD hacc
    cases ea
    obtain ⟨hF, xs, hx, tx⟩ := hc
    obtain ⟨R4, l4, f4⟩ := R3.freezeC (d := .list ds) hacc ha hF hx fun G l g => .lst (.of g) ((fzs_some tx hds).mono l)
    obtain ⟨_, R5⟩ := R4.pop
    have R6 := R5.cut (ρ' := ρ) R5.slots R1.slotsLt R5.tops (fun s hs => R1.topsLt s (List.mem_cons_of_mem _ hs)) (fun c hc => R1.bb c hc) (fun c hc => R1.bas.le c hc)
    have e5 : (S.set P1.length (.fz (.list ds))).take P1.length = S.take P1.length := by
      rw [List.take_set_of_le (Nat.le_refl _)]
    rw [e5] at R6
    exact q _ _ ⟨_, _, R6.push (d := .fz (.list ds)) (show Fz X.K _ _ _ from f4)⟩
  · cases e2
theorem ped_lc {elt tg iter : Expr} {ifs : List Expr} {scope : Scope} {own : List (Str × Nat)} {f : IM} {g : GM} {tt : BM} {te : XM} {ts : List Nat} (hc : X.calm = true) (hN : X.N.Nodup) (hi : PId X tg iter f) (ok : BlkOk X.N X.env.scope scope own)
    (hg : ∀ (s : Shared) (H : Hp) (C : Addr) (cl : List (Str × Addr)) (fp : List Addr), PGd (X.blk s H scope (compEnvC scope cl C X.env) fp) tg ts g) (ht : ∀ (s : Shared) (H : Hp) (C : Addr) (cl : List (Str × Addr)) (fp : List Addr), PTsd (X.blk s H scope (compEnvC scope cl C X.env) fp) ifs tt)
    (he : ∀ (s : Shared) (H : Hp) (C : Addr) (cl : List (Str × Addr)) (fp : List Addr), PEd (X.blk s H scope (compEnvC scope cl C X.env) fp) elt te) (hts : ∀ i ∈ ts, i ∈ own.map (·.2) := by decide) (hs : ∀ x, foldedSetIterable iter X.env x = pure x := by intro _; rfl) :
    PEd X (.ListComp elt [⟨tg, iter, ifs, 0⟩] scope pos) (mLC (own.map (·.2)) f g tt te) := by
  obtain ⟨wi, p0, h0⟩ := hi
  exact ⟨_, pe_lc (g := tMG X.K ts g) (tt := tMT X.K tt) (te := tM X.K te) hc hN p0 ok (fun s H C cl fp => (hg s H C cl fp).canon) (fun s H C cl fp => (ht s H C cl fp).canon) (fun s H C cl fp => (he s H C cl fp).canon) hs, lc_d hts h0⟩
theorem psd_setLc {i : Nat} {y : Str} {py : Pos} {elt tg iter : Expr} {ifs : List Expr} {scope : Scope} {own : List (Str × Nat)} {spos : Pos} {f : IM} {g : GM} {tt : BM} {te : XM} {ts : List Nat} (hc : X.calm = true) (hN : X.N.Nodup) (hy : X.N[i]? = some y) (hyl : X.env.scope.names.lookup y = some .local)
    (hsw : swapsWith (.ListComp elt [⟨tg, iter, ifs, 0⟩] scope pos) (some (.Name y py)) spos.line X.env = pure true) (hi : PId X tg iter f) (ok : BlkOk X.N X.env.scope scope own)
    (hg : ∀ (s : Shared) (H : Hp) (C : Addr) (cl : List (Str × Addr)) (fp : List Addr), PGd (X.blk s H scope (compEnvC scope cl C X.env) fp) tg ts g) (ht : ∀ (s : Shared) (H : Hp) (C : Addr) (cl : List (Str × Addr)) (fp : List Addr), PTsd (X.blk s H scope (compEnvC scope cl C X.env) fp) ifs tt)
    (he : ∀ (s : Shared) (H : Hp) (C : Addr) (cl : List (Str × Addr)) (fp : List Addr), PEd (X.blk s H scope (compEnvC scope cl C X.env) fp) elt te) (hts : ∀ i ∈ ts, i ∈ own.map (·.2) := by decide) (hs : ∀ x, foldedSetIterable iter X.env x = pure x := by intro _; rfl) :
    PSd X (.Assign [.Name y py] (.ListComp elt [⟨tg, iter, ifs, 0⟩] scope pos) spos) (sSet i (mLC (own.map (·.2)) f g tt te)) := by
  obtain ⟨wi, p0, h0⟩ := hi
  refine ⟨_, ps_setLc (g := tMG X.K ts g) (tt := tMT X.K tt) (te := tM X.K te) hc hN hy hyl hsw p0 ok (fun s H C cl fp => (hg s H C cl fp).canon) (fun s H C cl fp => (ht s H C cl fp).canon) (fun s H C cl fp => (he s H C cl fp).canon) hs, fun bs ρ σ os vs P H D r R e q => ?_⟩
  simp only [sSet, Option.map_eq_some_iff] at e
  obtain ⟨⟨s, P1⟩, e1, rfl⟩ := e
  exact lc_d hts h0 bs ρ σ os vs P H _ s P1 R e1 fun v H1 R1 => q _ H1 (R1.store i)
end
end Pd

set_option Elab.async false
set_option linter.all false
set_option maxRecDepth 100000
set_option maxHeartbeats 1000000
/-! The layer Pd, part I: defs. -/
namespace Pd
open PySem PySem.Spec PyProof.Rows L2

abbrev FM := List SV → Store → Option (SV × Store)
/-- a def's promise: what its mirror tells -/
def spM (K : PySem.W.Frag) (m : FM) (n : Nat) : Sp := fun vs H Q _ => vs.length = n ∧ ∃ (bs : List Nat) (ρ : EV) (σ : L2.St) (os : List SV) (ws : List V) (args : List SV) (P : Store) (r : SV) (P' : Store), args.length = n ∧
  Rel K bs ρ σ (args ++ os) (vs ++ ws) P H ∧ m args P = some (r, P') ∧ ∀ v H', Rel K bs ρ σ (r :: os) (v :: ws) P' H' → Q v H'
theorem spM_imp {K : PySem.W.Frag} {m m' : FM} {n : Nat} (h : ∀ args P r, m' args P = some r → m args P = some r) : ∀ vs H Q E, spM K m' n vs H Q E → spM K m n vs H Q E :=
  fun vs H Q E ⟨e, bs, ρ, σ, os, ws, args, P, r, P', e2, R, em, q⟩ => ⟨e, bs, ρ, σ, os, ws, args, P, r, P', e2, R, h _ _ _ em, q⟩
theorem fn_none {P : Program} {w : World} {K : PySem.W.Frag} {mg : Str → Option Value} {base : Heap} {k n : Nat} {f : Addr} {fd : FuncData} {ps : List Str} {m : FM} (hm : ∀ args P, m args P = none) : FnOk P w K mg base CX0 k f fd ps (spM K m n) :=
  have no : ∀ vs H Q E, ¬ spM K m n vs H Q E := fun vs H Q E h => by
    obtain ⟨_, _, _, _, _, _, _, _, _, _, _, _, e, _⟩ := h
    rw [hm] at e; cases e
  ⟨fun vs H Q E h => absurd h (no vs H Q E), fun A outer s H args us vs Q E _ _ _ _ h => absurd h (no vs H Q E)⟩

/-! ### the body -/
def startE (n : Nat) (args : List SV) : List (Option SV) := args.map some ++ List.replicate (n - args.length) none
/-- what a def hands back: data -/
def exitZ (n : Nat) (r : SV) (P : Store) : Option (SV × Store) := match r with
  | .fz d => some (.fz d, P.take n)
  | .ptr k => if n ≤ k then (P[k]?.bind Cell.dat).map fun d => (.fz d, P.take n) else none
/-- .. or a cell -/
def exitC (n : Nat) (r : SV) (P : Store) : Option (SV × Store) := match r with
  | .fz d => some (.fz d, P.take n)
  | .ptr k => if n ≤ k then P[k]?.bind fun c => if c.ps = [] then some (.ptr n, P.take n ++ [c]) else none else some (.ptr k, P.take n)
def mFun (ex : Nat → SV → Store → Option (SV × Store)) (nN : Nat) (body : SM) : FM := fun args P => (body { b := P.length, sl := startE nN args } P).bind fun (fl, _, P2) => match fl with
  | .rt r => ex P.length r P2
  | .nx => ex P.length (.fz .none) P2
  | _ => none
abbrev mFunZ := mFun exitZ
abbrev mFunC := mFun exitC
/-- what an exit keeps -/
def ExOk (ex : Nat → SV → Store → Option (SV × Store)) : Prop := ∀ (K : PySem.W.Frag) (bs : List Nat) (ρ ρ' : EV) (σ σ' : L2.St) (os : List SV) (ws : List V) (r : SV) (v : V) (P' P'' : Store) (H F : Hp) (ad : List Addr) (n : Nat) (z : SV),
  RelX K (n :: bs) ρ' σ' (r :: os) (v :: ws) P' H F ad → SlR K F ad ρ.sl σ → (∀ (i : Nat) (s : SV), ρ.sl[i]? = some (some s) → s.lt n) → (∀ s ∈ os, s.lt n) → (∀ c ∈ bs, c ≤ ρ.b) → (∀ c ∈ bs, c ≤ n) → n ≤ P'.length → ex n r P' = some (z, P'') →
  Rel K bs ρ σ (z :: os) (v :: ws) P'' H
theorem exitZ_ok : ExOk exitZ := by
  intro K bs ρ ρ' σ σ' os ws r v P' P'' H F ad n z R hs hl ho hb hbn hn e
  obtain ⟨rr, R1⟩ := R.pop
  cases r with
  | fz d =>
    simp only [exitZ, Option.some.injEq, Prod.mk.injEq] at e
    obtain ⟨rfl, rfl⟩ := e
    have R2 := R1.cut hs hl R1.tops ho hb hbn
    exact ⟨F, _, R2.push (show SVR K F _ _ (.fz d) from rr)⟩
  | ptr k =>
    simp only [exitZ] at e
    split at e
    · rename_i hk
      simp only [Option.map_eq_some_iff, Prod.mk.injEq] at e
      obtain ⟨d, e1, rfl, rfl⟩ := e
      have ef : frz P' (.ptr k) = some (d, P'.set k (.fz d)) := by simp only [frz]; rw [e1]; rfl
      obtain ⟨G, R2, l, fd⟩ := R1.freeze rr ef
      have R3 := R2.cut (hs.mono l (.refl _)) hl R2.tops ho hb hbn
      rw [List.take_set_of_le hk] at R3
      exact ⟨G, _, R3.push (show SVR K G _ _ (.fz d) from fd)⟩
    · cases e
theorem no_ps {K : PySem.W.Frag} {F H : Hp} {ad ad' : List Addr} {a : Addr} {c : Cell} (h : c.ps = []) (x : CellR K F H ad a c) : CellR K F H ad' a c := by
  have h0 : CellR K F H (ad.take 0) a c := x.take (n := 0) fun j hj => by rw [h] at hj; cases hj
  exact h0.grow (.refl _) (fun k b e => by simp at e) rfl id
theorem RelX.adopt {K : PySem.W.Frag} {bs : List Nat} {ρ : EV} {σ : L2.St} {os : List SV} {vs : List V} {P : Store} {H F : Hp} {ad : List Addr} (R : RelX K bs ρ σ os vs P H F ad) {a : Addr} {c : Cell} (na : a ∉ ad) (th : ∃ o, H a = some o) (hc : CellR K F H (ad ++ [a]) a c) (hp : c.ps = []) :
    RelX K bs ρ σ (.ptr P.length :: os) (.ref a :: vs) (P ++ [c]) H F (ad ++ [a]) := by
  have pr : Pre ad (ad ++ [a]) := .push _ _
  refine ⟨R.sub, by simp [R.len], ?_, fun b hb => ?_, fun k x b e1 e2 => ?_, R.slots.mono (.refl _) pr, .cons ⟨a, by rw [← R.len]; simp, rfl⟩ (R.tops.mono (.refl _) pr), ⟨fun c hc => ?_, fun c hc k x hk e j hj => ?_⟩, R.bb⟩
  · rw [List.nodup_append]
    refine ⟨R.nd, by simp, fun b hb d hd e => ?_⟩
    have : d = a := by simpa using hd
    subst this; subst e
    exact na hb
  · rcases List.mem_append.mp hb with hb | hb
    · exact R.there b hb
    · have : b = a := by simpa using hb
      subst this; exact th
  · by_cases hk : k < P.length
    · rw [List.getElem?_append_left hk] at e1
      rw [List.getElem?_append_left (by rw [R.len]; exact hk)] at e2
      exact (R.cells k x b e1 e2).grow (.refl _) pr rfl id
    · have hk' : k = P.length := by
        have := (List.getElem?_eq_some_iff.mp e1).1
        simp at this
        omega
      subst hk'
      have e1' : c = x := by simpa using e1
      have e2' : a = b := by rw [← R.len] at e2; simpa using e2
      subst e1'; subst e2'
      exact hc
  · have := R.bas.le c hc
    simp; omega
  · have hl := R.bas.le c hc
    rw [List.getElem?_append_left (by omega)] at e
    exact R.bas.low c hc k x hk e j hj
theorem exitC_ok : ExOk exitC := by
  intro K bs ρ ρ' σ σ' os ws r v P' P'' H F ad n z R hs hl ho hb hbn hn e
  obtain ⟨rr, R1⟩ := R.pop
  have R2 := R1.cut hs hl R1.tops ho hb hbn
  cases r with
  | fz d =>
    simp only [exitC, Option.some.injEq, Prod.mk.injEq] at e
    obtain ⟨rfl, rfl⟩ := e
    exact ⟨F, _, R2.push (show SVR K F _ _ (.fz d) from rr)⟩
  | ptr k =>
    simp only [exitC] at e
    split at e
    · rename_i hk
      simp only [Option.bind_eq_some_iff] at e
      obtain ⟨c, e1, e2⟩ := e
      split at e2
      · rename_i hp
        cases e2
        obtain ⟨a, ha, rfl, hc⟩ := R1.at rr e1
        have na : a ∉ ad.take n := fun hm => by
          obtain ⟨j, hj, ej⟩ := List.getElem_of_mem hm
          rw [List.length_take] at hj
          rw [List.getElem_take] at ej
          obtain ⟨h2, q2⟩ := List.getElem?_eq_some_iff.mp ha
          have := (List.getElem_inj R.nd).mp (ej.trans q2.symm)
          omega
        have R3 := R2.adopt na (R.there a (List.mem_of_getElem? ha)) (no_ps hp hc) hp
        have en : (P'.take n).length = n := by rw [List.length_take]; omega
        rw [en] at R3
        exact ⟨F, _, R3⟩
      · cases e2
    · rename_i hk
      cases e
      exact ⟨F, _, R2.push (SVR.take rr (show k < n by omega))⟩
section
variable {P : Program} {w : World} {K : PySem.W.Frag} {mg : Str → Option Value} {base : Heap}
theorem startE_len {n : Nat} {args : List SV} (h : args.length ≤ n) : (startE n args).length = n := by simp [startE]; omega
theorem startE_at {n : Nat} {args : List SV} {i : Nat} {s : SV} (e : (startE n args)[i]? = some (some s)) : args[i]? = some s := by
  unfold startE at e
  by_cases hi : i < args.length
  · rw [List.getElem?_append_left (by simpa using hi), List.getElem?_map] at e
    cases h : args[i]? with
    | none => rw [h] at e; cases e
    | some a => rw [h] at e; cases e; rfl
  · rw [List.getElem?_append_right (by simpa using Nat.le_of_not_lt hi), List.getElem?_replicate] at e
    split at e <;> cases e
theorem SVA.slots {K : PySem.W.Frag} {F : Hp} {ad : List Addr} {args : List SV} {vs : List V} {N : List Str} (h : SVA K F ad vs args) (hn : args.length ≤ N.length) : SlR K F ad (startE N.length args) (L2.start N vs) := by
  have hl := h.length
  refine ⟨by rw [startE_len hn]; simp [L2.start]; omega, fun i s e => ?_⟩
  have e2 := startE_at e
  obtain ⟨v, hv, r⟩ := h.get e2
  refine ⟨v, ?_, r⟩
  unfold L2.start
  have hi : i < vs.length := (List.getElem?_eq_some_iff.mp hv).1
  rw [List.getElem?_append_left (by simpa using hi), List.getElem?_map, hv]; rfl
/-- THE RULE for a def -/
theorem fn_m {x qual : Str} {st : Stmt} {f : Addr} {fd : FuncData} {N ps : List Str} {k nN np : Nat} {body : SM} {ex : Nat → SV → Store → Option (SV × Store)} (hex : ExOk ex) (F : L2.Fun K x qual st f fd) (S : FnScope N ps (defScope st)) (hN : N.length = nN) (hp : ps.length = np) (hpn : np ≤ nN)
    (hb : ∀ (cdv : Value) (A : Around) (outer : List Env) (s : Shared) (H : Hp) (E : XK), Room k (A.deeper (envOfC qual (defScope st) s.heap.objs.size f cdv)) → PSsd (cxOf CX0 P w K mg base N qual (defScope st) f cdv A outer s H E).nox (defBody st) body) :
    FnOk P w K mg base CX0 (k + 1) f fd ps (spM K (mFun ex nN body) np) := by
  refine F.ok S (fun vs H Q E h => h.1.trans hp.symm) fun cdv A outer s H vs Q E hr h => ?_
  obtain ⟨hv, bs, ρ, σ, os, ws, args, P0, r, P', ha, R, em, q⟩ := h
  obtain ⟨t, p, h1⟩ := hb cdv A outer s H E hr
  refine ⟨t, p, ?_⟩
  simp only [mFun, Option.bind_eq_some_iff] at em
  obtain ⟨⟨fl, ρ2, P2⟩, e1, e2⟩ := em
  obtain ⟨F0, ad, R⟩ := R
  obtain ⟨ra, ro⟩ := SVA.split (hv.trans ha.symm) R.tops
  obtain ⟨ls, us, la, lb⟩ := R.slots.list
  have hlt := R.slotsLt
  have hto := R.topsLt
  have hbb := R.bb
  have hbl := R.bas.le
  have R1 := (R.tops_of (la.append ro)).enter
  have sl : SlR K F0 ad (startE nN args) (L2.start N vs) := by rw [← hN]; exact SVA.slots ra (by omega)
  have R2 : Rel K (P0.length :: bs) { b := P0.length, sl := startE nN args } (L2.start N vs) (ls ++ os) (us ++ ws) P0 H := ⟨F0, ad, { R1 with slots := sl, bb := R1.bb }⟩
  have out : ∀ {ρ' : EV} {σ' : L2.St} {z : SV} {v : V} {H' : Hp}, Rel K (P0.length :: bs) ρ' σ' (z :: (ls ++ os)) (v :: (us ++ ws)) P2 H' → ex P0.length z P2 = some (r, P') → Rel K bs ρ σ (r :: os) (v :: ws) P' H' := by
    rintro ρ' σ' z v H' ⟨G, ad', R3⟩ ez
    obtain ⟨rz, R4⟩ := R3.pop
    obtain ⟨sa, so⟩ := SVA.split la.length R4.tops
    exact hex K bs ρ ρ' σ σ' os ws z v P2 P' H' G ad' P0.length r (R3.tops_of (.cons rz so)) (lb G ad' sa) hlt (fun s hs => hto s (List.mem_append_right _ hs)) hbb hbl (R3.bas.le _ List.mem_cons_self) ez
  refine h1 (P0.length :: bs) _ (L2.start N vs) (ls ++ os) (us ++ ws) P0 H _ (fl, ρ2, P2) R2 e1 ?_
  cases fl with
  | nx =>
    intro σ' H' R3
    obtain ⟨G, ad', R3⟩ := R3
    exact q _ _ (out ⟨G, ad', R3.push (d := .fz .none) (show Fz K G .non .none from .non)⟩ e2)
  | rt z => exact fun σ' v H' R3 => q _ _ (out R3 e2)
  | bk => cases e2
  | ct => cases e2
end
section
variable {X : Cx} {pos : Pos}
/-- f(e, ..) -/
def mCallF (m : FM) (fs : AM) : XM := fun ρ P => (fs ρ P).bind fun (l, P1) => m l P1
theorem ped_call {x : Str} {p : Pos} {k n : Nat} {f : Addr} {fd : FuncData} {ps : List Str} {e : Expr} {es : List Expr} {m : FM} {fs : AM} (F : FnOk X.prog X.w X.K X.mg X.base CX0 k f fd ps (spM X.K m n)) (hr : Room k X.A) (hg : Gl X x) (hm : X.mg x = some (.ref f)) (hk : PySem.W.keepIn X.K (.ref f) = true) (hb : Binds X.K fd ps [])
    (ha : PAd X (e :: es) fs) (hn : ∀ ρ P l P', fs ρ P = some (l, P') → l.length = n)
    (hs : starEach (e :: es) X.env = (false, eval e X.env) :: starEach es X.env := by rfl) (hpl : (backTo pos (starEach es X.env)).any (·.1) = false := by rfl) (hdb : (x == ("__debug__" : Str)) = false := by decide) : PEd X (.Call (.Name x p) (e :: es) [] pos) (mCallF m fs) := by
  obtain ⟨t, pa, h1⟩ := ha
  refine ⟨_, pe_call F hr hg hm hk hb .nil pass0 pa (he := hs) (hpl := hpl) (hdb := hdb), fun bs ρ σ os vs P H Q r P' R e q => ?_⟩
  simp only [mCallF, Option.bind_eq_some_iff] at e
  obtain ⟨⟨l, P1⟩, e1, e2⟩ := e
  refine h1 bs ρ σ os vs P H _ l P1 R e1 fun ws H1 hl R1 => ?_
  obtain ⟨F, ad, R1⟩ := R1
  obtain ⟨ra, R2⟩ := R1.args hl
  have hln := hn _ _ _ _ e1
  exact ⟨by simp [hl, hln], bs, ρ, σ, os, vs, l, P1, r, P', hln, ⟨F, ad, by rw [List.append_nil]; exact R2.tops_of (ra.append R2.tops)⟩, e2, q⟩
end
end Pd

set_option Elab.async false
set_option linter.all false
set_option maxRecDepth 100000
set_option maxHeartbeats 1000000
/-! The layer Pd, part J: stores to lists, dicts. -/
namespace Pd
open PySem PySem.Spec PyProof.Rows L2
section
variable {X : Cx} {pos : Pos}

/-! ### xs[i] = v -/
def gIx (fo fi : XM) : GM := fun s ρ P => (fo ρ P).bind fun (o, P1) => (fi ρ P1).bind fun (i, P2) => match o, i with
  | .ptr k, .fz (.int i) => match P2[k]? with
    | some (.lst l) => if okPtr ρ.b k s = true then (ixN l.length i).map fun j => (ρ, P2.set k (.lst (l.set j s))) else none
    | _ => none
  | _, _ => none
theorem ps_of_set {l : List SV} {j : Nat} {s : SV} : ∀ i ∈ (l.set j s).flatMap SV.ps, i ∈ l.flatMap SV.ps ∨ i ∈ s.ps := fun i hi => by
  obtain ⟨x, hx, q⟩ := List.mem_flatMap.mp hi
  rcases List.mem_or_eq_of_mem_set hx with h | h
  · exact .inl (List.mem_flatMap.mpr ⟨x, h, q⟩)
  · subst h; exact .inr q
theorem pgd_ix {o i : Expr} {fo fi : XM} (ho : PEd X o fo) (hi : PEd X i fi)
    (ha : ∀ v, assign (.Subscript o i pos) X.env v = (do
      let ov ← holding [v] (eval o X.env)
      let iv ← holding [v, ov] (eval i X.env)
      standAt pos
      holding [v, ov, iv] (setItem ov iv v)
      release [v, ov, iv] []) := by intro _; rfl) : PGd X (.Subscript o i pos) [] (gIx fo fi) := by
  obtain ⟨t, p, h1⟩ := ho
  obtain ⟨u, p', h2⟩ := hi
  refine ⟨_, pg_sub p p' set_list ha, fun bs ρ σ os vs P H s v Q ρ' P' R e q => ?_⟩
  simp only [gIx, Option.bind_eq_some_iff] at e
  obtain ⟨⟨s1, P1⟩, e1, ⟨s2, P2⟩, e2, e3⟩ := e
  simp only at e3
  split at e3
  · rename_i k i
    split at e3
    · rename_i l hk
      split at e3
      · rename_i hz
        simp only [Option.map_eq_some_iff, Prod.mk.injEq] at e3
        obtain ⟨j, hj, rfl, rfl⟩ := e3
        refine h1 bs ρ σ _ _ P H _ _ P1 R e1 fun x H1 R1 => ?_
        refine h2 bs ρ σ _ _ P1 H1 _ _ P2 R1 e2 fun y H2 R2 => ?_
        obtain ⟨F, ad, R2⟩ := R2
        obtain ⟨r2, R3⟩ := R2.pop
        obtain ⟨r1, R4⟩ := R3.pop
        obtain ⟨r0, R5⟩ := R4.pop
        obtain ⟨a, ha, rfl, hc⟩ := R5.at r1 hk
        obtain ⟨hF, xs, hx, tx⟩ := hc
        cases r2
        refine ⟨a, xs, i, j, rfl, rfl, hx, by rw [tx.length]; exact hj, q _ _ ⟨F, ad, R5.put (c := .lst (l.set j s)) hk ha hF ⟨hF, _, upd_same, tx.set r0 j⟩ fun m hm => ?_⟩ ⟨rfl, fun _ _ => rfl⟩⟩
        rcases ps_of_set m hm with h | h
        · exact .inl h
        · exact .inr (okPtr_ps hz m h)
      · cases e3
    · cases e3
  · cases e3

/-! ### dicts -/
def keyOf : PyData → Option Key
  | .int i => some (.inl i)
  | .str x => some (.inr x)
  | _ => none
def keysOf : List PyData → Option (List Key)
  | [] => some []
  | d :: r => (keyOf d).bind fun k => (keysOf r).map (k :: ·)
def tkeyOf : PyData → Option (List Key)
  | .tuple ds => keysOf ds
  | _ => none
theorem keyOf_D (k : Key) : keyOf (keyD k) = some k := by cases k <;> rfl
theorem keysOf_D : ∀ l : List Key, keysOf (l.map keyD) = some l
  | [] => rfl
  | k :: l => by simp [keysOf, keyOf_D, keysOf_D l]
theorem keyOf_some {d : PyData} {k : Key} (h : keyOf d = some k) : d = keyD k := by
  cases d <;> simp only [keyOf, Option.some.injEq] at h <;> first | (subst h; rfl) | cases h
theorem keysOf_some : ∀ {ds : List PyData} {l : List Key}, keysOf ds = some l → ds = l.map keyD
  | [], l, h => by simp only [keysOf, Option.some.injEq] at h; subst h; rfl
  | d :: r, l, h => by
    simp only [keysOf, Option.bind_eq_some_iff, Option.map_eq_some_iff] at h
    obtain ⟨k, h1, m, h2, rfl⟩ := h
    rw [keyOf_some h1, keysOf_some h2]; rfl
def parseK : List (PyData × PyData) → Option (List (Key × SV))
  | [] => some []
  | (k, d) :: r => (keyOf k).bind fun k => (parseK r).map ((k, .fz d) :: ·)
def parseT : List (PyData × PyData) → Option (List (List Key × SV))
  | [] => some []
  | (k, d) :: r => (tkeyOf k).bind fun k => (parseT r).map ((k, .fz d) :: ·)
/-- the pairs of a dict: keys ints and texts, or tuples of them -/
inductive Dct
  | k (l : List (Key × SV))
  | t (l : List (List Key × SV))
def dictOf (P : Store) : SV → Option Dct
  | .fz (.dict []) => none
  | .fz (.dict kvs) => match parseK kvs with
    | some l => some (.k l)
    | none => (parseT kvs).map .t
  | .fz _ => none
  | .ptr k => match P[k]? with
    | some (.dK l) => some (.k l)
    | some (.dT l) => some (.t l)
    | some (.fz (.dict [])) => none
    | some (.fz (.dict kvs)) => match parseK kvs with
      | some l => some (.k l)
      | none => (parseT kvs).map .t
    | _ => none
def DctR (K : PySem.W.Frag) (F H : Hp) (ad : List Addr) (a : Addr) : Dct → Prop
  | .k l => ∃ xs, Rd H a (.dK ((l.map (·.1)).zip xs)) ∧ SVA K F ad xs (l.map (·.2))
  | .t l => ∃ xs, Rd H a (.dT ((l.map (·.1)).zip xs)) ∧ SVA K F ad xs (l.map (·.2))
theorem parseK_zip : ∀ (ks : List Key) (ds : List PyData), ks.length = ds.length → parseK ((ks.map keyD).zip ds) = some (ks.zip (ds.map SV.fz))
  | [], [], _ => rfl
  | k :: ks, d :: ds, h => by simp [parseK, keyOf_D, parseK_zip ks ds (by simpa using h)]
  | [], _ :: _, h => by simp at h
  | _ :: _, [], h => by simp at h
theorem parseT_zip : ∀ (ks : List (List Key)) (ds : List PyData), ks.length = ds.length → parseT ((ks.map fun k => PyData.tuple (k.map keyD)).zip ds) = some (ks.zip (ds.map SV.fz))
  | [], [], _ => rfl
  | k :: ks, d :: ds, h => by simp [parseT, tkeyOf, keysOf_D, parseT_zip ks ds (by simpa using h)]
  | [], _ :: _, h => by simp at h
  | _ :: _, [], h => by simp at h
theorem FzA.sva {K : PySem.W.Frag} {F : Hp} {ad : List Addr} : ∀ {xs : List V} {ds : List PyData}, FzA K F xs ds → SVA K F ad xs (ds.map SV.fz)
  | _, _, .nil => .nil
  | _, _, .cons a t => .cons a (FzA.sva t)
theorem map_fst_zip {α β : Type} : ∀ (l : List α) (m : List β), l.length = m.length → (l.zip m).map (·.1) = l
  | [], [], _ => rfl
  | a :: l, b :: m, h => by simp [map_fst_zip l m (by simpa using h)]
  | [], _ :: _, h => by simp at h
  | _ :: _, [], h => by simp at h
theorem map_snd_zip {α β : Type} : ∀ (l : List α) (m : List β), l.length = m.length → (l.zip m).map (·.2) = m
  | [], [], _ => rfl
  | a :: l, b :: m, h => by simp [map_snd_zip l m (by simpa using h)]
  | [], _ :: _, h => by simp at h
  | _ :: _, [], h => by simp at h
theorem frz_dct {K : PySem.W.Frag} {F H : Hp} {ad : List Addr} {a : Addr} {kvs : List (PyData × PyData)} {D : Dct} (s : Sub F H) (h : Fz K F (.ref a) (.dict kvs)) (ne : kvs ≠ [])
    (e : (match parseK kvs with | some l => some (Dct.k l) | none => (parseT kvs).map .t) = some D) : DctR K F H ad a D := by
  cases h with
  | @dK _ ks xs ds hp hl t =>
    have hn := t.length
    rw [parseK_zip ks ds (by omega)] at e
    cases e
    refine ⟨xs, ?_, ?_⟩
    · rw [map_fst_zip _ _ (by simp; omega)]
      rcases s _ _ hp with e | ⟨_, o, e⟩
      · exact .inl e
      · exact .inr ⟨o, e⟩
    · rw [map_snd_zip _ _ (by simp; omega)]
      exact t.sva
  | @dT _ ks xs ds hp hl t =>
    have hn := t.length
    have hk : parseK ((ks.map fun k => PyData.tuple (k.map keyD)).zip ds) = none := by
      cases ks with
      | nil => simp at ne
      | cons k ks =>
        cases ds with
        | nil => simp at ne
        | cons d ds => simp [parseK, keyOf]
    rw [hk, parseT_zip ks ds (by omega)] at e
    cases e
    refine ⟨xs, ?_, ?_⟩
    · rw [map_fst_zip _ _ (by simp; omega)]
      rcases s _ _ hp with e | ⟨z, _⟩
      · exact .inl e
      · cases z
    · rw [map_snd_zip _ _ (by simp; omega)]
      exact t.sva
theorem Fz.isRef {K : PySem.W.Frag} {F : Hp} {v : V} {d : PyData} (h : Fz K F v d) : (∃ kvs, d = .dict kvs) → ∃ a, v = .ref a := by
  cases h <;> simp
theorem RelX.dct {K : PySem.W.Frag} {bs : List Nat} {ρ : EV} {σ : L2.St} {os : List SV} {vs : List V} {P : Store} {H F : Hp} {ad : List Addr} (R : RelX K bs ρ σ os vs P H F ad) {v : V} {s : SV} {D : Dct} (h : SVR K F ad v s) (e : dictOf P s = some D) : ∃ a, v = .ref a ∧ DctR K F H ad a D := by
  cases s with
  | fz d =>
    cases d with
    | dict kvs =>
      cases kvs with
      | nil => cases e
      | cons p r =>
        have hv : ∃ a, v = .ref a := Fz.isRef h ⟨_, rfl⟩
        obtain ⟨a, rfl⟩ := hv
        exact ⟨a, rfl, frz_dct R.sub h (by simp) e⟩
    | _ => cases e
  | ptr k =>
    unfold dictOf at e
    split at e
    · rename_i heq; cases heq
    · rename_i heq; cases heq
    · rename_i heq; cases heq
    · rename_i k' heq
      cases heq
      split at e
      · rename_i l hk
        cases e
        obtain ⟨a, _, rfl, _, xs, hx, t⟩ := R.at h hk
        exact ⟨a, rfl, xs, .inl hx, t⟩
      · rename_i l hk
        cases e
        obtain ⟨a, _, rfl, _, xs, hx, t⟩ := R.at h hk
        exact ⟨a, rfl, xs, .inl hx, t⟩
      · cases e
      · rename_i kvs ne hk
        obtain ⟨a, _, rfl, hc⟩ := R.at h hk
        exact ⟨a, rfl, frz_dct R.sub hc (fun z => ne z) e⟩
      · cases e
/-- d.get(k) of pairs -/
def lookS {κ : Type} [DecidableEq κ] (l : List (κ × SV)) (k : κ) : Option SV := (l.find? fun p => decide (p.1 = k)).map (·.2)
theorem look_zip {κ : Type} [DecidableEq κ] {K : PySem.W.Frag} {F : Hp} {ad : List Addr} (k : κ) : ∀ (l : List (κ × SV)) (xs : List V), SVA K F ad xs (l.map (·.2)) →
    (lookS l k = none ∧ valV ((l.map (·.1)).zip xs) k = none) ∨ ∃ s v, lookS l k = some s ∧ valV ((l.map (·.1)).zip xs) k = some v ∧ SVR K F ad v s
  | [], xs, h => .inl ⟨rfl, by cases h; rfl⟩
  | p :: l, xs, h => by
    cases h with
    | cons a t =>
      rename_i v vs
      by_cases e : p.1 = k
      · refine .inr ⟨p.2, v, by simp [lookS, List.find?_cons, e], ?_, a⟩
        exact valV_pos (p := (p.1, v)) e
      · have h1 : lookS (p :: l) k = lookS l k := by simp [lookS, List.find?_cons, e]
        have h2 : valV (((p :: l).map (·.1)).zip (v :: vs)) k = valV ((l.map (·.1)).zip vs) k := valV_neg (p := (p.1, v)) e
        rw [h1, h2]
        exact look_zip k l vs t
def dlook (D : Dct) (kd : PyData) : Option (Option SV) := match D with
  | .k l => (keyOf kd).map fun k => lookS l k
  | .t l => (tkeyOf kd).map fun k => lookS l k
theorem dget_of {K : PySem.W.Frag} {F H : Hp} {ad : List Addr} {a : Addr} {D : Dct} {kd : PyData} {y : V} {o : Option SV} (s : Sub F H) (h : DctR K F H ad a D) (hk : Vw K F H y kd) (e : dlook D kd = some o) :
    (o = none ∧ DGet H a y none) ∨ ∃ z v, o = some z ∧ DGet H a y (some v) ∧ SVR K F ad v z := by
  cases D with
  | k l =>
    simp only [dlook, Option.map_eq_some_iff] at e
    obtain ⟨k, e1, rfl⟩ := e
    obtain ⟨xs, hr, t⟩ := h
    have ey : y = kV k := by
      have e2 := keyOf_some e1
      subst e2
      cases k with
      | inl i => exact hk.ints
      | inr x => exact hk.strs
    rcases look_zip k l xs t with ⟨h1, h2⟩ | ⟨z, v, h1, h2, r⟩
    · exact .inl ⟨h1, .inl ⟨_, k, hr, ey, h2.symm⟩⟩
    · exact .inr ⟨z, v, h1, .inl ⟨_, k, hr, ey, h2.symm⟩, r⟩
  | t l =>
    simp only [dlook, Option.map_eq_some_iff] at e
    obtain ⟨k, e1, rfl⟩ := e
    obtain ⟨xs, hr, t⟩ := h
    cases kd with
    | tuple ds =>
      have e2 := keysOf_some (show keysOf ds = some k from e1)
      subst e2
      obtain ⟨b, ys, rfl, hb, tb, _⟩ := hk.tups s
      have eys : ys = k.map kV := by
        have : ∀ (k : List Key) (ys : List V), FzA K F ys (k.map keyD) → ys = k.map kV := by
          intro k
          induction k with
          | nil => intro ys h; cases h; rfl
          | cons a k ih =>
            intro ys h
            cases h with
            | cons q r =>
              rw [ih _ r]
              cases a <;> (cases q; rfl)
        exact this k ys tb
      subst eys
      rcases look_zip k l xs t with ⟨h1, h2⟩ | ⟨z, v, h1, h2, r⟩
      · exact .inl ⟨h1, .inr ⟨_, k, b, hr, rfl, hb, h2.symm⟩⟩
      · exact .inr ⟨z, v, h1, .inr ⟨_, k, b, hr, rfl, hb, h2.symm⟩, r⟩
    | _ => simp [tkeyOf] at e1
/-- k in d -/
def mDIn (n : Bool) (fk fd : XM) : XM := fun ρ P => (fk ρ P).bind fun (k, P1) => (fd ρ P1).bind fun (d, P2) => (flat P2 k).bind fun kd => (dictOf P2 d).bind fun D => (dlook D kd).map fun o => (.fz (.bool (n != o.isSome)), P2)
theorem din_d {fk fd : XM} {n : Bool} {tk td : TE}
    (h1 : ∀ (bs : List Nat) (ρ : EV) (σ : L2.St) (os : List SV) (vs : List V) (P : Store) (H : Hp) (Q : VK) (r : SV) (P' : Store), Rel X.K bs ρ σ os vs P H → fk ρ P = some (r, P') → (∀ v H', Rel X.K bs ρ σ (r :: os) (v :: vs) P' H' → Q v H') → tk σ H Q)
    (h2 : ∀ (bs : List Nat) (ρ : EV) (σ : L2.St) (os : List SV) (vs : List V) (P : Store) (H : Hp) (Q : VK) (r : SV) (P' : Store), Rel X.K bs ρ σ os vs P H → fd ρ P = some (r, P') → (∀ v H', Rel X.K bs ρ σ (r :: os) (v :: vs) P' H' → Q v H') → td σ H Q)
    (bs : List Nat) (ρ : EV) (σ : L2.St) (os : List SV) (vs : List V) (P : Store) (H : Hp) (Q : VK) (w : SV) (P' : Store) (R : Rel X.K bs ρ σ os vs P H) (e : mDIn n fk fd ρ P = some (w, P')) (q : ∀ v H', Rel X.K bs ρ σ (w :: os) (v :: vs) P' H' → Q v H') :
    tk σ H fun y H1 => td σ H1 fun x H2 => ∃ a o, x = .ref a ∧ DGet H2 a y o ∧ Q (.bl (n != o.isSome)) H2 := by
  simp only [mDIn, Option.bind_eq_some_iff, Option.map_eq_some_iff, Prod.mk.injEq] at e
  obtain ⟨⟨s1, P1⟩, e1, ⟨s2, P2⟩, e2, kd, e3, D, e4, o, e5, rfl, rfl⟩ := e
  refine h1 bs ρ σ os vs P H _ s1 P1 R e1 fun y H1 R1 => ?_
  refine h2 bs ρ σ _ _ P1 H1 _ s2 P2 R1 e2 fun x H2 R2 => ?_
  obtain ⟨F, ad, R2⟩ := R2
  obtain ⟨r2, R3⟩ := R2.pop
  obtain ⟨r1, R4⟩ := R3.pop
  obtain ⟨a, rfl, hd⟩ := R2.dct r2 e4
  rcases dget_of R2.sub hd (R2.view r1 e3) e5 with ⟨rfl, g⟩ | ⟨z, v, rfl, g, r⟩
  · exact ⟨a, none, rfl, g, q _ _ (R4.atom (.bl _))⟩
  · exact ⟨a, some v, rfl, g, q _ _ (R4.atom (.bl _))⟩
theorem ped_din {i o : Expr} {fk fd : XM} (hu : X.A.units + 65 < cLine) (hk : PEd X i fk) (hd : PEd X o fd) (hm : behindInMarks .In o = false) : PEd X (.Compare i [.In] [o] pos) (mDIn false fk fd) := by
  obtain ⟨t, p, h1⟩ := hk
  obtain ⟨u, p', h2⟩ := hd
  refine ⟨_, pe_cmp (pc_din (by omega) p p') hm, fun bs ρ σ os vs P H Q w P' R e q => ?_⟩
  have := din_d h1 h2 bs ρ σ os vs P H Q w P' R e q
  simpa [tDIn] using this
theorem ped_dnotin {i o : Expr} {fk fd : XM} (hu : X.A.units + 65 < cLine) (hk : PEd X i fk) (hd : PEd X o fd) (hm : behindInMarks .NotIn o = false) : PEd X (.Compare i [.NotIn] [o] pos) (mDIn true fk fd) := by
  obtain ⟨t, p, h1⟩ := hk
  obtain ⟨u, p', h2⟩ := hd
  refine ⟨_, pe_cmp (pc_dnotin (by omega) p p') hm, fun bs ρ σ os vs P H Q w P' R e q => ?_⟩
  have := din_d h1 h2 bs ρ σ os vs P H Q w P' R e q
  simpa [tDNotIn] using this
theorem ptd_of_din {i o : Expr} {fk fd : XM} (hu : X.A.units + 65 < cLine) (hk : PEd X i fk) (hd : PEd X o fd) (hm : behindInMarks .In o = false) : PTd X (.Compare i [.In] [o] pos) (mTB (mDIn false fk fd)) := by
  obtain ⟨t, p, h1⟩ := hk
  obtain ⟨u, p', h2⟩ := hd
  refine ⟨_, pt_cmp (pc_din (by omega) p p') hm, fun bs ρ σ os vs P H Q w P' R e q => ?_⟩
  simp only [mTB, Option.bind_eq_some_iff] at e
  obtain ⟨⟨s1, P1⟩, e1, e2⟩ := e
  have := din_d (n := false) h1 h2 bs ρ σ os vs P H (fun x H1 => ∃ c, x = .bl c ∧ Q c H1) s1 P1 R e1 fun v H1 R1 => by
    simp only at e2
    split at e2
    · cases e2
      obtain ⟨F, ad, R0⟩ := R1
      obtain ⟨r1, R2⟩ := R0.pop
      cases r1
      exact ⟨_, rfl, q _ ⟨F, ad, R2⟩⟩
    · cases e2
  simpa [tB, tDIn] using this
theorem ptd_of_dnotin {i o : Expr} {fk fd : XM} (hu : X.A.units + 65 < cLine) (hk : PEd X i fk) (hd : PEd X o fd) (hm : behindInMarks .NotIn o = false) : PTd X (.Compare i [.NotIn] [o] pos) (mTB (mDIn true fk fd)) := by
  obtain ⟨t, p, h1⟩ := hk
  obtain ⟨u, p', h2⟩ := hd
  refine ⟨_, pt_cmp (pc_dnotin (by omega) p p') hm, fun bs ρ σ os vs P H Q w P' R e q => ?_⟩
  simp only [mTB, Option.bind_eq_some_iff] at e
  obtain ⟨⟨s1, P1⟩, e1, e2⟩ := e
  have := din_d (n := true) h1 h2 bs ρ σ os vs P H (fun x H1 => ∃ c, x = .bl c ∧ Q c H1) s1 P1 R e1 fun v H1 R1 => by
    simp only at e2
    split at e2
    · cases e2
      obtain ⟨F, ad, R0⟩ := R1
      obtain ⟨r1, R2⟩ := R0.pop
      cases r1
      exact ⟨_, rfl, q _ ⟨F, ad, R2⟩⟩
    · cases e2
  simpa [tB, tDNotIn] using this
/-- d[k] -/
def mDGet (fd fk : XM) : XM := fun ρ P => (fd ρ P).bind fun (d, P1) => (fk ρ P1).bind fun (k, P2) => (flat P2 k).bind fun kd => (dictOf P2 d).bind fun D => match dlook D kd with
  | some (some s) => some (s, P2)
  | _ => none
theorem ped_dget {o i : Expr} {fd fk : XM} (hu : X.A.units + 65 < cLine) (hd : PEd X o fd) (hk : PEd X i fk) (hs : NoSl i) : PEd X (.Subscript o i pos) (mDGet fd fk) := by
  obtain ⟨t, p, h1⟩ := hd
  obtain ⟨u, p', h2⟩ := hk
  refine ⟨_, pe_dget (by omega) p p' hs, fun bs ρ σ os vs P H Q w P' R e q => ?_⟩
  simp only [mDGet, Option.bind_eq_some_iff] at e
  obtain ⟨⟨s1, P1⟩, e1, ⟨s2, P2⟩, e2, kd, e3, D, e4, e5⟩ := e
  refine h1 bs ρ σ os vs P H _ s1 P1 R e1 fun x H1 R1 => ?_
  refine h2 bs ρ σ _ _ P1 H1 _ s2 P2 R1 e2 fun y H2 R2 => ?_
  obtain ⟨F, ad, R2⟩ := R2
  obtain ⟨r2, R3⟩ := R2.pop
  obtain ⟨r1, R4⟩ := R3.pop
  obtain ⟨a, rfl, hd⟩ := R2.dct r1 e4
  split at e5
  · rename_i s hl
    cases e5
    rcases dget_of R2.sub hd (R2.view r2 e3) hl with ⟨z, _⟩ | ⟨z, v, ez, g, r⟩
    · cases z
    · cases ez
      exact ⟨a, v, rfl, g, q _ _ ⟨F, ad, R4.push r⟩⟩
  · cases e5

/-! d[k] = v, {}, {k: v, ..} -/
def putS {κ : Type} [DecidableEq κ] (l : List (κ × SV)) (k : κ) (s : SV) : List (κ × SV) :=
  if (l.any fun p => decide (p.1 = k)) = true then l.map (fun p => if p.1 = k then (p.1, s) else p) else l ++ [(k, s)]
theorem put_zip {κ : Type} [DecidableEq κ] {K : PySem.W.Frag} {F : Hp} {ad : List Addr} (k : κ) {s : SV} {v : V} (r : SVR K F ad v s) (l : List (κ × SV)) (xs : List V) (h : SVA K F ad xs (l.map (·.2))) :
    ∃ ys, putK ((l.map (·.1)).zip xs) k v = ((putS l k s).map (·.1)).zip ys ∧ SVA K F ad ys ((putS l k s).map (·.2)) := by
  have any : ∀ (l : List (κ × SV)) (xs : List V), SVA K F ad xs (l.map (·.2)) → (((l.map (·.1)).zip xs).any fun kv => decide (kv.1 = k)) = (l.any fun p => decide (p.1 = k)) := by
    intro l
    induction l with
    | nil => intro xs h; cases h; rfl
    | cons p l ih => intro xs h; cases h with | cons a t => simp [ih _ t]
  unfold putK putS
  rw [any l xs h]
  split
  · have go : ∀ (l : List (κ × SV)) (xs : List V), SVA K F ad xs (l.map (·.2)) → ∃ ys, ((l.map (·.1)).zip xs).map (fun kv => if kv.1 = k then (kv.1, v) else kv) = ((l.map (fun p => if p.1 = k then (p.1, s) else p)).map (·.1)).zip ys ∧ SVA K F ad ys ((l.map (fun p => if p.1 = k then (p.1, s) else p)).map (·.2)) := by
      intro l
      induction l with
      | nil => intro xs h; cases h; exact ⟨[], rfl, .nil⟩
      | cons p l ih =>
        intro xs h
        cases h with
        | cons a t =>
          rename_i x xs
          obtain ⟨ys, e, q⟩ := ih _ t
          by_cases hp : p.1 = k
          · refine ⟨v :: ys, ?_, ?_⟩
            · simp only [List.map_cons, List.zip_cons_cons, if_pos hp, e]
            · simp only [List.map_cons, if_pos hp]; exact .cons r q
          · refine ⟨x :: ys, ?_, ?_⟩
            · simp only [List.map_cons, List.zip_cons_cons, if_neg hp, e]
            · simp only [List.map_cons, if_neg hp]; exact .cons a q
    exact go l xs h
  · refine ⟨xs ++ [v], ?_, ?_⟩
    · have hl := h.length
      rw [List.map_append, List.zip_append (by simpa using hl.symm)]
      rfl
    · rw [List.map_append]
      exact h.append (.cons r .nil)
theorem putS_ps {κ : Type} [DecidableEq κ] (k : κ) (s : SV) (l : List (κ × SV)) : ∀ j ∈ ((putS l k s).flatMap fun p => p.2.ps), j ∈ (l.flatMap fun p => p.2.ps) ∨ j ∈ s.ps := by
  intro j hj
  unfold putS at hj
  split at hj
  · obtain ⟨p, hp, q⟩ := List.mem_flatMap.mp hj
    obtain ⟨p0, hp0, rfl⟩ := List.mem_map.mp hp
    by_cases h : p0.1 = k
    · rw [if_pos h] at q; exact .inr q
    · rw [if_neg h] at q; exact .inl (List.mem_flatMap.mpr ⟨p0, hp0, q⟩)
  · rw [List.flatMap_append] at hj
    rcases List.mem_append.mp hj with h | h
    · exact .inl h
    · exact .inr (by simpa using h)
def sDPut (fd fk fv : XM) : SM := fun ρ P => (fv ρ P).bind fun (s, P1) => (fd ρ P1).bind fun (d, P2) => (fk ρ P2).bind fun (k, P3) => (flat P3 k).bind fun kd => match d with
  | .ptr j => match P3[j]? with
    | some (.dK l) => if l.length < sizeLine ∧ okPtr ρ.b j s = true then (keyOf kd).map fun k => (.nx, ρ, P3.set j (.dK (putS l k s))) else none
    | some (.dT l) => if l.length < sizeLine ∧ okPtr ρ.b j s = true then (tkeyOf kd).map fun k => (.nx, ρ, P3.set j (.dT (putS l k s))) else none
    | _ => none
  | _ => none
theorem tup_keys {K : PySem.W.Frag} {F : Hp} : ∀ (k : List Key) (ys : List V), FzA K F ys (k.map keyD) → ys = k.map kV := by
  intro k
  induction k with
  | nil => intro ys h; cases h; rfl
  | cons a k ih =>
    intro ys h
    cases h with
    | cons q r =>
      rw [ih _ r]
      cases a <;> (cases q; rfl)
theorem psd_dput {o i value : Expr} {fd fk fv : XM} {pos' : Pos} (hu : X.A.units + 65 < cLine) (hd : PEd X o fd) (hk : PEd X i fk) (hv : PEd X value fv) (hs : swapsWith value (some (.Subscript o i pos')) pos.line X.env = pure false := by rfl) :
    PSd X (.Assign [.Subscript o i pos'] value pos) (sDPut fd fk fv) := by
  obtain ⟨t1, p1, h1⟩ := hd
  obtain ⟨t2, p2, h2⟩ := hk
  obtain ⟨t3, p3, h3⟩ := hv
  refine ⟨_, ps_dput (by omega) p1 p2 p3 hs, fun bs ρ σ os vs P H D r R e q => ?_⟩
  simp only [sDPut, Option.bind_eq_some_iff] at e
  obtain ⟨⟨s3, P1⟩, e3, ⟨s1, P2⟩, e1, ⟨s2, P3⟩, e2, kd, e4, e5⟩ := e
  refine h3 bs ρ σ os vs P H _ s3 P1 R e3 fun v H1 R1 => ?_
  refine h1 bs ρ σ _ _ P1 H1 _ s1 P2 R1 e1 fun x H2 R2 => ?_
  refine h2 bs ρ σ _ _ P2 H2 _ s2 P3 R2 e2 fun y H3 R3 => ?_
  obtain ⟨F, ad, R3⟩ := R3
  obtain ⟨r2, R4⟩ := R3.pop
  obtain ⟨r1, R5⟩ := R4.pop
  obtain ⟨r3, R6⟩ := R5.pop
  have vk := R3.view r2 e4
  have hs := R3.sub
  simp only at e5
  split at e5
  · rename_i j
    split at e5
    · rename_i l hj
      split at e5
      · rename_i hz
        simp only [Option.map_eq_some_iff] at e5
        obtain ⟨k, ek, rfl⟩ := e5
        obtain ⟨a, ha, rfl, hF, xs, hx, t⟩ := R6.at r1 hj
        obtain ⟨ys, ey, ty⟩ := put_zip k r3 l xs t
        have eyk : y = kV k := by
          have e2 := keyOf_some ek
          subst e2
          cases k with
          | inl i => exact vk.ints
          | inr x => exact vk.strs
        have hln := t.length
        refine ⟨a, _, rfl, .inl ⟨_, k, hx, eyk, by simp at hln ⊢; omega, rfl⟩, q _ _ ⟨F, ad, ?_⟩⟩
        rw [ey]
        refine R6.put (c := .dK (putS l k s3)) hj ha hF ⟨hF, ys, upd_same, ty⟩ fun m hm => ?_
        rcases putS_ps k s3 l m hm with h | h
        · exact .inl h
        · exact .inr (okPtr_ps hz.2 m h)
      · cases e5
    · rename_i l hj
      split at e5
      · rename_i hz
        simp only [Option.map_eq_some_iff] at e5
        obtain ⟨k, ek, rfl⟩ := e5
        obtain ⟨a, ha, rfl, hF, xs, hx, t⟩ := R6.at r1 hj
        obtain ⟨ys, ey, ty⟩ := put_zip k r3 l xs t
        cases kd with
        | tuple ds =>
          have e2 := keysOf_some (show keysOf ds = some k from ek)
          subst e2
          obtain ⟨b, zs, rfl, hb, tb, _⟩ := vk.tups hs
          have ez := tup_keys k zs tb
          subst ez
          have hln := t.length
          refine ⟨a, _, rfl, .inr ⟨_, k, b, hx, rfl, hb, by simp at hln ⊢; omega, rfl⟩, q _ _ ⟨F, ad, ?_⟩⟩
          rw [ey]
          refine R6.put (c := .dT (putS l k s3)) hj ha hF ⟨hF, ys, upd_same, ty⟩ fun m hm => ?_
          rcases putS_ps k s3 l m hm with h | h
          · exact .inl h
          · exact .inr (okPtr_ps hz.2 m h)
        | _ => simp [tkeyOf] at ek
      · cases e5
    · cases e5
  · cases e5
def mDNewK : XM := fun _ P => some (.ptr P.length, P ++ [.dK []])
def mDNewT : XM := fun _ P => some (.ptr P.length, P ++ [.dT []])
theorem ped_dnewK : PEd X (.Dict [] [] pos) mDNewK := ⟨_, pe_dnewK, fun bs ρ σ os vs P H Q r P' R e q => by
  simp only [mDNewK, Option.some.injEq, Prod.mk.injEq] at e
  obtain ⟨rfl, rfl⟩ := e
  obtain ⟨F, ad, R⟩ := R
  exact fun p n => q _ _ ⟨F, _, R.cell (o := .dK []) (c := .dK []) n fun ad' pr => ⟨R.free n, [], upd_same, .nil⟩⟩⟩
theorem ped_dnewT : PEd X (.Dict [] [] pos) mDNewT := ⟨_, pe_dnewT, fun bs ρ σ os vs P H Q r P' R e q => by
  simp only [mDNewT, Option.some.injEq, Prod.mk.injEq] at e
  obtain ⟨rfl, rfl⟩ := e
  obtain ⟨F, ad, R⟩ := R
  exact fun p n => q _ _ ⟨F, _, R.cell (o := .dT []) (c := .dT []) n fun ad' pr => ⟨R.free n, [], upd_same, .nil⟩⟩⟩
end
end Pd

set_option Elab.async false
set_option linter.all false
set_option maxRecDepth 100000
set_option maxHeartbeats 1000000
/-! The layer Pd, part K: what is told apart by the values; cells made by calls. -/
namespace Pd
open PySem PySem.Spec PyProof.Rows L2
section
variable {X : Cx} {pos : Pos}
theorem PEd.or {e : Expr} {f g : XM} (h : PEd X e f) (h' : PEd X e g) : PEd X e (fun ρ P => (f ρ P).or (g ρ P)) := by
  obtain ⟨t, p, q1⟩ := h
  obtain ⟨u, p', q2⟩ := h'
  refine ⟨fun σ H Q => t σ H Q ∨ u σ H Q, ⟨fun pins s σ H Q I w => w.elim (p.run pins s σ H Q I) (p'.run pins s σ H Q I)⟩, fun bs ρ σ os vs P H Q r P' R e q => ?_⟩
  have e : (f ρ P).or (g ρ P) = some (r, P') := e
  cases hf : f ρ P with
  | some z =>
    rw [hf] at e
    simp only [Option.some_or, Option.some.injEq] at e
    subst e
    exact .inl (q1 bs ρ σ os vs P H Q r P' R hf q)
  | none =>
    rw [hf] at e
    exact .inr (q2 bs ρ σ os vs P H Q r P' R (by simpa using e) q)
theorem PEd.imp {e : Expr} {f g : XM} (h : PEd X e f) (i : ∀ ρ P r, g ρ P = some r → f ρ P = some r) : PEd X e g := by
  obtain ⟨t, p, q1⟩ := h
  exact ⟨t, p, fun bs ρ σ os vs P H Q r P' R e q => q1 bs ρ σ os vs P H Q r P' R (i _ _ _ e) q⟩
theorem PTd.or {e : Expr} {f g : BM} (h : PTd X e f) (h' : PTd X e g) : PTd X e (fun ρ P => (f ρ P).or (g ρ P)) := by
  obtain ⟨t, p, q1⟩ := h
  obtain ⟨u, p', q2⟩ := h'
  refine ⟨fun σ H Q => t σ H Q ∨ u σ H Q, ⟨fun pins s σ H Q I w => w.elim (p.run pins s σ H Q I) (p'.run pins s σ H Q I)⟩, fun bs ρ σ os vs P H Q r P' R e q => ?_⟩
  have e : (f ρ P).or (g ρ P) = some (r, P') := e
  cases hf : f ρ P with
  | some z =>
    rw [hf] at e
    simp only [Option.some_or, Option.some.injEq] at e
    subst e
    exact .inl (q1 bs ρ σ os vs P H Q r P' R hf q)
  | none =>
    rw [hf] at e
    exact .inr (q2 bs ρ σ os vs P H Q r P' R (by simpa using e) q)
theorem PTd.imp {e : Expr} {f g : BM} (h : PTd X e f) (i : ∀ ρ P r, g ρ P = some r → f ρ P = some r) : PTd X e g := by
  obtain ⟨t, p, q1⟩ := h
  exact ⟨t, p, fun bs ρ σ os vs P H Q r P' R e q => q1 bs ρ σ os vs P H Q r P' R (i _ _ _ e) q⟩

/-- a[i]: of a sequence, or of a dict -/
def subOf (P : Store) (a : SV) (kd : PyData) : Option SV := match dictOf P a with
  | some D => (dlook D kd).bind id
  | none => ((flat P a).bind fun d => dIx d kd).map SV.fz
def mSub (f1 f2 : XM) : XM := fun ρ P => (f1 ρ P).bind fun (a, P1) => (f2 ρ P1).bind fun (b, P2) => (flat P2 b).bind fun kd => (subOf P2 a kd).map fun s => (s, P2)
theorem ped_sub {a b : Expr} {f1 f2 : XM} (hu : X.A.units + 65 < cLine) (ha : PEd X a f1) (hb : PEd X b f2) (hs : PlainIx b) : PEd X (.Subscript a b pos) (mSub f1 f2) := by
  refine ((ped_ix (pos := pos) ixd_seq ha hb hs).or (ped_dget hu ha hb hs)).imp fun ρ P r e => ?_
  obtain ⟨w, P'⟩ := r
  simp only [mSub, Option.bind_eq_some_iff, Option.map_eq_some_iff, Prod.mk.injEq] at e
  obtain ⟨⟨s1, P1⟩, e1, ⟨s2, P2⟩, e2, kd, e3, s, e4, rfl, rfl⟩ := e
  show (mBin dIx f1 f2 ρ P).or (mDGet f1 f2 ρ P) = _
  unfold subOf at e4
  split at e4
  · rename_i D hD
    have h2 : mDGet f1 f2 ρ P = some (s, P2) := by
      simp only [mDGet, e1, e2, e3, hD, Option.bind_some]
      cases h : dlook D kd with
      | none => rw [h] at e4; cases e4
      | some o => rw [h] at e4; cases o with
        | none => cases e4
        | some s' => cases e4; rfl
    have h1 : mBin dIx f1 f2 ρ P = none := by
      simp only [mBin, e1, e2, e3, Option.bind_some]
      cases hf : flat P2 s1 with
      | none => rfl
      | some d =>
        simp only [Option.bind_some]
        have : dIx d kd = none := by
          cases d with
          | dict _ => rfl
          | _ =>
            exfalso
            cases s1 with
            | fz d' => simp only [flat, Option.some.injEq] at hf; subst hf; cases hD
            | ptr k =>
              simp only [flat, Option.bind_eq_some_iff] at hf
              obtain ⟨c, hc, hd⟩ := hf
              unfold dictOf at hD
              simp only [hc] at hD
              cases c with
              | fz d' => simp only [Cell.dat, Option.some.injEq] at hd; subst hd; cases hD
              | lst l => cases hD
              | dK l => simp [Cell.dat] at hd
              | dT l => simp [Cell.dat] at hd
        rw [this]; rfl
    rw [h1, h2]; rfl
  · rename_i hD
    simp only [Option.map_eq_some_iff, Option.bind_eq_some_iff] at e4
    obtain ⟨z, ⟨d, hd, hz⟩, rfl⟩ := e4
    have h1 : mBin dIx f1 f2 ρ P = some (.fz z, P2) := by simp only [mBin, e1, e2, e3, hd, hz, Option.bind_some, Option.map_some]
    rw [h1]; rfl
/-- x in a: of a list, a tuple, a text, or of a dict -/
def inOf (P : Store) (kd : PyData) (a : SV) : Option Bool := match dictOf P a with
  | some D => (dlook D kd).map Option.isSome
  | none => (flat P a).bind fun d => match dInS false kd d with
    | some (.bool b) => some b
    | _ => none
def mIn (n : Bool) (f1 f2 : XM) : XM := fun ρ P => (f1 ρ P).bind fun (a, P1) => (f2 ρ P1).bind fun (b, P2) => (flat P2 a).bind fun kd => (inOf P2 kd b).map fun v => (.fz (.bool (n != v)), P2)
theorem dInS_not {d e : PyData} {b : Bool} (n : Bool) (h : dInS false d e = some (.bool b)) : dInS n d e = some (.bool (n != b)) := by
  unfold dInS at h ⊢
  split at h
  · split at h
    · rename_i hc
      rw [if_pos hc]
      simp only [Option.some.injEq, PyData.bool.injEq] at h ⊢
      subst h; simp
    · cases h
  · split at h
    · rename_i hc
      rw [if_pos hc]
      simp only [Option.some.injEq, PyData.bool.injEq] at h ⊢
      subst h; simp
    · cases h
  · simp only [Option.some.injEq, PyData.bool.injEq] at h ⊢
    subst h; simp
  · cases h
theorem in_or {f1 f2 : XM} {n : Bool} {ρ : EV} {P : Store} {r : SV × Store} (e : mIn n f1 f2 ρ P = some r) : (mDIn n f1 f2 ρ P).or (mBin (dInS n) f1 f2 ρ P) = some r := by
  obtain ⟨w, P'⟩ := r
  simp only [mIn, Option.bind_eq_some_iff, Option.map_eq_some_iff, Prod.mk.injEq] at e
  obtain ⟨⟨s1, P1⟩, e1, ⟨s2, P2⟩, e2, kd, e3, b, e4, rfl, rfl⟩ := e
  unfold inOf at e4
  split at e4
  · rename_i D hD
    simp only [Option.map_eq_some_iff] at e4
    obtain ⟨o, ho, rfl⟩ := e4
    have h1 : mDIn n f1 f2 ρ P = some (.fz (.bool (n != o.isSome)), P2) := by simp only [mDIn, e1, e2, e3, hD, ho, Option.bind_some, Option.map_some]
    rw [h1]; rfl
  · rename_i hD
    have h1 : mDIn n f1 f2 ρ P = none := by simp only [mDIn, e1, e2, e3, hD, Option.bind_some, Option.bind_none]
    simp only [Option.bind_eq_some_iff] at e4
    obtain ⟨d, hd, h4⟩ := e4
    split at h4
    · rename_i b' hb
      cases h4
      have h2 : mBin (dInS n) f1 f2 ρ P = some (.fz (.bool (n != b)), P2) := by simp only [mBin, e1, e2, e3, hd, dInS_not n hb, Option.bind_some, Option.map_some]
      rw [h1, h2]; rfl
    · cases h4
theorem ped_in {i o : Expr} {fk fd : XM} (hu : X.A.units + 65 < cLine) (hk : PEd X i fk) (hd : PEd X o fd) (hm : behindInMarks .In o = false := by rfl) : PEd X (.Compare i [.In] [o] pos) (mIn false fk fd) :=
  ((ped_din (pos := pos) hu hk hd hm).or (ped_cmp (opd_in hu) hk hd hm)).imp fun ρ P r e => in_or e
theorem ped_notin {i o : Expr} {fk fd : XM} (hu : X.A.units + 65 < cLine) (hk : PEd X i fk) (hd : PEd X o fd) (hm : behindInMarks .NotIn o = false := by rfl) : PEd X (.Compare i [.NotIn] [o] pos) (mIn true fk fd) :=
  ((ped_dnotin (pos := pos) hu hk hd hm).or (ped_cmp (opd_notin hu) hk hd hm)).imp fun ρ P r e => in_or e
theorem mTB_or {f g h : XM} {ρ : EV} {P : Store} {r : Bool × Store} (i : ∀ r, f ρ P = some r → (g ρ P).or (h ρ P) = some r) (e : mTB f ρ P = some r) : (mTB g ρ P).or (mTB h ρ P) = some r := by
  obtain ⟨b, P'⟩ := r
  simp only [mTB, Option.bind_eq_some_iff] at e
  obtain ⟨⟨s1, P1⟩, e1, e2⟩ := e
  have := i _ e1
  cases hg : g ρ P with
  | some z =>
    rw [hg] at this
    simp only [Option.some_or, Option.some.injEq] at this
    subst this
    simp only [mTB, hg, Option.bind_some]
    simp only at e2
    rw [e2]; rfl
  | none =>
    rw [hg] at this
    simp only [Option.none_or] at this
    simp only [mTB, hg, this, Option.bind_some, Option.bind_none, Option.none_or]
    exact e2
theorem ptd_in {i o : Expr} {fk fd : XM} (hu : X.A.units + 65 < cLine) (hk : PEd X i fk) (hd : PEd X o fd) (hm : behindInMarks .In o = false := by rfl) : PTd X (.Compare i [.In] [o] pos) (mTB (mIn false fk fd)) :=
  ((ptd_of_din (pos := pos) hu hk hd hm).or (ptd_cmp (opd_in hu) hk hd hm)).imp fun ρ P r e => mTB_or (fun r h => in_or h) e
theorem ptd_notin {i o : Expr} {fk fd : XM} (hu : X.A.units + 65 < cLine) (hk : PEd X i fk) (hd : PEd X o fd) (hm : behindInMarks .NotIn o = false := by rfl) : PTd X (.Compare i [.NotIn] [o] pos) (mTB (mIn true fk fd)) :=
  ((ptd_of_dnotin (pos := pos) hu hk hd hm).or (ptd_cmp (opd_notin hu) hk hd hm)).imp fun ρ P r e => mTB_or (fun r h => in_or h) e

/-! numbers -/
def dPow : PyData → PyData → Option PyData := dIC cPow fun i j => .int (i ^ j.toNat)
theorem opd_pow : OpD X (binaryOp .Pow) dPow := opd_int op_pow (fun i j h => by simpa [cPow, CPow] using h) fun _ _ _ => .int _

/-! a list that may change, by a comprehension, by list(..) -/
def mLCC (own : List Nat) (f : IM) (g : GM) (tt : BM) (te : XM) : XM := fun ρ P => (f ρ P).bind fun (items, _, P1) =>
  (lcGo g tt te { ρ.wipe own with b := P1.length } P1.length items (P1 ++ [.lst []])).bind fun S => match S[P1.length]? with
    | some (.lst acc) => if (fzs acc).isSome = true then some (.ptr P1.length, S.take P1.length ++ [.lst acc]) else none
    | _ => none
theorem fzs_ps : ∀ {l : List SV}, (fzs l).isSome = true → l.flatMap SV.ps = []
  | [], _ => rfl
  | .fz d :: r, h => by
    simp only [fzs, Option.isSome_map] at h
    simp [SV.ps, fzs_ps h]
  | .ptr _ :: _, h => by simp [fzs] at h
theorem lcC_d {f : IM} {g : GM} {tt : BM} {te : XM} {ts own : List Nat} {wi : TI} (hts : ∀ i ∈ ts, i ∈ own)
    (h0 : ∀ (bs : List Nat) (ρ : EV) (σ : L2.St) (os : List SV) (vs : List V) (P : Store) (H : Hp) (R : It → Hp → Prop) (items : List PyData) (src : SV) (P' : Store), Rel X.K bs ρ σ os vs P H → f ρ P = some (items, src, P') →
      (∀ J v H', Rel X.K bs ρ σ (src :: os) (v :: vs) P' H' → ItOk X.K J items src v → R J H') → wi σ H R)
    (bs : List Nat) (ρ : EV) (σ : L2.St) (os : List SV) (vs : List V) (P : Store) (H : Hp) (Q : VK) (r : SV) (P' : Store) (R : Rel X.K bs ρ σ os vs P H) (e : mLCC own f g tt te ρ P = some (r, P'))
    (q : ∀ v H', Rel X.K bs ρ σ (r :: os) (v :: vs) P' H' → Q v H') : tLc wi (tMG X.K ts g) (tMT X.K tt) (tM X.K te) own σ H Q := by
  simp only [mLCC, Option.bind_eq_some_iff] at e
  obtain ⟨⟨items, src, P1⟩, e0, S, e1, e2⟩ := e
  refine h0 bs ρ σ os vs P H _ items src P1 R e0 fun J w H1 R1 ok => fun D hD => ?_
  refine lc_go (Df := fun H => Q (.ref D) H) ok hts R1 hD e1 fun H2 R2 => ?_
  simp only at e2
  split at e2
  · rename_i acc hacc
    split at e2
    · rename_i hds
      cases e2
      obtain ⟨F, ad, R2⟩ := R2
      obtain ⟨F1, ad1, R1⟩ := R1
      obtain ⟨rD, R3⟩ := R2.pop
      obtain ⟨a, ha, ea, hc⟩ := R3.at rD hacc
      cases ea
      have hps : (Cell.lst acc).ps = [] := fzs_ps hds
      obtain ⟨_, R5⟩ := R3.pop
      have R6 := R5.cut (ρ' := ρ) R5.slots R1.slotsLt R5.tops (fun s hs => R1.topsLt s (List.mem_cons_of_mem _ hs)) (fun c hc => R1.bb c hc) (fun c hc => R1.bas.le c hc)
      have na : D ∉ ad.take P1.length := fun hm => by
        obtain ⟨j, hj, ej⟩ := List.getElem_of_mem hm
        rw [List.length_take] at hj
        rw [List.getElem_take] at ej
        obtain ⟨h2, q2⟩ := List.getElem?_eq_some_iff.mp ha
        have := (List.getElem_inj R3.nd).mp (ej.trans q2.symm)
        omega
      have R7 := R6.adopt na (R3.there D (List.mem_of_getElem? ha)) (no_ps hps hc) hps
      have en : (S.take P1.length).length = P1.length := by
        have hl := (List.getElem?_eq_some_iff.mp hacc).1
        rw [List.length_take]; omega
      rw [en] at R7
      exact q _ _ ⟨_, _, R7⟩
    · cases e2
  · cases e2
theorem ped_lcC {elt tg iter : Expr} {ifs : List Expr} {scope : Scope} {own : List (Str × Nat)} {f : IM} {g : GM} {tt : BM} {te : XM} {ts : List Nat} (hc : X.calm = true) (hN : X.N.Nodup) (hi : PId X tg iter f) (ok : BlkOk X.N X.env.scope scope own)
    (hg : ∀ (s : Shared) (H : Hp) (C : Addr) (cl : List (Str × Addr)) (fp : List Addr), PGd (X.blk s H scope (compEnvC scope cl C X.env) fp) tg ts g) (ht : ∀ (s : Shared) (H : Hp) (C : Addr) (cl : List (Str × Addr)) (fp : List Addr), PTsd (X.blk s H scope (compEnvC scope cl C X.env) fp) ifs tt)
    (he : ∀ (s : Shared) (H : Hp) (C : Addr) (cl : List (Str × Addr)) (fp : List Addr), PEd (X.blk s H scope (compEnvC scope cl C X.env) fp) elt te) (hts : ∀ i ∈ ts, i ∈ own.map (·.2) := by decide) (hs : ∀ x, foldedSetIterable iter X.env x = pure x := by intro _; rfl) :
    PEd X (.ListComp elt [⟨tg, iter, ifs, 0⟩] scope pos) (mLCC (own.map (·.2)) f g tt te) := by
  obtain ⟨wi, p0, h0⟩ := hi
  exact ⟨_, pe_lc (g := tMG X.K ts g) (tt := tMT X.K tt) (te := tM X.K te) hc hN p0 ok (fun s H C cl fp => (hg s H C cl fp).canon) (fun s H C cl fp => (ht s H C cl fp).canon) (fun s H C cl fp => (he s H C cl fp).canon) hs, lcC_d hts h0⟩
theorem psd_setLcC {i : Nat} {y : Str} {py : Pos} {elt tg iter : Expr} {ifs : List Expr} {scope : Scope} {own : List (Str × Nat)} {spos : Pos} {f : IM} {g : GM} {tt : BM} {te : XM} {ts : List Nat} (hc : X.calm = true) (hN : X.N.Nodup) (hy : X.N[i]? = some y) (hyl : X.env.scope.names.lookup y = some .local)
    (hsw : swapsWith (.ListComp elt [⟨tg, iter, ifs, 0⟩] scope pos) (some (.Name y py)) spos.line X.env = pure true) (hi : PId X tg iter f) (ok : BlkOk X.N X.env.scope scope own)
    (hg : ∀ (s : Shared) (H : Hp) (C : Addr) (cl : List (Str × Addr)) (fp : List Addr), PGd (X.blk s H scope (compEnvC scope cl C X.env) fp) tg ts g) (ht : ∀ (s : Shared) (H : Hp) (C : Addr) (cl : List (Str × Addr)) (fp : List Addr), PTsd (X.blk s H scope (compEnvC scope cl C X.env) fp) ifs tt)
    (he : ∀ (s : Shared) (H : Hp) (C : Addr) (cl : List (Str × Addr)) (fp : List Addr), PEd (X.blk s H scope (compEnvC scope cl C X.env) fp) elt te) (hts : ∀ i ∈ ts, i ∈ own.map (·.2) := by decide) (hs : ∀ x, foldedSetIterable iter X.env x = pure x := by intro _; rfl) :
    PSd X (.Assign [.Name y py] (.ListComp elt [⟨tg, iter, ifs, 0⟩] scope pos) spos) (sSet i (mLCC (own.map (·.2)) f g tt te)) := by
  obtain ⟨wi, p0, h0⟩ := hi
  refine ⟨_, ps_setLc (g := tMG X.K ts g) (tt := tMT X.K tt) (te := tM X.K te) hc hN hy hyl hsw p0 ok (fun s H C cl fp => (hg s H C cl fp).canon) (fun s H C cl fp => (ht s H C cl fp).canon) (fun s H C cl fp => (he s H C cl fp).canon) hs, fun bs ρ σ os vs P H D r R e q => ?_⟩
  simp only [sSet, Option.map_eq_some_iff] at e
  obtain ⟨⟨s, P1⟩, e1, rfl⟩ := e
  exact lcC_d hts h0 bs ρ σ os vs P H _ s P1 R e1 fun v H1 R1 => q _ H1 (R1.store i)
def mListC (f : XM) : XM := fun ρ P => (f ρ P).bind fun (a, P1) => (flat P1 a).bind fun d => match d with
  | .list ds => some (.ptr P1.length, P1 ++ [.lst (ds.map .fz)])
  | .tuple ds => some (.ptr P1.length, P1 ++ [.lst (ds.map .fz)])
  | _ => none
theorem ped_listC {e : Expr} {f : XM} {p : Pos} (hg : Gl X "list") (hm : X.mg "list" = none) (ha : PEd X e f)
    (he : starEach [e] X.env = (false, eval e X.env) :: starEach [] X.env := by rfl) (hpl : (backTo pos (starEach [] X.env)).any (·.1) = false := by rfl) : PEd X (.Call (.Name "list" p) [e] [] pos) (mListC f) := by
  obtain ⟨t, p, h1⟩ := pad_cons ha pad_nil he
  refine ⟨_, pe_callTy call_list_of hg hm (by decide +kernel) p (he := he) (hpl := hpl), fun bs ρ σ os vs P H Q r P' R e q => ?_⟩
  simp only [mListC, Option.bind_eq_some_iff] at e
  obtain ⟨⟨a, P1⟩, e1, d, e2, e3⟩ := e
  refine h1 bs ρ σ os vs P H _ [a] P1 R (by simp only [aCons, aNil, e1, Option.bind_some, Option.map_some]) fun ws H1 hl R1 => ?_
  obtain ⟨F, ad, R1⟩ := R1
  obtain ⟨ra, R2⟩ := R1.args hl
  cases ra with
  | cons r1 ra =>
    cases ra
    have vw := R2.view r1 e2
    simp only at e3
    split at e3
    · cases e3
      obtain ⟨p, us, rfl, hp, t⟩ := vw.lists R2.sub
      exact ⟨p, us, rfl, .inl hp, fun l n => q _ _ ⟨F, _, R2.cell (c := .lst _) n fun ad' pr => ⟨R2.free n, us, upd_same, t.sva⟩⟩⟩
    · cases e3
      obtain ⟨p, us, rfl, hp, t, _⟩ := vw.tups R2.sub
      exact ⟨p, us, rfl, .inr (.inl (.inl hp)), fun l n => q _ _ ⟨F, _, R2.cell (c := .lst _) n fun ad' pr => ⟨R2.free n, us, upd_same, t.sva⟩⟩⟩
    · cases e3
/-! the number of arguments -/
def ALen (n : Nat) (fs : AM) : Prop := ∀ ρ P l P', fs ρ P = some (l, P') → l.length = n
theorem alen_nil : ALen 0 aNil := fun ρ P l P' e => by
  simp only [aNil, Option.some.injEq, Prod.mk.injEq] at e
  obtain ⟨rfl, _⟩ := e; rfl
theorem alen_cons {n : Nat} {f : XM} {g : AM} (h : ALen n g) : ALen (n + 1) (aCons f g) := fun ρ P l P' e => by
  simp only [aCons, Option.bind_eq_some_iff, Option.map_eq_some_iff, Prod.mk.injEq] at e
  obtain ⟨⟨s1, P1⟩, e1, ⟨r, P2⟩, e2, rfl, rfl⟩ := e
  simp [h _ _ _ _ e2]
/-! a constant tuple of the module: x in KEPT -/
def mInK (n : Bool) (ds : List PyData) (f : XM) : XM := fun ρ P => (f ρ P).bind fun (a, P1) => (flat P1 a).bind fun d => (dInS n d (.tuple ds)).map fun z => (.fz z, P1)
def KTup (K : PySem.W.Frag) (a : Addr) (ds : List PyData) : Prop := ∃ xs, SqT K (fun _ => none) a xs ∧ FzA K (fun _ => none) xs ds
theorem KTup.dp {K : PySem.W.Frag} {a : Addr} {ds : List PyData} {H : Hp} (h : KTup K a ds) (e : PyData.canLayAll0 ds = true) : Dp K H (.ref a) (.tuple ds) := by
  obtain ⟨xs, hs, t⟩ := h
  have s : Sub (fun _ => none) H := fun a u z => by cases z
  refine .tup ?_ (t.dp s e)
  rcases hs with (z | ⟨o, z⟩) | z
  · cases z
  · cases z
  · exact .inr z
theorem ped_inK {e : Expr} {x : Str} {f : XM} {a : Addr} {ds : List PyData} {p : Pos} (hu : X.A.units + 65 < cLine) (ha : PEd X e f) (hg : Gl X x) (hm : X.mg x = some (.ref a)) (hk : KTup X.K a ds) (hdb : (x == ("__debug__" : Str)) = false := by decide) : PEd X (.Compare e [.In] [.Name x p] pos) (mInK false ds f) := by
  obtain ⟨t, p, h1⟩ := ha
  refine ⟨_, pe_cmpR (op_inTD hu) p (pe_glob (v := .ref a) hg hm rfl hdb) (by rfl), fun bs ρ σ os vs P H Q r P' R e q => ?_⟩
  simp only [mInK, Option.bind_eq_some_iff, Option.map_eq_some_iff, Prod.mk.injEq] at e
  obtain ⟨⟨s1, P1⟩, e1, d, e2, z, e3, rfl, rfl⟩ := e
  refine h1 bs ρ σ os vs P H _ s1 P1 R e1 fun y H1 R1 => ?_
  obtain ⟨F, ad, R1⟩ := R1
  obtain ⟨r1, R2⟩ := R1.pop
  unfold dInS at e3
  simp only at e3
  split at e3
  · rename_i h
    cases e3
    exact ⟨d, ds, (R1.view r1 e2).dp R1.sub (shaped_lay h.1), hk.dp (by simpa [PyData.canLay0] using shaped_lay h.2), h.1, h.2, q _ _ (R2.atom (.bl _))⟩
  · cases e3
theorem ped_notinK {e : Expr} {x : Str} {f : XM} {a : Addr} {ds : List PyData} {p : Pos} (hu : X.A.units + 65 < cLine) (ha : PEd X e f) (hg : Gl X x) (hm : X.mg x = some (.ref a)) (hk : KTup X.K a ds) (hdb : (x == ("__debug__" : Str)) = false := by decide) : PEd X (.Compare e [.NotIn] [.Name x p] pos) (mInK true ds f) := by
  obtain ⟨t, p, h1⟩ := ha
  refine ⟨_, pe_cmpR (op_notInTD hu) p (pe_glob (v := .ref a) hg hm rfl hdb) (by rfl), fun bs ρ σ os vs P H Q r P' R e q => ?_⟩
  simp only [mInK, Option.bind_eq_some_iff, Option.map_eq_some_iff, Prod.mk.injEq] at e
  obtain ⟨⟨s1, P1⟩, e1, d, e2, z, e3, rfl, rfl⟩ := e
  refine h1 bs ρ σ os vs P H _ s1 P1 R e1 fun y H1 R1 => ?_
  obtain ⟨F, ad, R1⟩ := R1
  obtain ⟨r1, R2⟩ := R1.pop
  unfold dInS at e3
  simp only at e3
  split at e3
  · rename_i h
    cases e3
    exact ⟨d, ds, (R1.view r1 e2).dp R1.sub (shaped_lay h.1), hk.dp (by simpa [PyData.canLay0] using shaped_lay h.2), h.1, h.2, q _ _ (R2.atom (.bl _))⟩
  · cases e3
end
end Pd

set_option Elab.async false
set_option linter.all false
set_option maxRecDepth 100000
set_option maxHeartbeats 1000000
/-! The layer Pd, part L: displays of dicts, the law's end. -/
namespace Pd
open PySem PySem.Spec PyProof.Rows L2
section
variable {X : Cx} {pos : Pos}
theorem ptd_inK {e : Expr} {x : Str} {f : XM} {a : Addr} {ds : List PyData} {p : Pos} (hu : X.A.units + 65 < cLine) (ha : PEd X e f) (hg : Gl X x) (hm : X.mg x = some (.ref a)) (hk : KTup X.K a ds) (hdb : (x == ("__debug__" : Str)) = false := by decide) : PTd X (.Compare e [.In] [.Name x p] pos) (mTB (mInK false ds f)) := by
  obtain ⟨t, p, h1⟩ := ha
  refine ⟨_, pt_cmpR (op_inTD hu) p (pe_glob (v := .ref a) hg hm rfl hdb) (by rfl), fun bs ρ σ os vs P H Q r P' R e q => ?_⟩
  simp only [mTB, mInK, Option.bind_eq_some_iff, Option.map_eq_some_iff, Prod.mk.injEq] at e
  obtain ⟨⟨s0, P0⟩, ⟨⟨s1, P1⟩, e1, d, e2, z, e3, rfl, rfl⟩, e4⟩ := e
  refine h1 bs ρ σ os vs P H _ s1 P1 R e1 fun y H1 R1 => ?_
  obtain ⟨F, ad, R1⟩ := R1
  obtain ⟨r1, R2⟩ := R1.pop
  unfold dInS at e3
  simp only at e3
  split at e3
  · rename_i h
    cases e3
    simp only [Option.some.injEq, Prod.mk.injEq] at e4
    obtain ⟨rfl, rfl⟩ := e4
    exact ⟨d, ds, (R1.view r1 e2).dp R1.sub (shaped_lay h.1), hk.dp (by simpa [PyData.canLay0] using shaped_lay h.2), h.1, h.2, _, rfl, q _ ⟨F, ad, R2⟩⟩
  · cases e3
theorem ptd_notinK {e : Expr} {x : Str} {f : XM} {a : Addr} {ds : List PyData} {p : Pos} (hu : X.A.units + 65 < cLine) (ha : PEd X e f) (hg : Gl X x) (hm : X.mg x = some (.ref a)) (hk : KTup X.K a ds) (hdb : (x == ("__debug__" : Str)) = false := by decide) : PTd X (.Compare e [.NotIn] [.Name x p] pos) (mTB (mInK true ds f)) := by
  obtain ⟨t, p, h1⟩ := ha
  refine ⟨_, pt_cmpR (op_notInTD hu) p (pe_glob (v := .ref a) hg hm rfl hdb) (by rfl), fun bs ρ σ os vs P H Q r P' R e q => ?_⟩
  simp only [mTB, mInK, Option.bind_eq_some_iff, Option.map_eq_some_iff, Prod.mk.injEq] at e
  obtain ⟨⟨s0, P0⟩, ⟨⟨s1, P1⟩, e1, d, e2, z, e3, rfl, rfl⟩, e4⟩ := e
  refine h1 bs ρ σ os vs P H _ s1 P1 R e1 fun y H1 R1 => ?_
  obtain ⟨F, ad, R1⟩ := R1
  obtain ⟨r1, R2⟩ := R1.pop
  unfold dInS at e3
  simp only at e3
  split at e3
  · rename_i h
    cases e3
    simp only [Option.some.injEq, Prod.mk.injEq] at e4
    obtain ⟨rfl, rfl⟩ := e4
    exact ⟨d, ds, (R1.view r1 e2).dp R1.sub (shaped_lay h.1), hk.dp (by simpa [PyData.canLay0] using shaped_lay h.2), h.1, h.2, _, rfl, q _ ⟨F, ad, R2⟩⟩
  · cases e3

/-! {k: v, ..}: keys ints and texts -/
abbrev DM := EV → Store → Option (List (Key × SV) × Store)
def PPd (X : Cx) (pos : Pos) (keys : List (Option Expr)) (values : List Expr) (g : DM) : Prop := ∃ trs, PPs X pos keys values trs ∧ ∀ (bs : List Nat) (ρ : EV) (σ : L2.St) (os : List SV) (vs : List V) (P : Store) (H : Hp) (Q : List (V × V) → Hp → Prop) (r : List (Key × SV)) (P' : Store), Rel X.K bs ρ σ os vs P H → g ρ P = some (r, P') →
  (∀ (ws : List V) H', ws.length = r.length → Rel X.K bs ρ σ ((r.map (·.2)).reverse ++ os) (ws.reverse ++ vs) P' H' → Q ((r.map fun p => kV p.1).zip ws) H') → tPairs trs σ H Q
def dNil : DM := fun _ P => some ([], P)
def dCons (k f : XM) (g : DM) : DM := fun ρ P => (k ρ P).bind fun (a, P1) => match a with
  | .fz kd => (keyOf kd).bind fun key => (f ρ P1).bind fun (s, P2) => (g ρ P2).map fun (l, P3) => ((key, s) :: l, P3)
  | _ => none
theorem ppd_nil : PPd X pos [] [] dNil := ⟨_, pps_nil, fun bs ρ σ os vs P H Q r P' R e q => by
  simp only [dNil, Option.some.injEq, Prod.mk.injEq] at e
  obtain ⟨rfl, rfl⟩ := e
  exact q [] H rfl R⟩
theorem ppd_cons {k v : Expr} {ks : List (Option Expr)} {vs : List Expr} {fk fv : XM} {g : DM} (hk : PEd X k fk) (hv : PEd X v fv) (hr : PPd X pos ks vs g) : PPd X pos (some k :: ks) (v :: vs) (dCons fk fv g) := by
  obtain ⟨t1, p1, h1⟩ := hk
  obtain ⟨t2, p2, h2⟩ := hv
  obtain ⟨t3, p3, h3⟩ := hr
  refine ⟨_, pps_cons p1 p2 p3, fun bs ρ σ os vs P H Q r P' R e q => ?_⟩
  simp only [dCons, Option.bind_eq_some_iff] at e
  obtain ⟨⟨a, P1⟩, e1, e2⟩ := e
  refine h1 bs ρ σ os vs P H _ a P1 R e1 fun x H1 R1 => ?_
  simp only at e2
  split at e2
  · rename_i kd
    simp only [Option.bind_eq_some_iff, Option.map_eq_some_iff, Prod.mk.injEq] at e2
    obtain ⟨key, ek, ⟨s, P2⟩, e3, ⟨l, P3⟩, e4, rfl, rfl⟩ := e2
    obtain ⟨F, ad, R1⟩ := R1
    obtain ⟨r1, R1'⟩ := R1.pop
    have ex : x = kV key := by
      have e2 := keyOf_some ek
      subst e2
      cases key <;> (cases r1; rfl)
    subst ex
    refine h2 bs ρ σ os vs P1 H1 _ s P2 ⟨F, ad, R1'⟩ e3 fun y H2 R2 => ?_
    refine h3 bs ρ σ _ _ P2 H2 _ l P3 R2 e4 fun ws H3 hl R3 => ?_
    exact q (y :: ws) H3 (by simp [hl]) (by simpa using R3)
  · cases e2
def mDisp (g : DM) : XM := fun ρ P => (g ρ (P ++ [.dK []])).bind fun (l, P1) => match P1[P.length]? with
  | some (.dK []) => if l.length ≤ 15 ∧ (l.all fun p => okPtr ρ.b P.length p.2) = true then some (.ptr P.length, P1.set P.length (.dK (l.foldl (fun acc p => putS acc p.1 p.2) []))) else none
  | _ => none
theorem merge_zip {K : PySem.W.Frag} {F : Hp} {ad : List Addr} : ∀ (l : List (Key × SV)) (ws : List V) (acc : List (Key × SV)) (xs : List V), SVA K F ad ws (l.map (·.2)) → SVA K F ad xs (acc.map (·.2)) →
    ∃ ys, mergeK ((acc.map (·.1)).zip xs) ((l.map (·.1)).zip ws) = ((l.foldl (fun acc p => putS acc p.1 p.2) acc).map (·.1)).zip ys ∧ SVA K F ad ys ((l.foldl (fun acc p => putS acc p.1 p.2) acc).map (·.2))
  | [], ws, acc, xs, h, h2 => ⟨xs, by simp [mergeK], h2⟩
  | p :: l, ws, acc, xs, h, h2 => by
    cases h with
    | cons a t =>
      obtain ⟨ys, e, ty⟩ := put_zip p.1 a acc xs h2
      obtain ⟨zs, e2, tz⟩ := merge_zip l _ _ ys t ty
      refine ⟨zs, ?_, tz⟩
      rw [← e] at e2
      simpa [mergeK] using e2
theorem merge_ps : ∀ (l acc : List (Key × SV)), ∀ j ∈ ((l.foldl (fun acc p => putS acc p.1 p.2) acc).flatMap fun p => p.2.ps), j ∈ (acc.flatMap fun p => p.2.ps) ∨ ∃ p ∈ l, j ∈ p.2.ps
  | [], acc, j, hj => .inl hj
  | p :: l, acc, j, hj => by
    rcases merge_ps l _ j hj with h | ⟨q, hq, h⟩
    · rcases putS_ps p.1 p.2 acc j h with h | h
      · exact .inl h
      · exact .inr ⟨p, List.mem_cons_self, h⟩
    · exact .inr ⟨q, List.mem_cons_of_mem _ hq, h⟩
theorem ped_disp {keys : List (Option Expr)} {values : List Expr} {g : DM} (h : PPd X pos keys values g) (hall : keys.all (·.isSome) = true := by rfl) (hl : keys.length = values.length := by rfl) (h0 : keys ≠ [] := by (intro z; cases z)) (h15 : keys.length ≤ 15 := by decide) :
    PEd X (.Dict keys values pos) (mDisp g) := by
  obtain ⟨trs, p, h1⟩ := h
  refine ⟨_, pe_disp p hall hl h0 h15, fun bs ρ σ os vs P H Q r P' R e q => fun a n => ?_⟩
  simp only [mDisp, Option.bind_eq_some_iff] at e
  obtain ⟨⟨l, P1⟩, e1, e2⟩ := e
  simp only at e2
  split at e2
  · rename_i hc
    split at e2
    · rename_i hz
      cases e2
      obtain ⟨F, ad, R⟩ := R
      have R0 := R.cell (o := .dK []) (c := .dK []) n fun ad' pr => ⟨R.free n, [], upd_same, .nil⟩
      refine h1 bs ρ σ _ _ _ _ _ l P1 ⟨F, _, R0⟩ e1 fun ws H2 hl R2 => ?_
      obtain ⟨F2, ad2, R2⟩ := R2
      obtain ⟨ra, R3⟩ := R2.args (l := l.map (·.2)) (ws := ws) (by simpa using hl)
      obtain ⟨rd, R4⟩ := R3.pop
      obtain ⟨a', ha, ea, hF, xs, hx, t⟩ := R3.at rd hc
      cases ea
      have hx : H2 a = some (.dK []) := hx
      obtain ⟨ys, ey, ty⟩ := merge_zip (K := X.K) (F := F2) (ad := ad2) l ws [] [] ra .nil
      refine ⟨hx, (l.map (·.1)).zip ws, ?_, ?_, ?_⟩
      · have : ∀ (l : List (Key × SV)) (ws : List V), ws.length = l.length → (l.map fun p => kV p.1).zip ws = ((l.map (·.1)).zip ws).map fun kv => (kV kv.1, kv.2) := by
          intro l
          induction l with
          | nil => intro ws h; rfl
          | cons p l ih =>
            intro ws h
            cases ws with
            | nil => simp at h
            | cons w ws => simp [ih ws (by simpa using h)]
        exact this l ws hl
      · simp [hl]; exact hz.1
      · have ey' : mergeK [] ((l.map (·.1)).zip ws) = ((l.foldl (fun acc p => putS acc p.1 p.2) []).map (·.1)).zip ys := by simpa using ey
        rw [ey']
        refine q _ _ ⟨F2, ad2, (R4.put (c := .dK (l.foldl (fun acc p => putS acc p.1 p.2) [])) hc ha hF ⟨hF, ys, upd_same, ty⟩ fun j hj => ?_).push (show SVR X.K F2 ad2 (.ref a) (.ptr P.length) from ⟨a, ha, rfl⟩)⟩
        rcases merge_ps l [] j hj with h | ⟨p, hp, h⟩
        · simp at h
        · exact .inr (okPtr_ps (List.all_eq_true.mp hz.2 p hp) j h)
    · cases e2
  · cases e2
end
/-! ### the law -/
theorem law_of {K : PySem.W.Frag} {m : FM} {H : Hp} {a : Addr} {ns : List Int} (hm : m [.fz (.list (ns.map .int))] [] = some (.fz (.bool true), [])) (hO : Only H) (hS : SqL K H a (ns.map V.int)) :
    spM K m 1 [.ref a] H (fun v _ => v = .bl true) fun _ _ _ => False := by
  refine ⟨rfl, [], ⟨0, []⟩, [], [], [], [.fz (.list (ns.map .int))], [], _, _, rfl, ?_, hm, fun v H' R => ?_⟩
  · have hF : ∀ b u, H b = some u → IsDct u = false := fun b u e => by
      rcases hO b with z | ⟨o, xs, z⟩
      · rw [z] at e; cases e
      · rw [z] at e; cases e; rfl
    have t : ∀ ns : List Int, FzA K H (ns.map V.int) (ns.map PyData.int) := by
      intro ns
      induction ns with
      | nil => exact .nil
      | cons n ns ih => exact .cons (.int n) ih
    exact ⟨H, [], ⟨fun b u e => .inl e, rfl, .nil, fun b hb => by simp at hb, fun k c b e => by simp at e, ⟨rfl, fun i s e => by simp at e⟩, .cons (.lst hS (t ns)) .nil, ⟨fun c hc => by simp at hc, fun c hc => by simp at hc⟩, fun c hc => by simp at hc⟩⟩
  · obtain ⟨F, ad, R⟩ := R
    obtain ⟨r, _⟩ := R.pop
    cases r
    rfl
end Pd

set_option Elab.async false
set_option linter.all false
set_option maxRecDepth 100000
set_option maxHeartbeats 1000000
/-! The layer Pd, part M: isinstance of several types, room. -/
namespace Pd
open PySem PySem.Spec PyProof.Rows L2
theorem hu65 {k : Nat} {A : Around} (hr : Room k A) : A.units + 65 < cLine := by have := hr.un; omega
section
variable {X : Cx} {pos : Pos}
theorem ped_isiT {a : Expr} {f : XM} {p : Pos} {es : List Expr} {kk : Nat} {tp : Pos} (Ts : List Ty) (hg : Gl X "isinstance") (hm : X.mg "isinstance" = none) (ha : PEd X a f)
    (ht : PA X es (fun _ H Q => Q (Ts.map fun T => .ty T.nm) H))
    (he : starEach [a, .Tuple es kk tp] X.env = (false, eval a X.env) :: starEach [.Tuple es kk tp] X.env := by rfl) (hpl : (backTo pos (starEach [.Tuple es kk tp] X.env)).any (·.1) = false := by rfl)
    (hs2 : starEach [.Tuple es kk tp] X.env = (false, eval (.Tuple es kk tp) X.env) :: starEach [] X.env := by rfl) (hn : Ts.length ≤ sizeLine := by decide) :
    PEd X (.Call (.Name "isinstance" p) [a, .Tuple es kk tp] [] pos) (mIs (fun d => Ts.any fun T => inst T d) f) := by
  obtain ⟨t, pa, h1⟩ := ha
  refine ⟨_, pe_callB call_isiT hg hm (by decide +kernel) (pa_cons pa (pa_cons (pe_tup ht) pa_nil hs2) he) (he := he) (hpl := hpl), fun bs ρ σ os vs P H Q r P' R e q => ?_⟩
  simp only [mIs, Option.bind_eq_some_iff, Option.map_eq_some_iff, Prod.mk.injEq] at e
  obtain ⟨⟨s1, P1⟩, e1, d, e2, rfl, rfl⟩ := e
  refine h1 bs ρ σ os vs P H _ s1 P1 R e1 fun x H1 R1 => ?_
  obtain ⟨F, ad, R1⟩ := R1
  refine ⟨by simpa using hn, fun tp n => ?_⟩
  have R2 := R1.lay (o := .tup (Ts.map fun T => V.ty T.nm)) n
  obtain ⟨r1, R3⟩ := R2.pop
  refine ⟨x, tp, _, _, Ts.map fun T => Value.type T.nm, _, rfl, upd_same, ?_, (R2.view r1 e2).ty R2.sub, kitAny_inst d Ts, q _ _ (R3.atom (.bl _))⟩
  induction Ts with
  | nil => exact .nil
  | cons T r ih => exact .cons (.ty _) (by
      have : ∀ l : List Ty, Paired ClsV (l.map fun T => V.ty T.nm) (l.map fun T => Value.type T.nm) := by
        intro l
        induction l with
        | nil => exact .nil
        | cons T r ih => exact .cons (.ty _) ih
      exact this r)
theorem pa_ty {e : Expr} {es : List Expr} {T : Ty} {Ts : List Ty} (h : PE X e (tC (.ty T.nm))) (h' : PA X es (fun _ H Q => Q (Ts.map fun T => .ty T.nm) H)) (hs : starEach (e :: es) X.env = (false, eval e X.env) :: starEach es X.env := by rfl) :
    PA X (e :: es) (fun _ H Q => Q ((T :: Ts).map fun T => .ty T.nm) H) := pa_cons h h' hs
theorem ped_isi2 {a : Expr} {f : XM} {p q q2 : Pos} {kk : Nat} {tp : Pos} {T U : Ty} (hg : Gl X "isinstance") (hm : X.mg "isinstance" = none) (hgT : Gl X T.nm) (hmT : X.mg T.nm = none) (hv : bootBuiltins T.nm = some (.type T.nm))
    (hgU : Gl X U.nm) (hmU : X.mg U.nm = none) (hvU : bootBuiltins U.nm = some (.type U.nm)) (ha : PEd X a f)
    (he : starEach [a, .Tuple [.Name T.nm q, .Name U.nm q2] kk tp] X.env = (false, eval a X.env) :: starEach [.Tuple [.Name T.nm q, .Name U.nm q2] kk tp] X.env := by rfl) (hpl : (backTo pos (starEach [.Tuple [.Name T.nm q, .Name U.nm q2] kk tp] X.env)).any (·.1) = false := by rfl)
    (hs2 : starEach [.Tuple [.Name T.nm q, .Name U.nm q2] kk tp] X.env = (false, eval (.Tuple [.Name T.nm q, .Name U.nm q2] kk tp) X.env) :: starEach [] X.env := by rfl)
    (h1 : starEach [.Name T.nm q, .Name U.nm q2] X.env = (false, eval (.Name T.nm q) X.env) :: starEach [.Name U.nm q2] X.env := by rfl) (h2 : starEach [.Name U.nm q2] X.env = (false, eval (.Name U.nm q2) X.env) :: starEach [] X.env := by rfl)
    (hn : (T.nm : Str) ≠ "__name__" := by decide) (hdb : ((T.nm : Str) == ("__debug__" : Str)) = false := by decide) (hnU : (U.nm : Str) ≠ "__name__" := by decide) (hdbU : ((U.nm : Str) == ("__debug__" : Str)) = false := by decide) :
    PEd X (.Call (.Name "isinstance" p) [a, .Tuple [.Name T.nm q, .Name U.nm q2] kk tp] [] pos) (mIs (fun d => inst T d || inst U d) f) := by
  have := ped_isiT (pos := pos) (p := p) (kk := kk) (tp := tp) [T, U] hg hm ha (pa_ty (pe_bltn (pos := q) (v := .ty T.nm) hgT hmT hv rfl hn hdb) (pa_ty (Ts := []) (pe_bltn (pos := q2) (v := .ty U.nm) hgU hmU hvU rfl hnU hdbU) pa_nil h2) h1) he hpl hs2 (by show 2 ≤ _; decide)
  simpa using this
end
end Pd

set_option Elab.async false
set_option linter.all false
set_option maxRecDepth 100000
set_option maxHeartbeats 1000000
/-! The layer Pd, part S: the mirrors run by simp. -/
namespace Pd
open PySem PySem.Spec PyProof.Rows L2
section
variable {ρ : EV} {P : Store}
@[simp] theorem mC_ap (d : PyData) : mC d ρ P = some (.fz d, P) := rfl
@[simp] theorem mVar_ap (i b : Nat) (sl : List (Option SV)) : mVar i ⟨b, sl⟩ P = (sl[i]?.join).map fun s => (s, P) := by
  unfold mVar
  cases h : sl[i]? with
  | none => simp [h]
  | some o => cases o <;> simp [h]
@[simp] theorem put_ap (b i : Nat) (sl : List (Option SV)) (s : SV) : EV.put ⟨b, sl⟩ i s = ⟨b, sl.set i (some s)⟩ := rfl
@[simp] theorem flat_fz (d : PyData) : flat P (.fz d) = some d := rfl
@[simp] theorem frz_fz (d : PyData) : frz P (.fz d) = some (d, P) := rfl
@[simp] theorem fzs_nil : fzs [] = some [] := rfl
@[simp] theorem fzs_cons (d : PyData) (r : List SV) : fzs (.fz d :: r) = (fzs r).map (d :: ·) := rfl
theorem fzs_map (l : List PyData) : fzs (l.map SV.fz) = some l := by
  induction l with
  | nil => rfl
  | cons d l ih => simp [ih]
theorem fzs_map' {α : Type} (f : α → PyData) (l : List α) : fzs (l.map fun x => SV.fz (f x)) = some (l.map f) := by
  induction l with
  | nil => rfl
  | cons d l ih => simp [ih]
@[simp] theorem flats_nil : flats P [] = some [] := rfl
@[simp] theorem flats_cons (a : SV) (l : List SV) : flats P (a :: l) = (flat P a).bind fun d => (flats P l).map (d :: ·) := rfl
@[simp] theorem mBin_ap (g : PyData → PyData → Option PyData) (f1 f2 : XM) : mBin g f1 f2 ρ P = (f1 ρ P).bind fun (a, P1) => (f2 ρ P1).bind fun (b, P2) => (flat P2 a).bind fun d => (flat P2 b).bind fun e => (g d e).map fun z => (.fz z, P2) := rfl
@[simp] theorem mUn_ap (g : PyData → Option PyData) (f : XM) : mUn g f ρ P = (f ρ P).bind fun (a, P1) => (flat P1 a).bind fun d => (g d).map fun z => (.fz z, P1) := rfl
@[simp] theorem mTB_ap (f : XM) : mTB f ρ P = (f ρ P).bind fun (a, P1) => match a with
  | .fz (.bool b) => some (b, P1)
  | _ => none := rfl
@[simp] theorem mNotB_ap (f : BM) : mNotB f ρ P = (f ρ P).map fun (a, P1) => (!a, P1) := rfl
@[simp] theorem mAndB_ap (f g : BM) : mAndB f g ρ P = (f ρ P).bind fun (a, P1) => if a = true then g ρ P1 else some (false, P1) := rfl
@[simp] theorem mOrB_ap (f g : BM) : mOrB f g ρ P = (f ρ P).bind fun (a, P1) => if a = true then some (true, P1) else g ρ P1 := rfl
@[simp] theorem mAndV_ap (f g : XM) : mAndV f g ρ P = (f ρ P).bind fun (a, P1) => match a with
  | .fz (.bool true) => g ρ P1
  | .fz (.bool false) => some (.fz (.bool false), P1)
  | _ => none := rfl
@[simp] theorem mOrV_ap (f g : XM) : mOrV f g ρ P = (f ρ P).bind fun (a, P1) => match a with
  | .fz (.bool false) => g ρ P1
  | .fz (.bool true) => some (.fz (.bool true), P1)
  | _ => none := rfl
@[simp] theorem mNotV_ap (f : XM) : mNotV f ρ P = (f ρ P).bind fun (a, P1) => match a with
  | .fz (.bool b) => some (.fz (.bool (!b)), P1)
  | _ => none := rfl
@[simp] theorem mIfE_ap (c : BM) (f g : XM) : mIfE c f g ρ P = (c ρ P).bind fun (b, P1) => if b = true then f ρ P1 else g ρ P1 := rfl
@[simp] theorem mChain_ap (g g' : PyData → PyData → Option PyData) (f1 f2 f3 : XM) : mChain g g' f1 f2 f3 ρ P = (f1 ρ P).bind fun (a, P1) => (f2 ρ P1).bind fun (b, P2) => (flat P2 a).bind fun d => (flat P2 b).bind fun e => (g d e).bind fun z => match z with
  | .bool true => (f3 ρ P2).bind fun (c, P3) => (flat P3 b).bind fun e' => (flat P3 c).bind fun k => (g' e' k).map fun z' => (.fz z', P3)
  | .bool false => some (.fz (.bool false), P2)
  | _ => none := rfl
@[simp] theorem mFz_ap (f : XM) : mFz f ρ P = (f ρ P).bind fun (a, P1) => (frz P1 a).map fun (d, P2) => (.fz d, P2) := rfl
@[simp] theorem aNil_ap : aNil ρ P = some ([], P) := rfl
@[simp] theorem aCons_ap (f : XM) (g : AM) : aCons f g ρ P = (f ρ P).bind fun (a, P1) => (g ρ P1).map fun (l, P2) => (a :: l, P2) := rfl
@[simp] theorem mTup_ap (g : AM) : mTup g ρ P = (g ρ P).bind fun (l, P1) => (fzs l).bind fun ds => if ds.length ≤ sizeLine then some (.fz (.tuple ds), P1) else none := rfl
@[simp] theorem mLst_ap (g : AM) : mLst g ρ P = (g ρ P).bind fun (l, P1) => (fzs l).bind fun ds => if ds.length ≤ sizeLine then some (.fz (.list ds), P1) else none := rfl
@[simp] theorem mLstC_ap (g : AM) : mLstC g ρ P = (g ρ P).bind fun (l, P1) => if l.length ≤ sizeLine then some (.ptr P1.length, P1 ++ [.lst l]) else none := rfl
@[simp] theorem mCall_ap (g : List PyData → Option PyData) (fs : AM) : mCall g fs ρ P = (fs ρ P).bind fun (l, P1) => (flats P1 l).bind fun ds => (g ds).map fun z => (.fz z, P1) := rfl
@[simp] theorem mCallF_ap (m : FM) (fs : AM) : mCallF m fs ρ P = (fs ρ P).bind fun (l, P1) => m l P1 := rfl
@[simp] theorem mIs_ap (g : PyData → Bool) (f : XM) : mIs g f ρ P = (f ρ P).bind fun (a, P1) => (flat P1 a).map fun d => (.fz (.bool (g d)), P1) := rfl
@[simp] theorem mSub_ap (f1 f2 : XM) : mSub f1 f2 ρ P = (f1 ρ P).bind fun (a, P1) => (f2 ρ P1).bind fun (b, P2) => (flat P2 b).bind fun kd => (subOf P2 a kd).map fun s => (s, P2) := rfl
@[simp] theorem mIn_ap (n : Bool) (f1 f2 : XM) : mIn n f1 f2 ρ P = (f1 ρ P).bind fun (a, P1) => (f2 ρ P1).bind fun (b, P2) => (flat P2 a).bind fun kd => (inOf P2 kd b).map fun v => (.fz (.bool (n != v)), P2) := rfl
@[simp] theorem mInK_ap (n : Bool) (ds : List PyData) (f : XM) : mInK n ds f ρ P = (f ρ P).bind fun (a, P1) => (flat P1 a).bind fun d => (dInS n d (.tuple ds)).map fun z => (.fz z, P1) := rfl
@[simp] theorem mSl_ap (f : XM) (lo hi : OM) : mSl f lo hi ρ P = (f ρ P).bind fun (a, P1) => (lo ρ P1).bind fun (l, P2) => (hi ρ P2).bind fun (u, P3) => (flat P3 a).bind fun d => (dSl d l u).map fun z => (.fz z, P3) := rfl
@[simp] theorem oNone_ap : oNone ρ P = some (none, P) := rfl
@[simp] theorem oSome_ap (f : XM) : oSome f ρ P = (f ρ P).bind fun (a, P1) => match a with
  | .fz (.int i) => some (some i, P1)
  | _ => none := rfl
@[simp] theorem mApp_ap (fo fe : XM) : mApp fo fe ρ P = (fo ρ P).bind fun (o, P1) => (fe ρ P1).bind fun (r, P2) => match o with
  | .ptr k => match P2[k]? with
    | some (.lst l) => if l.length < sizeLine ∧ okPtr ρ.b k r = true ∧ isLst P1[k]? = true then some (.fz .none, P2.set k (.lst (l ++ [r]))) else none
    | _ => none
  | _ => none := rfl
@[simp] theorem okPtr_fz (b k : Nat) (d : PyData) : okPtr b k (.fz d) = true := rfl
@[simp] theorem isLst_lst (l : List SV) : isLst (some (.lst l)) = true := rfl
@[simp] theorem sNx_ap : sNx ρ P = some (.nx, ρ, P) := rfl
@[simp] theorem sSeq_ap (m n : SM) : sSeq m n ρ P = (m ρ P).bind fun r => match r with
  | (.nx, ρ1, P1) => n ρ1 P1
  | r => some r := rfl
@[simp] theorem sRet_ap (f : XM) : sRet f ρ P = (f ρ P).map fun (s, P1) => (.rt s, ρ, P1) := rfl
@[simp] theorem sEx_ap (f : XM) : sEx f ρ P = (f ρ P).map fun (_, P1) => (.nx, ρ, P1) := rfl
@[simp] theorem sBk_ap : sBk ρ P = some (.bk, ρ, P) := rfl
@[simp] theorem sCt_ap : sCt ρ P = some (.ct, ρ, P) := rfl
@[simp] theorem sIf_ap (c : BM) (m n : SM) : sIf c m n ρ P = (c ρ P).bind fun (b, P1) => if b = true then m ρ P1 else n ρ P1 := rfl
@[simp] theorem sSet_ap (i : Nat) (f : XM) : sSet i f ρ P = (f ρ P).map fun (s, P1) => (.nx, ρ.put i s, P1) := rfl
@[simp] theorem sAsg_ap (f : XM) (g : GM) : sAsg f g ρ P = (f ρ P).bind fun (s, P1) => (g s ρ P1).map fun (ρ2, P2) => (.nx, ρ2, P2) := rfl
@[simp] theorem sPar_ap (i j : Nat) (g : AM) : sPar i j g ρ P = (g ρ P).bind fun (l, P1) => match l with
  | [a, b] => some (.nx, (ρ.put i a).put j b, P1)
  | _ => none := rfl
@[simp] theorem gNm_ap (i : Nat) (s : SV) : gNm i s ρ P = some (ρ.put i s, P) := rfl
@[simp] theorem gsNil_ap : gsNil [] ρ P = some (ρ, P) := rfl
@[simp] theorem gsCons_ap (g : GM) (h : List PyData → EV → Store → Option (EV × Store)) (d : PyData) (r : List PyData) : gsCons g h (d :: r) ρ P = (g (.fz d) ρ P).bind fun (ρ1, P1) => h r ρ1 P1 := rfl
@[simp] theorem gTu_ap (n : Nat) (h : List PyData → EV → Store → Option (EV × Store)) (ds : List PyData) : gTu n h (.fz (.tuple ds)) ρ P = if ds.length = n then h ds ρ P else none := rfl
@[simp] theorem gIx_ap (fo fi : XM) (s : SV) : gIx fo fi s ρ P = (fo ρ P).bind fun (o, P1) => (fi ρ P1).bind fun (i, P2) => match o, i with
  | .ptr k, .fz (.int i) => match P2[k]? with
    | some (.lst l) => if okPtr ρ.b k s = true then (ixN l.length i).map fun j => (ρ, P2.set k (.lst (l.set j s))) else none
    | _ => none
  | _, _ => none := rfl
@[simp] theorem sFor_ap (f : IM) (g : GM) (body : SM) : sFor f g body ρ P = (f ρ P).bind fun (items, _, P1) => forGo g body items ρ P1 := rfl
@[simp] theorem iAny_ap (f : XM) : iAny f ρ P = (f ρ P).bind fun (a, P1) => match a with
  | .fz (.list ds) => some (ds, a, P1)
  | .fz (.tuple ds) => some (ds, a, P1)
  | .fz (.str x) => some (signsD x, a, P1)
  | _ => none := rfl
@[simp] theorem iRange_ap (g : AM) : iRange g ρ P = (g ρ P).bind fun (l, P1) => match l with
  | [.fz (.int j)] => if -(2 ^ 62) ≤ j ∧ j < 2 ^ 62 then some (rangeD 0 j.toNat, .fz .none, P1) else none
  | [.fz (.int i), .fz (.int j)] => if -(2 ^ 62) ≤ i ∧ i < 2 ^ 62 ∧ -(2 ^ 62) ≤ j ∧ j < 2 ^ 62 then some (rangeD i (j - i).toNat, .fz .none, P1) else none
  | _ => none := rfl
@[simp] theorem bYes_ap : bYes ρ P = some (true, P) := rfl
theorem mFun_ap (ex : Nat → SV → Store → Option (SV × Store)) (nN : Nat) (body : SM) (args : List SV) : mFun ex nN body args P = (body { b := P.length, sl := startE nN args } P).bind fun (fl, _, P2) => match fl with
  | .rt r => ex P.length r P2
  | .nx => ex P.length (.fz .none) P2
  | _ => none := rfl
@[simp] theorem exitZ_fz (n : Nat) (d : PyData) : exitZ n (.fz d) P = some (.fz d, P.take n) := rfl
@[simp] theorem exitC_fz (n : Nat) (d : PyData) : exitC n (.fz d) P = some (.fz d, P.take n) := rfl
theorem exitZ_ptr {n k : Nat} {c : Cell} {d : PyData} (h : n ≤ k) (hc : P[k]? = some c) (hd : c.dat = some d) : exitZ n (.ptr k) P = some (.fz d, P.take n) := by
  simp [exitZ, h, hc, hd]
@[simp] theorem dictOf_tup (ds : List PyData) : dictOf P (.fz (.tuple ds)) = none := rfl
@[simp] theorem dictOf_lst (ds : List PyData) : dictOf P (.fz (.list ds)) = none := rfl
@[simp] theorem dictOf_str (x : Str) : dictOf P (.fz (.str x)) = none := rfl
theorem dictOf_cell {k : Nat} {l : List SV} (h : P[k]? = some (.lst l)) : dictOf P (.ptr k) = none := by simp [dictOf, h]
@[simp] theorem subOf_tup (ds : List PyData) (i : Int) : subOf P (.fz (.tuple ds)) (.int i) = (atI ds i).map .fz := rfl
@[simp] theorem subOf_lst (ds : List PyData) (i : Int) : subOf P (.fz (.list ds)) (.int i) = (atI ds i).map .fz := rfl
theorem subOf_str (z : Str) (i : Int) (h : z.length ≤ sizeLine) : subOf P (.fz (.str z)) (.int i) = (atI z.cps.toList i).map fun c => .fz (.str ⟨#[c]⟩) := by
  simp [subOf, dIx, h, Option.map_map, Function.comp_def]
theorem subOf_cell {k : Nat} {l : List SV} {ds : List PyData} (h : P[k]? = some (.lst l)) (hd : fzs l = some ds) (i : Int) : subOf P (.ptr k) (.int i) = (atI ds i).map .fz := by
  simp [subOf, dictOf_cell h, flat, h, Cell.dat, hd, dIx]
theorem flat_cell {k : Nat} {c : Cell} (h : P[k]? = some c) : flat P (.ptr k) = c.dat := by simp [flat, h]
@[simp] theorem dat_lst (l : List SV) : (Cell.lst l).dat = (fzs l).map .list := rfl
@[simp] theorem inOf_tup (ds : List PyData) (d : PyData) : inOf P d (.fz (.tuple ds)) = if SeqAt.shaped d = true ∧ SeqAt.shaped (.tuple ds) = true then some (ds.any fun y => PyData.eqv y d) else none := by
  simp only [inOf, dictOf_tup, flat_fz, Option.bind_some, dInS]
  by_cases h : SeqAt.shaped d = true ∧ SeqAt.shaped (.tuple ds) = true
  · simp [h]
  · simp [h]
@[simp] theorem inOf_lst (ds : List PyData) (d : PyData) : inOf P d (.fz (.list ds)) = if SeqAt.shaped d = true ∧ SeqAt.shaped (.list ds) = true then some (ds.any fun y => PyData.eqv y d) else none := by
  simp only [inOf, dictOf_lst, flat_fz, Option.bind_some, dInS]
  by_cases h : SeqAt.shaped d = true ∧ SeqAt.shaped (.list ds) = true
  · simp [h]
  · simp [h]
@[simp] theorem inOf_sign (x : Str) (c : Nat) : inOf P (.str ⟨#[c]⟩) (.fz (.str x)) = some (decide (c ∈ x.cps.toList)) := by
  have := StrLaws.found_one x c
  simp only [inOf, dictOf_str, flat_fz, Option.bind_some, dInS, this]
  simp
end

/-! items -/
@[simp] theorem ixN_nat (n j : Nat) : ixN n (j : Int) = if j < n then some j else none := by
  unfold ixN
  by_cases h : j < n
  · simp [h]
  · simp [h]
@[simp] theorem atI_nat' {α : Type} (xs : List α) (j : Nat) : atI xs (j : Int) = xs[j]? := by
  unfold atI
  rw [ixN_nat]
  split
  · rfl
  · rw [List.getElem?_eq_none (by omega)]; rfl
@[simp] theorem atI_0 {α : Type} (xs : List α) : atI xs 0 = xs[0]? := atI_nat' xs 0
@[simp] theorem atI_1 {α : Type} (xs : List α) : atI xs 1 = xs[1]? := atI_nat' xs 1
@[simp] theorem atI_2 {α : Type} (xs : List α) : atI xs 2 = xs[2]? := atI_nat' xs 2
@[simp] theorem atI_3 {α : Type} (xs : List α) : atI xs 3 = xs[3]? := atI_nat' xs 3
@[simp] theorem atI_4 {α : Type} (xs : List α) : atI xs 4 = xs[4]? := atI_nat' xs 4
@[simp] theorem ixN_0 (n : Nat) : ixN n 0 = if 0 < n then some 0 else none := ixN_nat n 0
@[simp] theorem ixN_1 (n : Nat) : ixN n 1 = if 1 < n then some 1 else none := ixN_nat n 1
@[simp] theorem ixN_2 (n : Nat) : ixN n 2 = if 2 < n then some 2 else none := ixN_nat n 2
@[simp] theorem ixN_3 (n : Nat) : ixN n 3 = if 3 < n then some 3 else none := ixN_nat n 3

/-! operations on data -/
@[simp] theorem dAdd_int (i j : Int) : dAdd (.int i) (.int j) = some (.int (i + j)) := rfl
@[simp] theorem dSub_int (i j : Int) : dSub (.int i) (.int j) = some (.int (i - j)) := rfl
theorem dAdd_lst (xs ys : List PyData) (h : xs.length + ys.length ≤ sizeLine) : dAdd (.list xs) (.list ys) = some (.list (xs ++ ys)) := by
  simp [dAdd, dI, dAddS, dS, dAddL, h]
theorem dAdd_tup (xs ys : List PyData) (h : xs.length + ys.length ≤ sizeLine) : dAdd (.tuple xs) (.tuple ys) = some (.tuple (xs ++ ys)) := by
  simp [dAdd, dI, dAddS, dS, dAddL, dAddT, h]
@[simp] theorem dMod_int (i j : Int) : dMod (.int i) (.int j) = if decide (j ≠ 0) = true then some (.int (i.fmod j)) else none := rfl
@[simp] theorem dDiv_int (i j : Int) : dDiv (.int i) (.int j) = if cDiv i j = true then some (.int (i.fdiv j)) else none := rfl
@[simp] theorem dMulI_int (i j : Int) : dMulI (.int i) (.int j) = if cMul i j = true then some (.int (i * j)) else none := rfl
@[simp] theorem dLt_int (i j : Int) : dLt (.int i) (.int j) = some (.bool (decide (i < j))) := rfl
@[simp] theorem dLe_int (i j : Int) : dLe (.int i) (.int j) = some (.bool (decide (i ≤ j))) := rfl
@[simp] theorem dGt_int (i j : Int) : dGt (.int i) (.int j) = some (.bool (decide (j < i))) := rfl
@[simp] theorem dGe_int (i j : Int) : dGe (.int i) (.int j) = some (.bool (decide (j ≤ i))) := rfl
@[simp] theorem dLe_str (x y : Str) : dLe (.str x) (.str y) = some (.bool (!decide (y.cps.toList < x.cps.toList))) := rfl
@[simp] theorem dLt_str (x y : Str) : dLt (.str x) (.str y) = some (.bool (decide (x.cps.toList < y.cps.toList))) := rfl
@[simp] theorem dEq_int (i j : Int) : dEq (.int i) (.int j) = some (.bool (decide (i = j))) := by simp [dEq, dEqA, atom, scal]
@[simp] theorem dNe_int (i j : Int) : dNe (.int i) (.int j) = some (.bool (!decide (i = j))) := by simp [dNe, dEqA, atom, scal]
@[simp] theorem dEq_str2 (x y : Str) : dEq (.str x) (.str y) = some (.bool (decide (x = y))) := by simp [dEq, dEqA, atom, scal]
@[simp] theorem dNe_str2 (x y : Str) : dNe (.str x) (.str y) = some (.bool (!decide (x = y))) := by simp [dNe, dEqA, atom, scal]
@[simp] theorem dIs_non (n : Bool) (d : PyData) : dIs n d .none = some (.bool (n != isNon d)) := by cases d <;> rfl
@[simp] theorem dIs_bl (n a b : Bool) : dIs n (.bool a) (.bool b) = some (.bool (n != decide (a = b))) := rfl
@[simp] theorem gLen_lst (ds : List PyData) : gLen [.list ds] = some (.int ds.length) := rfl
@[simp] theorem gLen_tup (ds : List PyData) : gLen [.tuple ds] = some (.int ds.length) := rfl
@[simp] theorem gInt_int (i : Int) : gInt [.int i] = some (.int i) := rfl
@[simp] theorem gTuple_lst (ds : List PyData) : gTuple [.list ds] = some (.tuple ds) := rfl
@[simp] theorem gTuple_tup (ds : List PyData) : gTuple [.tuple ds] = some (.tuple ds) := rfl
@[simp] theorem gList_lst (ds : List PyData) : gList [.list ds] = some (.list ds) := rfl
@[simp] theorem gList_tup (ds : List PyData) : gList [.tuple ds] = some (.list ds) := rfl
theorem bools_map {α : Type} (f : α → Bool) (l : List α) : bools (l.map fun x => .bool (f x)) = some (l.map f) := by
  induction l with
  | nil => rfl
  | cons a l ih => simp [bools, ih]
theorem intsD_map {α : Type} (f : α → Int) (l : List α) : intsD (l.map fun x => .int (f x)) = some (l.map f) := by
  induction l with
  | nil => rfl
  | cons a l ih => simp [intsD, ih]
theorem gAll_map {α : Type} (f : α → Bool) (l : List α) : gAll [.list (l.map fun x => .bool (f x))] = some (.bool (l.all f)) := by
  simp [gAll, bools_map, List.all_map, Function.comp_def]
theorem gAny_map {α : Type} (f : α → Bool) (l : List α) : gAny [.list (l.map fun x => .bool (f x))] = some (.bool (l.any f)) := by
  simp [gAny, bools_map, List.any_map, Function.comp_def]
theorem gSum_map {α : Type} (f : α → Int) (l : List α) : gSum [.list (l.map fun x => .int (f x))] = some (.int (l.map f).sum) := by
  simp [gSum, intsD_map]

/-! comprehensions that change nothing -/
theorem lcGo_pure {g : GM} {tt : BM} {te : XM} {ρ : EV} {n : Nat} (p : PyData → Bool) (h : PyData → PyData) : ∀ (items : List PyData) (P : Store) (acc : List SV), P.length = n → acc.length + items.length ≤ sizeLine →
    (∀ d ∈ items, ∀ S : Store, ∃ ρ1, g (.fz d) ρ S = some (ρ1, S) ∧ tt ρ1 S = some (p d, S) ∧ (p d = true → te ρ1 S = some (.fz (h d), S))) →
    lcGo g tt te ρ n items (P ++ [.lst acc]) = some (P ++ [.lst (acc ++ ((items.filter p).map fun d => SV.fz (h d)))])
  | [], P, acc, _, _, _ => by simp [lcGo]
  | d :: r, P, acc, hP, hl, hh => by
    obtain ⟨ρ1, e1, e2, e3⟩ := hh d List.mem_cons_self (P ++ [.lst acc])
    have ih := fun acc' (hl' : acc'.length + r.length ≤ sizeLine) => lcGo_pure (g := g) (tt := tt) (te := te) (ρ := ρ) (n := n) p h r P acc' hP hl' fun d hd S => hh d (List.mem_cons_of_mem _ hd) S
    simp only [List.length_cons] at hl
    simp only [lcGo, e1, e2, Option.bind_some]
    by_cases hp : p d = true
    · have hn : (P ++ [Cell.lst acc])[n]? = some (.lst acc) := by rw [← hP]; simp
      simp only [hp, if_true, e3 hp, Option.bind_some, hn]
      rw [if_pos (by omega)]
      have hs : (P ++ [Cell.lst acc]).set n (.lst (acc ++ [.fz (h d)])) = P ++ [.lst (acc ++ [.fz (h d)])] := by
        rw [← hP, List.set_append_right _ _ (Nat.le_refl _)]; simp
      rw [hs, ih _ (by simp; omega)]
      simp [List.filter_cons, hp]
    · simp only [hp, Bool.false_eq_true, if_false]
      rw [ih acc (by omega)]
      simp [List.filter_cons, hp]
theorem mLC_pure {own : List Nat} {f : IM} {g : GM} {tt : BM} {te : XM} {ρ : EV} {P : Store} {items : List PyData} {src : SV} (p : PyData → Bool) (h : PyData → PyData) (hf : f ρ P = some (items, src, P)) (hl : items.length ≤ sizeLine)
    (hh : ∀ d ∈ items, ∀ S : Store, ∃ ρ1, g (.fz d) { ρ.wipe own with b := P.length } S = some (ρ1, S) ∧ tt ρ1 S = some (p d, S) ∧ (p d = true → te ρ1 S = some (.fz (h d), S))) :
    mLC own f g tt te ρ P = some (.fz (.list ((items.filter p).map h)), P) := by
  have := lcGo_pure (g := g) (tt := tt) (te := te) (ρ := { ρ.wipe own with b := P.length }) p h items P [] rfl (by simpa using hl) hh
  simp only [mLC, hf, Option.bind_some, this, List.nil_append]
  simp [fzs_map']
/-- .. without a test -/
theorem mLC_map {own : List Nat} {f : IM} {g : GM} {te : XM} {ρ : EV} {P : Store} {items : List PyData} {src : SV} (h : PyData → PyData) (hf : f ρ P = some (items, src, P)) (hl : items.length ≤ sizeLine)
    (hh : ∀ d ∈ items, ∀ S : Store, ∃ ρ1, g (.fz d) { ρ.wipe own with b := P.length } S = some (ρ1, S) ∧ te ρ1 S = some (.fz (h d), S)) :
    mLC own f g bYes te ρ P = some (.fz (.list (items.map h)), P) := by
  have := mLC_pure (tt := bYes) (fun _ => true) h hf hl fun d hd S => let ⟨ρ1, a, b⟩ := hh d hd S; ⟨ρ1, a, rfl, fun _ => b⟩
  have e : items.filter (fun _ => true) = items := List.filter_eq_self.mpr fun _ _ => rfl
  rw [e] at this
  exact this

/-! good data -/
def okD : Nat → PyData → Bool
  | _, .none => true
  | _, .bool _ => true
  | _, .int _ => true
  | _, .str x => PyData.strOk x && decide (x.length ≤ 1000)
  | n + 1, .list ds => decide (ds.length ≤ 1000) && ds.all (okD n)
  | n + 1, .tuple ds => decide (ds.length ≤ 1000) && ds.all (okD n)
  | _, _ => false
theorem okD_lay : ∀ (n : Nat) (d : PyData), okD n d = true → d.canLay0 = true ∧ d.depth ≤ n := by
  intro n
  induction n with
  | zero => intro d h; cases d <;> simp_all [okD, PyData.canLay0, PyData.depth]
  | succ n ih =>
    have all : ∀ ds : List PyData, ds.all (okD n) = true → PyData.canLayAll0 ds = true ∧ PyData.depthAll ds ≤ n := by
      intro ds
      induction ds with
      | nil => intro _; simp [PyData.canLayAll0, PyData.depthAll]
      | cons d r ihr =>
        intro h
        simp only [List.all_cons, Bool.and_eq_true] at h
        have h1 := ih d h.1
        have h2 := ihr h.2
        simp only [PyData.canLayAll0, PyData.depthAll, h1.1, h2.1, Bool.and_true, true_and]
        omega
    intro d h
    cases d with
    | list ds =>
      simp only [okD, Bool.and_eq_true] at h
      have := all ds h.2
      simp only [PyData.canLay0, PyData.depth, this.1, true_and]; omega
    | tuple ds =>
      simp only [okD, Bool.and_eq_true] at h
      have := all ds h.2
      simp only [PyData.canLay0, PyData.depth, this.1, true_and]; omega
    | _ => simp_all [okD, PyData.canLay0, PyData.depth]
theorem okD_shaped {n : Nat} {d : PyData} (h : okD n d = true) (hn : n ≤ 64) : SeqAt.shaped d = true := by
  obtain ⟨h1, h2⟩ := okD_lay n d h
  unfold SeqAt.shaped
  simp only [h1, Bool.true_and, decide_eq_true_eq]
  omega
/-- the data is this text -/
def isS (x : Str) : PyData → Bool
  | .str y => decide (y = x)
  | _ => false
theorem eqv_str (x : Str) (d : PyData) : PyData.eqv (.str x) d = isS x d := by
  cases d with
  | str s =>
    simp only [PyData.eqv, isS]
    rw [Bool.eq_iff_iff]
    simp only [beq_iff_eq, decide_eq_true_eq]
    exact ⟨Eq.symm, Eq.symm⟩
  | _ => simp [PyData.eqv, isS]
theorem dEq_str {d : PyData} (x : Str) (h : SeqAt.shaped d = true) (hx : PyData.strOk x = true := by decide +kernel) : dEq d (.str x) = some (.bool (isS x d)) := by
  have hs : SeqAt.shaped (.str x) = true := by simp [SeqAt.shaped, PyData.canLay0, PyData.depth, hx]
  cases d <;> simp [dEq, dEqA, atom, scal, isS, dEqD, h, hs, PyData.eqv]
/-! sizes -/
@[simp] theorem sz_1 : (1 : Nat) ≤ sizeLine := by decide
@[simp] theorem sz_2 : (2 : Nat) ≤ sizeLine := by decide
@[simp] theorem sz_3 : (3 : Nat) ≤ sizeLine := by decide
@[simp] theorem sz_4 : (4 : Nat) ≤ sizeLine := by decide
@[simp] theorem sz_5 : (5 : Nat) ≤ sizeLine := by decide
@[simp] theorem sz_6 : (6 : Nat) ≤ sizeLine := by decide
@[simp] theorem sz_7 : (7 : Nat) ≤ sizeLine := by decide
@[simp] theorem sz_8 : (8 : Nat) ≤ sizeLine := by decide
@[simp] theorem sz_9 : (9 : Nat) ≤ sizeLine := by decide
@[simp] theorem sz_10 : (10 : Nat) ≤ sizeLine := by decide
@[simp] theorem sz_11 : (11 : Nat) ≤ sizeLine := by decide
@[simp] theorem sz_12 : (12 : Nat) ≤ sizeLine := by decide
@[simp] theorem sz_13 : (13 : Nat) ≤ sizeLine := by decide
@[simp] theorem sz_14 : (14 : Nat) ≤ sizeLine := by decide
@[simp] theorem sz_15 : (15 : Nat) ≤ sizeLine := by decide
@[simp] theorem sz_16 : (16 : Nat) ≤ sizeLine := by decide
end Pd

set_option Elab.async false
set_option linter.all false
set_option maxRecDepth 100000
set_option maxHeartbeats 4000000
namespace NS
open PySem PySem.Spec PyProof.Rows L2 Pd
/-! ### the text: routesrest_k03_rules_that_are_none -/
def topS (i : Nat) : Stmt := PySem.Challenge.pw_routesrest_k03_rules_that_are_none.main.body.getD i (.Pass ⟨0, 0, 0, 0⟩)
abbrev s__law_copy : Stmt := topS 25
abbrev n__law_copy : List Str := ["thing", "found", "key", "part"]
theorem sc__law_copy : FnScope n__law_copy ["thing"] (defScope s__law_copy) := ⟨rfl, rfl, rfl, by decide +kernel, rfl, by decide +kernel, by decide +kernel⟩
abbrev s__law_draw : Stmt := topS 23
abbrev n__law_draw : List Str := ["draws", "limit", "cell", "value"]
theorem sc__law_draw : FnScope n__law_draw ["draws", "limit"] (defScope s__law_draw) := ⟨rfl, rfl, rfl, by decide +kernel, rfl, by decide +kernel, by decide +kernel⟩
abbrev s__law_odd : Stmt := topS 31
abbrev n__law_odd : List Str := ["draws"]
theorem sc__law_odd : FnScope n__law_odd ["draws"] (defScope s__law_odd) := ⟨rfl, rfl, rfl, by decide +kernel, rfl, by decide +kernel, by decide +kernel⟩
abbrev s__law_whole : Stmt := topS 30
abbrev n__law_whole : List Str := ["thing"]
theorem sc__law_whole : FnScope n__law_whole ["thing"] (defScope s__law_whole) := ⟨rfl, rfl, rfl, by decide +kernel, rfl, by decide +kernel, by decide +kernel⟩
abbrev s__law_bend : Stmt := topS 32
abbrev n__law_bend : List Str := ["draws", "thing", "depth", "at", "parts", "kind", "other", "names", "key", "leave", "found", "name", "part"]
theorem sc__law_bend : FnScope n__law_bend ["draws", "thing", "depth"] (defScope s__law_bend) := ⟨rfl, rfl, rfl, by decide +kernel, rfl, by decide +kernel, by decide +kernel⟩
abbrev s__law_draws : Stmt := topS 22
abbrev n__law_draws : List Str := ["script"]
theorem sc__law_draws : FnScope n__law_draws ["script"] (defScope s__law_draws) := ⟨rfl, rfl, rfl, by decide +kernel, rfl, by decide +kernel, by decide +kernel⟩
abbrev s__law_is_name : Stmt := topS 33
abbrev n__law_is_name : List Str := ["thing", "kept", "sign"]
theorem sc__law_is_name : FnScope n__law_is_name ["thing"] (defScope s__law_is_name) := ⟨rfl, rfl, rfl, by decide +kernel, rfl, by decide +kernel, by decide +kernel⟩
abbrev s__law_is_number : Stmt := topS 34
abbrev n__law_is_number : List Str := ["thing", "low", "high"]
theorem sc__law_is_number : FnScope n__law_is_number ["thing", "low", "high"] (defScope s__law_is_number) := ⟨rfl, rfl, rfl, by decide +kernel, rfl, by decide +kernel, by decide +kernel⟩
abbrev s__law_is_act : Stmt := topS 35
abbrev n__law_is_act : List Str := ["thing", "word", "bounds"]
theorem sc__law_is_act : FnScope n__law_is_act ["thing", "word"] (defScope s__law_is_act) := ⟨rfl, rfl, rfl, by decide +kernel, rfl, by decide +kernel, by decide +kernel⟩
abbrev s_is_name : Stmt := topS 6
abbrev n_is_name : List Str := ["thing", "sign"]
theorem sc_is_name : FnScope n_is_name ["thing"] (defScope s_is_name) := ⟨rfl, rfl, rfl, by decide +kernel, rfl, by decide +kernel, by decide +kernel⟩
abbrev s_fits_in : Stmt := topS 8
abbrev n_fits_in : List Str := ["thing", "deep", "part"]
theorem sc_fits_in : FnScope n_fits_in ["thing", "deep"] (defScope s_fits_in) := ⟨rfl, rfl, rfl, by decide +kernel, rfl, by decide +kernel, by decide +kernel⟩
abbrev s_size_of : Stmt := topS 9
abbrev n_size_of : List Str := ["pattern", "part"]
theorem sc_size_of : FnScope n_size_of ["pattern"] (defScope s_size_of) := ⟨rfl, rfl, rfl, by decide +kernel, rfl, by decide +kernel, by decide +kernel⟩
abbrev s_is_pattern : Stmt := topS 7
abbrev n_is_pattern : List Str := ["thing"]
theorem sc_is_pattern : FnScope n_is_pattern ["thing"] (defScope s_is_pattern) := ⟨rfl, rfl, rfl, by decide +kernel, rfl, by decide +kernel, by decide +kernel⟩
abbrev s__law_is_condition : Stmt := topS 36
abbrev n__law_is_condition : List Str := ["thing", "sign"]
theorem sc__law_is_condition : FnScope n__law_is_condition ["thing"] (defScope s__law_is_condition) := ⟨rfl, rfl, rfl, by decide +kernel, rfl, by decide +kernel, by decide +kernel⟩
abbrev s__law_is_rule : Stmt := topS 37
abbrev n__law_is_rule : List Str := ["thing", "act", "one"]
theorem sc__law_is_rule : FnScope n__law_is_rule ["thing"] (defScope s__law_is_rule) := ⟨rfl, rfl, rfl, by decide +kernel, rfl, by decide +kernel, by decide +kernel⟩
abbrev s__law_simple : Stmt := topS 28
abbrev n__law_simple : List Str := ["draws", "names", "router", "one", "other", "rest", "first", "some"]
theorem sc__law_simple : FnScope n__law_simple ["draws", "names", "router"] (defScope s__law_simple) := ⟨rfl, rfl, rfl, by decide +kernel, rfl, by decide +kernel, by decide +kernel⟩
abbrev s__law_tag : Stmt := topS 27
abbrev n__law_tag : List Str := ["draws"]
theorem sc__law_tag : FnScope n__law_tag ["draws"] (defScope s__law_tag) := ⟨rfl, rfl, rfl, by decide +kernel, rfl, by decide +kernel, by decide +kernel⟩
abbrev s__law_rule : Stmt := topS 29
abbrev n__law_rule : List Str := ["draws", "router", "neighbour", "names", "word", "conditions", "k", "kind", "thing", "acts"]
theorem sc__law_rule : FnScope n__law_rule ["draws", "router", "neighbour", "names", "word"] (defScope s__law_rule) := ⟨rfl, rfl, rfl, by decide +kernel, rfl, by decide +kernel, by decide +kernel⟩
abbrev s__law_same : Stmt := topS 24
abbrev n__law_same : List Str := ["x", "due", "right", "at", "key"]
theorem sc__law_same : FnScope n__law_same ["x", "due"] (defScope s__law_same) := ⟨rfl, rfl, rfl, by decide +kernel, rfl, by decide +kernel, by decide +kernel⟩
abbrev s_is_number : Stmt := topS 17
abbrev n_is_number : List Str := ["thing", "low", "high"]
theorem sc_is_number : FnScope n_is_number ["thing", "low", "high"] (defScope s_is_number) := ⟨rfl, rfl, rfl, by decide +kernel, rfl, by decide +kernel, by decide +kernel⟩
abbrev s_is_act : Stmt := topS 19
abbrev n_is_act : List Str := ["thing", "word"]
theorem sc_is_act : FnScope n_is_act ["thing", "word"] (defScope s_is_act) := ⟨rfl, rfl, rfl, by decide +kernel, rfl, by decide +kernel, by decide +kernel⟩
abbrev s_is_signs : Stmt := topS 12
abbrev n_is_signs : List Str := ["thing", "most", "sign"]
theorem sc_is_signs : FnScope n_is_signs ["thing", "most"] (defScope s_is_signs) := ⟨rfl, rfl, rfl, by decide +kernel, rfl, by decide +kernel, by decide +kernel⟩
abbrev s_is_prefix : Stmt := topS 13
abbrev n_is_prefix : List Str := ["thing"]
theorem sc_is_prefix : FnScope n_is_prefix ["thing"] (defScope s_is_prefix) := ⟨rfl, rfl, rfl, by decide +kernel, rfl, by decide +kernel, by decide +kernel⟩
abbrev s_is_condition : Stmt := topS 18
abbrev n_is_condition : List Str := ["thing"]
theorem sc_is_condition : FnScope n_is_condition ["thing"] (defScope s_is_condition) := ⟨rfl, rfl, rfl, by decide +kernel, rfl, by decide +kernel, by decide +kernel⟩
abbrev s_is_rule : Stmt := topS 20
abbrev n_is_rule : List Str := ["thing", "act", "one"]
theorem sc_is_rule : FnScope n_is_rule ["thing"] (defScope s_is_rule) := ⟨rfl, rfl, rfl, by decide +kernel, rfl, by decide +kernel, by decide +kernel⟩
abbrev s_law : Stmt := topS 38
abbrev n_law : List Str := ["script", "draws", "turn", "rule", "k", "odd", "acts", "made", "right", "due", "things", "thing"]
theorem sc_law : FnScope n_law ["script"] (defScope s_law) := ⟨rfl, rfl, rfl, by decide +kernel, rfl, by decide +kernel, by decide +kernel⟩
structure Txt (K : PySem.W.Frag) (mg : Str → Option Value) where
  a__law_copy : Addr
  d__law_copy : FuncData
  F__law_copy : L2.Fun K "_law_copy" "_law_copy" s__law_copy a__law_copy d__law_copy
  m__law_copy : mg "_law_copy" = some (.ref a__law_copy)
  b__law_copy : Binds K d__law_copy ["thing"] []
  a__law_draw : Addr
  d__law_draw : FuncData
  F__law_draw : L2.Fun K "_law_draw" "_law_draw" s__law_draw a__law_draw d__law_draw
  m__law_draw : mg "_law_draw" = some (.ref a__law_draw)
  b__law_draw : Binds K d__law_draw ["draws", "limit"] []
  a__law_odd : Addr
  d__law_odd : FuncData
  F__law_odd : L2.Fun K "_law_odd" "_law_odd" s__law_odd a__law_odd d__law_odd
  m__law_odd : mg "_law_odd" = some (.ref a__law_odd)
  b__law_odd : Binds K d__law_odd ["draws"] []
  a__law_whole : Addr
  d__law_whole : FuncData
  F__law_whole : L2.Fun K "_law_whole" "_law_whole" s__law_whole a__law_whole d__law_whole
  m__law_whole : mg "_law_whole" = some (.ref a__law_whole)
  b__law_whole : Binds K d__law_whole ["thing"] []
  a__law_bend : Addr
  d__law_bend : FuncData
  F__law_bend : L2.Fun K "_law_bend" "_law_bend" s__law_bend a__law_bend d__law_bend
  m__law_bend : mg "_law_bend" = some (.ref a__law_bend)
  b__law_bend : Binds K d__law_bend ["draws", "thing", "depth"] []
  a__law_draws : Addr
  d__law_draws : FuncData
  F__law_draws : L2.Fun K "_law_draws" "_law_draws" s__law_draws a__law_draws d__law_draws
  m__law_draws : mg "_law_draws" = some (.ref a__law_draws)
  b__law_draws : Binds K d__law_draws ["script"] []
  a__law_is_name : Addr
  d__law_is_name : FuncData
  F__law_is_name : L2.Fun K "_law_is_name" "_law_is_name" s__law_is_name a__law_is_name d__law_is_name
  m__law_is_name : mg "_law_is_name" = some (.ref a__law_is_name)
  b__law_is_name : Binds K d__law_is_name ["thing"] []
  a__law_is_number : Addr
  d__law_is_number : FuncData
  F__law_is_number : L2.Fun K "_law_is_number" "_law_is_number" s__law_is_number a__law_is_number d__law_is_number
  m__law_is_number : mg "_law_is_number" = some (.ref a__law_is_number)
  b__law_is_number : Binds K d__law_is_number ["thing", "low", "high"] []
  a__law_is_act : Addr
  d__law_is_act : FuncData
  F__law_is_act : L2.Fun K "_law_is_act" "_law_is_act" s__law_is_act a__law_is_act d__law_is_act
  m__law_is_act : mg "_law_is_act" = some (.ref a__law_is_act)
  b__law_is_act : Binds K d__law_is_act ["thing", "word"] []
  a_is_name : Addr
  d_is_name : FuncData
  F_is_name : L2.Fun K "is_name" "is_name" s_is_name a_is_name d_is_name
  m_is_name : mg "is_name" = some (.ref a_is_name)
  b_is_name : Binds K d_is_name ["thing"] []
  a_fits_in : Addr
  d_fits_in : FuncData
  F_fits_in : L2.Fun K "fits_in" "fits_in" s_fits_in a_fits_in d_fits_in
  m_fits_in : mg "fits_in" = some (.ref a_fits_in)
  b_fits_in : Binds K d_fits_in ["thing", "deep"] []
  a_size_of : Addr
  d_size_of : FuncData
  F_size_of : L2.Fun K "size_of" "size_of" s_size_of a_size_of d_size_of
  m_size_of : mg "size_of" = some (.ref a_size_of)
  b_size_of : Binds K d_size_of ["pattern"] []
  a_is_pattern : Addr
  d_is_pattern : FuncData
  F_is_pattern : L2.Fun K "is_pattern" "is_pattern" s_is_pattern a_is_pattern d_is_pattern
  m_is_pattern : mg "is_pattern" = some (.ref a_is_pattern)
  b_is_pattern : Binds K d_is_pattern ["thing"] []
  a__law_is_condition : Addr
  d__law_is_condition : FuncData
  F__law_is_condition : L2.Fun K "_law_is_condition" "_law_is_condition" s__law_is_condition a__law_is_condition d__law_is_condition
  m__law_is_condition : mg "_law_is_condition" = some (.ref a__law_is_condition)
  b__law_is_condition : Binds K d__law_is_condition ["thing"] []
  a__law_is_rule : Addr
  d__law_is_rule : FuncData
  F__law_is_rule : L2.Fun K "_law_is_rule" "_law_is_rule" s__law_is_rule a__law_is_rule d__law_is_rule
  m__law_is_rule : mg "_law_is_rule" = some (.ref a__law_is_rule)
  b__law_is_rule : Binds K d__law_is_rule ["thing"] []
  a__law_simple : Addr
  d__law_simple : FuncData
  F__law_simple : L2.Fun K "_law_simple" "_law_simple" s__law_simple a__law_simple d__law_simple
  m__law_simple : mg "_law_simple" = some (.ref a__law_simple)
  b__law_simple : Binds K d__law_simple ["draws", "names", "router"] []
  a__law_tag : Addr
  d__law_tag : FuncData
  F__law_tag : L2.Fun K "_law_tag" "_law_tag" s__law_tag a__law_tag d__law_tag
  m__law_tag : mg "_law_tag" = some (.ref a__law_tag)
  b__law_tag : Binds K d__law_tag ["draws"] []
  a__law_rule : Addr
  d__law_rule : FuncData
  F__law_rule : L2.Fun K "_law_rule" "_law_rule" s__law_rule a__law_rule d__law_rule
  m__law_rule : mg "_law_rule" = some (.ref a__law_rule)
  b__law_rule : Binds K d__law_rule ["draws", "router", "neighbour", "names", "word"] []
  a__law_same : Addr
  d__law_same : FuncData
  F__law_same : L2.Fun K "_law_same" "_law_same" s__law_same a__law_same d__law_same
  m__law_same : mg "_law_same" = some (.ref a__law_same)
  b__law_same : Binds K d__law_same ["x", "due"] []
  a_is_number : Addr
  d_is_number : FuncData
  F_is_number : L2.Fun K "is_number" "is_number" s_is_number a_is_number d_is_number
  m_is_number : mg "is_number" = some (.ref a_is_number)
  b_is_number : Binds K d_is_number ["thing", "low", "high"] []
  a_is_act : Addr
  d_is_act : FuncData
  F_is_act : L2.Fun K "is_act" "is_act" s_is_act a_is_act d_is_act
  m_is_act : mg "is_act" = some (.ref a_is_act)
  b_is_act : Binds K d_is_act ["thing", "word"] []
  a_is_signs : Addr
  d_is_signs : FuncData
  F_is_signs : L2.Fun K "is_signs" "is_signs" s_is_signs a_is_signs d_is_signs
  m_is_signs : mg "is_signs" = some (.ref a_is_signs)
  b_is_signs : Binds K d_is_signs ["thing", "most"] []
  a_is_prefix : Addr
  d_is_prefix : FuncData
  F_is_prefix : L2.Fun K "is_prefix" "is_prefix" s_is_prefix a_is_prefix d_is_prefix
  m_is_prefix : mg "is_prefix" = some (.ref a_is_prefix)
  b_is_prefix : Binds K d_is_prefix ["thing"] []
  a_is_condition : Addr
  d_is_condition : FuncData
  F_is_condition : L2.Fun K "is_condition" "is_condition" s_is_condition a_is_condition d_is_condition
  m_is_condition : mg "is_condition" = some (.ref a_is_condition)
  b_is_condition : Binds K d_is_condition ["thing"] []
  a_is_rule : Addr
  d_is_rule : FuncData
  F_is_rule : L2.Fun K "is_rule" "is_rule" s_is_rule a_is_rule d_is_rule
  m_is_rule : mg "is_rule" = some (.ref a_is_rule)
  b_is_rule : Binds K d_is_rule ["thing"] []
  a_law : Addr
  d_law : FuncData
  F_law : L2.Fun K "law" "law" s_law a_law d_law
  m_law : mg "law" = some (.ref a_law)
  b_law : Binds K d_law ["script"] []
  z_all : mg "all" = none
  z_bool : mg "bool" = none
  z_dict : mg "dict" = none
  z_int : mg "int" = none
  z_isinstance : mg "isinstance" = none
  z_len : mg "len" = none
  z_list : mg "list" = none
  z_range : mg "range" = none
  z_str : mg "str" = none
  z_sum : mg "sum" = none
  z_tuple : mg "tuple" = none
  t_DEEPEST : Tok
  c_DEEPEST : mg "DEEPEST" = some (.int 20 t_DEEPEST)
  t_DOUBLED : Tok
  c_DOUBLED : mg "DOUBLED" = some (.int 9 t_DOUBLED)
  t_FIRST : Tok
  c_FIRST : mg "FIRST" = some (.str "abcdefghijklmnopqrstuvwxyz" t_FIRST)
  a_KEPT : Addr
  c_KEPT : mg "KEPT" = some (.ref a_KEPT)
  k_KEPT : KTup K a_KEPT [(.str "any"), (.str "rest"), (.str "many"), (.str "if"), (.str "then"), (.str "and"), (.str "not"), (.str "refuse"), (.str "keep"), (.str "from"), (.str "to")]
  t_MOST_patterns : Tok
  c_MOST_patterns : mg "MOST_patterns" = some (.int 60 t_MOST_patterns)
  t_MOST_rules : Tok
  c_MOST_rules : mg "MOST_rules" = some (.int 1000 t_MOST_rules)
  t_REST : Tok
  c_REST : mg "REST" = some (.str "abcdefghijklmnopqrstuvwxyz0123456789" t_REST)
  t_WIDE : Tok
  c_WIDE : mg "WIDE" = some (.int 8 t_WIDE)
section
variable {P : Program} {w : World} {K : PySem.W.Frag} {mg : Str → Option Value} {base : Heap}
def b__law_copy (self : FM) : SM := (sSeq (sIf (mTB (mIs (inst .list) (mVar 0))) (sRet (mLC [3] (iAny (mVar 0)) (gNm 3) bYes (mCallF self (aCons (mVar 3) aNil)))) sNx)
  (sSeq (sIf (mTB (mIs (inst .tuple) (mVar 0))) (sRet (mCall gTuple (aCons (mLC [3] (iAny (mVar 0)) (gNm 3) bYes (mCallF self (aCons (mVar 3) aNil))) aNil))) sNx)
  (sSeq (sIf (mTB (mIs (inst .dict) (mVar 0))) (sSeq sNo
  (sSeq sNo
  sNo)) sNx)
  (sRet (mVar 0)))))
def m__law_copy : Nat → FM
  | 0 => fun _ _ => none
  | n + 1 => mFun exitZ 4 (b__law_copy (m__law_copy n))
theorem ok__law_copy (T : Txt K mg)  : ∀ n : Nat, FnOk P w K mg base CX0 (0 + n) T.a__law_copy T.d__law_copy ["thing"] (spM K (m__law_copy n) 1)
  | 0 => fn_none fun _ _ => rfl
  | n + 1 => by
    have ih := ok__law_copy T  n
    refine fn_m (k := 0 + n) (N := n__law_copy) exitZ_ok T.F__law_copy sc__law_copy rfl rfl (by decide) fun cdv A outer s H E hr => ?_
    have hu := hu65 hr
    unfold b__law_copy
    exact (pssd_cons (psd_if (ptd_val (ped_isi (T := .list) (by rfl) T.z_isinstance (by rfl) T.z_list (by decide +kernel) (ped_var 0))) (pssd_one (psd_ret (ped_lc rfl sc__law_copy.nd (own := [("part", 3)]) (pid_any (ped_var 0)) (blkOk_by (own := [("part", 3)]) (N := n__law_copy) (sc := defScope s__law_copy) (by decide +kernel)) (fun _ _ _ _ _ => (pgd_name (i := 3) sc__law_copy.nd rfl (by first | exact .inl rfl | exact .inr rfl))) (fun _ _ _ _ _ => ptsd_nil) (fun _ _ _ _ _ => (ped_call ih hr (by rfl) T.m__law_copy T.F__law_copy.kp T.b__law_copy (pad_cons (ped_var 3) pad_nil) (alen_cons alen_nil)))))) pssd_nil)
    (pssd_cons (psd_if (ptd_val (ped_isi (T := .tuple) (by rfl) T.z_isinstance (by rfl) T.z_tuple (by decide +kernel) (ped_var 0))) (pssd_one (psd_ret (ped_callT calld_tuple (by rfl) T.z_tuple (by decide +kernel) (pad_cons (ped_lc rfl sc__law_copy.nd (own := [("part", 3)]) (pid_any (ped_var 0)) (blkOk_by (own := [("part", 3)]) (N := n__law_copy) (sc := defScope s__law_copy) (by decide +kernel)) (fun _ _ _ _ _ => (pgd_name (i := 3) sc__law_copy.nd rfl (by first | exact .inl rfl | exact .inr rfl))) (fun _ _ _ _ _ => ptsd_nil) (fun _ _ _ _ _ => (ped_call ih hr (by rfl) T.m__law_copy T.F__law_copy.kp T.b__law_copy (pad_cons (ped_var 3) pad_nil) (alen_cons alen_nil)))) pad_nil)))) pssd_nil)
    (pssd_cons (psd_if (ptd_val (ped_isi (T := .dict) (by rfl) T.z_isinstance (by rfl) T.z_dict (by decide +kernel) (ped_var 0))) (pssd_cons psd_never
    (pssd_cons psd_never
    (pssd_one psd_never))) pssd_nil)
    (pssd_one (psd_ret (ped_var 0))))))
def b__law_draw : SM := (sSeq (sIf (mAndB (mTB (mBin dEq (mSub (mVar 0) (mC (.int 2))) (mC (.int 0)))) (mTB (mBin dLt (mSub (mVar 0) (mC (.int 1))) (mCall gLen (aCons (mSub (mVar 0) (mC (.int 0))) aNil))))) (sSeq (sSet 2 (mSub (mSub (mVar 0) (mC (.int 0))) (mSub (mVar 0) (mC (.int 1)))))
  (sSeq (sAsg (mBin dAdd (mSub (mVar 0) (mC (.int 1))) (mC (.int 1))) (gIx (mVar 0) (mC (.int 1))))
  (sSeq (sIf (mTB (mBin dGe (mVar 2) (mBin dPow (mC (.int 10)) (mC (.int 18))))) (sAsg (mVar 2) (gIx (mVar 0) (mC (.int 2)))) sNx)
  (sAsg (mBin dMod (mCall gInt (aCons (mBin dAdd (mBin dAdd (mBin dMulI (mSub (mVar 0) (mC (.int 3))) (mC (.int 48271))) (mVar 2)) (mC (.int 13))) aNil)) (mC (.int 2147483647))) (gIx (mVar 0) (mC (.int 3))))))) sNx)
  (sSeq (sIf (mTB (mBin dGt (mSub (mVar 0) (mC (.int 2))) (mC (.int 0)))) (sSeq (sSet 3 (mBin dMod (mCall gInt (aCons (mSub (mVar 0) (mC (.int 2))) aNil)) (mVar 1)))
  (sSeq (sAsg (mBin dDiv (mSub (mVar 0) (mC (.int 2))) (mVar 1)) (gIx (mVar 0) (mC (.int 2))))
  (sRet (mVar 3)))) sNx)
  (sSeq (sAsg (mBin dMod (mCall gInt (aCons (mBin dAdd (mBin dMulI (mSub (mVar 0) (mC (.int 3))) (mC (.int 69621))) (mC (.int 7))) aNil)) (mC (.int 2147483629))) (gIx (mVar 0) (mC (.int 3))))
  (sRet (mBin dMod (mCall gInt (aCons (mBin dDiv (mSub (mVar 0) (mC (.int 3))) (mC (.int 11))) aNil)) (mVar 1))))))
def m__law_draw : FM := mFun exitZ 4 b__law_draw
theorem ok__law_draw (T : Txt K mg)  : FnOk P w K mg base CX0 1 T.a__law_draw T.d__law_draw ["draws", "limit"] (spM K m__law_draw 2) := by
  refine fn_m (k := 0) (N := n__law_draw) exitZ_ok T.F__law_draw sc__law_draw rfl rfl (by decide) fun cdv A outer s H E hr => ?_
  have hu := hu65 hr
  unfold b__law_draw
  exact (pssd_cons (psd_if (PWd.pt (pwd_and (ptd_cmp (opd_eq hu) (ped_sub hu (ped_var 0) ped_int (fun _ _ => rfl)) ped_int (nomark _)) (pwd_and1 (ptd_cmp opd_lt (ped_sub hu (ped_var 0) ped_int (fun _ _ => rfl)) (ped_callB calld_len (by rfl) T.z_len (by decide +kernel) (pad_cons (ped_sub hu (ped_var 0) ped_int (fun _ _ => rfl)) pad_nil)) (nomark _))))) (pssd_cons (psd_set (i := 2) sc__law_draw.nd rfl (by first | exact .inl rfl | exact .inr rfl) (ped_sub hu (ped_sub hu (ped_var 0) ped_int (fun _ _ => rfl)) (ped_sub hu (ped_var 0) ped_int (fun _ _ => rfl)) (fun _ _ => rfl)))
    (pssd_cons (psd_asg (ped_bin opd_add (ped_sub hu (ped_var 0) ped_int (fun _ _ => rfl)) ped_int) (pgd_ix (ped_var 0) ped_int))
    (pssd_cons (psd_if (ptd_cmp opd_ge (ped_var 2) (ped_bin opd_pow ped_int ped_int) (nomark _)) (pssd_one (psd_asg (ped_var 2) (pgd_ix (ped_var 0) ped_int))) pssd_nil)
    (pssd_one (psd_asg (ped_bin opd_mod (ped_callT calld_int (by rfl) T.z_int (by decide +kernel) (pad_cons (ped_bin opd_add (ped_bin opd_add (ped_bin opd_mulI (ped_sub hu (ped_var 0) ped_int (fun _ _ => rfl)) ped_int) (ped_var 2)) ped_int) pad_nil)) ped_int) (pgd_ix (ped_var 0) ped_int)))))) pssd_nil)
    (pssd_cons (psd_if (ptd_cmp opd_gt (ped_sub hu (ped_var 0) ped_int (fun _ _ => rfl)) ped_int (nomark _)) (pssd_cons (psd_set (i := 3) sc__law_draw.nd rfl (by first | exact .inl rfl | exact .inr rfl) (ped_bin opd_mod (ped_callT calld_int (by rfl) T.z_int (by decide +kernel) (pad_cons (ped_sub hu (ped_var 0) ped_int (fun _ _ => rfl)) pad_nil)) (ped_var 1)))
    (pssd_cons (psd_asg (ped_bin opd_div (ped_sub hu (ped_var 0) ped_int (fun _ _ => rfl)) (ped_var 1)) (pgd_ix (ped_var 0) ped_int))
    (pssd_one (psd_ret (ped_var 3))))) pssd_nil)
    (pssd_cons (psd_asg (ped_bin opd_mod (ped_callT calld_int (by rfl) T.z_int (by decide +kernel) (pad_cons (ped_bin opd_add (ped_bin opd_mulI (ped_sub hu (ped_var 0) ped_int (fun _ _ => rfl)) ped_int) ped_int) pad_nil)) ped_int) (pgd_ix (ped_var 0) ped_int))
    (pssd_one (psd_ret (ped_bin opd_mod (ped_callT calld_int (by rfl) T.z_int (by decide +kernel) (pad_cons (ped_bin opd_div (ped_sub hu (ped_var 0) ped_int (fun _ _ => rfl)) ped_int) pad_nil)) (ped_var 1)))))))
def b__law_odd : SM := (sRet (mSub (mLst (aCons (mC .none) (aCons (mC (.bool true)) (aCons (mC (.int 0)) (aCons (mC (.int 1)) (aCons (mUn dNeg (mC (.int 1))) (aCons (mC (.int 3)) (aCons (mC (.str "many")) (aCons (mC (.str "")) (aCons (mC (.str "do")) (aCons (mTup aNil) (aCons (mLst aNil) (aCons (mTup (aCons (mC (.int 0)) (aCons (mC (.int 1)) aNil))) (aCons (mLst (aCons (mC (.int 0)) aNil)) aNil)))))))))))))) (mCallF m__law_draw (aCons (mVar 0) (aCons (mC (.int 13)) aNil)))))
def m__law_odd : FM := mFun exitZ 1 b__law_odd
theorem ok__law_odd (T : Txt K mg) (G__law_draw : FnOk P w K mg base CX0 1 T.a__law_draw T.d__law_draw ["draws", "limit"] (spM K m__law_draw 2)) : FnOk P w K mg base CX0 2 T.a__law_odd T.d__law_odd ["draws"] (spM K m__law_odd 1) := by
  refine fn_m (k := 1) (N := n__law_odd) exitZ_ok T.F__law_odd sc__law_odd rfl rfl (by decide) fun cdv A outer s H E hr => ?_
  have hu := hu65 hr
  unfold b__law_odd
  exact (pssd_one (psd_ret (ped_sub hu (ped_lst (pad_cons ped_non (pad_cons ped_bl (pad_cons ped_int (pad_cons ped_int (pad_cons (ped_neg ped_int) (pad_cons ped_int (pad_cons ped_str (pad_cons ped_str (pad_cons ped_str (pad_cons (ped_tup pad_nil) (pad_cons (ped_lst pad_nil) (pad_cons (ped_tup (pad_cons ped_int (pad_cons ped_int pad_nil))) (pad_cons (ped_lst (pad_cons ped_int pad_nil)) pad_nil)))))))))))))) (ped_call G__law_draw (hr.mono (by omega)) (by rfl) T.m__law_draw T.F__law_draw.kp T.b__law_draw (pad_cons (ped_var 0) (pad_cons ped_int pad_nil)) (alen_cons (alen_cons alen_nil))) (fun _ _ => rfl))))
def b__law_whole : SM := (sRet (mAndV (mIs (inst .int) (mVar 0)) (mNotV (mIs (inst .bool) (mVar 0)))))
def m__law_whole : FM := mFun exitZ 1 b__law_whole
theorem ok__law_whole (T : Txt K mg)  : FnOk P w K mg base CX0 1 T.a__law_whole T.d__law_whole ["thing"] (spM K m__law_whole 1) := by
  refine fn_m (k := 0) (N := n__law_whole) exitZ_ok T.F__law_whole sc__law_whole rfl rfl (by decide) fun cdv A outer s H E hr => ?_
  have hu := hu65 hr
  unfold b__law_whole
  exact (pssd_one (psd_ret (ped_and (ped_isi (T := .int) (by rfl) T.z_isinstance (by rfl) T.z_int (by decide +kernel) (ped_var 0)) (ped_one (ped_not (ped_isi (T := .bool) (by rfl) T.z_isinstance (by rfl) T.z_bool (by decide +kernel) (ped_var 0)))))))
def b__law_bend (self : FM) : SM := (sSeq (sIf (mTB (mBin dEq (mVar 2) (mC (.int 0)))) (sRet (mCallF m__law_odd (aCons (mVar 0) aNil))) sNx)
  (sSeq (sIf (mAndB (mTB (mIs (fun d => inst .list d || inst .tuple d) (mVar 1))) (mTB (mBin dGt (mCall gLen (aCons (mVar 1) aNil)) (mC (.int 0))))) (sSeq (sSet 3 (mCallF m__law_draw (aCons (mVar 0) (aCons (mCall gLen (aCons (mVar 1) aNil)) aNil))))
  (sSeq (sSet 4 (mLCC [12] (iAny (mVar 1)) (gNm 12) bYes (mCallF (m__law_copy 40) (aCons (mVar 12) aNil))))
  (sSeq (sSet 5 (mCallF m__law_draw (aCons (mVar 0) (aCons (mC (.int 12)) aNil))))
  (sSeq (sIf (mTB (mBin dEq (mVar 5) (mC (.int 0)))) (sSet 4 (mBin dAdd (mSl (mVar 4) oNone (oSome (mVar 3))) (mSl (mVar 4) (oSome (mBin dAdd (mVar 3) (mC (.int 1)))) oNone))) (sIf (mTB (mBin dEq (mVar 5) (mC (.int 1)))) (sSet 4 (mBin dAdd (mBin dAdd (mSl (mVar 4) oNone (oSome (mVar 3))) (mLst (aCons (mCallF (m__law_copy 40) (aCons (mSub (mVar 4) (mVar 3)) aNil)) aNil))) (mSl (mVar 4) (oSome (mVar 3)) oNone))) (sIf (mTB (mBin dEq (mVar 5) (mC (.int 2)))) (sSeq (sSet 6 (mCallF m__law_draw (aCons (mVar 0) (aCons (mCall gLen (aCons (mVar 1) aNil)) aNil))))
  (sAsg (mTup (aCons (mSub (mVar 4) (mVar 6)) (aCons (mSub (mVar 4) (mVar 3)) aNil))) (gTu 2 (gsCons (gIx (mVar 4) (mVar 3)) (gsCons (gIx (mVar 4) (mVar 6)) gsNil))))) (sIf (mTB (mBin dEq (mVar 5) (mC (.int 3)))) (sAsg (mCallF m__law_odd (aCons (mVar 0) aNil)) (gIx (mVar 4) (mVar 3))) (sAsg (mCallF self (aCons (mVar 0) (aCons (mSub (mVar 4) (mVar 3)) (aCons (mBin dSub (mVar 2) (mC (.int 1))) aNil)))) (gIx (mVar 4) (mVar 3)))))))
  (sRet (mIfE (mTB (mIs (inst .list) (mVar 1))) (mVar 4) (mCall gTuple (aCons (mVar 4) aNil)))))))) sNx)
  (sSeq (sIf (mAndB (mTB (mIs (inst .dict) (mVar 1))) (mTB (mBin dGt (mCall gLen (aCons (mVar 1) aNil)) (mC (.int 0))))) (sSeq sNo
  (sSeq sNo
  (sSeq sNo
  (sSeq sNo
  (sSeq sNo
  (sSeq sNo
  sNo)))))) sNx)
  (sSeq (sIf (mTB (mCallF m__law_whole (aCons (mVar 1) aNil))) (sRet (mBin dAdd (mVar 1) (mSub (mLst (aCons (mC (.int 1)) (aCons (mUn dNeg (mC (.int 1))) (aCons (mC (.int 1)) (aCons (mUn dNeg (mC (.int 1))) (aCons (mC (.int 2)) (aCons (mC (.int 40)) aNil))))))) (mCallF m__law_draw (aCons (mVar 0) (aCons (mC (.int 6)) aNil)))))) sNx)
  (sRet (mCallF m__law_odd (aCons (mVar 0) aNil)))))))
def m__law_bend : Nat → FM
  | 0 => fun _ _ => none
  | n + 1 => mFun exitZ 13 (b__law_bend (m__law_bend n))
theorem ok__law_bend (T : Txt K mg) (G__law_copy : FnOk P w K mg base CX0 40 T.a__law_copy T.d__law_copy ["thing"] (spM K (m__law_copy 40) 1)) (G__law_draw : FnOk P w K mg base CX0 1 T.a__law_draw T.d__law_draw ["draws", "limit"] (spM K m__law_draw 2)) (G__law_odd : FnOk P w K mg base CX0 2 T.a__law_odd T.d__law_odd ["draws"] (spM K m__law_odd 1)) (G__law_whole : FnOk P w K mg base CX0 1 T.a__law_whole T.d__law_whole ["thing"] (spM K m__law_whole 1)) : ∀ n : Nat, FnOk P w K mg base CX0 (40 + n) T.a__law_bend T.d__law_bend ["draws", "thing", "depth"] (spM K (m__law_bend n) 3)
  | 0 => fn_none fun _ _ => rfl
  | n + 1 => by
    have ih := ok__law_bend T G__law_copy G__law_draw G__law_odd G__law_whole n
    refine fn_m (k := 40 + n) (N := n__law_bend) exitZ_ok T.F__law_bend sc__law_bend rfl rfl (by decide) fun cdv A outer s H E hr => ?_
    have hu := hu65 hr
    unfold b__law_bend
    exact (pssd_cons (psd_if (ptd_cmp (opd_eq hu) (ped_var 2) ped_int (nomark _)) (pssd_one (psd_ret (ped_call G__law_odd (hr.mono (by omega)) (by rfl) T.m__law_odd T.F__law_odd.kp T.b__law_odd (pad_cons (ped_var 0) pad_nil) (alen_cons alen_nil)))) pssd_nil)
    (pssd_cons (psd_if (PWd.pt (pwd_and (ptd_val (ped_isi2 (T := .list) (U := .tuple) (by rfl) T.z_isinstance (by rfl) T.z_list (by decide +kernel) (by rfl) T.z_tuple (by decide +kernel) (ped_var 1))) (pwd_and1 (ptd_cmp opd_gt (ped_callB calld_len (by rfl) T.z_len (by decide +kernel) (pad_cons (ped_var 1) pad_nil)) ped_int (nomark _))))) (pssd_cons (psd_set (i := 3) sc__law_bend.nd rfl (by first | exact .inl rfl | exact .inr rfl) (ped_call G__law_draw (hr.mono (by omega)) (by rfl) T.m__law_draw T.F__law_draw.kp T.b__law_draw (pad_cons (ped_var 0) (pad_cons (ped_callB calld_len (by rfl) T.z_len (by decide +kernel) (pad_cons (ped_var 1) pad_nil)) pad_nil)) (alen_cons (alen_cons alen_nil))))
    (pssd_cons (psd_setLcC (i := 4) rfl sc__law_bend.nd rfl rfl (sw_true rfl rfl rfl (by decide +kernel)) (own := [("part", 12)]) (pid_any (ped_var 1)) (blkOk_by (own := [("part", 12)]) (N := n__law_bend) (sc := defScope s__law_bend) (by decide +kernel)) (fun _ _ _ _ _ => (pgd_name (i := 12) sc__law_bend.nd rfl (by first | exact .inl rfl | exact .inr rfl))) (fun _ _ _ _ _ => ptsd_nil) (fun _ _ _ _ _ => (ped_call G__law_copy (hr.mono (by omega)) (by rfl) T.m__law_copy T.F__law_copy.kp T.b__law_copy (pad_cons (ped_var 12) pad_nil) (alen_cons alen_nil))))
    (pssd_cons (psd_set (i := 5) sc__law_bend.nd rfl (by first | exact .inl rfl | exact .inr rfl) (ped_call G__law_draw (hr.mono (by omega)) (by rfl) T.m__law_draw T.F__law_draw.kp T.b__law_draw (pad_cons (ped_var 0) (pad_cons ped_int pad_nil)) (alen_cons (alen_cons alen_nil))))
    (pssd_cons (psd_if (ptd_cmp (opd_eq hu) (ped_var 5) ped_int (nomark _)) (pssd_one (psd_set (i := 4) sc__law_bend.nd rfl (by first | exact .inl rfl | exact .inr rfl) (ped_bin opd_add (ped_sl (ped_var 4) pod_none (pod_some (ped_var 3))) (ped_sl (ped_var 4) (pod_some (ped_bin opd_add (ped_var 3) ped_int)) pod_none)))) (pssd_one (psd_if (ptd_cmp (opd_eq hu) (ped_var 5) ped_int (nomark _)) (pssd_one (psd_set (i := 4) sc__law_bend.nd rfl (by first | exact .inl rfl | exact .inr rfl) (ped_bin opd_add (ped_bin opd_add (ped_sl (ped_var 4) pod_none (pod_some (ped_var 3))) (ped_lst (pad_cons (ped_call G__law_copy (hr.mono (by omega)) (by rfl) T.m__law_copy T.F__law_copy.kp T.b__law_copy (pad_cons (ped_sub hu (ped_var 4) (ped_var 3) (fun _ _ => rfl)) pad_nil) (alen_cons alen_nil)) pad_nil))) (ped_sl (ped_var 4) (pod_some (ped_var 3)) pod_none)))) (pssd_one (psd_if (ptd_cmp (opd_eq hu) (ped_var 5) ped_int (nomark _)) (pssd_cons (psd_set (i := 6) sc__law_bend.nd rfl (by first | exact .inl rfl | exact .inr rfl) (ped_call G__law_draw (hr.mono (by omega)) (by rfl) T.m__law_draw T.F__law_draw.kp T.b__law_draw (pad_cons (ped_var 0) (pad_cons (ped_callB calld_len (by rfl) T.z_len (by decide +kernel) (pad_cons (ped_var 1) pad_nil)) pad_nil)) (alen_cons (alen_cons alen_nil))))
    (pssd_one (psd_asg (ped_tup (pad_cons (ped_sub hu (ped_var 4) (ped_var 6) (fun _ _ => rfl)) (pad_cons (ped_sub hu (ped_var 4) (ped_var 3) (fun _ _ => rfl)) pad_nil))) (pgd_tup rfl (pgsd_cons (pgd_ix (ped_var 4) (ped_var 3)) (pgsd_cons (pgd_ix (ped_var 4) (ped_var 6)) pgsd_nil)))))) (pssd_one (psd_if (ptd_cmp (opd_eq hu) (ped_var 5) ped_int (nomark _)) (pssd_one (psd_asg (ped_call G__law_odd (hr.mono (by omega)) (by rfl) T.m__law_odd T.F__law_odd.kp T.b__law_odd (pad_cons (ped_var 0) pad_nil) (alen_cons alen_nil)) (pgd_ix (ped_var 4) (ped_var 3)))) (pssd_one (psd_asg (ped_call ih hr (by rfl) T.m__law_bend T.F__law_bend.kp T.b__law_bend (pad_cons (ped_var 0) (pad_cons (ped_sub hu (ped_var 4) (ped_var 3) (fun _ _ => rfl)) (pad_cons (ped_bin opd_sub (ped_var 2) ped_int) pad_nil))) (alen_cons (alen_cons (alen_cons alen_nil)))) (pgd_ix (ped_var 4) (ped_var 3)))))))))))
    (pssd_one (psd_ret (ped_if (ptd_val (ped_isi (T := .list) (by rfl) T.z_isinstance (by rfl) T.z_list (by decide +kernel) (ped_var 1))) (ped_var 4) (ped_callT calld_tuple (by rfl) T.z_tuple (by decide +kernel) (pad_cons (ped_var 4) pad_nil))))))))) pssd_nil)
    (pssd_cons (psd_if (PWd.pt (pwd_and (ptd_val (ped_isi (T := .dict) (by rfl) T.z_isinstance (by rfl) T.z_dict (by decide +kernel) (ped_var 1))) (pwd_and1 (ptd_cmp opd_gt (ped_callB calld_len (by rfl) T.z_len (by decide +kernel) (pad_cons (ped_var 1) pad_nil)) ped_int (nomark _))))) (pssd_cons psd_never
    (pssd_cons psd_never
    (pssd_cons psd_never
    (pssd_cons psd_never
    (pssd_cons psd_never
    (pssd_cons psd_never
    (pssd_one psd_never))))))) pssd_nil)
    (pssd_cons (psd_if (ptd_val (ped_call G__law_whole (hr.mono (by omega)) (by rfl) T.m__law_whole T.F__law_whole.kp T.b__law_whole (pad_cons (ped_var 1) pad_nil) (alen_cons alen_nil))) (pssd_one (psd_ret (ped_bin opd_add (ped_var 1) (ped_sub hu (ped_lst (pad_cons ped_int (pad_cons (ped_neg ped_int) (pad_cons ped_int (pad_cons (ped_neg ped_int) (pad_cons ped_int (pad_cons ped_int pad_nil))))))) (ped_call G__law_draw (hr.mono (by omega)) (by rfl) T.m__law_draw T.F__law_draw.kp T.b__law_draw (pad_cons (ped_var 0) (pad_cons ped_int pad_nil)) (alen_cons (alen_cons alen_nil))) (fun _ _ => rfl))))) pssd_nil)
    (pssd_one (psd_ret (ped_call G__law_odd (hr.mono (by omega)) (by rfl) T.m__law_odd T.F__law_odd.kp T.b__law_odd (pad_cons (ped_var 0) pad_nil) (alen_cons alen_nil))))))))
def b__law_draws : SM := (sRet (mLstC (aCons (mCall gList (aCons (mVar 0) aNil)) (aCons (mC (.int 0)) (aCons (mC (.int 0)) (aCons (mC (.int 1)) aNil))))))
def m__law_draws : FM := mFun exitC 1 b__law_draws
theorem ok__law_draws (T : Txt K mg)  : FnOk P w K mg base CX0 1 T.a__law_draws T.d__law_draws ["script"] (spM K m__law_draws 1) := by
  refine fn_m (k := 0) (N := n__law_draws) exitC_ok T.F__law_draws sc__law_draws rfl rfl (by decide) fun cdv A outer s H E hr => ?_
  have hu := hu65 hr
  unfold b__law_draws
  exact (pssd_one (psd_ret (ped_lstC (pad_cons (ped_callT calld_list (by rfl) T.z_list (by decide +kernel) (pad_cons (ped_var 0) pad_nil)) (pad_cons ped_int (pad_cons ped_int (pad_cons ped_int pad_nil)))))))
def b__law_is_name : SM := (sSeq (sSet 1 (mLst (aCons (mC (.str "any")) (aCons (mC (.str "rest")) (aCons (mC (.str "many")) (aCons (mC (.str "if")) (aCons (mC (.str "then")) (aCons (mC (.str "and")) (aCons (mC (.str "not")) (aCons (mC (.str "refuse")) (aCons (mC (.str "keep")) (aCons (mC (.str "from")) (aCons (mC (.str "to")) aNil)))))))))))))
  (sSeq (sIf (mOrB (mNotB (mTB (mIs (inst .str) (mVar 0)))) (mOrB (mNotB (mTB (mChain dLt dLt (mC (.int 0)) (mCall gLen (aCons (mVar 0) aNil)) (mC (.int 9))))) (mOrB (mTB (mIn false (mVar 0) (mVar 1))) (mNotB (mTB (mChain dLe dLe (mC (.str "a")) (mSub (mVar 0) (mC (.int 0))) (mC (.str "z")))))))) (sRet (mC (.bool false))) sNx)
  (sRet (mCall gAll (aCons (mLC [2] (iAny (mVar 0)) (gNm 2) bYes (mOrV (mChain dLe dLe (mC (.str "a")) (mVar 2) (mC (.str "z"))) (mChain dLe dLe (mC (.str "0")) (mVar 2) (mC (.str "9"))))) aNil)))))
def m__law_is_name : FM := mFun exitZ 3 b__law_is_name
theorem ok__law_is_name (T : Txt K mg)  : FnOk P w K mg base CX0 1 T.a__law_is_name T.d__law_is_name ["thing"] (spM K m__law_is_name 1) := by
  refine fn_m (k := 0) (N := n__law_is_name) exitZ_ok T.F__law_is_name sc__law_is_name rfl rfl (by decide) fun cdv A outer s H E hr => ?_
  have hu := hu65 hr
  unfold b__law_is_name
  exact (pssd_cons (psd_set (i := 1) sc__law_is_name.nd rfl (by first | exact .inl rfl | exact .inr rfl) (ped_lst (pad_cons ped_str (pad_cons ped_str (pad_cons ped_str (pad_cons ped_str (pad_cons ped_str (pad_cons ped_str (pad_cons ped_str (pad_cons ped_str (pad_cons ped_str (pad_cons ped_str (pad_cons ped_str pad_nil)))))))))))))
    (pssd_cons (psd_if (PWd.pt (pwd_or (ptd_not (ptd_val (ped_isi (T := .str) (by rfl) T.z_isinstance (by rfl) T.z_str (by decide +kernel) (ped_var 0)))) (pwd_or (ptd_not (ptd_chain opd_lt opd_lt ped_int (ped_callB calld_len (by rfl) T.z_len (by decide +kernel) (pad_cons (ped_var 0) pad_nil)) ped_int)) (pwd_or (ptd_in hu (ped_var 0) (ped_var 1)) (pwd_or1 (ptd_not (ptd_chain opd_le opd_le ped_str (ped_sub hu (ped_var 0) ped_int (fun _ _ => rfl)) ped_str))))))) (pssd_one (psd_ret ped_bl)) pssd_nil)
    (pssd_one (psd_ret (ped_callB (calld_all rfl) (by rfl) T.z_all (by decide +kernel) (pad_cons (ped_lc rfl sc__law_is_name.nd (own := [("sign", 2)]) (pid_any (ped_var 0)) (blkOk_by (own := [("sign", 2)]) (N := n__law_is_name) (sc := defScope s__law_is_name) (by decide +kernel)) (fun _ _ _ _ _ => (pgd_name (i := 2) sc__law_is_name.nd rfl (by first | exact .inl rfl | exact .inr rfl))) (fun _ _ _ _ _ => ptsd_nil) (fun _ _ _ _ _ => (ped_or (ped_chain opd_le opd_le ped_str (ped_var 2) ped_str) (ped_one (ped_chain opd_le opd_le ped_str (ped_var 2) ped_str))))) pad_nil))))))
def b__law_is_number : SM := (sRet (mAndV (mIs (inst .int) (mVar 0)) (mAndV (mNotV (mIs (inst .bool) (mVar 0))) (mChain dLe dLe (mVar 1) (mVar 0) (mVar 2)))))
def m__law_is_number : FM := mFun exitZ 3 b__law_is_number
theorem ok__law_is_number (T : Txt K mg)  : FnOk P w K mg base CX0 1 T.a__law_is_number T.d__law_is_number ["thing", "low", "high"] (spM K m__law_is_number 3) := by
  refine fn_m (k := 0) (N := n__law_is_number) exitZ_ok T.F__law_is_number sc__law_is_number rfl rfl (by decide) fun cdv A outer s H E hr => ?_
  have hu := hu65 hr
  unfold b__law_is_number
  exact (pssd_one (psd_ret (ped_and (ped_isi (T := .int) (by rfl) T.z_isinstance (by rfl) T.z_int (by decide +kernel) (ped_var 0)) (ped_and (ped_not (ped_isi (T := .bool) (by rfl) T.z_isinstance (by rfl) T.z_bool (by decide +kernel) (ped_var 0))) (ped_one (ped_chain opd_le opd_le (ped_var 1) (ped_var 0) (ped_var 2)))))))
def b__law_is_act : SM := (sSeq (sIf (mOrB (mNotB (mTB (mIs (inst .tuple) (mVar 0)))) (mOrB (mTB (mBin dNe (mCall gLen (aCons (mVar 0) aNil)) (mC (.int 2)))) (mNotB (mTB (mIs (inst .str) (mSub (mVar 0) (mC (.int 0)))))))) (sRet (mC (.bool false))) sNx)
  (sSeq (sIf (mTB (mIn false (mSub (mVar 0) (mC (.int 0))) (mTup (aCons (mC (.str "tag")) (aCons (mC (.str "untag")) aNil))))) (sRet (mCallF m__law_is_name (aCons (mSub (mVar 0) (mC (.int 1))) aNil))) sNx)
  (sSeq (sSet 2 (mDisp (dCons (mC (.str "like")) (mTup (aCons (mC (.int 0)) (aCons (mC (.int 1000)) aNil))) (dCons (mC (.str "metric")) (mTup (aCons (mC (.int 0)) (aCons (mC (.int 1000)) aNil))) (dCons (mC (.str "double")) (mTup (aCons (mC (.int 1)) (aCons (mC (.int 9)) aNil))) dNil)))))
  (sRet (mAndV (mIn false (mSub (mVar 0) (mC (.int 0))) (mVar 2)) (mAndV (mOrV (mBin dNe (mSub (mVar 0) (mC (.int 0))) (mC (.str "like"))) (mBin dEq (mVar 1) (mC (.str "in")))) (mCallF m__law_is_number (aCons (mSub (mVar 0) (mC (.int 1))) (aCons (mSub (mSub (mVar 2) (mSub (mVar 0) (mC (.int 0)))) (mC (.int 0))) (aCons (mSub (mSub (mVar 2) (mSub (mVar 0) (mC (.int 0)))) (mC (.int 1))) aNil))))))))))
def m__law_is_act : FM := mFun exitZ 3 b__law_is_act
theorem ok__law_is_act (T : Txt K mg) (G__law_is_name : FnOk P w K mg base CX0 1 T.a__law_is_name T.d__law_is_name ["thing"] (spM K m__law_is_name 1)) (G__law_is_number : FnOk P w K mg base CX0 1 T.a__law_is_number T.d__law_is_number ["thing", "low", "high"] (spM K m__law_is_number 3)) : FnOk P w K mg base CX0 2 T.a__law_is_act T.d__law_is_act ["thing", "word"] (spM K m__law_is_act 2) := by
  refine fn_m (k := 1) (N := n__law_is_act) exitZ_ok T.F__law_is_act sc__law_is_act rfl rfl (by decide) fun cdv A outer s H E hr => ?_
  have hu := hu65 hr
  unfold b__law_is_act
  exact (pssd_cons (psd_if (PWd.pt (pwd_or (ptd_not (ptd_val (ped_isi (T := .tuple) (by rfl) T.z_isinstance (by rfl) T.z_tuple (by decide +kernel) (ped_var 0)))) (pwd_or (ptd_cmp (opd_ne hu) (ped_callB calld_len (by rfl) T.z_len (by decide +kernel) (pad_cons (ped_var 0) pad_nil)) ped_int (nomark _)) (pwd_or1 (ptd_not (ptd_val (ped_isi (T := .str) (by rfl) T.z_isinstance (by rfl) T.z_str (by decide +kernel) (ped_sub hu (ped_var 0) ped_int (fun _ _ => rfl))))))))) (pssd_one (psd_ret ped_bl)) pssd_nil)
    (pssd_cons (psd_if (ptd_in hu (ped_sub hu (ped_var 0) ped_int (fun _ _ => rfl)) (ped_tup (pad_cons ped_str (pad_cons ped_str pad_nil)))) (pssd_one (psd_ret (ped_call G__law_is_name (hr.mono (by omega)) (by rfl) T.m__law_is_name T.F__law_is_name.kp T.b__law_is_name (pad_cons (ped_sub hu (ped_var 0) ped_int (fun _ _ => rfl)) pad_nil) (alen_cons alen_nil)))) pssd_nil)
    (pssd_cons (psd_set (i := 2) sc__law_is_act.nd rfl (by first | exact .inl rfl | exact .inr rfl) (ped_disp (ppd_cons ped_str (ped_tup (pad_cons ped_int (pad_cons ped_int pad_nil))) (ppd_cons ped_str (ped_tup (pad_cons ped_int (pad_cons ped_int pad_nil))) (ppd_cons ped_str (ped_tup (pad_cons ped_int (pad_cons ped_int pad_nil))) ppd_nil)))))
    (pssd_one (psd_ret (ped_and (ped_in hu (ped_sub hu (ped_var 0) ped_int (fun _ _ => rfl)) (ped_var 2)) (ped_and (ped_or (ped_cmp (opd_ne hu) (ped_sub hu (ped_var 0) ped_int (fun _ _ => rfl)) ped_str (nomark _)) (ped_one (ped_cmp (opd_eq hu) (ped_var 1) ped_str (nomark _)))) (ped_one (ped_call G__law_is_number (hr.mono (by omega)) (by rfl) T.m__law_is_number T.F__law_is_number.kp T.b__law_is_number (pad_cons (ped_sub hu (ped_var 0) ped_int (fun _ _ => rfl)) (pad_cons (ped_sub hu (ped_sub hu (ped_var 2) (ped_sub hu (ped_var 0) ped_int (fun _ _ => rfl)) (fun _ _ => rfl)) ped_int (fun _ _ => rfl)) (pad_cons (ped_sub hu (ped_sub hu (ped_var 2) (ped_sub hu (ped_var 0) ped_int (fun _ _ => rfl)) (fun _ _ => rfl)) ped_int (fun _ _ => rfl)) pad_nil))) (alen_cons (alen_cons (alen_cons alen_nil))))))))))))
def b_is_name : SM := (sSeq (sIf (mOrB (mNotB (mTB (mIs (inst .str) (mVar 0)))) (mOrB (mNotB (mTB (mChain dLe dLe (mC (.int 1)) (mCall gLen (aCons (mVar 0) aNil)) (mC (.int 8))))) (mOrB (mTB (mIn true (mSub (mVar 0) (mC (.int 0))) (mC (.str "abcdefghijklmnopqrstuvwxyz")))) (mTB (mInK false [(.str "any"), (.str "rest"), (.str "many"), (.str "if"), (.str "then"), (.str "and"), (.str "not"), (.str "refuse"), (.str "keep"), (.str "from"), (.str "to")] (mVar 0)))))) (sRet (mC (.bool false))) sNx)
  (sRet (mCall gAll (aCons (mLC [1] (iAny (mVar 0)) (gNm 1) bYes (mIn false (mVar 1) (mC (.str "abcdefghijklmnopqrstuvwxyz0123456789")))) aNil))))
def m_is_name : FM := mFun exitZ 2 b_is_name
theorem ok_is_name (T : Txt K mg)  : FnOk P w K mg base CX0 1 T.a_is_name T.d_is_name ["thing"] (spM K m_is_name 1) := by
  refine fn_m (k := 0) (N := n_is_name) exitZ_ok T.F_is_name sc_is_name rfl rfl (by decide) fun cdv A outer s H E hr => ?_
  have hu := hu65 hr
  unfold b_is_name
  exact (pssd_cons (psd_if (PWd.pt (pwd_or (ptd_not (ptd_val (ped_isi (T := .str) (by rfl) T.z_isinstance (by rfl) T.z_str (by decide +kernel) (ped_var 0)))) (pwd_or (ptd_not (ptd_chain opd_le opd_le ped_int (ped_callB calld_len (by rfl) T.z_len (by decide +kernel) (pad_cons (ped_var 0) pad_nil)) ped_int)) (pwd_or (ptd_notin hu (ped_sub hu (ped_var 0) ped_int (fun _ _ => rfl)) (ped_glob (v := .str "abcdefghijklmnopqrstuvwxyz") (by rfl) T.c_FIRST ⟨_, rfl⟩ fun _ => .str _)) (pwd_or1 (ptd_inK hu (ped_var 0) (by rfl) T.c_KEPT T.k_KEPT)))))) (pssd_one (psd_ret ped_bl)) pssd_nil)
    (pssd_one (psd_ret (ped_callB (calld_all rfl) (by rfl) T.z_all (by decide +kernel) (pad_cons (ped_lc rfl sc_is_name.nd (own := [("sign", 1)]) (pid_any (ped_var 0)) (blkOk_by (own := [("sign", 1)]) (N := n_is_name) (sc := defScope s_is_name) (by decide +kernel)) (fun _ _ _ _ _ => (pgd_name (i := 1) sc_is_name.nd rfl (by first | exact .inl rfl | exact .inr rfl))) (fun _ _ _ _ _ => ptsd_nil) (fun _ _ _ _ _ => (ped_in hu (ped_var 1) (ped_glob (v := .str "abcdefghijklmnopqrstuvwxyz0123456789") (by rfl) T.c_REST ⟨_, rfl⟩ fun _ => .str _)))) pad_nil)))))
def b_fits_in (self : FM) : SM := (sSeq (sIf (mOrB (mNotB (mTB (mIs (inst .tuple) (mVar 0)))) (mOrB (mTB (mBin dEq (mCall gLen (aCons (mVar 0) aNil)) (mC (.int 0)))) (mTB (mBin dEq (mVar 1) (mC (.int 0)))))) (sRet (mC (.bool false))) sNx)
  (sSeq (sIf (mTB (mBin dEq (mVar 0) (mTup (aCons (mC (.str "any")) aNil)))) (sRet (mC (.bool true))) sNx)
  (sSeq (sIf (mTB (mBin dNe (mCall gLen (aCons (mVar 0) aNil)) (mC (.int 2)))) (sRet (mC (.bool false))) sNx)
  (sSeq (sIf (mTB (mBin dEq (mSub (mVar 0) (mC (.int 0))) (mC (.str "name")))) (sRet (mCallF m_is_name (aCons (mSub (mVar 0) (mC (.int 1))) aNil))) sNx)
  (sSeq (sIf (mTB (mBin dEq (mSub (mVar 0) (mC (.int 0))) (mC (.str "many")))) (sRet (mCallF self (aCons (mSub (mVar 0) (mC (.int 1))) (aCons (mBin dSub (mVar 1) (mC (.int 1))) aNil)))) sNx)
  (sSeq (sIf (mOrB (mTB (mIn true (mSub (mVar 0) (mC (.int 0))) (mTup (aCons (mC (.str "seq")) (aCons (mC (.str "or")) aNil))))) (mNotB (mTB (mIs (inst .tuple) (mSub (mVar 0) (mC (.int 1))))))) (sRet (mC (.bool false))) sNx)
  (sSeq (sIf (mOrB (mTB (mBin dEq (mCall gLen (aCons (mSub (mVar 0) (mC (.int 1))) aNil)) (mC (.int 1)))) (mAndB (mTB (mBin dEq (mSub (mVar 0) (mC (.int 0))) (mC (.str "or")))) (mTB (mBin dEq (mCall gLen (aCons (mSub (mVar 0) (mC (.int 1))) aNil)) (mC (.int 0)))))) (sRet (mC (.bool false))) sNx)
  (sRet (mCall gAll (aCons (mLC [2] (iAny (mSub (mVar 0) (mC (.int 1)))) (gNm 2) bYes (mCallF self (aCons (mVar 2) (aCons (mBin dSub (mVar 1) (mC (.int 1))) aNil)))) aNil))))))))))
def m_fits_in : Nat → FM
  | 0 => fun _ _ => none
  | n + 1 => mFun exitZ 3 (b_fits_in (m_fits_in n))
theorem ok_fits_in (T : Txt K mg) (G_is_name : FnOk P w K mg base CX0 1 T.a_is_name T.d_is_name ["thing"] (spM K m_is_name 1)) : ∀ n : Nat, FnOk P w K mg base CX0 (1 + n) T.a_fits_in T.d_fits_in ["thing", "deep"] (spM K (m_fits_in n) 2)
  | 0 => fn_none fun _ _ => rfl
  | n + 1 => by
    have ih := ok_fits_in T G_is_name n
    refine fn_m (k := 1 + n) (N := n_fits_in) exitZ_ok T.F_fits_in sc_fits_in rfl rfl (by decide) fun cdv A outer s H E hr => ?_
    have hu := hu65 hr
    unfold b_fits_in
    exact (pssd_cons (psd_if (PWd.pt (pwd_or (ptd_not (ptd_val (ped_isi (T := .tuple) (by rfl) T.z_isinstance (by rfl) T.z_tuple (by decide +kernel) (ped_var 0)))) (pwd_or (ptd_cmp (opd_eq hu) (ped_callB calld_len (by rfl) T.z_len (by decide +kernel) (pad_cons (ped_var 0) pad_nil)) ped_int (nomark _)) (pwd_or1 (ptd_cmp (opd_eq hu) (ped_var 1) ped_int (nomark _)))))) (pssd_one (psd_ret ped_bl)) pssd_nil)
    (pssd_cons (psd_if (ptd_cmp (opd_eq hu) (ped_var 0) (ped_tup (pad_cons ped_str pad_nil)) (nomark _)) (pssd_one (psd_ret ped_bl)) pssd_nil)
    (pssd_cons (psd_if (ptd_cmp (opd_ne hu) (ped_callB calld_len (by rfl) T.z_len (by decide +kernel) (pad_cons (ped_var 0) pad_nil)) ped_int (nomark _)) (pssd_one (psd_ret ped_bl)) pssd_nil)
    (pssd_cons (psd_if (ptd_cmp (opd_eq hu) (ped_sub hu (ped_var 0) ped_int (fun _ _ => rfl)) ped_str (nomark _)) (pssd_one (psd_ret (ped_call G_is_name (hr.mono (by omega)) (by rfl) T.m_is_name T.F_is_name.kp T.b_is_name (pad_cons (ped_sub hu (ped_var 0) ped_int (fun _ _ => rfl)) pad_nil) (alen_cons alen_nil)))) pssd_nil)
    (pssd_cons (psd_if (ptd_cmp (opd_eq hu) (ped_sub hu (ped_var 0) ped_int (fun _ _ => rfl)) ped_str (nomark _)) (pssd_one (psd_ret (ped_call ih hr (by rfl) T.m_fits_in T.F_fits_in.kp T.b_fits_in (pad_cons (ped_sub hu (ped_var 0) ped_int (fun _ _ => rfl)) (pad_cons (ped_bin opd_sub (ped_var 1) ped_int) pad_nil)) (alen_cons (alen_cons alen_nil))))) pssd_nil)
    (pssd_cons (psd_if (PWd.pt (pwd_or (ptd_notin hu (ped_sub hu (ped_var 0) ped_int (fun _ _ => rfl)) (ped_tup (pad_cons ped_str (pad_cons ped_str pad_nil)))) (pwd_or1 (ptd_not (ptd_val (ped_isi (T := .tuple) (by rfl) T.z_isinstance (by rfl) T.z_tuple (by decide +kernel) (ped_sub hu (ped_var 0) ped_int (fun _ _ => rfl)))))))) (pssd_one (psd_ret ped_bl)) pssd_nil)
    (pssd_cons (psd_if (PWd.pt (pwd_or (ptd_cmp (opd_eq hu) (ped_callB calld_len (by rfl) T.z_len (by decide +kernel) (pad_cons (ped_sub hu (ped_var 0) ped_int (fun _ _ => rfl)) pad_nil)) ped_int (nomark _)) (pwd_or1 (PWd.pt (pwd_and (ptd_cmp (opd_eq hu) (ped_sub hu (ped_var 0) ped_int (fun _ _ => rfl)) ped_str (nomark _)) (pwd_and1 (ptd_cmp (opd_eq hu) (ped_callB calld_len (by rfl) T.z_len (by decide +kernel) (pad_cons (ped_sub hu (ped_var 0) ped_int (fun _ _ => rfl)) pad_nil)) ped_int (nomark _)))))))) (pssd_one (psd_ret ped_bl)) pssd_nil)
    (pssd_one (psd_ret (ped_callB (calld_all rfl) (by rfl) T.z_all (by decide +kernel) (pad_cons (ped_lc rfl sc_fits_in.nd (own := [("part", 2)]) (pid_any (ped_sub hu (ped_var 0) ped_int (fun _ _ => rfl))) (blkOk_by (own := [("part", 2)]) (N := n_fits_in) (sc := defScope s_fits_in) (by decide +kernel)) (fun _ _ _ _ _ => (pgd_name (i := 2) sc_fits_in.nd rfl (by first | exact .inl rfl | exact .inr rfl))) (fun _ _ _ _ _ => ptsd_nil) (fun _ _ _ _ _ => (ped_call ih hr (by rfl) T.m_fits_in T.F_fits_in.kp T.b_fits_in (pad_cons (ped_var 2) (pad_cons (ped_bin opd_sub (ped_var 1) ped_int) pad_nil)) (alen_cons (alen_cons alen_nil))))) pad_nil)))))))))))
def b_size_of (self : FM) : SM := (sSeq (sIf (mTB (mIn false (mSub (mVar 0) (mC (.int 0))) (mTup (aCons (mC (.str "any")) (aCons (mC (.str "name")) aNil))))) (sRet (mC (.int 1))) sNx)
  (sSeq (sIf (mTB (mBin dEq (mSub (mVar 0) (mC (.int 0))) (mC (.str "many")))) (sRet (mBin dAdd (mC (.int 1)) (mCallF self (aCons (mSub (mVar 0) (mC (.int 1))) aNil)))) sNx)
  (sRet (mBin dAdd (mC (.int 1)) (mCall gSum (aCons (mLC [1] (iAny (mSub (mVar 0) (mC (.int 1)))) (gNm 1) bYes (mCallF self (aCons (mVar 1) aNil))) aNil))))))
def m_size_of : Nat → FM
  | 0 => fun _ _ => none
  | n + 1 => mFun exitZ 2 (b_size_of (m_size_of n))
theorem ok_size_of (T : Txt K mg)  : ∀ n : Nat, FnOk P w K mg base CX0 (0 + n) T.a_size_of T.d_size_of ["pattern"] (spM K (m_size_of n) 1)
  | 0 => fn_none fun _ _ => rfl
  | n + 1 => by
    have ih := ok_size_of T  n
    refine fn_m (k := 0 + n) (N := n_size_of) exitZ_ok T.F_size_of sc_size_of rfl rfl (by decide) fun cdv A outer s H E hr => ?_
    have hu := hu65 hr
    unfold b_size_of
    exact (pssd_cons (psd_if (ptd_in hu (ped_sub hu (ped_var 0) ped_int (fun _ _ => rfl)) (ped_tup (pad_cons ped_str (pad_cons ped_str pad_nil)))) (pssd_one (psd_ret ped_int)) pssd_nil)
    (pssd_cons (psd_if (ptd_cmp (opd_eq hu) (ped_sub hu (ped_var 0) ped_int (fun _ _ => rfl)) ped_str (nomark _)) (pssd_one (psd_ret (ped_bin opd_add ped_int (ped_call ih hr (by rfl) T.m_size_of T.F_size_of.kp T.b_size_of (pad_cons (ped_sub hu (ped_var 0) ped_int (fun _ _ => rfl)) pad_nil) (alen_cons alen_nil))))) pssd_nil)
    (pssd_one (psd_ret (ped_bin opd_add ped_int (ped_callB (calld_sum rfl) (by rfl) T.z_sum (by decide +kernel) (pad_cons (ped_lc rfl sc_size_of.nd (own := [("part", 1)]) (pid_any (ped_sub hu (ped_var 0) ped_int (fun _ _ => rfl))) (blkOk_by (own := [("part", 1)]) (N := n_size_of) (sc := defScope s_size_of) (by decide +kernel)) (fun _ _ _ _ _ => (pgd_name (i := 1) sc_size_of.nd rfl (by first | exact .inl rfl | exact .inr rfl))) (fun _ _ _ _ _ => ptsd_nil) (fun _ _ _ _ _ => (ped_call ih hr (by rfl) T.m_size_of T.F_size_of.kp T.b_size_of (pad_cons (ped_var 1) pad_nil) (alen_cons alen_nil)))) pad_nil)))))))
def b_is_pattern : SM := (sRet (mAndV (mCallF (m_fits_in 40) (aCons (mVar 0) (aCons (mC (.int 20)) aNil))) (mBin dLe (mCallF (m_size_of 40) (aCons (mVar 0) aNil)) (mC (.int 60)))))
def m_is_pattern : FM := mFun exitZ 1 b_is_pattern
theorem ok_is_pattern (T : Txt K mg) (G_fits_in : FnOk P w K mg base CX0 41 T.a_fits_in T.d_fits_in ["thing", "deep"] (spM K (m_fits_in 40) 2)) (G_size_of : FnOk P w K mg base CX0 40 T.a_size_of T.d_size_of ["pattern"] (spM K (m_size_of 40) 1)) : FnOk P w K mg base CX0 42 T.a_is_pattern T.d_is_pattern ["thing"] (spM K m_is_pattern 1) := by
  refine fn_m (k := 41) (N := n_is_pattern) exitZ_ok T.F_is_pattern sc_is_pattern rfl rfl (by decide) fun cdv A outer s H E hr => ?_
  have hu := hu65 hr
  unfold b_is_pattern
  exact (pssd_one (psd_ret (ped_and (ped_call G_fits_in (hr.mono (by omega)) (by rfl) T.m_fits_in T.F_fits_in.kp T.b_fits_in (pad_cons (ped_var 0) (pad_cons (ped_glob (v := .int 20) (by rfl) T.c_DEEPEST ⟨_, rfl⟩ fun _ => .int _) pad_nil)) (alen_cons (alen_cons alen_nil))) (ped_one (ped_cmp opd_le (ped_call G_size_of (hr.mono (by omega)) (by rfl) T.m_size_of T.F_size_of.kp T.b_size_of (pad_cons (ped_var 0) pad_nil) (alen_cons alen_nil)) (ped_glob (v := .int 60) (by rfl) T.c_MOST_patterns ⟨_, rfl⟩ fun _ => .int _) (nomark _))))))
def b__law_is_condition : SM := (sSeq (sIf (mOrB (mNotB (mTB (mIs (inst .tuple) (mVar 0)))) (mOrB (mTB (mBin dNe (mCall gLen (aCons (mVar 0) aNil)) (mC (.int 3)))) (mOrB (mNotB (mTB (mIs (inst .bool) (mSub (mVar 0) (mC (.int 0)))))) (mNotB (mTB (mIs (inst .str) (mSub (mVar 0) (mC (.int 1))))))))) (sRet (mC (.bool false))) sNx)
  (sSeq (sIf (mTB (mBin dEq (mSub (mVar 0) (mC (.int 1))) (mC (.str "within")))) (sRet (mAndV (mIs (inst .str) (mSub (mVar 0) (mC (.int 2)))) (mAndV (mBin dLt (mCall gLen (aCons (mSub (mVar 0) (mC (.int 2))) aNil)) (mC (.int 9))) (mCall gAll (aCons (mLC [1] (iAny (mSub (mVar 0) (mC (.int 2)))) (gNm 1) bYes (mIn false (mVar 1) (mC (.str "01")))) aNil))))) sNx)
  (sRet (mOrV (mAndV (mBin dEq (mSub (mVar 0) (mC (.int 1))) (mC (.str "path"))) (mCallF m_is_pattern (aCons (mSub (mVar 0) (mC (.int 2))) aNil))) (mAndV (mBin dEq (mSub (mVar 0) (mC (.int 1))) (mC (.str "tag"))) (mCallF m__law_is_name (aCons (mSub (mVar 0) (mC (.int 2))) aNil)))))))
def m__law_is_condition : FM := mFun exitZ 2 b__law_is_condition
theorem ok__law_is_condition (T : Txt K mg) (G__law_is_name : FnOk P w K mg base CX0 1 T.a__law_is_name T.d__law_is_name ["thing"] (spM K m__law_is_name 1)) (G_is_pattern : FnOk P w K mg base CX0 42 T.a_is_pattern T.d_is_pattern ["thing"] (spM K m_is_pattern 1)) : FnOk P w K mg base CX0 43 T.a__law_is_condition T.d__law_is_condition ["thing"] (spM K m__law_is_condition 1) := by
  refine fn_m (k := 42) (N := n__law_is_condition) exitZ_ok T.F__law_is_condition sc__law_is_condition rfl rfl (by decide) fun cdv A outer s H E hr => ?_
  have hu := hu65 hr
  unfold b__law_is_condition
  exact (pssd_cons (psd_if (PWd.pt (pwd_or (ptd_not (ptd_val (ped_isi (T := .tuple) (by rfl) T.z_isinstance (by rfl) T.z_tuple (by decide +kernel) (ped_var 0)))) (pwd_or (ptd_cmp (opd_ne hu) (ped_callB calld_len (by rfl) T.z_len (by decide +kernel) (pad_cons (ped_var 0) pad_nil)) ped_int (nomark _)) (pwd_or (ptd_not (ptd_val (ped_isi (T := .bool) (by rfl) T.z_isinstance (by rfl) T.z_bool (by decide +kernel) (ped_sub hu (ped_var 0) ped_int (fun _ _ => rfl))))) (pwd_or1 (ptd_not (ptd_val (ped_isi (T := .str) (by rfl) T.z_isinstance (by rfl) T.z_str (by decide +kernel) (ped_sub hu (ped_var 0) ped_int (fun _ _ => rfl)))))))))) (pssd_one (psd_ret ped_bl)) pssd_nil)
    (pssd_cons (psd_if (ptd_cmp (opd_eq hu) (ped_sub hu (ped_var 0) ped_int (fun _ _ => rfl)) ped_str (nomark _)) (pssd_one (psd_ret (ped_and (ped_isi (T := .str) (by rfl) T.z_isinstance (by rfl) T.z_str (by decide +kernel) (ped_sub hu (ped_var 0) ped_int (fun _ _ => rfl))) (ped_and (ped_cmp opd_lt (ped_callB calld_len (by rfl) T.z_len (by decide +kernel) (pad_cons (ped_sub hu (ped_var 0) ped_int (fun _ _ => rfl)) pad_nil)) ped_int (nomark _)) (ped_one (ped_callB (calld_all rfl) (by rfl) T.z_all (by decide +kernel) (pad_cons (ped_lc rfl sc__law_is_condition.nd (own := [("sign", 1)]) (pid_any (ped_sub hu (ped_var 0) ped_int (fun _ _ => rfl))) (blkOk_by (own := [("sign", 1)]) (N := n__law_is_condition) (sc := defScope s__law_is_condition) (by decide +kernel)) (fun _ _ _ _ _ => (pgd_name (i := 1) sc__law_is_condition.nd rfl (by first | exact .inl rfl | exact .inr rfl))) (fun _ _ _ _ _ => ptsd_nil) (fun _ _ _ _ _ => (ped_in hu (ped_var 1) ped_str))) pad_nil))))))) pssd_nil)
    (pssd_one (psd_ret (ped_or (ped_and (ped_cmp (opd_eq hu) (ped_sub hu (ped_var 0) ped_int (fun _ _ => rfl)) ped_str (nomark _)) (ped_one (ped_call G_is_pattern (hr.mono (by omega)) (by rfl) T.m_is_pattern T.F_is_pattern.kp T.b_is_pattern (pad_cons (ped_sub hu (ped_var 0) ped_int (fun _ _ => rfl)) pad_nil) (alen_cons alen_nil)))) (ped_one (ped_and (ped_cmp (opd_eq hu) (ped_sub hu (ped_var 0) ped_int (fun _ _ => rfl)) ped_str (nomark _)) (ped_one (ped_call G__law_is_name (hr.mono (by omega)) (by rfl) T.m__law_is_name T.F__law_is_name.kp T.b__law_is_name (pad_cons (ped_sub hu (ped_var 0) ped_int (fun _ _ => rfl)) pad_nil) (alen_cons alen_nil))))))))))
def b__law_is_rule : SM := (sSeq (sIf (mOrB (mNotB (mTB (mIs (inst .tuple) (mVar 0)))) (mOrB (mTB (mBin dNe (mCall gLen (aCons (mVar 0) aNil)) (mC (.int 5)))) (mOrB (mNotB (mTB (mIs (inst .str) (mSub (mVar 0) (mC (.int 0)))))) (mTB (mIn true (mSub (mVar 0) (mC (.int 0))) (mTup (aCons (mC (.str "in")) (aCons (mC (.str "out")) aNil)))))))) (sRet (mC (.bool false))) sNx)
  (sSeq (sIf (mOrB (mNotB (mTB (mCallF m__law_is_name (aCons (mSub (mVar 0) (mC (.int 1))) aNil)))) (mNotB (mOrB (mTB (mCallF m__law_is_name (aCons (mSub (mVar 0) (mC (.int 2))) aNil))) (mAndB (mTB (mIs (inst .str) (mSub (mVar 0) (mC (.int 2))))) (mTB (mBin dEq (mSub (mVar 0) (mC (.int 2))) (mC (.str "*")))))))) (sRet (mC (.bool false))) sNx)
  (sSeq (sIf (mOrB (mNotB (mTB (mIs (inst .tuple) (mSub (mVar 0) (mC (.int 3)))))) (mOrB (mNotB (mTB (mIs (inst .tuple) (mSub (mVar 0) (mC (.int 4)))))) (mNotB (mTB (mCall gAll (aCons (mLC [2] (iAny (mSub (mVar 0) (mC (.int 3)))) (gNm 2) bYes (mCallF m__law_is_condition (aCons (mVar 2) aNil))) aNil)))))) (sRet (mC (.bool false))) sNx)
  (sRet (mOrV (mAndV (mBin dEq (mCall gLen (aCons (mSub (mVar 0) (mC (.int 4))) aNil)) (mC (.int 1))) (mAndV (mIs (inst .str) (mSub (mSub (mVar 0) (mC (.int 4))) (mC (.int 0)))) (mBin dEq (mSub (mSub (mVar 0) (mC (.int 4))) (mC (.int 0))) (mC (.str "refuse"))))) (mCall gAll (aCons (mLC [1] (iAny (mSub (mVar 0) (mC (.int 4)))) (gNm 1) bYes (mCallF m__law_is_act (aCons (mVar 1) (aCons (mSub (mVar 0) (mC (.int 0))) aNil)))) aNil)))))))
def m__law_is_rule : FM := mFun exitZ 3 b__law_is_rule
theorem ok__law_is_rule (T : Txt K mg) (G__law_is_act : FnOk P w K mg base CX0 2 T.a__law_is_act T.d__law_is_act ["thing", "word"] (spM K m__law_is_act 2)) (G__law_is_condition : FnOk P w K mg base CX0 43 T.a__law_is_condition T.d__law_is_condition ["thing"] (spM K m__law_is_condition 1)) (G__law_is_name : FnOk P w K mg base CX0 1 T.a__law_is_name T.d__law_is_name ["thing"] (spM K m__law_is_name 1)) : FnOk P w K mg base CX0 44 T.a__law_is_rule T.d__law_is_rule ["thing"] (spM K m__law_is_rule 1) := by
  refine fn_m (k := 43) (N := n__law_is_rule) exitZ_ok T.F__law_is_rule sc__law_is_rule rfl rfl (by decide) fun cdv A outer s H E hr => ?_
  have hu := hu65 hr
  unfold b__law_is_rule
  exact (pssd_cons (psd_if (PWd.pt (pwd_or (ptd_not (ptd_val (ped_isi (T := .tuple) (by rfl) T.z_isinstance (by rfl) T.z_tuple (by decide +kernel) (ped_var 0)))) (pwd_or (ptd_cmp (opd_ne hu) (ped_callB calld_len (by rfl) T.z_len (by decide +kernel) (pad_cons (ped_var 0) pad_nil)) ped_int (nomark _)) (pwd_or (ptd_not (ptd_val (ped_isi (T := .str) (by rfl) T.z_isinstance (by rfl) T.z_str (by decide +kernel) (ped_sub hu (ped_var 0) ped_int (fun _ _ => rfl))))) (pwd_or1 (ptd_notin hu (ped_sub hu (ped_var 0) ped_int (fun _ _ => rfl)) (ped_tup (pad_cons ped_str (pad_cons ped_str pad_nil))))))))) (pssd_one (psd_ret ped_bl)) pssd_nil)
    (pssd_cons (psd_if (PWd.pt (pwd_or (ptd_not (ptd_val (ped_call G__law_is_name (hr.mono (by omega)) (by rfl) T.m__law_is_name T.F__law_is_name.kp T.b__law_is_name (pad_cons (ped_sub hu (ped_var 0) ped_int (fun _ _ => rfl)) pad_nil) (alen_cons alen_nil)))) (pwd_or1 (ptd_not (PWd.pt (pwd_or (ptd_val (ped_call G__law_is_name (hr.mono (by omega)) (by rfl) T.m__law_is_name T.F__law_is_name.kp T.b__law_is_name (pad_cons (ped_sub hu (ped_var 0) ped_int (fun _ _ => rfl)) pad_nil) (alen_cons alen_nil))) (pwd_or1 (PWd.pt (pwd_and (ptd_val (ped_isi (T := .str) (by rfl) T.z_isinstance (by rfl) T.z_str (by decide +kernel) (ped_sub hu (ped_var 0) ped_int (fun _ _ => rfl)))) (pwd_and1 (ptd_cmp (opd_eq hu) (ped_sub hu (ped_var 0) ped_int (fun _ _ => rfl)) ped_str (nomark _)))))))))))) (pssd_one (psd_ret ped_bl)) pssd_nil)
    (pssd_cons (psd_if (PWd.pt (pwd_or (ptd_not (ptd_val (ped_isi (T := .tuple) (by rfl) T.z_isinstance (by rfl) T.z_tuple (by decide +kernel) (ped_sub hu (ped_var 0) ped_int (fun _ _ => rfl))))) (pwd_or (ptd_not (ptd_val (ped_isi (T := .tuple) (by rfl) T.z_isinstance (by rfl) T.z_tuple (by decide +kernel) (ped_sub hu (ped_var 0) ped_int (fun _ _ => rfl))))) (pwd_or1 (ptd_not (ptd_val (ped_callB (calld_all rfl) (by rfl) T.z_all (by decide +kernel) (pad_cons (ped_lc rfl sc__law_is_rule.nd (own := [("one", 2)]) (pid_any (ped_sub hu (ped_var 0) ped_int (fun _ _ => rfl))) (blkOk_by (own := [("one", 2)]) (N := n__law_is_rule) (sc := defScope s__law_is_rule) (by decide +kernel)) (fun _ _ _ _ _ => (pgd_name (i := 2) sc__law_is_rule.nd rfl (by first | exact .inl rfl | exact .inr rfl))) (fun _ _ _ _ _ => ptsd_nil) (fun _ _ _ _ _ => (ped_call G__law_is_condition (hr.mono (by omega)) (by rfl) T.m__law_is_condition T.F__law_is_condition.kp T.b__law_is_condition (pad_cons (ped_var 2) pad_nil) (alen_cons alen_nil)))) pad_nil)))))))) (pssd_one (psd_ret ped_bl)) pssd_nil)
    (pssd_one (psd_ret (ped_or (ped_and (ped_cmp (opd_eq hu) (ped_callB calld_len (by rfl) T.z_len (by decide +kernel) (pad_cons (ped_sub hu (ped_var 0) ped_int (fun _ _ => rfl)) pad_nil)) ped_int (nomark _)) (ped_and (ped_isi (T := .str) (by rfl) T.z_isinstance (by rfl) T.z_str (by decide +kernel) (ped_sub hu (ped_sub hu (ped_var 0) ped_int (fun _ _ => rfl)) ped_int (fun _ _ => rfl))) (ped_one (ped_cmp (opd_eq hu) (ped_sub hu (ped_sub hu (ped_var 0) ped_int (fun _ _ => rfl)) ped_int (fun _ _ => rfl)) ped_str (nomark _))))) (ped_one (ped_callB (calld_all rfl) (by rfl) T.z_all (by decide +kernel) (pad_cons (ped_lc rfl sc__law_is_rule.nd (own := [("act", 1)]) (pid_any (ped_sub hu (ped_var 0) ped_int (fun _ _ => rfl))) (blkOk_by (own := [("act", 1)]) (N := n__law_is_rule) (sc := defScope s__law_is_rule) (by decide +kernel)) (fun _ _ _ _ _ => (pgd_name (i := 1) sc__law_is_rule.nd rfl (by first | exact .inl rfl | exact .inr rfl))) (fun _ _ _ _ _ => ptsd_nil) (fun _ _ _ _ _ => (ped_call G__law_is_act (hr.mono (by omega)) (by rfl) T.m__law_is_act T.F__law_is_act.kp T.b__law_is_act (pad_cons (ped_var 1) (pad_cons (ped_sub hu (ped_var 0) ped_int (fun _ _ => rfl)) pad_nil)) (alen_cons (alen_cons alen_nil))))) pad_nil)))))))))
def b__law_simple : SM := (sSeq (sPar 3 4 (aCons (mTup (aCons (mC (.str "name")) (aCons (mSub (mVar 1) (mCallF m__law_draw (aCons (mVar 0) (aCons (mCall gLen (aCons (mVar 1) aNil)) aNil)))) aNil))) (aCons (mTup (aCons (mC (.str "name")) (aCons (mSub (mVar 1) (mCallF m__law_draw (aCons (mVar 0) (aCons (mCall gLen (aCons (mVar 1) aNil)) aNil)))) aNil))) aNil)))
  (sSeq (sPar 5 6 (aCons (mTup (aCons (mC (.str "many")) (aCons (mTup (aCons (mC (.str "any")) aNil)) aNil))) (aCons (mTup (aCons (mC (.str "name")) (aCons (mVar 2) aNil))) aNil)))
  (sSeq (sSet 7 (mLst (aCons (mTup (aCons (mC (.str "seq")) (aCons (mTup (aCons (mVar 6) (aCons (mVar 5) aNil))) aNil))) (aCons (mTup (aCons (mC (.str "seq")) (aCons (mTup (aCons (mVar 5) (aCons (mVar 3) aNil))) aNil))) (aCons (mTup (aCons (mC (.str "seq")) (aCons (mTup (aCons (mTup (aCons (mC (.str "any")) aNil)) (aCons (mTup (aCons (mC (.str "any")) aNil)) aNil))) aNil))) (aCons (mTup (aCons (mC (.str "seq")) (aCons (mTup (aCons (mVar 6) (aCons (mVar 3) (aCons (mVar 5) aNil)))) aNil))) (aCons (mTup (aCons (mC (.str "seq")) (aCons (mTup (aCons (mVar 5) (aCons (mVar 3) (aCons (mVar 5) aNil)))) aNil))) (aCons (mTup (aCons (mC (.str "many")) (aCons (mTup (aCons (mC (.str "or")) (aCons (mTup (aCons (mVar 3) (aCons (mVar 4) (aCons (mVar 6) aNil)))) aNil))) aNil))) (aCons (mVar 5) aNil)))))))))
  (sSeq (sSet 7 (mBin dAdd (mVar 7) (mLst (aCons (mTup (aCons (mC (.str "or")) (aCons (mTup (aCons (mTup (aCons (mC (.str "seq")) (aCons (mTup (aCons (mVar 6) (aCons (mTup (aCons (mC (.str "any")) aNil)) aNil))) aNil))) (aCons (mTup (aCons (mC (.str "seq")) (aCons (mTup (aCons (mVar 5) (aCons (mVar 3) aNil))) aNil))) aNil))) aNil))) (aCons (mTup (aCons (mC (.str "seq")) (aCons (mTup (aCons (mVar 6) (aCons (mTup (aCons (mC (.str "or")) (aCons (mTup (aCons (mVar 3) (aCons (mTup (aCons (mC (.str "seq")) (aCons (mTup aNil) aNil))) aNil))) aNil))) (aCons (mVar 4) aNil)))) aNil))) (aCons (mTup (aCons (mC (.str "seq")) (aCons (mTup aNil) aNil))) (aCons (mTup (aCons (mC (.str "seq")) (aCons (mTup (aCons (mVar 6) (aCons (mVar 5) (aCons (mVar 3) (aCons (mVar 4) aNil))))) aNil))) aNil)))))))
  (sRet (mSub (mVar 7) (mCallF m__law_draw (aCons (mVar 0) (aCons (mCall gLen (aCons (mVar 7) aNil)) aNil)))))))))
def m__law_simple : FM := mFun exitZ 8 b__law_simple
theorem ok__law_simple (T : Txt K mg) (G__law_draw : FnOk P w K mg base CX0 1 T.a__law_draw T.d__law_draw ["draws", "limit"] (spM K m__law_draw 2)) : FnOk P w K mg base CX0 2 T.a__law_simple T.d__law_simple ["draws", "names", "router"] (spM K m__law_simple 3) := by
  refine fn_m (k := 1) (N := n__law_simple) exitZ_ok T.F__law_simple sc__law_simple rfl rfl (by decide) fun cdv A outer s H E hr => ?_
  have hu := hu65 hr
  unfold b__law_simple
  exact (pssd_cons (psd_par (i := 3) (j := 4) rfl sc__law_simple.nd rfl rfl (by decide) rfl rfl (pad_cons (ped_tup (pad_cons ped_str (pad_cons (ped_sub hu (ped_var 1) (ped_call G__law_draw (hr.mono (by omega)) (by rfl) T.m__law_draw T.F__law_draw.kp T.b__law_draw (pad_cons (ped_var 0) (pad_cons (ped_callB calld_len (by rfl) T.z_len (by decide +kernel) (pad_cons (ped_var 1) pad_nil)) pad_nil)) (alen_cons (alen_cons alen_nil))) (fun _ _ => rfl)) pad_nil))) (pad_cons (ped_tup (pad_cons ped_str (pad_cons (ped_sub hu (ped_var 1) (ped_call G__law_draw (hr.mono (by omega)) (by rfl) T.m__law_draw T.F__law_draw.kp T.b__law_draw (pad_cons (ped_var 0) (pad_cons (ped_callB calld_len (by rfl) T.z_len (by decide +kernel) (pad_cons (ped_var 1) pad_nil)) pad_nil)) (alen_cons (alen_cons alen_nil))) (fun _ _ => rfl)) pad_nil))) pad_nil)) (by rfl))
    (pssd_cons (psd_par (i := 5) (j := 6) rfl sc__law_simple.nd rfl rfl (by decide) rfl rfl (pad_cons (ped_tup (pad_cons ped_str (pad_cons (ped_tup (pad_cons ped_str pad_nil)) pad_nil))) (pad_cons (ped_tup (pad_cons ped_str (pad_cons (ped_var 2) pad_nil))) pad_nil)) (by rfl))
    (pssd_cons (psd_set (i := 7) sc__law_simple.nd rfl (by first | exact .inl rfl | exact .inr rfl) (ped_lst (pad_cons (ped_tup (pad_cons ped_str (pad_cons (ped_tup (pad_cons (ped_var 6) (pad_cons (ped_var 5) pad_nil))) pad_nil))) (pad_cons (ped_tup (pad_cons ped_str (pad_cons (ped_tup (pad_cons (ped_var 5) (pad_cons (ped_var 3) pad_nil))) pad_nil))) (pad_cons (ped_tup (pad_cons ped_str (pad_cons (ped_tup (pad_cons (ped_tup (pad_cons ped_str pad_nil)) (pad_cons (ped_tup (pad_cons ped_str pad_nil)) pad_nil))) pad_nil))) (pad_cons (ped_tup (pad_cons ped_str (pad_cons (ped_tup (pad_cons (ped_var 6) (pad_cons (ped_var 3) (pad_cons (ped_var 5) pad_nil)))) pad_nil))) (pad_cons (ped_tup (pad_cons ped_str (pad_cons (ped_tup (pad_cons (ped_var 5) (pad_cons (ped_var 3) (pad_cons (ped_var 5) pad_nil)))) pad_nil))) (pad_cons (ped_tup (pad_cons ped_str (pad_cons (ped_tup (pad_cons ped_str (pad_cons (ped_tup (pad_cons (ped_var 3) (pad_cons (ped_var 4) (pad_cons (ped_var 6) pad_nil)))) pad_nil))) pad_nil))) (pad_cons (ped_var 5) pad_nil)))))))))
    (pssd_cons (psd_set (i := 7) sc__law_simple.nd rfl (by first | exact .inl rfl | exact .inr rfl) (ped_bin opd_add (ped_var 7) (ped_lst (pad_cons (ped_tup (pad_cons ped_str (pad_cons (ped_tup (pad_cons (ped_tup (pad_cons ped_str (pad_cons (ped_tup (pad_cons (ped_var 6) (pad_cons (ped_tup (pad_cons ped_str pad_nil)) pad_nil))) pad_nil))) (pad_cons (ped_tup (pad_cons ped_str (pad_cons (ped_tup (pad_cons (ped_var 5) (pad_cons (ped_var 3) pad_nil))) pad_nil))) pad_nil))) pad_nil))) (pad_cons (ped_tup (pad_cons ped_str (pad_cons (ped_tup (pad_cons (ped_var 6) (pad_cons (ped_tup (pad_cons ped_str (pad_cons (ped_tup (pad_cons (ped_var 3) (pad_cons (ped_tup (pad_cons ped_str (pad_cons (ped_tup pad_nil) pad_nil))) pad_nil))) pad_nil))) (pad_cons (ped_var 4) pad_nil)))) pad_nil))) (pad_cons (ped_tup (pad_cons ped_str (pad_cons (ped_tup pad_nil) pad_nil))) (pad_cons (ped_tup (pad_cons ped_str (pad_cons (ped_tup (pad_cons (ped_var 6) (pad_cons (ped_var 5) (pad_cons (ped_var 3) (pad_cons (ped_var 4) pad_nil))))) pad_nil))) pad_nil)))))))
    (pssd_one (psd_ret (ped_sub hu (ped_var 7) (ped_call G__law_draw (hr.mono (by omega)) (by rfl) T.m__law_draw T.F__law_draw.kp T.b__law_draw (pad_cons (ped_var 0) (pad_cons (ped_callB calld_len (by rfl) T.z_len (by decide +kernel) (pad_cons (ped_var 7) pad_nil)) pad_nil)) (alen_cons (alen_cons alen_nil))) (fun _ _ => rfl))))))))
def b__law_tag : SM := (sRet (mSub (mLst (aCons (mC (.str "t1")) (aCons (mC (.str "t2")) (aCons (mC (.str "up")) aNil)))) (mCallF m__law_draw (aCons (mVar 0) (aCons (mC (.int 3)) aNil)))))
def m__law_tag : FM := mFun exitZ 1 b__law_tag
theorem ok__law_tag (T : Txt K mg) (G__law_draw : FnOk P w K mg base CX0 1 T.a__law_draw T.d__law_draw ["draws", "limit"] (spM K m__law_draw 2)) : FnOk P w K mg base CX0 2 T.a__law_tag T.d__law_tag ["draws"] (spM K m__law_tag 1) := by
  refine fn_m (k := 1) (N := n__law_tag) exitZ_ok T.F__law_tag sc__law_tag rfl rfl (by decide) fun cdv A outer s H E hr => ?_
  have hu := hu65 hr
  unfold b__law_tag
  exact (pssd_one (psd_ret (ped_sub hu (ped_lst (pad_cons ped_str (pad_cons ped_str (pad_cons ped_str pad_nil)))) (ped_call G__law_draw (hr.mono (by omega)) (by rfl) T.m__law_draw T.F__law_draw.kp T.b__law_draw (pad_cons (ped_var 0) (pad_cons ped_int pad_nil)) (alen_cons (alen_cons alen_nil))) (fun _ _ => rfl))))
def b__law_rule : SM := (sSeq (sSet 5 (mLstC aNil))
  (sSeq (sFor (iRange (aCons (mSub (mLst (aCons (mC (.int 0)) (aCons (mC (.int 1)) (aCons (mC (.int 1)) (aCons (mC (.int 2)) aNil))))) (mCallF m__law_draw (aCons (mVar 0) (aCons (mC (.int 4)) aNil)))) aNil)) (gNm 6) (sSeq (sSet 7 (mCallF m__law_draw (aCons (mVar 0) (aCons (mC (.int 4)) aNil))))
  (sSeq (sSet 8 (mIfE (mTB (mBin dEq (mVar 7) (mC (.int 0)))) (mSub (mLst (aCons (mC (.str "")) (aCons (mC (.str "0")) (aCons (mC (.str "01")) (aCons (mC (.str "011")) (aCons (mC (.str "1")) aNil)))))) (mCallF m__law_draw (aCons (mVar 0) (aCons (mC (.int 5)) aNil)))) (mIfE (mTB (mBin dEq (mVar 7) (mC (.int 1)))) (mCallF m__law_tag (aCons (mVar 0) aNil)) (mCallF m__law_simple (aCons (mVar 0) (aCons (mVar 3) (aCons (mVar 1) aNil)))))))
  (sEx (mApp (mVar 5) (mTup (aCons (mBin dGt (mCallF m__law_draw (aCons (mVar 0) (aCons (mC (.int 3)) aNil))) (mC (.int 0))) (aCons (mSub (mLst (aCons (mC (.str "within")) (aCons (mC (.str "tag")) (aCons (mC (.str "path")) (aCons (mC (.str "path")) aNil))))) (mVar 7)) (aCons (mVar 8) aNil)))))))))
  (sSeq (sSet 9 (mLstC aNil))
  (sSeq (sFor (iRange (aCons (mCallF m__law_draw (aCons (mVar 0) (aCons (mC (.int 4)) aNil))) aNil)) (gNm 6) (sSeq (sSet 7 (mSub (mLst (aCons (mC (.str "metric")) (aCons (mC (.str "double")) (aCons (mC (.str "tag")) (aCons (mC (.str "untag")) (aCons (mC (.str "like")) aNil)))))) (mCallF m__law_draw (aCons (mVar 0) (aCons (mIfE (mTB (mBin dEq (mVar 4) (mC (.str "in")))) (mC (.int 5)) (mC (.int 4))) aNil)))))
  (sSeq (sSet 8 (mIfE (mTB (mIn false (mVar 7) (mTup (aCons (mC (.str "tag")) (aCons (mC (.str "untag")) aNil))))) (mCallF m__law_tag (aCons (mVar 0) aNil)) (mIfE (mTB (mBin dEq (mVar 7) (mC (.str "double")))) (mBin dAdd (mC (.int 1)) (mCallF m__law_draw (aCons (mVar 0) (aCons (mC (.int 9)) aNil)))) (mSub (mLst (aCons (mC (.int 0)) (aCons (mC (.int 1)) (aCons (mC (.int 50)) (aCons (mC (.int 100)) (aCons (mC (.int 1000)) aNil)))))) (mCallF m__law_draw (aCons (mVar 0) (aCons (mC (.int 5)) aNil)))))))
  (sEx (mApp (mVar 9) (mTup (aCons (mVar 7) (aCons (mVar 8) aNil))))))))
  (sSeq (sIf (mTB (mBin dEq (mCallF m__law_draw (aCons (mVar 0) (aCons (mC (.int 4)) aNil))) (mC (.int 0)))) (sSet 9 (mLstC (aCons (mC (.str "refuse")) aNil))) sNx)
  (sRet (mTup (aCons (mVar 4) (aCons (mVar 1) (aCons (mIfE (mTB (mBin dEq (mCallF m__law_draw (aCons (mVar 0) (aCons (mC (.int 4)) aNil))) (mC (.int 0)))) (mC (.str "*")) (mVar 2)) (aCons (mCall gTuple (aCons (mVar 5) aNil)) (aCons (mCall gTuple (aCons (mVar 9) aNil)) aNil))))))))))))
def m__law_rule : FM := mFun exitZ 10 b__law_rule
theorem ok__law_rule (T : Txt K mg) (G__law_draw : FnOk P w K mg base CX0 1 T.a__law_draw T.d__law_draw ["draws", "limit"] (spM K m__law_draw 2)) (G__law_simple : FnOk P w K mg base CX0 2 T.a__law_simple T.d__law_simple ["draws", "names", "router"] (spM K m__law_simple 3)) (G__law_tag : FnOk P w K mg base CX0 2 T.a__law_tag T.d__law_tag ["draws"] (spM K m__law_tag 1)) : FnOk P w K mg base CX0 3 T.a__law_rule T.d__law_rule ["draws", "router", "neighbour", "names", "word"] (spM K m__law_rule 5) := by
  refine fn_m (k := 2) (N := n__law_rule) exitZ_ok T.F__law_rule sc__law_rule rfl rfl (by decide) fun cdv A outer s H E hr => ?_
  have hu := hu65 hr
  unfold b__law_rule
  exact (pssd_cons (psd_set (i := 5) sc__law_rule.nd rfl (by first | exact .inl rfl | exact .inr rfl) (ped_lstC pad_nil))
    (pssd_cons (psd_for PassesOwn.never rfl (pid_range1 (by rfl) T.z_range (ped_sub hu (ped_lst (pad_cons ped_int (pad_cons ped_int (pad_cons ped_int (pad_cons ped_int pad_nil))))) (ped_call G__law_draw (hr.mono (by omega)) (by rfl) T.m__law_draw T.F__law_draw.kp T.b__law_draw (pad_cons (ped_var 0) (pad_cons ped_int pad_nil)) (alen_cons (alen_cons alen_nil))) (fun _ _ => rfl))) (pgd_name (i := 6) sc__law_rule.nd rfl (by first | exact .inl rfl | exact .inr rfl)) (pssd_cons (psd_set (i := 7) sc__law_rule.nd rfl (by first | exact .inl rfl | exact .inr rfl) (ped_call G__law_draw (hr.mono (by omega)) (by rfl) T.m__law_draw T.F__law_draw.kp T.b__law_draw (pad_cons (ped_var 0) (pad_cons ped_int pad_nil)) (alen_cons (alen_cons alen_nil))))
    (pssd_cons (psd_set (i := 8) sc__law_rule.nd rfl (by first | exact .inl rfl | exact .inr rfl) (ped_if (ptd_cmp (opd_eq hu) (ped_var 7) ped_int (nomark _)) (ped_sub hu (ped_lst (pad_cons ped_str (pad_cons ped_str (pad_cons ped_str (pad_cons ped_str (pad_cons ped_str pad_nil)))))) (ped_call G__law_draw (hr.mono (by omega)) (by rfl) T.m__law_draw T.F__law_draw.kp T.b__law_draw (pad_cons (ped_var 0) (pad_cons ped_int pad_nil)) (alen_cons (alen_cons alen_nil))) (fun _ _ => rfl)) (ped_if (ptd_cmp (opd_eq hu) (ped_var 7) ped_int (nomark _)) (ped_call G__law_tag (hr.mono (by omega)) (by rfl) T.m__law_tag T.F__law_tag.kp T.b__law_tag (pad_cons (ped_var 0) pad_nil) (alen_cons alen_nil)) (ped_call G__law_simple (hr.mono (by omega)) (by rfl) T.m__law_simple T.F__law_simple.kp T.b__law_simple (pad_cons (ped_var 0) (pad_cons (ped_var 3) (pad_cons (ped_var 1) pad_nil))) (alen_cons (alen_cons (alen_cons alen_nil)))))))
    (pssd_one (psd_expr (ped_append (ped_var 5) (ped_tup (pad_cons (ped_cmp opd_gt (ped_call G__law_draw (hr.mono (by omega)) (by rfl) T.m__law_draw T.F__law_draw.kp T.b__law_draw (pad_cons (ped_var 0) (pad_cons ped_int pad_nil)) (alen_cons (alen_cons alen_nil))) ped_int (nomark _)) (pad_cons (ped_sub hu (ped_lst (pad_cons ped_str (pad_cons ped_str (pad_cons ped_str (pad_cons ped_str pad_nil))))) (ped_var 7) (fun _ _ => rfl)) (pad_cons (ped_var 8) pad_nil))))))))))
    (pssd_cons (psd_set (i := 9) sc__law_rule.nd rfl (by first | exact .inl rfl | exact .inr rfl) (ped_lstC pad_nil))
    (pssd_cons (psd_for PassesOwn.never rfl (pid_range1 (by rfl) T.z_range (ped_call G__law_draw (hr.mono (by omega)) (by rfl) T.m__law_draw T.F__law_draw.kp T.b__law_draw (pad_cons (ped_var 0) (pad_cons ped_int pad_nil)) (alen_cons (alen_cons alen_nil)))) (pgd_name (i := 6) sc__law_rule.nd rfl (by first | exact .inl rfl | exact .inr rfl)) (pssd_cons (psd_set (i := 7) sc__law_rule.nd rfl (by first | exact .inl rfl | exact .inr rfl) (ped_sub hu (ped_lst (pad_cons ped_str (pad_cons ped_str (pad_cons ped_str (pad_cons ped_str (pad_cons ped_str pad_nil)))))) (ped_call G__law_draw (hr.mono (by omega)) (by rfl) T.m__law_draw T.F__law_draw.kp T.b__law_draw (pad_cons (ped_var 0) (pad_cons (ped_if (ptd_cmp (opd_eq hu) (ped_var 4) ped_str (nomark _)) ped_int ped_int) pad_nil)) (alen_cons (alen_cons alen_nil))) (fun _ _ => rfl)))
    (pssd_cons (psd_set (i := 8) sc__law_rule.nd rfl (by first | exact .inl rfl | exact .inr rfl) (ped_if (ptd_in hu (ped_var 7) (ped_tup (pad_cons ped_str (pad_cons ped_str pad_nil)))) (ped_call G__law_tag (hr.mono (by omega)) (by rfl) T.m__law_tag T.F__law_tag.kp T.b__law_tag (pad_cons (ped_var 0) pad_nil) (alen_cons alen_nil)) (ped_if (ptd_cmp (opd_eq hu) (ped_var 7) ped_str (nomark _)) (ped_bin opd_add ped_int (ped_call G__law_draw (hr.mono (by omega)) (by rfl) T.m__law_draw T.F__law_draw.kp T.b__law_draw (pad_cons (ped_var 0) (pad_cons ped_int pad_nil)) (alen_cons (alen_cons alen_nil)))) (ped_sub hu (ped_lst (pad_cons ped_int (pad_cons ped_int (pad_cons ped_int (pad_cons ped_int (pad_cons ped_int pad_nil)))))) (ped_call G__law_draw (hr.mono (by omega)) (by rfl) T.m__law_draw T.F__law_draw.kp T.b__law_draw (pad_cons (ped_var 0) (pad_cons ped_int pad_nil)) (alen_cons (alen_cons alen_nil))) (fun _ _ => rfl)))))
    (pssd_one (psd_expr (ped_append (ped_var 9) (ped_tup (pad_cons (ped_var 7) (pad_cons (ped_var 8) pad_nil)))))))))
    (pssd_cons (psd_if (ptd_cmp (opd_eq hu) (ped_call G__law_draw (hr.mono (by omega)) (by rfl) T.m__law_draw T.F__law_draw.kp T.b__law_draw (pad_cons (ped_var 0) (pad_cons ped_int pad_nil)) (alen_cons (alen_cons alen_nil))) ped_int (nomark _)) (pssd_one (psd_set (i := 9) sc__law_rule.nd rfl (by first | exact .inl rfl | exact .inr rfl) (ped_lstC (pad_cons ped_str pad_nil)))) pssd_nil)
    (pssd_one (psd_ret (ped_tup (pad_cons (ped_var 4) (pad_cons (ped_var 1) (pad_cons (ped_if (ptd_cmp (opd_eq hu) (ped_call G__law_draw (hr.mono (by omega)) (by rfl) T.m__law_draw T.F__law_draw.kp T.b__law_draw (pad_cons (ped_var 0) (pad_cons ped_int pad_nil)) (alen_cons (alen_cons alen_nil))) ped_int (nomark _)) ped_str (ped_var 2)) (pad_cons (ped_callT calld_tuple (by rfl) T.z_tuple (by decide +kernel) (pad_cons (ped_var 5) pad_nil)) (pad_cons (ped_callT calld_tuple (by rfl) T.z_tuple (by decide +kernel) (pad_cons (ped_var 9) pad_nil)) pad_nil)))))))))))))
def b__law_same (self : FM) : SM := (sSeq (sIf (mTB (mBin (dIs false) (mVar 1) (mC .none))) (sRet (mBin (dIs false) (mVar 0) (mC .none))) sNx)
  (sSeq (sIf (mTB (mIs (inst .bool) (mVar 1))) (sRet (mAndV (mIs (inst .bool) (mVar 0)) (mBin dEq (mVar 0) (mVar 1)))) sNx)
  (sSeq (sIf (mTB (mIs (inst .int) (mVar 1))) (sRet (mAndV (mIs (inst .int) (mVar 0)) (mAndV (mNotV (mIs (inst .bool) (mVar 0))) (mBin dEq (mVar 0) (mVar 1))))) sNx)
  (sSeq (sIf (mTB (mIs (inst .str) (mVar 1))) (sRet (mAndV (mIs (inst .str) (mVar 0)) (mBin dEq (mVar 0) (mVar 1)))) sNx)
  (sSeq (sIf (mTB (mIs (inst .dict) (mVar 1))) (sSeq sNo
  sNo) sNx)
  (sSeq (sIf (mTB (mIs (inst .list) (mVar 1))) (sSet 2 (mIs (inst .list) (mVar 0))) (sSet 2 (mIs (inst .tuple) (mVar 0))))
  (sRet (mAndV (mVar 2) (mAndV (mBin dEq (mCall gLen (aCons (mVar 0) aNil)) (mCall gLen (aCons (mVar 1) aNil))) (mCall gAll (aCons (mLC [3] (iRange (aCons (mCall gLen (aCons (mVar 1) aNil)) aNil)) (gNm 3) bYes (mCallF self (aCons (mSub (mVar 0) (mVar 3)) (aCons (mSub (mVar 1) (mVar 3)) aNil)))) aNil)))))))))))
def m__law_same : Nat → FM
  | 0 => fun _ _ => none
  | n + 1 => mFun exitZ 5 (b__law_same (m__law_same n))
theorem ok__law_same (T : Txt K mg)  : ∀ n : Nat, FnOk P w K mg base CX0 (0 + n) T.a__law_same T.d__law_same ["x", "due"] (spM K (m__law_same n) 2)
  | 0 => fn_none fun _ _ => rfl
  | n + 1 => by
    have ih := ok__law_same T  n
    refine fn_m (k := 0 + n) (N := n__law_same) exitZ_ok T.F__law_same sc__law_same rfl rfl (by decide) fun cdv A outer s H E hr => ?_
    have hu := hu65 hr
    unfold b__law_same
    exact (pssd_cons (psd_if (ptd_cmp opd_is (ped_var 1) ped_non (nomark _)) (pssd_one (psd_ret (ped_cmp opd_is (ped_var 0) ped_non (nomark _)))) pssd_nil)
    (pssd_cons (psd_if (ptd_val (ped_isi (T := .bool) (by rfl) T.z_isinstance (by rfl) T.z_bool (by decide +kernel) (ped_var 1))) (pssd_one (psd_ret (ped_and (ped_isi (T := .bool) (by rfl) T.z_isinstance (by rfl) T.z_bool (by decide +kernel) (ped_var 0)) (ped_one (ped_cmp (opd_eq hu) (ped_var 0) (ped_var 1) (nomark _)))))) pssd_nil)
    (pssd_cons (psd_if (ptd_val (ped_isi (T := .int) (by rfl) T.z_isinstance (by rfl) T.z_int (by decide +kernel) (ped_var 1))) (pssd_one (psd_ret (ped_and (ped_isi (T := .int) (by rfl) T.z_isinstance (by rfl) T.z_int (by decide +kernel) (ped_var 0)) (ped_and (ped_not (ped_isi (T := .bool) (by rfl) T.z_isinstance (by rfl) T.z_bool (by decide +kernel) (ped_var 0))) (ped_one (ped_cmp (opd_eq hu) (ped_var 0) (ped_var 1) (nomark _))))))) pssd_nil)
    (pssd_cons (psd_if (ptd_val (ped_isi (T := .str) (by rfl) T.z_isinstance (by rfl) T.z_str (by decide +kernel) (ped_var 1))) (pssd_one (psd_ret (ped_and (ped_isi (T := .str) (by rfl) T.z_isinstance (by rfl) T.z_str (by decide +kernel) (ped_var 0)) (ped_one (ped_cmp (opd_eq hu) (ped_var 0) (ped_var 1) (nomark _)))))) pssd_nil)
    (pssd_cons (psd_if (ptd_val (ped_isi (T := .dict) (by rfl) T.z_isinstance (by rfl) T.z_dict (by decide +kernel) (ped_var 1))) (pssd_cons psd_never
    (pssd_one psd_never)) pssd_nil)
    (pssd_cons (psd_if (ptd_val (ped_isi (T := .list) (by rfl) T.z_isinstance (by rfl) T.z_list (by decide +kernel) (ped_var 1))) (pssd_one (psd_set (i := 2) sc__law_same.nd rfl (by first | exact .inl rfl | exact .inr rfl) (ped_isi (T := .list) (by rfl) T.z_isinstance (by rfl) T.z_list (by decide +kernel) (ped_var 0)))) (pssd_one (psd_set (i := 2) sc__law_same.nd rfl (by first | exact .inl rfl | exact .inr rfl) (ped_isi (T := .tuple) (by rfl) T.z_isinstance (by rfl) T.z_tuple (by decide +kernel) (ped_var 0)))))
    (pssd_one (psd_ret (ped_and (ped_var 2) (ped_and (ped_cmp (opd_eq hu) (ped_callB calld_len (by rfl) T.z_len (by decide +kernel) (pad_cons (ped_var 0) pad_nil)) (ped_callB calld_len (by rfl) T.z_len (by decide +kernel) (pad_cons (ped_var 1) pad_nil)) (nomark _)) (ped_one (ped_callB (calld_all rfl) (by rfl) T.z_all (by decide +kernel) (pad_cons (ped_lc rfl sc__law_same.nd (own := [("at", 3)]) (pid_range1 (by rfl) T.z_range (ped_callB calld_len (by rfl) T.z_len (by decide +kernel) (pad_cons (ped_var 1) pad_nil))) (blkOk_by (own := [("at", 3)]) (N := n__law_same) (sc := defScope s__law_same) (by decide +kernel)) (fun _ _ _ _ _ => (pgd_name (i := 3) sc__law_same.nd rfl (by first | exact .inl rfl | exact .inr rfl))) (fun _ _ _ _ _ => ptsd_nil) (fun _ _ _ _ _ => (ped_call ih hr (by rfl) T.m__law_same T.F__law_same.kp T.b__law_same (pad_cons (ped_sub hu (ped_var 0) (ped_var 3) (fun _ _ => rfl)) (pad_cons (ped_sub hu (ped_var 1) (ped_var 3) (fun _ _ => rfl)) pad_nil)) (alen_cons (alen_cons alen_nil))))) pad_nil)))))))))))))
def b_is_number : SM := (sRet (mAndV (mIs (inst .int) (mVar 0)) (mAndV (mNotV (mIs (inst .bool) (mVar 0))) (mChain dLe dLe (mVar 1) (mVar 0) (mVar 2)))))
def m_is_number : FM := mFun exitZ 3 b_is_number
theorem ok_is_number (T : Txt K mg)  : FnOk P w K mg base CX0 1 T.a_is_number T.d_is_number ["thing", "low", "high"] (spM K m_is_number 3) := by
  refine fn_m (k := 0) (N := n_is_number) exitZ_ok T.F_is_number sc_is_number rfl rfl (by decide) fun cdv A outer s H E hr => ?_
  have hu := hu65 hr
  unfold b_is_number
  exact (pssd_one (psd_ret (ped_and (ped_isi (T := .int) (by rfl) T.z_isinstance (by rfl) T.z_int (by decide +kernel) (ped_var 0)) (ped_and (ped_not (ped_isi (T := .bool) (by rfl) T.z_isinstance (by rfl) T.z_bool (by decide +kernel) (ped_var 0))) (ped_one (ped_chain opd_le opd_le (ped_var 1) (ped_var 0) (ped_var 2)))))))
def b_is_act : SM := (sSeq (sIf (mOrB (mNotB (mTB (mIs (inst .tuple) (mVar 0)))) (mTB (mBin dNe (mCall gLen (aCons (mVar 0) aNil)) (mC (.int 2))))) (sRet (mC (.bool false))) sNx)
  (sSeq (sIf (mTB (mBin dEq (mSub (mVar 0) (mC (.int 0))) (mC (.str "like")))) (sRet (mAndV (mBin dEq (mVar 1) (mC (.str "in"))) (mCallF m_is_number (aCons (mSub (mVar 0) (mC (.int 1))) (aCons (mC (.int 0)) (aCons (mC (.int 1000)) aNil)))))) sNx)
  (sSeq (sIf (mTB (mBin dEq (mSub (mVar 0) (mC (.int 0))) (mC (.str "metric")))) (sRet (mCallF m_is_number (aCons (mSub (mVar 0) (mC (.int 1))) (aCons (mC (.int 0)) (aCons (mC (.int 1000)) aNil))))) sNx)
  (sSeq (sIf (mTB (mBin dEq (mSub (mVar 0) (mC (.int 0))) (mC (.str "double")))) (sRet (mCallF m_is_number (aCons (mSub (mVar 0) (mC (.int 1))) (aCons (mC (.int 1)) (aCons (mC (.int 9)) aNil))))) sNx)
  (sRet (mAndV (mIn false (mSub (mVar 0) (mC (.int 0))) (mTup (aCons (mC (.str "tag")) (aCons (mC (.str "untag")) aNil)))) (mCallF m_is_name (aCons (mSub (mVar 0) (mC (.int 1))) aNil))))))))
def m_is_act : FM := mFun exitZ 2 b_is_act
theorem ok_is_act (T : Txt K mg) (G_is_name : FnOk P w K mg base CX0 1 T.a_is_name T.d_is_name ["thing"] (spM K m_is_name 1)) (G_is_number : FnOk P w K mg base CX0 1 T.a_is_number T.d_is_number ["thing", "low", "high"] (spM K m_is_number 3)) : FnOk P w K mg base CX0 2 T.a_is_act T.d_is_act ["thing", "word"] (spM K m_is_act 2) := by
  refine fn_m (k := 1) (N := n_is_act) exitZ_ok T.F_is_act sc_is_act rfl rfl (by decide) fun cdv A outer s H E hr => ?_
  have hu := hu65 hr
  unfold b_is_act
  exact (pssd_cons (psd_if (PWd.pt (pwd_or (ptd_not (ptd_val (ped_isi (T := .tuple) (by rfl) T.z_isinstance (by rfl) T.z_tuple (by decide +kernel) (ped_var 0)))) (pwd_or1 (ptd_cmp (opd_ne hu) (ped_callB calld_len (by rfl) T.z_len (by decide +kernel) (pad_cons (ped_var 0) pad_nil)) ped_int (nomark _))))) (pssd_one (psd_ret ped_bl)) pssd_nil)
    (pssd_cons (psd_if (ptd_cmp (opd_eq hu) (ped_sub hu (ped_var 0) ped_int (fun _ _ => rfl)) ped_str (nomark _)) (pssd_one (psd_ret (ped_and (ped_cmp (opd_eq hu) (ped_var 1) ped_str (nomark _)) (ped_one (ped_call G_is_number (hr.mono (by omega)) (by rfl) T.m_is_number T.F_is_number.kp T.b_is_number (pad_cons (ped_sub hu (ped_var 0) ped_int (fun _ _ => rfl)) (pad_cons ped_int (pad_cons (ped_glob (v := .int 1000) (by rfl) T.c_MOST_rules ⟨_, rfl⟩ fun _ => .int _) pad_nil))) (alen_cons (alen_cons (alen_cons alen_nil)))))))) pssd_nil)
    (pssd_cons (psd_if (ptd_cmp (opd_eq hu) (ped_sub hu (ped_var 0) ped_int (fun _ _ => rfl)) ped_str (nomark _)) (pssd_one (psd_ret (ped_call G_is_number (hr.mono (by omega)) (by rfl) T.m_is_number T.F_is_number.kp T.b_is_number (pad_cons (ped_sub hu (ped_var 0) ped_int (fun _ _ => rfl)) (pad_cons ped_int (pad_cons (ped_glob (v := .int 1000) (by rfl) T.c_MOST_rules ⟨_, rfl⟩ fun _ => .int _) pad_nil))) (alen_cons (alen_cons (alen_cons alen_nil)))))) pssd_nil)
    (pssd_cons (psd_if (ptd_cmp (opd_eq hu) (ped_sub hu (ped_var 0) ped_int (fun _ _ => rfl)) ped_str (nomark _)) (pssd_one (psd_ret (ped_call G_is_number (hr.mono (by omega)) (by rfl) T.m_is_number T.F_is_number.kp T.b_is_number (pad_cons (ped_sub hu (ped_var 0) ped_int (fun _ _ => rfl)) (pad_cons ped_int (pad_cons (ped_glob (v := .int 9) (by rfl) T.c_DOUBLED ⟨_, rfl⟩ fun _ => .int _) pad_nil))) (alen_cons (alen_cons (alen_cons alen_nil)))))) pssd_nil)
    (pssd_one (psd_ret (ped_and (ped_in hu (ped_sub hu (ped_var 0) ped_int (fun _ _ => rfl)) (ped_tup (pad_cons ped_str (pad_cons ped_str pad_nil)))) (ped_one (ped_call G_is_name (hr.mono (by omega)) (by rfl) T.m_is_name T.F_is_name.kp T.b_is_name (pad_cons (ped_sub hu (ped_var 0) ped_int (fun _ _ => rfl)) pad_nil) (alen_cons alen_nil))))))))))
def b_is_signs : SM := (sRet (mAndV (mIs (inst .str) (mVar 0)) (mAndV (mBin dLe (mCall gLen (aCons (mVar 0) aNil)) (mVar 1)) (mCall gAll (aCons (mLC [2] (iAny (mVar 0)) (gNm 2) bYes (mIn false (mVar 2) (mTup (aCons (mC (.str "0")) (aCons (mC (.str "1")) aNil))))) aNil)))))
def m_is_signs : FM := mFun exitZ 3 b_is_signs
theorem ok_is_signs (T : Txt K mg)  : FnOk P w K mg base CX0 1 T.a_is_signs T.d_is_signs ["thing", "most"] (spM K m_is_signs 2) := by
  refine fn_m (k := 0) (N := n_is_signs) exitZ_ok T.F_is_signs sc_is_signs rfl rfl (by decide) fun cdv A outer s H E hr => ?_
  have hu := hu65 hr
  unfold b_is_signs
  exact (pssd_one (psd_ret (ped_and (ped_isi (T := .str) (by rfl) T.z_isinstance (by rfl) T.z_str (by decide +kernel) (ped_var 0)) (ped_and (ped_cmp opd_le (ped_callB calld_len (by rfl) T.z_len (by decide +kernel) (pad_cons (ped_var 0) pad_nil)) (ped_var 1) (nomark _)) (ped_one (ped_callB (calld_all rfl) (by rfl) T.z_all (by decide +kernel) (pad_cons (ped_lc rfl sc_is_signs.nd (own := [("sign", 2)]) (pid_any (ped_var 0)) (blkOk_by (own := [("sign", 2)]) (N := n_is_signs) (sc := defScope s_is_signs) (by decide +kernel)) (fun _ _ _ _ _ => (pgd_name (i := 2) sc_is_signs.nd rfl (by first | exact .inl rfl | exact .inr rfl))) (fun _ _ _ _ _ => ptsd_nil) (fun _ _ _ _ _ => (ped_in hu (ped_var 2) (ped_tup (pad_cons ped_str (pad_cons ped_str pad_nil)))))) pad_nil)))))))
def b_is_prefix : SM := (sRet (mCallF m_is_signs (aCons (mVar 0) (aCons (mC (.int 8)) aNil))))
def m_is_prefix : FM := mFun exitZ 1 b_is_prefix
theorem ok_is_prefix (T : Txt K mg) (G_is_signs : FnOk P w K mg base CX0 1 T.a_is_signs T.d_is_signs ["thing", "most"] (spM K m_is_signs 2)) : FnOk P w K mg base CX0 2 T.a_is_prefix T.d_is_prefix ["thing"] (spM K m_is_prefix 1) := by
  refine fn_m (k := 1) (N := n_is_prefix) exitZ_ok T.F_is_prefix sc_is_prefix rfl rfl (by decide) fun cdv A outer s H E hr => ?_
  have hu := hu65 hr
  unfold b_is_prefix
  exact (pssd_one (psd_ret (ped_call G_is_signs (hr.mono (by omega)) (by rfl) T.m_is_signs T.F_is_signs.kp T.b_is_signs (pad_cons (ped_var 0) (pad_cons (ped_glob (v := .int 8) (by rfl) T.c_WIDE ⟨_, rfl⟩ fun _ => .int _) pad_nil)) (alen_cons (alen_cons alen_nil)))))
def b_is_condition : SM := (sSeq (sIf (mOrB (mNotB (mTB (mIs (inst .tuple) (mVar 0)))) (mOrB (mTB (mBin dNe (mCall gLen (aCons (mVar 0) aNil)) (mC (.int 3)))) (mNotB (mTB (mIs (inst .bool) (mSub (mVar 0) (mC (.int 0)))))))) (sRet (mC (.bool false))) sNx)
  (sSeq (sIf (mTB (mBin dEq (mSub (mVar 0) (mC (.int 1))) (mC (.str "within")))) (sRet (mCallF m_is_prefix (aCons (mSub (mVar 0) (mC (.int 2))) aNil))) sNx)
  (sSeq (sIf (mTB (mBin dEq (mSub (mVar 0) (mC (.int 1))) (mC (.str "path")))) (sRet (mCallF m_is_pattern (aCons (mSub (mVar 0) (mC (.int 2))) aNil))) sNx)
  (sRet (mAndV (mBin dEq (mSub (mVar 0) (mC (.int 1))) (mC (.str "tag"))) (mCallF m_is_name (aCons (mSub (mVar 0) (mC (.int 2))) aNil)))))))
def m_is_condition : FM := mFun exitZ 1 b_is_condition
theorem ok_is_condition (T : Txt K mg) (G_is_name : FnOk P w K mg base CX0 1 T.a_is_name T.d_is_name ["thing"] (spM K m_is_name 1)) (G_is_pattern : FnOk P w K mg base CX0 42 T.a_is_pattern T.d_is_pattern ["thing"] (spM K m_is_pattern 1)) (G_is_prefix : FnOk P w K mg base CX0 2 T.a_is_prefix T.d_is_prefix ["thing"] (spM K m_is_prefix 1)) : FnOk P w K mg base CX0 43 T.a_is_condition T.d_is_condition ["thing"] (spM K m_is_condition 1) := by
  refine fn_m (k := 42) (N := n_is_condition) exitZ_ok T.F_is_condition sc_is_condition rfl rfl (by decide) fun cdv A outer s H E hr => ?_
  have hu := hu65 hr
  unfold b_is_condition
  exact (pssd_cons (psd_if (PWd.pt (pwd_or (ptd_not (ptd_val (ped_isi (T := .tuple) (by rfl) T.z_isinstance (by rfl) T.z_tuple (by decide +kernel) (ped_var 0)))) (pwd_or (ptd_cmp (opd_ne hu) (ped_callB calld_len (by rfl) T.z_len (by decide +kernel) (pad_cons (ped_var 0) pad_nil)) ped_int (nomark _)) (pwd_or1 (ptd_not (ptd_val (ped_isi (T := .bool) (by rfl) T.z_isinstance (by rfl) T.z_bool (by decide +kernel) (ped_sub hu (ped_var 0) ped_int (fun _ _ => rfl))))))))) (pssd_one (psd_ret ped_bl)) pssd_nil)
    (pssd_cons (psd_if (ptd_cmp (opd_eq hu) (ped_sub hu (ped_var 0) ped_int (fun _ _ => rfl)) ped_str (nomark _)) (pssd_one (psd_ret (ped_call G_is_prefix (hr.mono (by omega)) (by rfl) T.m_is_prefix T.F_is_prefix.kp T.b_is_prefix (pad_cons (ped_sub hu (ped_var 0) ped_int (fun _ _ => rfl)) pad_nil) (alen_cons alen_nil)))) pssd_nil)
    (pssd_cons (psd_if (ptd_cmp (opd_eq hu) (ped_sub hu (ped_var 0) ped_int (fun _ _ => rfl)) ped_str (nomark _)) (pssd_one (psd_ret (ped_call G_is_pattern (hr.mono (by omega)) (by rfl) T.m_is_pattern T.F_is_pattern.kp T.b_is_pattern (pad_cons (ped_sub hu (ped_var 0) ped_int (fun _ _ => rfl)) pad_nil) (alen_cons alen_nil)))) pssd_nil)
    (pssd_one (psd_ret (ped_and (ped_cmp (opd_eq hu) (ped_sub hu (ped_var 0) ped_int (fun _ _ => rfl)) ped_str (nomark _)) (ped_one (ped_call G_is_name (hr.mono (by omega)) (by rfl) T.m_is_name T.F_is_name.kp T.b_is_name (pad_cons (ped_sub hu (ped_var 0) ped_int (fun _ _ => rfl)) pad_nil) (alen_cons alen_nil)))))))))
def b_is_rule : SM := (sSeq (sIf (mOrB (mNotB (mTB (mIs (inst .tuple) (mVar 0)))) (mOrB (mTB (mBin dNe (mCall gLen (aCons (mVar 0) aNil)) (mC (.int 5)))) (mOrB (mTB (mIn true (mSub (mVar 0) (mC (.int 0))) (mTup (aCons (mC (.str "in")) (aCons (mC (.str "out")) aNil))))) (mNotB (mTB (mCallF m_is_name (aCons (mSub (mVar 0) (mC (.int 1))) aNil))))))) (sRet (mC (.bool false))) sNx)
  (sSeq (sIf (mOrB (mNotB (mOrB (mTB (mBin dEq (mSub (mVar 0) (mC (.int 2))) (mC (.str "*")))) (mTB (mCallF m_is_name (aCons (mSub (mVar 0) (mC (.int 2))) aNil))))) (mOrB (mNotB (mTB (mIs (inst .tuple) (mSub (mVar 0) (mC (.int 3)))))) (mNotB (mTB (mIs (inst .tuple) (mSub (mVar 0) (mC (.int 4)))))))) (sRet (mC (.bool false))) sNx)
  (sSeq (sIf (mNotB (mTB (mCall gAll (aCons (mLC [2] (iAny (mSub (mVar 0) (mC (.int 3)))) (gNm 2) bYes (mCallF m_is_condition (aCons (mVar 2) aNil))) aNil)))) (sRet (mC (.bool false))) sNx)
  (sRet (mOrV (mBin dEq (mSub (mVar 0) (mC (.int 4))) (mTup (aCons (mC (.str "refuse")) aNil))) (mCall gAll (aCons (mLC [1] (iAny (mSub (mVar 0) (mC (.int 4)))) (gNm 1) bYes (mCallF m_is_act (aCons (mVar 1) (aCons (mSub (mVar 0) (mC (.int 0))) aNil)))) aNil)))))))
def m_is_rule : FM := mFun exitZ 3 b_is_rule
theorem ok_is_rule (T : Txt K mg) (G_is_act : FnOk P w K mg base CX0 2 T.a_is_act T.d_is_act ["thing", "word"] (spM K m_is_act 2)) (G_is_condition : FnOk P w K mg base CX0 43 T.a_is_condition T.d_is_condition ["thing"] (spM K m_is_condition 1)) (G_is_name : FnOk P w K mg base CX0 1 T.a_is_name T.d_is_name ["thing"] (spM K m_is_name 1)) : FnOk P w K mg base CX0 44 T.a_is_rule T.d_is_rule ["thing"] (spM K m_is_rule 1) := by
  refine fn_m (k := 43) (N := n_is_rule) exitZ_ok T.F_is_rule sc_is_rule rfl rfl (by decide) fun cdv A outer s H E hr => ?_
  have hu := hu65 hr
  unfold b_is_rule
  exact (pssd_cons (psd_if (PWd.pt (pwd_or (ptd_not (ptd_val (ped_isi (T := .tuple) (by rfl) T.z_isinstance (by rfl) T.z_tuple (by decide +kernel) (ped_var 0)))) (pwd_or (ptd_cmp (opd_ne hu) (ped_callB calld_len (by rfl) T.z_len (by decide +kernel) (pad_cons (ped_var 0) pad_nil)) ped_int (nomark _)) (pwd_or (ptd_notin hu (ped_sub hu (ped_var 0) ped_int (fun _ _ => rfl)) (ped_tup (pad_cons ped_str (pad_cons ped_str pad_nil)))) (pwd_or1 (ptd_not (ptd_val (ped_call G_is_name (hr.mono (by omega)) (by rfl) T.m_is_name T.F_is_name.kp T.b_is_name (pad_cons (ped_sub hu (ped_var 0) ped_int (fun _ _ => rfl)) pad_nil) (alen_cons alen_nil))))))))) (pssd_one (psd_ret ped_bl)) pssd_nil)
    (pssd_cons (psd_if (PWd.pt (pwd_or (ptd_not (PWd.pt (pwd_or (ptd_cmp (opd_eq hu) (ped_sub hu (ped_var 0) ped_int (fun _ _ => rfl)) ped_str (nomark _)) (pwd_or1 (ptd_val (ped_call G_is_name (hr.mono (by omega)) (by rfl) T.m_is_name T.F_is_name.kp T.b_is_name (pad_cons (ped_sub hu (ped_var 0) ped_int (fun _ _ => rfl)) pad_nil) (alen_cons alen_nil))))))) (pwd_or (ptd_not (ptd_val (ped_isi (T := .tuple) (by rfl) T.z_isinstance (by rfl) T.z_tuple (by decide +kernel) (ped_sub hu (ped_var 0) ped_int (fun _ _ => rfl))))) (pwd_or1 (ptd_not (ptd_val (ped_isi (T := .tuple) (by rfl) T.z_isinstance (by rfl) T.z_tuple (by decide +kernel) (ped_sub hu (ped_var 0) ped_int (fun _ _ => rfl))))))))) (pssd_one (psd_ret ped_bl)) pssd_nil)
    (pssd_cons (psd_if (ptd_not (ptd_val (ped_callB (calld_all rfl) (by rfl) T.z_all (by decide +kernel) (pad_cons (ped_lc rfl sc_is_rule.nd (own := [("one", 2)]) (pid_any (ped_sub hu (ped_var 0) ped_int (fun _ _ => rfl))) (blkOk_by (own := [("one", 2)]) (N := n_is_rule) (sc := defScope s_is_rule) (by decide +kernel)) (fun _ _ _ _ _ => (pgd_name (i := 2) sc_is_rule.nd rfl (by first | exact .inl rfl | exact .inr rfl))) (fun _ _ _ _ _ => ptsd_nil) (fun _ _ _ _ _ => (ped_call G_is_condition (hr.mono (by omega)) (by rfl) T.m_is_condition T.F_is_condition.kp T.b_is_condition (pad_cons (ped_var 2) pad_nil) (alen_cons alen_nil)))) pad_nil)))) (pssd_one (psd_ret ped_bl)) pssd_nil)
    (pssd_one (psd_ret (ped_or (ped_cmp (opd_eq hu) (ped_sub hu (ped_var 0) ped_int (fun _ _ => rfl)) (ped_tup (pad_cons ped_str pad_nil)) (nomark _)) (ped_one (ped_callB (calld_all rfl) (by rfl) T.z_all (by decide +kernel) (pad_cons (ped_lc rfl sc_is_rule.nd (own := [("act", 1)]) (pid_any (ped_sub hu (ped_var 0) ped_int (fun _ _ => rfl))) (blkOk_by (own := [("act", 1)]) (N := n_is_rule) (sc := defScope s_is_rule) (by decide +kernel)) (fun _ _ _ _ _ => (pgd_name (i := 1) sc_is_rule.nd rfl (by first | exact .inl rfl | exact .inr rfl))) (fun _ _ _ _ _ => ptsd_nil) (fun _ _ _ _ _ => (ped_call G_is_act (hr.mono (by omega)) (by rfl) T.m_is_act T.F_is_act.kp T.b_is_act (pad_cons (ped_var 1) (pad_cons (ped_sub hu (ped_var 0) ped_int (fun _ _ => rfl)) pad_nil)) (alen_cons (alen_cons alen_nil))))) pad_nil)))))))))
def b_law : SM := (sSeq (sSet 1 (mCallF m__law_draws (aCons (mVar 0) aNil)))
  (sSeq (sFor (iRange (aCons (mC (.int 6)) aNil)) (gNm 2) (sSeq (sSet 3 (mCallF m__law_rule (aCons (mVar 1) (aCons (mC (.str "a")) (aCons (mC (.str "b")) (aCons (mLst (aCons (mC (.str "a")) (aCons (mC (.str "b")) (aCons (mC (.str "c")) aNil)))) (aCons (mSub (mLst (aCons (mC (.str "in")) (aCons (mC (.str "out")) aNil))) (mCallF m__law_draw (aCons (mVar 1) (aCons (mC (.int 2)) aNil)))) aNil)))))))
  (sSeq (sIf (mTB (mBin (dIs true) (mCallF m_is_rule (aCons (mCallF (m__law_copy 40) (aCons (mVar 3) aNil)) aNil)) (mC (.bool true)))) (sRet (mC (.bool false))) sNx)
  (sSeq (sFor (iRange (aCons (mC (.int 6)) aNil)) (gNm 4) (sSeq (sSet 5 (mCallF (m__law_bend 40) (aCons (mVar 1) (aCons (mVar 3) (aCons (mC (.int 4)) aNil)))))
  (sIf (mNotB (mTB (mCallF (m__law_same 40) (aCons (mCallF m_is_rule (aCons (mVar 5) aNil)) (aCons (mCallF m__law_is_rule (aCons (mVar 5) aNil)) aNil))))) (sRet (mC (.bool false))) sNx)))
  (sSeq (sSet 6 (mLst (aCons (mTup (aCons (mTup (aCons (mC (.str "like")) (aCons (mC (.int 1000)) aNil))) aNil)) (aCons (mTup (aCons (mTup (aCons (mC (.str "like")) (aCons (mC (.int 1001)) aNil))) aNil)) (aCons (mTup (aCons (mTup (aCons (mC (.str "metric")) (aCons (mC (.int 0)) aNil))) (aCons (mTup (aCons (mC (.str "metric")) (aCons (mUn dNeg (mC (.int 1))) aNil))) aNil))) (aCons (mTup (aCons (mTup (aCons (mC (.str "double")) (aCons (mC (.int 9)) aNil))) aNil)) (aCons (mTup (aCons (mTup (aCons (mC (.str "double")) (aCons (mC (.int 10)) aNil))) aNil)) (aCons (mTup (aCons (mTup (aCons (mC (.str "double")) (aCons (mC (.int 0)) aNil))) aNil)) aNil))))))))
  (sSeq (sSet 6 (mBin dAdd (mVar 6) (mLst (aCons (mTup (aCons (mC (.str "refuse")) (aCons (mTup (aCons (mC (.str "metric")) (aCons (mC (.int 5)) aNil))) aNil))) (aCons (mTup (aCons (mC (.str "refuse")) (aCons (mC (.str "refuse")) aNil))) (aCons (mTup (aCons (mTup (aCons (mC (.str "tag")) (aCons (mC (.str "A")) aNil))) aNil)) (aCons (mTup (aCons (mTup (aCons (mC (.str "like")) (aCons (mC (.bool true)) aNil))) aNil)) aNil)))))))
  (sFor (iAny (mVar 6)) (gNm 7) (sSeq (sSet 5 (mBin dAdd (mSl (mVar 3) oNone (oSome (mC (.int 4)))) (mTup (aCons (mVar 7) aNil))))
  (sIf (mNotB (mTB (mCallF (m__law_same 40) (aCons (mCallF m_is_rule (aCons (mVar 5) aNil)) (aCons (mCallF m__law_is_rule (aCons (mVar 5) aNil)) aNil))))) (sRet (mC (.bool false))) sNx)))))))))
  (sSeq (sSet 8 (mTup (aCons (mC (.str "out")) (aCons (mC (.str "a")) (aCons (mC (.str "*")) (aCons (mTup aNil) (aCons (mTup aNil) aNil)))))))
  (sSeq (sSet 9 (mLst (aCons (mC (.bool true)) (aCons (mC (.bool false)) (aCons (mC (.bool false)) (aCons (mC (.bool false)) (aCons (mC (.bool false)) (aCons (mC (.bool true)) (aCons (mC (.bool false)) (aCons (mC (.bool false)) aNil))))))))))
  (sSeq (sSet 10 (mLst (aCons (mVar 8) (aCons (mCall gList (aCons (mVar 8) aNil)) (aCons (mBin dAdd (mTup (aCons (mC (.str "Out")) aNil)) (mSl (mVar 8) (oSome (mC (.int 1))) oNone)) (aCons (mBin dAdd (mBin dAdd (mSl (mVar 8) oNone (oSome (mC (.int 1)))) (mTup (aCons (mC (.str "any")) aNil))) (mSl (mVar 8) (oSome (mC (.int 2))) oNone)) (aCons (mBin dAdd (mBin dAdd (mSl (mVar 8) oNone (oSome (mC (.int 2)))) (mTup (aCons (mC (.str "**")) aNil))) (mSl (mVar 8) (oSome (mC (.int 3))) oNone)) aNil)))))))
  (sSeq (sSet 10 (mBin dAdd (mVar 10) (mLst (aCons (mBin dAdd (mBin dAdd (mSl (mVar 8) oNone (oSome (mC (.int 2)))) (mTup (aCons (mC (.str "b")) aNil))) (mSl (mVar 8) (oSome (mC (.int 3))) oNone)) (aCons (mBin dAdd (mSl (mVar 8) oNone (oSome (mC (.int 3)))) (mTup (aCons (mLst aNil) (aCons (mTup aNil) aNil)))) (aCons (mSl (mVar 8) oNone (oSome (mC (.int 4)))) aNil))))))
  (sRet (mCallF (m__law_same 40) (aCons (mLC [11] (iAny (mVar 10)) (gNm 11) bYes (mCallF m_is_rule (aCons (mVar 11) aNil))) (aCons (mVar 9) aNil))))))))))
def m_law : FM := mFun exitZ 12 b_law
theorem ok_law (T : Txt K mg) (G__law_bend : FnOk P w K mg base CX0 80 T.a__law_bend T.d__law_bend ["draws", "thing", "depth"] (spM K (m__law_bend 40) 3)) (G__law_copy : FnOk P w K mg base CX0 40 T.a__law_copy T.d__law_copy ["thing"] (spM K (m__law_copy 40) 1)) (G__law_draw : FnOk P w K mg base CX0 1 T.a__law_draw T.d__law_draw ["draws", "limit"] (spM K m__law_draw 2)) (G__law_draws : FnOk P w K mg base CX0 1 T.a__law_draws T.d__law_draws ["script"] (spM K m__law_draws 1)) (G__law_is_rule : FnOk P w K mg base CX0 44 T.a__law_is_rule T.d__law_is_rule ["thing"] (spM K m__law_is_rule 1)) (G__law_rule : FnOk P w K mg base CX0 3 T.a__law_rule T.d__law_rule ["draws", "router", "neighbour", "names", "word"] (spM K m__law_rule 5)) (G__law_same : FnOk P w K mg base CX0 40 T.a__law_same T.d__law_same ["x", "due"] (spM K (m__law_same 40) 2)) (G_is_rule : FnOk P w K mg base CX0 44 T.a_is_rule T.d_is_rule ["thing"] (spM K m_is_rule 1)) : FnOk P w K mg base CX0 81 T.a_law T.d_law ["script"] (spM K m_law 1) := by
  refine fn_m (k := 80) (N := n_law) exitZ_ok T.F_law sc_law rfl rfl (by decide) fun cdv A outer s H E hr => ?_
  have hu := hu65 hr
  unfold b_law
  exact (pssd_cons (psd_set (i := 1) sc_law.nd rfl (by first | exact .inl rfl | exact .inr rfl) (ped_call G__law_draws (hr.mono (by omega)) (by rfl) T.m__law_draws T.F__law_draws.kp T.b__law_draws (pad_cons (ped_var 0) pad_nil) (alen_cons alen_nil)))
    (pssd_cons (psd_for PassesOwn.never rfl (pid_range1 (by rfl) T.z_range ped_int) (pgd_name (i := 2) sc_law.nd rfl (by first | exact .inl rfl | exact .inr rfl)) (pssd_cons (psd_set (i := 3) sc_law.nd rfl (by first | exact .inl rfl | exact .inr rfl) (ped_call G__law_rule (hr.mono (by omega)) (by rfl) T.m__law_rule T.F__law_rule.kp T.b__law_rule (pad_cons (ped_var 1) (pad_cons ped_str (pad_cons ped_str (pad_cons (ped_lst (pad_cons ped_str (pad_cons ped_str (pad_cons ped_str pad_nil)))) (pad_cons (ped_sub hu (ped_lst (pad_cons ped_str (pad_cons ped_str pad_nil))) (ped_call G__law_draw (hr.mono (by omega)) (by rfl) T.m__law_draw T.F__law_draw.kp T.b__law_draw (pad_cons (ped_var 1) (pad_cons ped_int pad_nil)) (alen_cons (alen_cons alen_nil))) (fun _ _ => rfl)) pad_nil))))) (alen_cons (alen_cons (alen_cons (alen_cons (alen_cons alen_nil)))))))
    (pssd_cons (psd_if (ptd_cmp opd_isnot (ped_call G_is_rule (hr.mono (by omega)) (by rfl) T.m_is_rule T.F_is_rule.kp T.b_is_rule (pad_cons (ped_call G__law_copy (hr.mono (by omega)) (by rfl) T.m__law_copy T.F__law_copy.kp T.b__law_copy (pad_cons (ped_var 3) pad_nil) (alen_cons alen_nil)) pad_nil) (alen_cons alen_nil)) ped_bl (nomark _)) (pssd_one (psd_ret ped_bl)) pssd_nil)
    (pssd_cons (psd_for PassesOwn.never rfl (pid_range1 (by rfl) T.z_range ped_int) (pgd_name (i := 4) sc_law.nd rfl (by first | exact .inl rfl | exact .inr rfl)) (pssd_cons (psd_set (i := 5) sc_law.nd rfl (by first | exact .inl rfl | exact .inr rfl) (ped_call G__law_bend (hr.mono (by omega)) (by rfl) T.m__law_bend T.F__law_bend.kp T.b__law_bend (pad_cons (ped_var 1) (pad_cons (ped_var 3) (pad_cons ped_int pad_nil))) (alen_cons (alen_cons (alen_cons alen_nil)))))
    (pssd_one (psd_if (ptd_not (ptd_val (ped_call G__law_same (hr.mono (by omega)) (by rfl) T.m__law_same T.F__law_same.kp T.b__law_same (pad_cons (ped_call G_is_rule (hr.mono (by omega)) (by rfl) T.m_is_rule T.F_is_rule.kp T.b_is_rule (pad_cons (ped_var 5) pad_nil) (alen_cons alen_nil)) (pad_cons (ped_call G__law_is_rule (hr.mono (by omega)) (by rfl) T.m__law_is_rule T.F__law_is_rule.kp T.b__law_is_rule (pad_cons (ped_var 5) pad_nil) (alen_cons alen_nil)) pad_nil)) (alen_cons (alen_cons alen_nil))))) (pssd_one (psd_ret ped_bl)) pssd_nil))))
    (pssd_cons (psd_set (i := 6) sc_law.nd rfl (by first | exact .inl rfl | exact .inr rfl) (ped_lst (pad_cons (ped_tup (pad_cons (ped_tup (pad_cons ped_str (pad_cons ped_int pad_nil))) pad_nil)) (pad_cons (ped_tup (pad_cons (ped_tup (pad_cons ped_str (pad_cons ped_int pad_nil))) pad_nil)) (pad_cons (ped_tup (pad_cons (ped_tup (pad_cons ped_str (pad_cons ped_int pad_nil))) (pad_cons (ped_tup (pad_cons ped_str (pad_cons (ped_neg ped_int) pad_nil))) pad_nil))) (pad_cons (ped_tup (pad_cons (ped_tup (pad_cons ped_str (pad_cons ped_int pad_nil))) pad_nil)) (pad_cons (ped_tup (pad_cons (ped_tup (pad_cons ped_str (pad_cons ped_int pad_nil))) pad_nil)) (pad_cons (ped_tup (pad_cons (ped_tup (pad_cons ped_str (pad_cons ped_int pad_nil))) pad_nil)) pad_nil))))))))
    (pssd_cons (psd_set (i := 6) sc_law.nd rfl (by first | exact .inl rfl | exact .inr rfl) (ped_bin opd_add (ped_var 6) (ped_lst (pad_cons (ped_tup (pad_cons ped_str (pad_cons (ped_tup (pad_cons ped_str (pad_cons ped_int pad_nil))) pad_nil))) (pad_cons (ped_tup (pad_cons ped_str (pad_cons ped_str pad_nil))) (pad_cons (ped_tup (pad_cons (ped_tup (pad_cons ped_str (pad_cons ped_str pad_nil))) pad_nil)) (pad_cons (ped_tup (pad_cons (ped_tup (pad_cons ped_str (pad_cons ped_bl pad_nil))) pad_nil)) pad_nil)))))))
    (pssd_one (psd_for PassesOwn.never rfl (pid_any (ped_var 6)) (pgd_name (i := 7) sc_law.nd rfl (by first | exact .inl rfl | exact .inr rfl)) (pssd_cons (psd_set (i := 5) sc_law.nd rfl (by first | exact .inl rfl | exact .inr rfl) (ped_bin opd_add (ped_sl (ped_var 3) pod_none (pod_some ped_int)) (ped_tup (pad_cons (ped_var 7) pad_nil))))
    (pssd_one (psd_if (ptd_not (ptd_val (ped_call G__law_same (hr.mono (by omega)) (by rfl) T.m__law_same T.F__law_same.kp T.b__law_same (pad_cons (ped_call G_is_rule (hr.mono (by omega)) (by rfl) T.m_is_rule T.F_is_rule.kp T.b_is_rule (pad_cons (ped_var 5) pad_nil) (alen_cons alen_nil)) (pad_cons (ped_call G__law_is_rule (hr.mono (by omega)) (by rfl) T.m__law_is_rule T.F__law_is_rule.kp T.b__law_is_rule (pad_cons (ped_var 5) pad_nil) (alen_cons alen_nil)) pad_nil)) (alen_cons (alen_cons alen_nil))))) (pssd_one (psd_ret ped_bl)) pssd_nil)))))))))))
    (pssd_cons (psd_set (i := 8) sc_law.nd rfl (by first | exact .inl rfl | exact .inr rfl) (ped_tup (pad_cons ped_str (pad_cons ped_str (pad_cons ped_str (pad_cons (ped_tup pad_nil) (pad_cons (ped_tup pad_nil) pad_nil)))))))
    (pssd_cons (psd_set (i := 9) sc_law.nd rfl (by first | exact .inl rfl | exact .inr rfl) (ped_lst (pad_cons ped_bl (pad_cons ped_bl (pad_cons ped_bl (pad_cons ped_bl (pad_cons ped_bl (pad_cons ped_bl (pad_cons ped_bl (pad_cons ped_bl pad_nil))))))))))
    (pssd_cons (psd_set (i := 10) sc_law.nd rfl (by first | exact .inl rfl | exact .inr rfl) (ped_lst (pad_cons (ped_var 8) (pad_cons (ped_callT calld_list (by rfl) T.z_list (by decide +kernel) (pad_cons (ped_var 8) pad_nil)) (pad_cons (ped_bin opd_add (ped_tup (pad_cons ped_str pad_nil)) (ped_sl (ped_var 8) (pod_some ped_int) pod_none)) (pad_cons (ped_bin opd_add (ped_bin opd_add (ped_sl (ped_var 8) pod_none (pod_some ped_int)) (ped_tup (pad_cons ped_str pad_nil))) (ped_sl (ped_var 8) (pod_some ped_int) pod_none)) (pad_cons (ped_bin opd_add (ped_bin opd_add (ped_sl (ped_var 8) pod_none (pod_some ped_int)) (ped_tup (pad_cons ped_str pad_nil))) (ped_sl (ped_var 8) (pod_some ped_int) pod_none)) pad_nil)))))))
    (pssd_cons (psd_set (i := 10) sc_law.nd rfl (by first | exact .inl rfl | exact .inr rfl) (ped_bin opd_add (ped_var 10) (ped_lst (pad_cons (ped_bin opd_add (ped_bin opd_add (ped_sl (ped_var 8) pod_none (pod_some ped_int)) (ped_tup (pad_cons ped_str pad_nil))) (ped_sl (ped_var 8) (pod_some ped_int) pod_none)) (pad_cons (ped_bin opd_add (ped_sl (ped_var 8) pod_none (pod_some ped_int)) (ped_tup (pad_cons (ped_lst pad_nil) (pad_cons (ped_tup pad_nil) pad_nil)))) (pad_cons (ped_sl (ped_var 8) pod_none (pod_some ped_int)) pad_nil))))))
    (pssd_one (psd_ret (ped_call G__law_same (hr.mono (by omega)) (by rfl) T.m__law_same T.F__law_same.kp T.b__law_same (pad_cons (ped_lc rfl sc_law.nd (own := [("thing", 11)]) (pid_any (ped_var 10)) (blkOk_by (own := [("thing", 11)]) (N := n_law) (sc := defScope s_law) (by decide +kernel)) (fun _ _ _ _ _ => (pgd_name (i := 11) sc_law.nd rfl (by first | exact .inl rfl | exact .inr rfl))) (fun _ _ _ _ _ => ptsd_nil) (fun _ _ _ _ _ => (ped_call G_is_rule (hr.mono (by omega)) (by rfl) T.m_is_rule T.F_is_rule.kp T.b_is_rule (pad_cons (ped_var 11) pad_nil) (alen_cons alen_nil)))) (pad_cons (ped_var 9) pad_nil)) (alen_cons (alen_cons alen_nil)))))))))))
end
end NS

set_option maxHeartbeats 1000000
set_option linter.all false
namespace NS
open PySem Pd L2
def isNum : PyData → Int → Int → Bool
  | .int i, lo, hi => decide (lo ≤ i) && decide (i ≤ hi)
  | _, _, _ => false
theorem t_is_number (d : PyData) (lo hi : Int) (P : Store) : m_is_number [.fz d, .fz (.int lo), .fz (.int hi)] P = some (.fz (.bool (isNum d lo hi)), P) := by
  cases d <;> simp [m_is_number, mFun_ap, b_is_number, startE, isNum, inst]
  split <;> simp_all <;> omega
theorem t_law_is_number (d : PyData) (lo hi : Int) (P : Store) : m__law_is_number [.fz d, .fz (.int lo), .fz (.int hi)] P = some (.fz (.bool (isNum d lo hi)), P) := by
  cases d <;> simp [m__law_is_number, mFun_ap, b__law_is_number, startE, isNum, inst]
  split <;> simp_all <;> omega
/-- a name -/
def okFirst (c : Nat) : Bool := decide (97 ≤ c) && decide (c ≤ 122)
def okRest (c : Nat) : Bool := okFirst c || (decide (48 ≤ c) && decide (c ≤ 57))
def kept : List Str := ["any", "rest", "many", "if", "then", "and", "not", "refuse", "keep", "from", "to"]
def isNm : PyData → Bool
  | .str x => decide (1 ≤ x.length) && decide (x.length ≤ 8) && (match x.cps.toList[0]? with | some c => okFirst c | none => false) && !kept.contains x && x.cps.toList.all okRest
  | _ => false
theorem mem_first (c : Nat) : decide (c ∈ ("abcdefghijklmnopqrstuvwxyz" : Str).cps.toList) = okFirst c := by
  have : ("abcdefghijklmnopqrstuvwxyz" : Str).cps.toList = (List.range 26).map (· + 97) := by decide +kernel
  rw [this]
  rw [Bool.eq_iff_iff]
  simp only [decide_eq_true_eq, List.mem_map, List.mem_range, okFirst, Bool.and_eq_true]
  constructor
  · rintro ⟨a, h, rfl⟩; omega
  · rintro ⟨h1, h2⟩; exact ⟨c - 97, by omega, by omega⟩
theorem mem_rest (c : Nat) : decide (c ∈ ("abcdefghijklmnopqrstuvwxyz0123456789" : Str).cps.toList) = okRest c := by
  have : ("abcdefghijklmnopqrstuvwxyz0123456789" : Str).cps.toList = (List.range 26).map (· + 97) ++ (List.range 10).map (· + 48) := by decide +kernel
  rw [this]
  rw [Bool.eq_iff_iff]
  simp only [decide_eq_true_eq, List.mem_append, List.mem_map, List.mem_range, okRest, okFirst, Bool.and_eq_true, Bool.or_eq_true]
  constructor
  · rintro (⟨a, h, rfl⟩ | ⟨a, h, rfl⟩) <;> omega
  · rintro (⟨h1, h2⟩ | ⟨h1, h2⟩)
    · exact .inl ⟨c - 97, by omega, by omega⟩
    · exact .inr ⟨c - 48, by omega, by omega⟩
theorem gLenS {x : Str} (h : x.length ≤ 1000) : gLen [.str x] = some (.int x.length) := by
  simp only [gLen]
  rw [if_pos (Nat.le_trans h (by decide))]
theorem okS {n : Nat} {x : Str} (h : okD n (.str x) = true) : PyData.strOk x = true ∧ x.length ≤ 1000 := by cases n <;> simpa [okD] using h
def nmS (l : List Nat) : Bool := if 1 ≤ l.length ∧ l.length ≤ 8 ∧ (match l with | c :: _ => okFirst c | [] => false) = true ∧ kept.contains ⟨l.toArray⟩ = false then l.all okRest else false
def restD : PyData → Bool
  | .str x => x.cps.toList.all okRest
  | _ => false
def isNm' : PyData → Bool
  | .str x => nmS x.cps.toList
  | _ => false
theorem kept_in {x : Str} {b : Bool} (h : SeqAt.shaped (.str x) = true) : dInS b (.str x) (.tuple [.str "any", .str "rest", .str "many", .str "if", .str "then", .str "and", .str "not", .str "refuse", .str "keep", .str "from", .str "to"]) = some (.bool (b != kept.contains x)) := by
  have h2 : SeqAt.shaped (.tuple [.str "any", .str "rest", .str "many", .str "if", .str "then", .str "and", .str "not", .str "refuse", .str "keep", .str "from", .str "to"]) = true := by decide +kernel
  simp only [dInS, h, h2, and_self, if_true]
  simp [eqv_str, isS, kept, Bool.or_assoc]
theorem t_is_name {n : Nat} (d : PyData) (h : okD n d = true) (hn : n ≤ 64) (P : Store) : m_is_name [.fz d] P = some (.fz (.bool (isNm' d)), P) := by
  cases d with
  | str x =>
    have hs := okD_shaped h hn
    obtain ⟨_, hl⟩ := okS h
    obtain ⟨⟨l⟩⟩ := x
    have hz : (Str.mk ⟨l⟩).length ≤ sizeLine := Nat.le_trans hl (by decide)
    have hln : (Str.mk ⟨l⟩).length = l.length := rfl
    simp only [m_is_name, mFun_ap, b_is_name]
    cases l with
    | nil => simp [startE, inst, gLenS hl, hln, isNm', nmS]
    | cons c cs =>
      by_cases h1 : cs.length + 1 ≤ 8
      · have e1 : ((cs.length : Int) + 1 ≤ 8) := by omega
        have e0 : ((1 : Int) ≤ (cs.length : Int) + 1) := by omega
        have m2 : c ∈ ("abcdefghijklmnopqrstuvwxyz" : Str).cps ↔ okFirst c = true := by
          rw [← mem_first c]; simp
        by_cases h2 : okFirst c = true
        · by_cases h3 : (Str.mk ⟨c :: cs⟩) ∈ kept
          · simp [startE, inst, gLenS hl, hln, e0, e1, subOf_str _ _ hz, m2, h2, kept_in hs, h3, isNm', nmS]
          · have e5 : mLC [1] (iAny (mVar 0)) (gNm 1) bYes (mIn false (mVar 1) (mC (.str "abcdefghijklmnopqrstuvwxyz0123456789"))) ⟨P.length, [some (.fz (.str ⟨⟨c :: cs⟩⟩)), none]⟩ P = some (.fz (.list ((signsD ⟨⟨c :: cs⟩⟩).map fun d => .bool (restD d))), P) := by
              refine mLC_map (items := signsD ⟨⟨c :: cs⟩⟩) (src := .fz (.str ⟨⟨c :: cs⟩⟩)) _ (by simp) (by simp only [signsD, List.length_map]; exact Nat.le_trans hl (by decide)) fun d hd S => ?_
              simp only [signsD, List.mem_map] at hd
              obtain ⟨k, _, rfl⟩ := hd
              refine ⟨_, rfl, ?_⟩
              have m3 : k ∈ ("abcdefghijklmnopqrstuvwxyz0123456789" : Str).cps ↔ okRest k = true := by
                rw [← mem_rest k]; simp
              simp [EV.wipe, m3, restD]
            have e6 : gAll [.list ((signsD ⟨⟨c :: cs⟩⟩).map fun d => .bool (restD d))] = some (.bool ((c :: cs).all okRest)) := by
              rw [gAll_map]
              simp [signsD, List.all_map, Function.comp_def, restD]
            have h1' : cs.length ≤ 7 := by omega
            simp [startE, inst, gLenS hl, hln, e0, e1, subOf_str _ _ hz, m2, h2, kept_in hs, h3, isNm', nmS, e5, e6, h1']
        · simp [startE, inst, gLenS hl, hln, e0, e1, subOf_str _ _ hz, m2, h2, kept_in hs, isNm', nmS]
      · have e1 : ¬ ((cs.length : Int) + 1 ≤ 8) := by omega
        have e0 : ((1 : Int) ≤ (cs.length : Int) + 1) := by omega
        simp [startE, inst, gLenS hl, hln, e0, e1, isNm', nmS, h1]
  | _ => simp [m_is_name, mFun_ap, b_is_name, startE, inst, isNm']
end NS

set_option maxHeartbeats 2000000
set_option linter.all false
set_option maxRecDepth 10000
namespace NS
open PySem Pd L2
theorem str_lt (l m : List Nat) (a : Nat) : decide (l < [a] ++ m) = decide (l < a :: m) := rfl
theorem t_law_is_name {n : Nat} (d : PyData) (h : okD n d = true) (hn : n ≤ 64) (P : Store) : m__law_is_name [.fz d] P = some (.fz (.bool (isNm' d)), P) := by
  cases d with
  | str x =>
    have hs := okD_shaped h hn
    obtain ⟨_, hl⟩ := okS h
    obtain ⟨⟨l⟩⟩ := x
    have hz : (Str.mk ⟨l⟩).length ≤ sizeLine := Nat.le_trans hl (by decide)
    have hln : (Str.mk ⟨l⟩).length = l.length := rfl
    have hk : ∀ b : Bool, inOf P (.str ⟨⟨l⟩⟩) (.fz (.list [.str "any", .str "rest", .str "many", .str "if", .str "then", .str "and", .str "not", .str "refuse", .str "keep", .str "from", .str "to"])) = some (kept.contains ⟨⟨l⟩⟩) := by
      intro b
      have h2 : SeqAt.shaped (.list [.str "any", .str "rest", .str "many", .str "if", .str "then", .str "and", .str "not", .str "refuse", .str "keep", .str "from", .str "to"]) = true := by decide +kernel
      rw [inOf_lst, if_pos ⟨hs, h2⟩]
      simp [eqv_str, isS, kept, Bool.or_assoc]
    have a1 : ("a" : Str).cps.toList = [97] := by decide +kernel
    have a2 : ("z" : Str).cps.toList = [122] := by decide +kernel
    have a3 : ("0" : Str).cps.toList = [48] := by decide +kernel
    have a4 : ("9" : Str).cps.toList = [57] := by decide +kernel
    have b1 : ("a" : Str).cps = #[97] := by decide +kernel
    have b2 : ("z" : Str).cps = #[122] := by decide +kernel
    have b3 : ("0" : Str).cps = #[48] := by decide +kernel
    have b4 : ("9" : Str).cps = #[57] := by decide +kernel
    have lt1 : ∀ a b : Nat, ([a] < [b]) ↔ a < b := fun a b => by simp [List.cons_lt_cons_iff]
    simp only [m__law_is_name, mFun_ap, b__law_is_name]
    cases l with
    | nil => simp [startE, inst, gLenS hl, hln, isNm', nmS]
    | cons c cs =>
      have e0 : ((0 : Int) < (cs.length : Int) + 1) := by omega
      by_cases h1 : cs.length + 1 < 9
      · have e1 : ((cs.length : Int) + 1 < 9) := by omega
        by_cases h3 : (Str.mk ⟨c :: cs⟩) ∈ kept
        · simp [startE, inst, gLenS hl, hln, e0, e1, hk true, -inOf_lst, h3, isNm', nmS]
        · by_cases h2 : okFirst c = true
          · have h2'' : 97 ≤ c ∧ c ≤ 122 := by simpa [okFirst] using h2
            have h2' : ¬ c < 97 ∧ ¬ 122 < c := by omega
            have e5 : ∀ sl, mLC [2] (iAny (mVar 0)) (gNm 2) bYes (mOrV (mChain dLe dLe (mC (.str "a")) (mVar 2) (mC (.str "z"))) (mChain dLe dLe (mC (.str "0")) (mVar 2) (mC (.str "9")))) ⟨P.length, [some (.fz (.str ⟨⟨c :: cs⟩⟩)), some sl, none]⟩ P = some (.fz (.list ((signsD ⟨⟨c :: cs⟩⟩).map fun d => .bool (restD d))), P) := by
              intro sl
              refine mLC_map (items := signsD ⟨⟨c :: cs⟩⟩) (src := .fz (.str ⟨⟨c :: cs⟩⟩)) _ (by simp) (by simp only [signsD, List.length_map]; exact Nat.le_trans hl (by decide)) fun d hd S => ?_
              simp only [signsD, List.mem_map] at hd
              obtain ⟨k, _, rfl⟩ := hd
              refine ⟨_, rfl, ?_⟩
              simp [EV.wipe, a1, a2, a3, a4, b1, b2, b3, b4, restD, okRest, okFirst, lt1]
              rcases Nat.lt_or_ge k 97 with q1 | q1 <;> rcases Nat.lt_or_ge 122 k with q2 | q2 <;> rcases Nat.lt_or_ge k 48 with q3 | q3 <;> rcases Nat.lt_or_ge 57 k with q4 | q4 <;> simp [q1, q2, q3, q4, Nat.not_lt.mpr, Nat.not_le.mpr]
            have e6 : gAll [.list ((signsD ⟨⟨c :: cs⟩⟩).map fun d => .bool (restD d))] = some (.bool ((c :: cs).all okRest)) := by
              rw [gAll_map]
              simp [signsD, List.all_map, Function.comp_def, restD]
            have h1' : cs.length ≤ 7 := by omega
            simp [startE, inst, gLenS hl, hln, e0, e1, hk true, -inOf_lst, subOf_str _ _ hz, a1, a2, b1, b2, lt1, h2, h2', h3, isNm', nmS, e5, e6, h1']
          · have h2' : ¬ (97 ≤ c ∧ c ≤ 122) := by simpa [okFirst] using h2
            by_cases q1 : ¬ c < 97
            · have q2 : 122 < c := by omega
              simp [startE, inst, gLenS hl, hln, e0, e1, hk true, -inOf_lst, subOf_str _ _ hz, a1, a2, b1, b2, lt1, h2, q1, q2, h3, isNm', nmS]
            · have q1 : c < 97 := by omega
              simp [startE, inst, gLenS hl, hln, e0, e1, hk true, -inOf_lst, subOf_str _ _ hz, a1, a2, b1, b2, lt1, h2, q1, h3, isNm', nmS]
      · have e1 : ¬ ((cs.length : Int) + 1 < 9) := by omega
        have h1' : ¬ (cs.length + 1 ≤ 8) := by omega
        simp [startE, inst, gLenS hl, hln, e0, e1, isNm', nmS, h1']
  | _ => simp [m__law_is_name, mFun_ap, b__law_is_name, startE, inst, isNm']
end NS

set_option maxHeartbeats 2000000
set_option linter.all false
set_option maxRecDepth 10000
namespace NS
open PySem Pd L2
theorem eqv_strR (x : Str) (d : PyData) : PyData.eqv d (.str x) = isS x d := by
  cases d with
  | str s => simp only [PyData.eqv, isS]; rw [Bool.eq_iff_iff]; simp only [beq_iff_eq, decide_eq_true_eq]
  | _ => simp [PyData.eqv, isS]
def one1 (x : Str) : List PyData → Bool
  | [a] => isS x a
  | _ => false
theorem eqv_one (x : Str) (ds : List PyData) : PyData.eqv (.tuple ds) (.tuple [.str x]) = one1 x ds := by
  match ds with
  | [] => simp [PyData.eqv, PyData.eqvAll, one1]
  | [a] => simp [PyData.eqv, PyData.eqvAll, one1, eqv_strR]
  | a :: b :: r => simp [PyData.eqv, PyData.eqvAll, one1]
theorem okT {n : Nat} {ds : List PyData} (h : okD n (.tuple ds) = true) : ds.length ≤ 1000 ∧ ∀ d ∈ ds, okD n d = true := by
  cases n with
  | zero => simp [okD] at h
  | succ n =>
    simp only [okD, Bool.and_eq_true, decide_eq_true_eq, List.all_eq_true] at h
    refine ⟨h.1, fun d hd => ?_⟩
    have mono : ∀ (n : Nat) (d : PyData), okD n d = true → okD (n + 1) d = true := by
      intro n
      induction n with
      | zero => intro d h; cases d <;> simp_all [okD]
      | succ n ih =>
        intro d h
        cases d <;> simp_all [okD]
    exact mono n d (h.2 d hd)
theorem dEq_one {n : Nat} {ds : List PyData} (x : Str) (h : okD n (.tuple ds) = true) (hn : n ≤ 64) (hx : PyData.strOk x = true := by decide +kernel) : dEq (.tuple ds) (.tuple [.str x]) = some (.bool (one1 x ds)) := by
  have h1 := okD_shaped h hn
  have h2 : SeqAt.shaped (.tuple [.str x]) = true := by simp [SeqAt.shaped, PyData.canLay0, PyData.canLayAll0, PyData.depth, PyData.depthAll, hx]
  simp [dEq, dEqA, atom, dEqD, h1, h2, eqv_one]
/-- a name in two texts -/
def isE (xs : List Str) (d : PyData) : Bool := xs.any fun x => isS x d
theorem in_two {n : Nat} {P : Store} {d : PyData} (x y : Str) (h : okD n d = true) (hn : n ≤ 64) (hx : PyData.strOk x = true := by decide +kernel) (hy : PyData.strOk y = true := by decide +kernel) : inOf P d (.fz (.tuple [.str x, .str y])) = some (isE [x, y] d) := by
  have h1 := okD_shaped h hn
  have h2 : SeqAt.shaped (.tuple [.str x, .str y]) = true := by simp [SeqAt.shaped, PyData.canLay0, PyData.canLayAll0, PyData.depth, PyData.depthAll, hx, hy]
  simp [h1, h2, eqv_str, isE]
def fitsD : Nat → PyData → Bool
  | 0, _ => false
  | k + 1, .tuple [a] => isS "any" a
  | k + 1, .tuple [a, b] => if isS "name" a = true then isNm' b else if isS "many" a = true then fitsD k b else if isE ["seq", "or"] a = true then match b with
    | .tuple ps => if ps.length = 1 ∨ (isS "or" a = true ∧ ps.length = 0) then false else ps.all (fitsD k)
    | _ => false
    else false
  | _, _ => false
theorem t_fits : ∀ (fuel deep n : Nat) (d : PyData), okD n d = true → n ≤ 64 → deep < fuel → ∀ P, m_fits_in fuel [.fz d, .fz (.int deep)] P = some (.fz (.bool (fitsD deep d)), P) := by
  intro fuel
  induction fuel with
  | zero => intro deep n d _ _ h; omega
  | succ fuel ih =>
    intro deep n d h hn hf P
    simp only [m_fits_in, mFun_ap, b_fits_in]
    cases d with
    | tuple ds =>
      obtain ⟨hl, hi⟩ := okT h
      match ds, hl, hi, h with
      | [], _, _, _ => cases deep <;> simp [startE, inst, fitsD]
      | [a], _, hi, h =>
        cases deep with
        | zero => simp [startE, inst, fitsD]
        | succ k =>
          have e1 : ((k : Int) + 1 = 0) ↔ False := by constructor <;> intro z <;> first | omega | exact z.elim
          cases ha : isS "any" a <;> simp [startE, inst, fitsD, e1, dEq_one "any" h hn, one1, ha]
      | a :: b :: c :: r, _, hi, h =>
        cases deep with
        | zero => simp [startE, inst, fitsD]
        | succ k =>
          have e1 : ((k : Int) + 1 = 0) ↔ False := by constructor <;> intro z <;> first | omega | exact z.elim
          have e2 : ((r.length : Int) + 1 + 1 + 1 = 2) ↔ False := by constructor <;> intro z <;> first | omega | exact z.elim
          have e3 : ((r.length : Int) + 1 + 1 + 1 = 0) ↔ False := by constructor <;> intro z <;> first | omega | exact z.elim
          simp [startE, inst, fitsD, e1, dEq_one "any" h hn, one1, e2, e3]
      | [a, b], _, hi, h =>
        cases deep with
        | zero => simp [startE, inst, fitsD]
        | succ k =>
          have e1 : ((k : Int) + 1 = 0) ↔ False := by constructor <;> intro z <;> first | omega | exact z.elim
          have oa := hi a (by simp)
          have ob := hi b (by simp)
          have sa := okD_shaped oa hn
          have dq := dEq_one "any" h hn
          have q1 := dEq_str "name" sa
          have q2 := dEq_str "many" sa
          have q3 := dEq_str "or" sa
          have q4 := in_two (P := P) "seq" "or" oa hn
          have ek : (k : Int) + 1 - 1 = k := by omega
          have ib := fun P => ih k n b ob hn (by omega) P
          cases h1 : isS "name" a with
          | true => simp [startE, inst, fitsD, e1, dq, one1, q1, h1, t_is_name b ob hn]
          | false =>
            cases h2 : isS "many" a with
            | true => simp [startE, inst, fitsD, e1, dq, one1, q1, q2, h1, h2, ek, ib]
            | false =>
              cases h3 : isE ["seq", "or"] a with
              | false => simp [startE, inst, fitsD, e1, dq, one1, q1, q2, q3, q4, h1, h2, h3, -inOf_tup]
              | true =>
                cases b with
                | tuple ps =>
                  obtain ⟨hpl, hpi⟩ := okT ob
                  have e5 : mLC [2] (iAny (mSub (mVar 0) (mC (.int 1)))) (gNm 2) bYes (mCallF (m_fits_in fuel) (aCons (mVar 2) (aCons (mBin dSub (mVar 1) (mC (.int 1))) aNil))) ⟨P.length, [some (.fz (.tuple [a, .tuple ps])), some (.fz (.int ((k : Int) + 1))), none]⟩ P = some (.fz (.list (ps.map fun d => .bool (fitsD k d))), P) := by
                    refine mLC_map (items := ps) (src := .fz (.tuple ps)) _ (by simp) (Nat.le_trans hpl (by decide)) fun d hd S => ?_
                    refine ⟨_, rfl, ?_⟩
                    simp [EV.wipe, ek, ih k n d (hpi d hd) hn (by omega)]
                  have e8 := gAll_map (fitsD k) ps
                  by_cases hp1 : ps.length = 1
                  · have f1 : ((ps.length : Int) = 1) ↔ True := by constructor <;> intro z <;> first | omega | trivial
                    simp [startE, inst, fitsD, e1, dq, one1, q1, q2, q3, q4, h1, h2, h3, -inOf_tup, hp1, f1]
                  · have f1 : ((ps.length : Int) = 1) ↔ False := by constructor <;> intro z <;> first | omega | exact z.elim
                    by_cases hp0 : ps = []
                    · subst hp0
                      cases h4 : isS "or" a <;> simp [startE, inst, fitsD, e1, dq, one1, q1, q2, q3, q4, h1, h2, h3, h4, -inOf_tup, ek, e5, gAll, bools]
                    · cases h4 : isS "or" a <;> simp [startE, inst, fitsD, e1, dq, one1, q1, q2, q3, q4, h1, h2, h3, h4, -inOf_tup, ek, e5, e8, hp1, hp0, f1]
                | _ => simp [startE, inst, fitsD, e1, dq, one1, q1, q2, q3, q4, h1, h2, h3, -inOf_tup]
    | _ => cases deep <;> simp [startE, inst, fitsD]
def szD : Nat → PyData → Int
  | k + 1, .tuple [a, b] => if isE ["any", "name"] a = true then 1 else if isS "many" a = true then 1 + szD k b else match b with
    | .tuple ps => 1 + (ps.map (szD k)).sum
    | _ => 0
  | _, _ => 1
theorem isE_any {a : PyData} (h : isS "any" a = true) : isE ["any", "name"] a = true := by simp [isE, h]
theorem t_size : ∀ (fuel deep n : Nat) (d : PyData), okD n d = true → n ≤ 64 → deep < fuel → fitsD deep d = true → ∀ P, m_size_of fuel [.fz d] P = some (.fz (.int (szD deep d)), P) := by
  intro fuel
  induction fuel with
  | zero => intro deep n d _ _ h; omega
  | succ fuel ih =>
    intro deep n d h hn hf hF P
    simp only [m_size_of, mFun_ap, b_size_of]
    cases deep with
    | zero => simp [fitsD] at hF
    | succ k =>
    cases d with
    | tuple ds =>
      obtain ⟨hl, hi⟩ := okT h
      match ds, hl, hi, h, hF with
      | [], _, _, _, hF => simp [fitsD] at hF
      | a :: b :: c :: r, _, _, _, hF => simp [fitsD] at hF
      | [a], _, hi, h, hF =>
        have hF' : isS "any" a = true := by simpa [fitsD] using hF
        have q4 := in_two (P := P) "any" "name" (hi a (by simp)) hn
        simp [startE, q4, isE_any hF', szD, -inOf_tup]
      | [a, b], _, hi, h, hF =>
        have oa := hi a (by simp)
        have ob := hi b (by simp)
        have sa := okD_shaped oa hn
        have q2 := dEq_str "many" sa
        have q4 := in_two (P := P) "any" "name" oa hn
        cases h1 : isE ["any", "name"] a with
        | true => simp [startE, q4, h1, szD, -inOf_tup]
        | false =>
          have h1n : isS "name" a = false := by simp [isE] at h1; exact h1.2
          cases h2 : isS "many" a with
          | true =>
            have hb : fitsD k b = true := by simpa [fitsD, h1n, h2] using hF
            simp [startE, q4, h1, q2, h2, szD, -inOf_tup, ih k n b ob hn (by omega) hb]
          | false =>
            cases b with
            | tuple ps =>
              obtain ⟨hpl, hpi⟩ := okT ob
              have hps : ∀ p ∈ ps, fitsD k p = true := by
                simp only [fitsD, h1n, h2] at hF
                by_cases h3 : isE ["seq", "or"] a = true
                · simp only [h3, if_true, Bool.false_eq_true, if_false] at hF
                  split at hF
                  · cases hF
                  · simpa using hF
                · simp [h3] at hF
              have e5 : mLC [1] (iAny (mSub (mVar 0) (mC (.int 1)))) (gNm 1) bYes (mCallF (m_size_of fuel) (aCons (mVar 1) aNil)) ⟨P.length, [some (.fz (.tuple [a, .tuple ps])), none]⟩ P = some (.fz (.list (ps.map fun d => .int (szD k d))), P) := by
                refine mLC_map (items := ps) (src := .fz (.tuple ps)) _ (by simp) (Nat.le_trans hpl (by decide)) fun d hd S => ?_
                refine ⟨_, rfl, ?_⟩
                simp [EV.wipe, ih k n d (hpi d hd) hn (by omega) (hps d hd)]
              simp [startE, q4, h1, q2, h2, szD, -inOf_tup, e5, gSum_map]
            | _ => simp only [fitsD, h1n, h2] at hF; by_cases h3 : isE ["seq", "or"] a = true <;> simp [h3] at hF
    | _ => simp [fitsD] at hF
def isPat (d : PyData) : Bool := fitsD 20 d && decide (szD 20 d ≤ 60)
theorem t_is_pattern {n : Nat} (d : PyData) (h : okD n d = true) (hn : n ≤ 64) (P : Store) : m_is_pattern [.fz d] P = some (.fz (.bool (isPat d)), P) := by
  have e1 := t_fits 40 20 n d h hn (by omega) P
  simp only [m_is_pattern, mFun_ap, b_is_pattern]
  cases h1 : fitsD 20 d with
  | false => simp [startE, isPat, show m_fits_in 40 [.fz d, .fz (.int 20)] P = _ from e1, h1]
  | true => simp [startE, isPat, show m_fits_in 40 [.fz d, .fz (.int 20)] P = _ from e1, h1, t_size 40 20 n d h hn (by omega) h1 P]
end NS

set_option maxHeartbeats 2000000
set_option linter.all false
set_option maxRecDepth 10000
namespace NS
open PySem Pd L2
def sgS (l : List Nat) : Bool := if l.length ≤ 8 then l.all fun c => decide (c = 48) || decide (c = 49) else false
def sgD : PyData → Bool
  | .str x => x.cps.toList.all fun c => decide (c = 48) || decide (c = 49)
  | _ => false
def isSg : PyData → Bool
  | .str x => sgS x.cps.toList
  | _ => false
theorem ok_sign {x : Str} {n k : Nat} (h : okD n (.str x) = true) (hk : k ∈ x.cps.toList) : okD n (.str ⟨#[k]⟩) = true := by
  have h1 := (okS h).1
  have : PyData.strOk ⟨#[k]⟩ = true := by
    simp only [PyData.strOk] at h1 ⊢
    have := Array.all_eq_true_iff_forall_mem.mp h1 k (by simpa using hk)
    simpa using this
  cases n <;> simp [okD, this, Str.length]
theorem t_is_prefix {n : Nat} (d : PyData) (h : okD n d = true) (hn : n ≤ 64) (P : Store) : m_is_prefix [.fz d] P = some (.fz (.bool (isSg d)), P) := by
  simp only [m_is_prefix, mFun_ap, b_is_prefix, m_is_signs, b_is_signs]
  cases d with
  | str x =>
    obtain ⟨_, hl⟩ := okS h
    obtain ⟨⟨l⟩⟩ := x
    have hln : (Str.mk ⟨l⟩).length = l.length := rfl
    by_cases h1 : l.length ≤ 8
    · have e5 : mLC [2] (iAny (mVar 0)) (gNm 2) bYes (mIn false (mVar 2) (mTup (aCons (mC (.str "0")) (aCons (mC (.str "1")) aNil)))) ⟨P.length, [some (.fz (.str ⟨⟨l⟩⟩)), some (.fz (.int 8)), none]⟩ P = some (.fz (.list ((signsD ⟨⟨l⟩⟩).map fun d => .bool (sgD d))), P) := by
        refine mLC_map (items := signsD ⟨⟨l⟩⟩) (src := .fz (.str ⟨⟨l⟩⟩)) _ (by simp) (by simp only [signsD, List.length_map]; exact Nat.le_trans hl (by decide)) fun d hd S => ?_
        simp only [signsD, List.mem_map] at hd
        obtain ⟨k, hk, rfl⟩ := hd
        refine ⟨_, rfl, ?_⟩
        have q4 := in_two (P := S) "0" "1" (ok_sign h hk) hn
        have a1 : ("0" : Str) = ⟨#[48]⟩ := by decide +kernel
        have a2 : ("1" : Str) = ⟨#[49]⟩ := by decide +kernel
        simp [EV.wipe, q4, isE, isS, sgD, -inOf_tup]
        simp [a1, a2]
      have e6 : gAll [.list ((signsD ⟨⟨l⟩⟩).map fun d => .bool (sgD d))] = some (.bool (l.all fun c => decide (c = 48) || decide (c = 49))) := by
        rw [gAll_map]
        simp [signsD, List.all_map, Function.comp_def, sgD]
      have h1' : (l.length : Int) ≤ 8 := by omega
      simp [startE, mFun_ap, inst, gLenS hl, hln, h1, h1', e5, e6, isSg, sgS]
    · have h1' : ¬ (l.length : Int) ≤ 8 := by omega
      simp [startE, mFun_ap, inst, gLenS hl, hln, h1, h1', isSg, sgS]
  | _ => simp [startE, mFun_ap, inst, isSg]
/-- the law's own words -/
theorem law_signs {n : Nat} (d : PyData) (h : okD n d = true) (hn : n ≤ 64) (P : Store) (x0 x1 : PyData) (y : Option SV) :
    mAndV (mIs (inst .str) (mSub (mVar 0) (mC (.int 2)))) (mAndV (mBin dLt (mCall gLen (aCons (mSub (mVar 0) (mC (.int 2))) aNil)) (mC (.int 9))) (mCall gAll (aCons (mLC [1] (iAny (mSub (mVar 0) (mC (.int 2)))) (gNm 1) bYes (mIn false (mVar 1) (mC (.str "01")))) aNil))) ⟨P.length, [some (.fz (.tuple [x0, x1, d])), y]⟩ P = some (.fz (.bool (isSg d)), P) := by
  cases d with
  | str x =>
    obtain ⟨_, hl⟩ := okS h
    obtain ⟨⟨l⟩⟩ := x
    have hln : (Str.mk ⟨l⟩).length = l.length := rfl
    by_cases h1 : l.length ≤ 8
    · have e5 : mLC [1] (iAny (mSub (mVar 0) (mC (.int 2)))) (gNm 1) bYes (mIn false (mVar 1) (mC (.str "01"))) ⟨P.length, [some (.fz (.tuple [x0, x1, .str ⟨⟨l⟩⟩])), y]⟩ P = some (.fz (.list ((signsD ⟨⟨l⟩⟩).map fun d => .bool (sgD d))), P) := by
        refine mLC_map (items := signsD ⟨⟨l⟩⟩) (src := .fz (.str ⟨⟨l⟩⟩)) _ (by simp) (by simp only [signsD, List.length_map]; exact Nat.le_trans hl (by decide)) fun d hd S => ?_
        simp only [signsD, List.mem_map] at hd
        obtain ⟨k, hk, rfl⟩ := hd
        refine ⟨_, rfl, ?_⟩
        have a1 : ("01" : Str).cps = #[48, 49] := by decide +kernel
        simp [EV.wipe, sgD, a1]
      have e6 : gAll [.list ((signsD ⟨⟨l⟩⟩).map fun d => .bool (sgD d))] = some (.bool (l.all fun c => decide (c = 48) || decide (c = 49))) := by
        rw [gAll_map]
        simp [signsD, List.all_map, Function.comp_def, sgD]
      have h1' : (l.length : Int) < 9 := by omega
      simp [inst, gLenS hl, hln, h1, h1', e5, e6, isSg, sgS]
    · have h1' : ¬ (l.length : Int) < 9 := by omega
      simp [inst, gLenS hl, hln, h1, h1', isSg, sgS]
  | _ => simp [inst, isSg]
end NS

set_option maxHeartbeats 2000000
set_option linter.all false
set_option maxRecDepth 10000
namespace NS
open PySem Pd L2
@[simp] theorem ofS_inj (a b : String) : Str.ofString a = Str.ofString b ↔ a = b := by
  constructor
  · intro h
    rw [Str.ofString_eq_toList, Str.ofString_eq_toList] at h
    have h1 : a.toList.map Char.toNat = b.toList.map Char.toNat := by
      have := congrArg (fun s : Str => s.cps.toList) h
      simpa using this
    have h2 : ∀ l m : List Char, l.map Char.toNat = m.map Char.toNat → l = m := by
      intro l
      induction l with
      | nil => intro m e; cases m <;> simp_all
      | cons c l ih =>
        intro m e
        cases m with
        | nil => simp at e
        | cons d m =>
          simp only [List.map_cons, List.cons.injEq] at e
          have : c = d := Char.toNat_inj.mp e.1
          rw [this, ih m e.2]
    have := h2 _ _ h1
    exact String.ext (by simpa using this)
  · rintro rfl; rfl
def isCond : PyData → Bool
  | .tuple [a, b, c] => if inst .bool a = true then if isS "within" b = true then isSg c else if isS "path" b = true then isPat c else if isS "tag" b = true then isNm' c else false else false
  | _ => false
theorem t_is_condition {n : Nat} (d : PyData) (h : okD n d = true) (hn : n ≤ 64) (P : Store) : m_is_condition [.fz d] P = some (.fz (.bool (isCond d)), P) := by
  simp only [m_is_condition, mFun_ap, b_is_condition]
  cases d with
  | tuple ds =>
    obtain ⟨hl, hi⟩ := okT h
    match ds, hi with
    | [], _ => simp [startE, inst, isCond]
    | [_], _ => simp [startE, inst, isCond]
    | [_, _], _ => simp [startE, inst, isCond]
    | a :: b :: c :: e :: r, _ =>
      have e2 : ((r.length : Int) + 1 + 1 + 1 + 1 = 3) ↔ False := by constructor <;> intro z <;> first | omega | exact z.elim
      simp [startE, inst, isCond, e2]
    | [a, b, c], hi =>
      have oc := hi c (by simp)
      have sb := okD_shaped (hi b (by simp)) hn
      have q1 := dEq_str "within" sb
      have q2 := dEq_str "path" sb
      have q3 := dEq_str "tag" sb
      cases h0 : inst .bool a with
      | false => simp [startE, inst.eq_6, show inst .tuple (.tuple [a, b, c]) = true from rfl, isCond, h0]
      | true =>
        cases h1 : isS "within" b with
        | true => simp [startE, show inst .tuple (.tuple [a, b, c]) = true from rfl, isCond, h0, q1, h1, t_is_prefix c oc hn]
        | false =>
          cases h2 : isS "path" b with
          | true => simp [startE, show inst .tuple (.tuple [a, b, c]) = true from rfl, isCond, h0, q1, h1, q2, h2, t_is_pattern c oc hn]
          | false => cases h3 : isS "tag" b <;> simp [startE, show inst .tuple (.tuple [a, b, c]) = true from rfl, isCond, h0, q1, h1, q2, h2, q3, h3, t_is_name c oc hn]
  | _ => simp [startE, inst, isCond]
theorem isS_two {x y : Str} {d : PyData} (h : isS x d = true) (hn : ¬ x = y) : isS y d = false := by
  cases d <;> simp_all [isS]
theorem t_law_is_condition {n : Nat} (d : PyData) (h : okD n d = true) (hn : n ≤ 64) (P : Store) : m__law_is_condition [.fz d] P = some (.fz (.bool (isCond d)), P) := by
  simp only [m__law_is_condition, mFun_ap, b__law_is_condition]
  cases d with
  | tuple ds =>
    obtain ⟨hl, hi⟩ := okT h
    match ds, hi with
    | [], _ => simp [startE, inst, isCond]
    | [_], _ => simp [startE, inst, isCond]
    | [_, _], _ => simp [startE, inst, isCond]
    | a :: b :: c :: e :: r, _ =>
      have e2 : ((r.length : Int) + 1 + 1 + 1 + 1 = 3) ↔ False := by constructor <;> intro z <;> first | omega | exact z.elim
      simp [startE, inst, isCond, e2]
    | [a, b, c], hi =>
      have oc := hi c (by simp)
      have sb := okD_shaped (hi b (by simp)) hn
      have q1 := dEq_str "within" sb
      have q2 := dEq_str "path" sb
      have q3 := dEq_str "tag" sb
      cases h0 : inst .bool a with
      | false => simp [startE, show inst .tuple (.tuple [a, b, c]) = true from rfl, isCond, h0]
      | true =>
        cases hs : inst .str b with
        | false => 
          have hf : ∀ x, isS x b = false := fun x => by cases b <;> simp_all [isS, inst]
          simp [startE, show inst .tuple (.tuple [a, b, c]) = true from rfl, isCond, h0, hs, hf]
        | true =>
        cases h1 : isS "within" b with
        | true =>
          have := law_signs c oc hn P a b none
          simp [startE, show inst .tuple (.tuple [a, b, c]) = true from rfl, isCond, h0, q1, h1, hs, -mAndV_ap, this]
        | false =>
          cases h2 : isS "path" b with
          | true => cases hp : isPat c <;> simp [startE, show inst .tuple (.tuple [a, b, c]) = true from rfl, isCond, h0, hs, q1, h1, q2, h2, q3, isS_two h2 (show ¬ ("path" : Str) = "tag" by simp), t_is_pattern c oc hn, hp]
          | false => cases h3 : isS "tag" b <;> simp [startE, show inst .tuple (.tuple [a, b, c]) = true from rfl, isCond, h0, hs, q1, h1, q2, h2, q3, h3, t_law_is_name c oc hn]
  | _ => simp [startE, inst, isCond]
end NS

set_option maxHeartbeats 2000000
set_option linter.all false
set_option maxRecDepth 10000
namespace NS
open PySem Pd L2
theorem inOf_dK (P : Store) (l : List (Key × SV)) (kd : PyData) : inOf (P ++ [.dK l]) kd (.ptr P.length) = (dlook (.k l) kd).map Option.isSome := by simp [inOf, dictOf]
theorem subOf_dK (P : Store) (l : List (Key × SV)) (kd : PyData) : subOf (P ++ [.dK l]) (.ptr P.length) kd = (dlook (.k l) kd).bind id := by simp [subOf, dictOf]
theorem isS_str (x y : Str) : isS x (.str y) = decide (y = x) := rfl
def isAct (w : PyData) : PyData → Bool
  | .tuple [a, b] => if isS "like" a = true then if isS "in" w = true then isNum b 0 1000 else false else if isS "metric" a = true then isNum b 0 1000 else if isS "double" a = true then isNum b 1 9 else if isE ["tag", "untag"] a = true then isNm' b else false
  | _ => false
theorem t_is_act {n : Nat} (d w : PyData) (h : okD n d = true) (hn : n ≤ 64) (hw : SeqAt.shaped w = true) (P : Store) : m_is_act [.fz d, .fz w] P = some (.fz (.bool (isAct w d)), P) := by
  simp only [m_is_act, mFun_ap, b_is_act]
  cases d with
  | tuple ds =>
    obtain ⟨hl, hi⟩ := okT h
    match ds, hi with
    | [], _ => simp [startE, inst, isAct]
    | [_], _ => simp [startE, inst, isAct]
    | a :: b :: c :: r, _ =>
      have e2 : ((r.length : Int) + 1 + 1 + 1 = 2) ↔ False := by constructor <;> intro z <;> first | omega | exact z.elim
      simp [startE, inst, isAct, e2]
    | [a, b], hi =>
      have oa := hi a (by simp)
      have ob := hi b (by simp)
      have sa := okD_shaped oa hn
      have q0 := dEq_str "in" hw
      have q1 := dEq_str "like" sa
      have q2 := dEq_str "metric" sa
      have q3 := dEq_str "double" sa
      have q4 := in_two (P := P) "tag" "untag" oa hn
      cases h1 : isS "like" a with
      | true => cases h2 : isS "in" w <;> simp [startE, inst, isAct, q0, q1, h1, h2, t_is_number]
      | false =>
        cases h2 : isS "metric" a with
        | true => simp [startE, inst, isAct, q1, h1, q2, h2, t_is_number]
        | false =>
          cases h3 : isS "double" a with
          | true => simp [startE, inst, isAct, q1, h1, q2, h2, q3, h3, t_is_number]
          | false => cases h4 : isE ["tag", "untag"] a <;> simp [startE, inst, isAct, q1, h1, q2, h2, q3, h3, q4, h4, -inOf_tup, t_is_name b ob hn]
  | _ => simp [startE, inst, isAct]
theorem t_law_is_act {n : Nat} (d w : PyData) (h : okD n d = true) (hn : n ≤ 64) (hw : SeqAt.shaped w = true) (P : Store) : m__law_is_act [.fz d, .fz w] P = some (.fz (.bool (isAct w d)), P) := by
  simp only [m__law_is_act, mFun_ap, b__law_is_act]
  cases d with
  | tuple ds =>
    obtain ⟨hl, hi⟩ := okT h
    match ds, hi with
    | [], _ => simp [startE, inst, isAct]
    | [_], _ => simp [startE, inst, isAct]
    | a :: b :: c :: r, _ =>
      have e2 : ((r.length : Int) + 1 + 1 + 1 = 2) ↔ False := by constructor <;> intro z <;> first | omega | exact z.elim
      simp [startE, inst, isAct, e2]
    | [a, b], hi =>
      have oa := hi a (by simp)
      have ob := hi b (by simp)
      have sa := okD_shaped oa hn
      have q0 := dEq_str "in" hw
      have q4 := in_two (P := P) "tag" "untag" oa hn
      cases a with
      | str x =>
        have q1 : dNe (.str x) (.str "like") = some (.bool (!decide (x = "like"))) := dNe_str2 x "like"
        by_cases h4 : isE ["tag", "untag"] (.str x) = true
        · have e1 : ¬ x = "like" ∧ ¬ x = "metric" ∧ ¬ x = "double" := by
            simp only [isE, isS, List.any_cons, List.any_nil, Bool.or_false, Bool.or_eq_true, decide_eq_true_eq] at h4
            rcases h4 with rfl | rfl <;> simp
          simp [startE, inst, isAct, q4, h4, -inOf_tup, t_law_is_name b ob hn, isS, e1]
        · by_cases h1 : x = "like"
          · subst h1
            cases h2 : isS "in" w <;> simp [startE, inst, isAct, q4, h4, -inOf_tup, isS_str, q0, h2, mDisp, dCons, dNil, keyOf, putS, inOf_dK, subOf_dK, dlook, lookS, t_law_is_number]
          · by_cases h2 : x = "metric"
            · subst h2
              simp [startE, inst, isAct, q4, h4, -inOf_tup, isS_str, q0, mDisp, dCons, dNil, keyOf, putS, inOf_dK, subOf_dK, dlook, lookS, t_law_is_number]
            · by_cases h3 : x = "double"
              · subst h3
                simp [startE, inst, isAct, q4, h4, -inOf_tup, isS_str, q0, mDisp, dCons, dNil, keyOf, putS, inOf_dK, subOf_dK, dlook, lookS, t_law_is_number]
              · simp [startE, inst, isAct, q4, h4, -inOf_tup, isS_str, q0, h1, h2, h3, mDisp, dCons, dNil, keyOf, putS, inOf_dK, dlook, lookS, t_law_is_number, fun s : String => show (Str.ofString s = x) ↔ x = Str.ofString s from ⟨Eq.symm, Eq.symm⟩]
      | _ => simp [startE, inst, isAct, isS, isE]
  | _ => simp [startE, inst, isAct]
end NS

set_option maxHeartbeats 2000000
set_option linter.all false
set_option maxRecDepth 10000
namespace NS
open PySem Pd L2
def tupD : PyData → Option (List PyData)
  | .tuple ds => some ds
  | _ => none
def isRule : PyData → Bool
  | .tuple [a, b, c, d, e] => if isE ["in", "out"] a = true then if isNm' b = true then if (isS "*" c || isNm' c) = true then match tupD d, tupD e with
    | some ds, some es => if ds.all isCond = true then if one1 "refuse" es = true then true else es.all (isAct a) else false
    | _, _ => false
    else false else false else false
  | _ => false
theorem isE_str {xs : List Str} {a : PyData} (h : isE xs a = true) : inst .str a = true := by
  cases a with
  | str x => rfl
  | _ => simp [isE, isS] at h
theorem inst_tup (d : PyData) : inst .tuple d = (tupD d).isSome := by cases d <;> rfl
theorem tupD_some {d : PyData} {ds : List PyData} (h : tupD d = some ds) : d = .tuple ds := by
  cases d <;> simp_all [tupD]
theorem t_is_rule {n : Nat} (d : PyData) (h : okD n d = true) (hn : n ≤ 64) (P : Store) : m_is_rule [.fz d] P = some (.fz (.bool (isRule d)), P) := by
  simp only [m_is_rule, mFun_ap, b_is_rule]
  cases d with
  | tuple ds =>
    obtain ⟨hl, hi⟩ := okT h
    match ds, hi with
    | [], _ => simp [startE, inst, isRule]
    | [_], _ => simp [startE, inst, isRule]
    | [_, _], _ => simp [startE, inst, isRule]
    | [_, _, _], _ => simp [startE, inst, isRule]
    | [_, _, _, _], _ => simp [startE, inst, isRule]
    | a :: b :: c :: e :: f :: g :: r, _ =>
      have e2 : ((r.length : Int) + 1 + 1 + 1 + 1 + 1 + 1 = 5) ↔ False := by constructor <;> intro z <;> first | omega | exact z.elim
      simp [startE, inst, isRule, e2]
    | [a, b, c, d, e], hi =>
      have oa := hi a (by simp)
      have ob := hi b (by simp)
      have oc := hi c (by simp)
      have od := hi d (by simp)
      have oe := hi e (by simp)
      have sa := okD_shaped oa hn
      have sc := okD_shaped oc hn
      have q0 := in_two (P := P) "in" "out" oa hn
      have q2 := dEq_str "*" sc
      have it : inst .tuple (.tuple [a, b, c, d, e]) = true := rfl
      have tb := t_is_name b ob hn P
      have tc := t_is_name c oc hn P
      cases h1 : isE ["in", "out"] a with
      | false => simp [startE, it, isRule, q0, h1, -inOf_tup]
      | true =>
        cases h2 : isNm' b with
        | false => simp [startE, it, isRule, q0, h1, -inOf_tup, tb, h2]
        | true =>
          have h3 : (isS "*" c = true ∧ True) ∨ (isS "*" c = false ∧ isNm' c = true) ∨ (isS "*" c = false ∧ isNm' c = false) := by
            cases isS "*" c <;> cases isNm' c <;> simp
          have idd := inst_tup d
          have ie := inst_tup e
          cases hd : tupD d with
          | none =>
            rw [hd] at idd
            rcases h3 with ⟨h5, h4⟩ | ⟨h5, h4⟩ | ⟨h5, h4⟩ <;> simp [startE, it, isRule, q0, h1, -inOf_tup, tb, h2, q2, tc, h4, h5, hd, idd]
          | some ds =>
          rw [hd] at idd
          cases he : tupD e with
          | none =>
            rw [he] at ie
            rcases h3 with ⟨h5, h4⟩ | ⟨h5, h4⟩ | ⟨h5, h4⟩ <;> simp [startE, it, isRule, q0, h1, -inOf_tup, tb, h2, q2, tc, h4, h5, hd, he, idd, ie]
          | some es =>
          rw [he] at ie
          have := tupD_some hd
          subst this
          have := tupD_some he
          subst this
          obtain ⟨hdl, hdi⟩ := okT od
          obtain ⟨hel, hei⟩ := okT oe
          have e5 : mLC [2] (iAny (mSub (mVar 0) (mC (.int 3)))) (gNm 2) bYes (mCallF m_is_condition (aCons (mVar 2) aNil)) ⟨P.length, [some (.fz (.tuple [a, b, c, .tuple ds, .tuple es])), none, none]⟩ P = some (.fz (.list (ds.map fun d => .bool (isCond d))), P) := by
            refine mLC_map (items := ds) (src := .fz (.tuple ds)) _ (by simp) (Nat.le_trans hdl (by decide)) fun d hd S => ?_
            refine ⟨_, rfl, ?_⟩
            simp [EV.wipe, t_is_condition d (hdi d hd) hn]
          have e6 : mLC [1] (iAny (mSub (mVar 0) (mC (.int 4)))) (gNm 1) bYes (mCallF m_is_act (aCons (mVar 1) (aCons (mSub (mVar 0) (mC (.int 0))) aNil))) ⟨P.length, [some (.fz (.tuple [a, b, c, .tuple ds, .tuple es])), none, none]⟩ P = some (.fz (.list (es.map fun d => .bool (isAct a d))), P) := by
            refine mLC_map (items := es) (src := .fz (.tuple es)) _ (by simp) (Nat.le_trans hel (by decide)) fun d hd S => ?_
            refine ⟨_, rfl, ?_⟩
            simp [EV.wipe, t_is_act d a (hei d hd) hn sa]
          have e7 := gAll_map isCond ds
          have e8 := gAll_map (isAct a) es
          have e9 := dEq_one "refuse" oe hn (by decide +kernel)
          have i2 : ∀ ds, inst .tuple (.tuple ds) = true := fun _ => rfl
          have t2 : ∀ ds, tupD (.tuple ds) = some ds := fun _ => rfl
          rcases h3 with ⟨h5, h4⟩ | ⟨h5, h4⟩ | ⟨h5, h4⟩
          · cases h7 : ds.all isCond with
            | false => simp [startE, i2, isRule, q0, h1, -inOf_tup, -List.all_eq_true, -List.all_eq_false, tb, h2, q2, tc, h4, h5, t2, e5, e7, h7]
            | true => cases h8 : one1 "refuse" es <;> simp [startE, i2, isRule, q0, h1, -inOf_tup, -List.all_eq_true, -List.all_eq_false, tb, h2, q2, tc, h4, h5, t2, e5, e7, h7, e6, e8, e9, h8]
          · cases h7 : ds.all isCond with
            | false => simp [startE, i2, isRule, q0, h1, -inOf_tup, -List.all_eq_true, -List.all_eq_false, tb, h2, q2, tc, h4, h5, t2, e5, e7, h7]
            | true => cases h8 : one1 "refuse" es <;> simp [startE, i2, isRule, q0, h1, -inOf_tup, -List.all_eq_true, -List.all_eq_false, tb, h2, q2, tc, h4, h5, t2, e5, e7, h7, e6, e8, e9, h8]
          · simp [startE, it, isRule, q0, h1, -inOf_tup, tb, h2, q2, tc, h4, h5]
  | _ => simp [startE, inst, isRule]
end NS

set_option maxHeartbeats 2000000
set_option linter.all false
set_option maxRecDepth 10000
namespace NS
open PySem Pd L2
theorem t_law_is_rule {n : Nat} (d : PyData) (h : okD n d = true) (hn : n ≤ 64) (P : Store) : m__law_is_rule [.fz d] P = some (.fz (.bool (isRule d)), P) := by
  simp only [m__law_is_rule, mFun_ap, b__law_is_rule]
  cases d with
  | tuple ds =>
    obtain ⟨hl, hi⟩ := okT h
    match ds, hi with
    | [], _ => simp [startE, inst, isRule]
    | [_], _ => simp [startE, inst, isRule]
    | [_, _], _ => simp [startE, inst, isRule]
    | [_, _, _], _ => simp [startE, inst, isRule]
    | [_, _, _, _], _ => simp [startE, inst, isRule]
    | a :: b :: c :: e :: f :: g :: r, _ =>
      have e2 : ((r.length : Int) + 1 + 1 + 1 + 1 + 1 + 1 = 5) ↔ False := by constructor <;> intro z <;> first | omega | exact z.elim
      simp [startE, inst, isRule, e2]
    | [a, b, c, d, e], hi =>
      have oa := hi a (by simp)
      have ob := hi b (by simp)
      have oc := hi c (by simp)
      have od := hi d (by simp)
      have oe := hi e (by simp)
      have sa := okD_shaped oa hn
      have sc := okD_shaped oc hn
      have q0 := in_two (P := P) "in" "out" oa hn
      have q2 := dEq_str "*" sc
      have it : inst .tuple (.tuple [a, b, c, d, e]) = true := rfl
      have tb := t_law_is_name b ob hn P
      have tc := t_law_is_name c oc hn P
      cases h0 : inst .str a with
      | false =>
        have hf : isE ["in", "out"] a = false := by
          cases hz : isE ["in", "out"] a with
          | false => rfl
          | true => rw [isE_str hz] at h0; cases h0
        simp [startE, it, isRule, h0, hf]
      | true =>
      cases h1 : isE ["in", "out"] a with
      | false => simp [startE, it, isRule, q0, h0, h1, -inOf_tup]
      | true =>
        cases h2 : isNm' b with
        | false => simp [startE, it, isRule, q0, h0, h1, -inOf_tup, tb, h2]
        | true =>
          have h3 : (isS "*" c = true ∧ isNm' c = false ∧ inst .str c = true) ∨ (isNm' c = true ∧ True ∧ True) ∨ (isS "*" c = false ∧ isNm' c = false ∧ True) := by
            cases hs : isS "*" c <;> cases hm : isNm' c <;> simp
            cases c <;> simp_all [inst, isS]
          have idd := inst_tup d
          have ie := inst_tup e
          cases hd : tupD d with
          | none =>
            rw [hd] at idd
            rcases h3 with ⟨h5, h4, h6⟩ | ⟨h5, h4, h6⟩ | ⟨h5, h4, h6⟩ <;> first | (simp [startE, it, isRule, q0, h0, h1, -inOf_tup, tb, h2, q2, tc, h4, h5, h6, hd, idd]; done) | (cases inst .str c <;> simp [startE, it, isRule, q0, h0, h1, -inOf_tup, tb, h2, q2, tc, h4, h5, h6, hd, idd])
          | some ds =>
          rw [hd] at idd
          cases he : tupD e with
          | none =>
            rw [he] at ie
            rcases h3 with ⟨h5, h4, h6⟩ | ⟨h5, h4, h6⟩ | ⟨h5, h4, h6⟩ <;> first | (simp [startE, it, isRule, q0, h0, h1, -inOf_tup, tb, h2, q2, tc, h4, h5, h6, hd, he, idd, ie]; done) | (cases inst .str c <;> simp [startE, it, isRule, q0, h0, h1, -inOf_tup, tb, h2, q2, tc, h4, h5, h6, hd, he, idd, ie])
          | some es =>
          rw [he] at ie
          have := tupD_some hd
          subst this
          have := tupD_some he
          subst this
          obtain ⟨hdl, hdi⟩ := okT od
          obtain ⟨hel, hei⟩ := okT oe
          have e5 : mLC [2] (iAny (mSub (mVar 0) (mC (.int 3)))) (gNm 2) bYes (mCallF m__law_is_condition (aCons (mVar 2) aNil)) ⟨P.length, [some (.fz (.tuple [a, b, c, .tuple ds, .tuple es])), none, none]⟩ P = some (.fz (.list (ds.map fun d => .bool (isCond d))), P) := by
            refine mLC_map (items := ds) (src := .fz (.tuple ds)) _ (by simp) (Nat.le_trans hdl (by decide)) fun d hd S => ?_
            refine ⟨_, rfl, ?_⟩
            simp [EV.wipe, t_law_is_condition d (hdi d hd) hn]
          have e6 : mLC [1] (iAny (mSub (mVar 0) (mC (.int 4)))) (gNm 1) bYes (mCallF m__law_is_act (aCons (mVar 1) (aCons (mSub (mVar 0) (mC (.int 0))) aNil))) ⟨P.length, [some (.fz (.tuple [a, b, c, .tuple ds, .tuple es])), none, none]⟩ P = some (.fz (.list (es.map fun d => .bool (isAct a d))), P) := by
            refine mLC_map (items := es) (src := .fz (.tuple es)) _ (by simp) (Nat.le_trans hel (by decide)) fun d hd S => ?_
            refine ⟨_, rfl, ?_⟩
            simp [EV.wipe, t_law_is_act d a (hei d hd) hn sa]
          have e7 := gAll_map isCond ds
          have e8 := gAll_map (isAct a) es
          have i2 : ∀ ds, inst .tuple (.tuple ds) = true := fun _ => rfl
          have t2 : ∀ ds, tupD (.tuple ds) = some ds := fun _ => rfl
          have e9 : (mAndV (mBin dEq (mCall gLen (aCons (mSub (mVar 0) (mC (.int 4))) aNil)) (mC (.int 1))) (mAndV (mIs (inst .str) (mSub (mSub (mVar 0) (mC (.int 4))) (mC (.int 0)))) (mBin dEq (mSub (mSub (mVar 0) (mC (.int 4))) (mC (.int 0))) (mC (.str "refuse"))))) ⟨P.length, [some (.fz (.tuple [a, b, c, .tuple ds, .tuple es])), none, none]⟩ P = some (.fz (.bool (one1 "refuse" es)), P) := by
            match es, hei with
            | [], _ => simp [one1]
            | x :: y :: r, _ =>
              have e2 : ((r.length : Int) + 1 + 1 = 1) ↔ False := by constructor <;> intro z <;> first | omega | exact z.elim
              simp [one1, e2]
            | [x], hei =>
              have q7 := dEq_str "refuse" (okD_shaped (hei x (by simp)) hn)
              cases hx : inst .str x with
              | true => simp [one1, hx, q7]
              | false =>
                have : isS "refuse" x = false := by cases x <;> simp_all [inst, isS]
                simp [one1, hx, this]
          rcases h3 with ⟨h5, h4, h6⟩ | ⟨h5, h4, h6⟩ | ⟨h5, h4, h6⟩
          · cases h7 : ds.all isCond with
            | false => simp [startE, i2, isRule, q0, h0, h1, -inOf_tup, -List.all_eq_true, -List.all_eq_false, tb, h2, q2, tc, h4, h5, h6, t2, e5, e7, h7]
            | true => cases h8 : one1 "refuse" es <;> simp [startE, i2, isRule, q0, h0, h1, -inOf_tup, -List.all_eq_true, -List.all_eq_false, tb, h2, q2, tc, h4, h5, h6, t2, e5, e7, h7, e6, e8, e9, h8, -mAndV_ap]
          · cases h7 : ds.all isCond with
            | false => simp [startE, i2, isRule, q0, h0, h1, -inOf_tup, -List.all_eq_true, -List.all_eq_false, tb, h2, q2, tc, h4, h5, h6, t2, e5, e7, h7]
            | true => cases h8 : one1 "refuse" es <;> simp [startE, i2, isRule, q0, h0, h1, -inOf_tup, -List.all_eq_true, -List.all_eq_false, tb, h2, q2, tc, h4, h5, h6, t2, e5, e7, h7, e6, e8, e9, h8, -mAndV_ap]
          · cases h8 : inst .str c <;> simp [startE, it, i2, isRule, q0, h0, h1, -inOf_tup, tb, h2, q2, tc, h4, h5, h8]
  | _ => simp [startE, inst, isRule]
end NS

set_option maxHeartbeats 2000000
set_option linter.all false
set_option maxRecDepth 10000
namespace NS
open PySem Pd L2
abbrev drC (xs : List Int) (i : Nat) (a b : Int) : Cell := .lst [.fz (.list (xs.map .int)), .fz (.int i), .fz (.int a), .fz (.int b)]
def drL (xs : List Int) (i : Int) (a b : Int) : List PyData := [.list (xs.map .int), .int i, .int a, .int b]
theorem sub_dr {P : Store} {k : Nat} {xs : List Int} {i a b : Int} (h : P[k]? = some (.lst [.fz (.list (xs.map .int)), .fz (.int i), .fz (.int a), .fz (.int b)])) (j : Int) : subOf P (.ptr k) (.int j) = (atI (drL xs i a b) j).map .fz := subOf_cell h rfl j
theorem sub_set {P : Store} {k : Nat} {xs : List Int} {i a b : Int} (h : k < P.length) (j : Int) : subOf (P.set k (.lst [.fz (.list (xs.map .int)), .fz (.int i), .fz (.int a), .fz (.int b)])) (.ptr k) (.int j) = (atI (drL xs i a b) j).map .fz := sub_dr (by simp [h]) j
theorem cMul_c (i : Int) (j : Int) (h : -(2 ^ 64) < j ∧ j < 2 ^ 64) : cMul i j = true := by simp [cMul]; omega
theorem dDiv_ok (i j : Int) (h : 0 < j) (h2 : j < 1073741824) : dDiv (.int i) (.int j) = some (.int (i.fdiv j)) := by
  have : cDiv i j = true := by simp [cDiv]; omega
  simp [this]
theorem dMod_ok (i j : Int) (h : 0 < j) : dMod (.int i) (.int j) = some (.int (i.fmod j)) := by
  have : decide (j ≠ 0) = true := by simp; omega
  simp only [dMod_int, this, if_true]
def dH : SM := (sIf (mAndB (mTB (mBin dEq (mSub (mVar 0) (mC (.int 2))) (mC (.int 0)))) (mTB (mBin dLt (mSub (mVar 0) (mC (.int 1))) (mCall gLen (aCons (mSub (mVar 0) (mC (.int 0))) aNil))))) (sSeq (sSet 2 (mSub (mSub (mVar 0) (mC (.int 0))) (mSub (mVar 0) (mC (.int 1)))))
  (sSeq (sAsg (mBin dAdd (mSub (mVar 0) (mC (.int 1))) (mC (.int 1))) (gIx (mVar 0) (mC (.int 1))))
  (sSeq (sIf (mTB (mBin dGe (mVar 2) (mBin dPow (mC (.int 10)) (mC (.int 18))))) (sAsg (mVar 2) (gIx (mVar 0) (mC (.int 2)))) sNx)
  (sAsg (mBin dMod (mCall gInt (aCons (mBin dAdd (mBin dAdd (mBin dMulI (mSub (mVar 0) (mC (.int 3))) (mC (.int 48271))) (mVar 2)) (mC (.int 13))) aNil)) (mC (.int 2147483647))) (gIx (mVar 0) (mC (.int 3))))))) sNx)
def dT : SM := (sSeq (sIf (mTB (mBin dGt (mSub (mVar 0) (mC (.int 2))) (mC (.int 0)))) (sSeq (sSet 3 (mBin dMod (mCall gInt (aCons (mSub (mVar 0) (mC (.int 2))) aNil)) (mVar 1)))
  (sSeq (sAsg (mBin dDiv (mSub (mVar 0) (mC (.int 2))) (mVar 1)) (gIx (mVar 0) (mC (.int 2))))
  (sRet (mVar 3)))) sNx)
  (sSeq (sAsg (mBin dMod (mCall gInt (aCons (mBin dAdd (mBin dMulI (mSub (mVar 0) (mC (.int 3))) (mC (.int 69621))) (mC (.int 7))) aNil)) (mC (.int 2147483629))) (gIx (mVar 0) (mC (.int 3))))
  (sRet (mBin dMod (mCall gInt (aCons (mBin dDiv (mSub (mVar 0) (mC (.int 3))) (mC (.int 11))) aNil)) (mVar 1)))))
theorem t_draw (xs : List Int) (i : Nat) (a b lim : Int) (h0 : 0 < lim) (h1 : lim < 1073741824) :
    ∃ v i' a' b', 0 ≤ v ∧ v < lim ∧ ∀ (P : Store) (k : Nat), P[k]? = some (drC xs i a b) → m__law_draw [.ptr k, .fz (.int lim)] P = some (.fz (.int v), P.set k (drC xs i' a' b')) := by
  have hlt : ∀ (P : Store) (k : Nat), P[k]? = some (drC xs i a b) → k < P.length := fun P k hk => by
    rcases Nat.lt_or_ge k P.length with h | h
    · exact h
    · rw [List.getElem?_eq_none h] at hk; cases hk
  have hk2 : ∀ (P : Store) (k : Nat) (hk : P[k]? = some (drC xs i a b)), P[k]'(hlt P k hk) = drC xs i a b := fun P k hk => by rw [List.getElem?_eq_getElem (hlt P k hk)] at hk; exact Option.some.inj hk
  have tk : ∀ (P : Store) (k : Nat) c, (P.set k c).take P.length = P.set k c := fun P k c => List.take_of_length_le (by simp)
  have tail : ∀ i a b, ∃ v i' a' b', 0 ≤ v ∧ v < lim ∧ ∀ (P : Store) (k : Nat) (hl : k < P.length) c, (dT ⟨P.length, [some (.ptr k), some (.fz (.int lim)), c, none]⟩ (P.set k (drC xs i a b))).bind (fun (fl, _, P2) => match fl with
    | .rt r => exitZ P.length r P2
    | .nx => exitZ P.length (.fz .none) P2
    | _ => none) = some (.fz (.int v), P.set k (drC xs i' a' b')) := by
    intro i a b
    by_cases ha : 0 < a
    · refine ⟨a.fmod lim, i, a.fdiv lim, b, Int.fmod_nonneg_of_pos _ h0, Int.fmod_lt_of_pos _ h0, fun P k hl c => ?_⟩
      simp [dT, sub_set hl, drL, ha, dDiv_ok _ _ h0 h1, dMod_ok _ _ h0, -dDiv_int, -dMod_int, hl, tk]
    · refine ⟨(((b * 69621 + 7).fmod 2147483629).fdiv 11).fmod lim, i, a, (b * 69621 + 7).fmod 2147483629, Int.fmod_nonneg_of_pos _ h0, Int.fmod_lt_of_pos _ h0, fun P k hl c => ?_⟩
      simp [dT, sub_set hl, drL, ha, dDiv_ok, dMod_ok, h0, -dDiv_int, -dMod_int, hl, cMul_c, tk]
  have hP : ∀ (P : Store) (k : Nat) (hk : P[k]? = some (drC xs i a b)), P = P.set k (drC xs i a b) := by
    intro P k hk
    apply List.ext_getElem?
    intro j
    rw [List.getElem?_set]
    by_cases hj : k = j
    · subst hj; simp [hk2 P k hk, hlt P k hk]
    · simp [hj]
  have head : ∃ c i' a' b', ∀ (P : Store) (k : Nat) (hk : P[k]? = some (drC xs i a b)), dH ⟨P.length, [some (.ptr k), some (.fz (.int lim)), none, none]⟩ P = some (.nx, ⟨P.length, [some (.ptr k), some (.fz (.int lim)), c, none]⟩, P.set k (drC xs i' a' b')) := by
    by_cases ha : a = 0
    · subst ha
      by_cases hi : (i : Int) < xs.length
      · have hi' : i < xs.length := by omega
        obtain ⟨cell, hcell⟩ : ∃ cell, xs[i]? = some cell := ⟨_, List.getElem?_eq_getElem hi'⟩
        have hcell2 : xs[i] = cell := by rw [List.getElem?_eq_getElem hi'] at hcell; exact Option.some.inj hcell
        have hp : dPow (.int 10) (.int 18) = some (.int 1000000000000000000) := by rfl
        by_cases hcc : 1000000000000000000 ≤ cell
        · refine ⟨some (.fz (.int cell)), i + 1, cell, (b * 48271 + cell + 13).fmod 2147483647, fun P k hk => ?_⟩
          have hl := hlt P k hk
          have hk3 := hk2 P k hk
          simp [dH, sub_dr hk, sub_set hl, drL, hi', hcell, hcell2, hk, hk3, hl, hcc, hp, dMod_ok, -dMod_int, cMul_c]
          try rfl
        · refine ⟨some (.fz (.int cell)), i + 1, 0, (b * 48271 + cell + 13).fmod 2147483647, fun P k hk => ?_⟩
          have hl := hlt P k hk
          have hk3 := hk2 P k hk
          simp [dH, sub_dr hk, sub_set hl, drL, hi', hcell, hcell2, hk, hk3, hl, hcc, hp, dMod_ok, -dMod_int, cMul_c]
          try rfl
      · refine ⟨none, i, 0, b, fun P k hk => ?_⟩
        have hi' : ¬ i < xs.length := by omega
        simp [dH, sub_dr hk, drL, hi', hk, hlt P k hk, hi, ← hP P k hk]
    · refine ⟨none, i, a, b, fun P k hk => ?_⟩
      simp [dH, sub_dr hk, drL, hk, hlt P k hk, ha, ← hP P k hk]
  obtain ⟨c, i2, a2, b2, eH⟩ := head
  obtain ⟨v, i', a', b', v0, v1, e⟩ := tail i2 a2 b2
  refine ⟨v, i', a', b', v0, v1, fun P k hk => ?_⟩
  have hb : b__law_draw = sSeq dH dT := rfl
  simp only [m__law_draw, mFun_ap, hb, sSeq_ap]
  show (((dH ⟨P.length, [some (.ptr k), some (.fz (.int lim)), none, none]⟩ P).bind _).bind _) = _
  rw [eH P k hk]
  exact e P k (hlt P k hk) c
/-- the state of the draws -/
structure Dr where
  xs : List Int
  i : Nat
  a : Int
  b : Int
def Dr.cell (c : Dr) : Cell := drC c.xs c.i c.a c.b
theorem dr_next (c : Dr) (lim : Int) (h0 : 0 < lim) (h1 : lim < 1073741824) : ∃ (v : Int) (c' : Dr), 0 ≤ v ∧ v < lim ∧ ∀ (R : Store), m__law_draw [.ptr 0, .fz (.int lim)] (c.cell :: R) = some (.fz (.int v), c'.cell :: R) := by
  obtain ⟨v, i, a, b, v0, v1, e⟩ := t_draw c.xs c.i c.a c.b lim h0 h1
  exact ⟨v, ⟨c.xs, i, a, b⟩, v0, v1, fun R => e (c.cell :: R) 0 rfl⟩
end NS

set_option maxHeartbeats 2000000
set_option linter.all false
set_option maxRecDepth 10000
namespace NS
open PySem Pd L2
theorem okL {n : Nat} {ds : List PyData} (h : okD n (.list ds) = true) : ds.length ≤ 1000 ∧ ∃ k, n = k + 1 ∧ ∀ d ∈ ds, okD k d = true := by
  cases n with
  | zero => simp [okD] at h
  | succ n =>
    simp only [okD, Bool.and_eq_true, decide_eq_true_eq, List.all_eq_true] at h
    exact ⟨h.1, n, rfl, h.2⟩
theorem okT' {n : Nat} {ds : List PyData} (h : okD n (.tuple ds) = true) : ds.length ≤ 1000 ∧ ∃ k, n = k + 1 ∧ ∀ d ∈ ds, okD k d = true := by
  cases n with
  | zero => simp [okD] at h
  | succ n =>
    simp only [okD, Bool.and_eq_true, decide_eq_true_eq, List.all_eq_true] at h
    exact ⟨h.1, n, rfl, h.2⟩
theorem t_copy : ∀ (fuel n : Nat) (d : PyData), okD n d = true → n < fuel → ∀ P, m__law_copy fuel [.fz d] P = some (.fz d, P) := by
  intro fuel
  induction fuel with
  | zero => intro n d _ h; omega
  | succ fuel ih =>
    intro n d h hf P
    simp only [m__law_copy, mFun_ap, b__law_copy]
    cases d with
    | list ds =>
      obtain ⟨hl, k, rfl, hi⟩ := okL h
      have e5 : mLC [3] (iAny (mVar 0)) (gNm 3) bYes (mCallF (m__law_copy fuel) (aCons (mVar 3) aNil)) ⟨P.length, [some (.fz (.list ds)), none, none, none]⟩ P = some (.fz (.list (ds.map fun d => d)), P) := by
        refine mLC_map (items := ds) (src := .fz (.list ds)) _ (by simp) (Nat.le_trans hl (by decide)) fun d hd S => ?_
        refine ⟨_, rfl, ?_⟩
        simp [EV.wipe, ih k d (hi d hd) (by omega)]
      rw [List.map_id'] at e5
      simp [startE, inst, e5]
    | tuple ds =>
      obtain ⟨hl, k, rfl, hi⟩ := okT' h
      have e5 : mLC [3] (iAny (mVar 0)) (gNm 3) bYes (mCallF (m__law_copy fuel) (aCons (mVar 3) aNil)) ⟨P.length, [some (.fz (.tuple ds)), none, none, none]⟩ P = some (.fz (.list (ds.map fun d => d)), P) := by
        refine mLC_map (items := ds) (src := .fz (.tuple ds)) _ (by simp) (Nat.le_trans hl (by decide)) fun d hd S => ?_
        refine ⟨_, rfl, ?_⟩
        simp [EV.wipe, ih k d (hi d hd) (by omega)]
      rw [List.map_id'] at e5
      simp [startE, inst, e5]
    | dict kvs => cases n <;> simp [okD] at h
    | _ => simp [startE, inst]
/-- lists no longer than m -/
def okM (m : Nat) : Nat → PyData → Bool
  | _, .none => true
  | _, .bool _ => true
  | _, .int _ => true
  | _, .str x => PyData.strOk x && decide (x.length ≤ 1000)
  | n + 1, .list ds => decide (ds.length ≤ m) && ds.all (okM m n)
  | n + 1, .tuple ds => decide (ds.length ≤ m) && ds.all (okM m n)
  | _, _ => false
theorem okM_D {m : Nat} (hm : m ≤ 1000) : ∀ (n : Nat) (d : PyData), okM m n d = true → okD n d = true := by
  intro n
  induction n with
  | zero => intro d h; cases d <;> simp_all [okM, okD]
  | succ n ih =>
    intro d h
    cases d with
    | list ds =>
      simp only [okM, okD, Bool.and_eq_true, decide_eq_true_eq, List.all_eq_true] at h ⊢
      exact ⟨by omega, fun d hd => ih d (h.2 d hd)⟩
    | tuple ds =>
      simp only [okM, okD, Bool.and_eq_true, decide_eq_true_eq, List.all_eq_true] at h ⊢
      exact ⟨by omega, fun d hd => ih d (h.2 d hd)⟩
    | _ => simp_all [okM, okD]
theorem okM_mono {m m' : Nat} (hm : m ≤ m') : ∀ (n n' : Nat) (d : PyData), n ≤ n' → okM m n d = true → okM m' n' d = true := by
  intro n
  induction n with
  | zero => intro n' d _ h; cases n' <;> cases d <;> simp_all [okM]
  | succ n ih =>
    intro n' d hn h
    obtain ⟨k, rfl⟩ : ∃ k, n' = k + 1 := ⟨n' - 1, by omega⟩
    cases d with
    | list ds =>
      simp only [okM, Bool.and_eq_true, decide_eq_true_eq, List.all_eq_true] at h ⊢
      exact ⟨by omega, fun d hd => ih k d (by omega) (h.2 d hd)⟩
    | tuple ds =>
      simp only [okM, Bool.and_eq_true, decide_eq_true_eq, List.all_eq_true] at h ⊢
      exact ⟨by omega, fun d hd => ih k d (by omega) (h.2 d hd)⟩
    | _ => simp_all [okM]
theorem atI_mem {xs : List PyData} {v : Int} (h0 : 0 ≤ v) (h1 : v < xs.length) : ∃ d, d ∈ xs ∧ atI xs v = some d := by
  obtain ⟨n, rfl⟩ := Int.eq_ofNat_of_zero_le h0
  have hn : n < xs.length := by omega
  exact ⟨xs[n], List.getElem_mem hn, by rw [atI_nat', List.getElem?_eq_getElem hn]⟩
def odds : List PyData := [.none, .bool true, .int 0, .int 1, .int (-1), .int 3, .str "many", .str "", .str "do", .tuple [], .list [], .tuple [.int 0, .int 1], .list [.int 0]]
theorem t_odd (c : Dr) : ∃ d c', okM 13 2 d = true ∧ ∀ R : Store, m__law_odd [.ptr 0] (c.cell :: R) = some (.fz d, Dr.cell c' :: R) := by
  obtain ⟨v, c', v0, v1, e⟩ := dr_next c 13 (by decide) (by decide)
  obtain ⟨d, hd, ha⟩ := atI_mem (xs := odds) v0 v1
  have ok : ∀ d ∈ odds, okM 13 2 d = true := by decide +kernel
  refine ⟨d, c', ok d hd, fun R => ?_⟩
  have hn : dNeg (.int 1) = some (.int (-1)) := rfl
  simp only [m__law_odd, mFun_ap, b__law_odd]
  simp [startE, e, hn]
  rw [show [PyData.none, .bool true, .int 0, .int 1, .int (-1), .int 3, .str "many", .str "", .str "do", .tuple [], .list [], .tuple [.int 0, .int 1], .list [.int 0]] = odds from rfl, ha]
  simp
def tags : List PyData := [.str "t1", .str "t2", .str "up"]
theorem t_tag (c : Dr) : ∃ d c', d ∈ tags ∧ ∀ R : Store, m__law_tag [.ptr 0] (c.cell :: R) = some (.fz d, Dr.cell c' :: R) := by
  obtain ⟨v, c', v0, v1, e⟩ := dr_next c 3 (by decide) (by decide)
  obtain ⟨d, hd, ha⟩ := atI_mem (xs := tags) v0 v1
  refine ⟨d, c', hd, fun R => ?_⟩
  simp only [m__law_tag, mFun_ap, b__law_tag]
  simp [startE, e]
  rw [show [PyData.str "t1", .str "t2", .str "up"] = tags from rfl, ha]
  simp
def nmsD : List PyData := [.str "a", .str "b", .str "c"]
def patsD (x y : PyData) : List PyData :=
  let one : PyData := .tuple [.str "name", x]
  let other : PyData := .tuple [.str "name", y]
  let rest : PyData := .tuple [.str "many", .tuple [.str "any"]]
  let first : PyData := .tuple [.str "name", .str "a"]
  let any : PyData := .tuple [.str "any"]
  let seq := fun l : List PyData => PyData.tuple [.str "seq", .tuple l]
  let or := fun l : List PyData => PyData.tuple [.str "or", .tuple l]
  [seq [first, rest], seq [rest, one], seq [any, any], seq [first, one, rest], seq [rest, one, rest], .tuple [.str "many", or [one, other, first]], rest,
   or [seq [first, any], seq [rest, one]], seq [first, or [one, seq []], other], seq [], seq [first, rest, one, other]]
theorem pats_ok : ∀ x ∈ nmsD, ∀ y ∈ nmsD, ∀ p ∈ patsD x y, isPat p = true ∧ okM 13 8 p = true := by decide +kernel
theorem t_simple (c : Dr) : ∃ p c', isPat p = true ∧ okM 13 8 p = true ∧ ∀ R : Store, m__law_simple [.ptr 0, .fz (.list nmsD), .fz (.str "a")] (c.cell :: R) = some (.fz p, Dr.cell c' :: R) := by
  obtain ⟨v1, c1, a0, a1, e1⟩ := dr_next c 3 (by decide) (by decide)
  obtain ⟨x, hx, ax⟩ := atI_mem (xs := nmsD) a0 a1
  obtain ⟨v2, c2, b0, b1, e2⟩ := dr_next c1 3 (by decide) (by decide)
  obtain ⟨y, hy, ay⟩ := atI_mem (xs := nmsD) b0 b1
  obtain ⟨v3, c3, d0, d1, e3⟩ := dr_next c2 11 (by decide) (by decide)
  obtain ⟨p, hp, ap⟩ := atI_mem (xs := patsD x y) d0 d1
  obtain ⟨q1, q2⟩ := pats_ok x hx y hy p hp
  refine ⟨p, c3, q1, q2, fun R => ?_⟩
  have hl : gLen [.list nmsD] = some (.int 3) := rfl
  have had : ∀ xs ys : List PyData, xs.length + ys.length ≤ 16 → dAdd (.list xs) (.list ys) = some (.list (xs ++ ys)) := fun xs ys h => dAdd_lst xs ys (Nat.le_trans h (by decide))
  simp only [m__law_simple, mFun_ap, b__law_simple]
  simp [startE, hl, e1, ax, e2, ay, had, e3]
  simp only [patsD] at ap
  rw [ap]
  simp
end NS

set_option maxHeartbeats 2000000
set_option linter.all false
set_option maxRecDepth 10000
namespace NS
open PySem Pd L2
def bC : SM := (sSeq (sSet 7 (mCallF m__law_draw (aCons (mVar 0) (aCons (mC (.int 4)) aNil))))
  (sSeq (sSet 8 (mIfE (mTB (mBin dEq (mVar 7) (mC (.int 0)))) (mSub (mLst (aCons (mC (.str "")) (aCons (mC (.str "0")) (aCons (mC (.str "01")) (aCons (mC (.str "011")) (aCons (mC (.str "1")) aNil)))))) (mCallF m__law_draw (aCons (mVar 0) (aCons (mC (.int 5)) aNil)))) (mIfE (mTB (mBin dEq (mVar 7) (mC (.int 1)))) (mCallF m__law_tag (aCons (mVar 0) aNil)) (mCallF m__law_simple (aCons (mVar 0) (aCons (mVar 3) (aCons (mVar 1) aNil)))))))
  (sEx (mApp (mVar 5) (mTup (aCons (mBin dGt (mCallF m__law_draw (aCons (mVar 0) (aCons (mC (.int 3)) aNil))) (mC (.int 0))) (aCons (mSub (mLst (aCons (mC (.str "within")) (aCons (mC (.str "tag")) (aCons (mC (.str "path")) (aCons (mC (.str "path")) aNil))))) (mVar 7)) (aCons (mVar 8) aNil))))))))
def sgsD : List PyData := [.str "", .str "0", .str "01", .str "011", .str "1"]
def goodC (d : PyData) : Prop := isCond d = true ∧ okM 13 9 d = true
theorem goodC_of (b : Bool) (w : Str) (x : PyData) (hw : w = "within" ∧ isSg x = true ∨ w = "tag" ∧ isNm' x = true ∨ w = "path" ∧ isPat x = true) (hx : okM 13 8 x = true) : goodC (.tuple [.bool b, .str w, x]) := by
  have i1 : inst .bool (.bool b) = true := rfl
  refine ⟨?_, ?_⟩
  · rcases hw with ⟨rfl, h⟩ | ⟨rfl, h⟩ | ⟨rfl, h⟩ <;> simp [isCond, i1, isS_str, h]
  · have : PyData.strOk w = true ∧ w.length ≤ 1000 := by
      rcases hw with ⟨rfl, h⟩ | ⟨rfl, h⟩ | ⟨rfl, h⟩ <;> decide +kernel
    simp [okM, hx, this]
abbrev eC (w : PyData) (s5 s6 s7 s8 s9 : Option SV) : EV := ⟨1, [some (.ptr 0), some (.fz (.str "a")), some (.fz (.str "b")), some (.fz (.list nmsD)), some (.fz w), s5, s6, s7, s8, s9]⟩
theorem t_bC (c : Dr) (l : List SV) (hl : l.length < 100) (w : PyData) (s6 s7 s8 s9 : Option SV) : ∃ d c' s7' s8', goodC d ∧ bC (eC w (some (.ptr 1)) s6 s7 s8 s9) [c.cell, .lst l] = some (.nx, eC w (some (.ptr 1)) s6 s7' s8' s9, [Dr.cell c', .lst (l ++ [.fz d])]) := by
  have hs : l.length < sizeLine := Nat.lt_of_lt_of_le hl (by decide)
  obtain ⟨v, c1, v0, v1, e1⟩ := dr_next c 4 (by decide) (by decide)
  have hv : v = 0 ∨ v = 1 ∨ v = 2 ∨ v = 3 := by omega
  rcases hv with rfl | rfl | rfl | rfl
  · obtain ⟨v2, c2, a0, a1, e2⟩ := dr_next c1 5 (by decide) (by decide)
    obtain ⟨x, hx, ax⟩ := atI_mem (xs := sgsD) a0 a1
    obtain ⟨v3, c3, b0, b1, e3⟩ := dr_next c2 3 (by decide) (by decide)
    have ok : ∀ x ∈ sgsD, isSg x = true ∧ okM 13 8 x = true := by decide +kernel
    refine ⟨.tuple [.bool (decide (0 < v3)), .str "within", x], c3, some (.fz (.int 0)), some (.fz x), goodC_of _ _ _ (.inl ⟨rfl, (ok x hx).1⟩) (ok x hx).2, ?_⟩
    simp only [sgsD] at ax
    simp [bC, e1, e2, ax, e3, hs]
  · obtain ⟨x, c2, hx, e2⟩ := t_tag c1
    obtain ⟨v3, c3, b0, b1, e3⟩ := dr_next c2 3 (by decide) (by decide)
    have ok : ∀ x ∈ tags, isNm' x = true ∧ okM 13 8 x = true := by decide +kernel
    refine ⟨.tuple [.bool (decide (0 < v3)), .str "tag", x], c3, some (.fz (.int 1)), some (.fz x), goodC_of _ _ _ (.inr (.inl ⟨rfl, (ok x hx).1⟩)) (ok x hx).2, ?_⟩
    simp [bC, e1, e2, e3, hs]
  · obtain ⟨x, c2, h1, h2, e2⟩ := t_simple c1
    obtain ⟨v3, c3, b0, b1, e3⟩ := dr_next c2 3 (by decide) (by decide)
    refine ⟨.tuple [.bool (decide (0 < v3)), .str "path", x], c3, some (.fz (.int 2)), some (.fz x), goodC_of _ _ _ (.inr (.inr ⟨rfl, h1⟩)) h2, ?_⟩
    simp [bC, e1, e2, e3, hs]
  · obtain ⟨x, c2, h1, h2, e2⟩ := t_simple c1
    obtain ⟨v3, c3, b0, b1, e3⟩ := dr_next c2 3 (by decide) (by decide)
    refine ⟨.tuple [.bool (decide (0 < v3)), .str "path", x], c3, some (.fz (.int 3)), some (.fz x), goodC_of _ _ _ (.inr (.inr ⟨rfl, h1⟩)) h2, ?_⟩
    simp [bC, e1, e2, e3, hs]
theorem t_loopC (w : PyData) (s9 : Option SV) : ∀ (items : List PyData) (c : Dr) (l : List PyData) (s6 s7 s8 : Option SV), l.length + items.length ≤ 10 → (∀ d ∈ l, goodC d) → ∃ (l' : List PyData) (c' : Dr) (s6' s7' s8' : Option SV), l'.length ≤ 10 ∧ (∀ d ∈ l', goodC d) ∧ forGo (gNm 6) bC items (eC w (some (.ptr 1)) s6 s7 s8 s9) [c.cell, .lst (l.map .fz)] = some (.nx, eC w (some (.ptr 1)) s6' s7' s8' s9, [Dr.cell c', .lst (l'.map .fz)])
  | [], c, l, s6, s7, s8, hn, hl => ⟨l, c, s6, s7, s8, by simpa using hn, hl, rfl⟩
  | x :: r, c, l, s6, s7, s8, hn, hl => by
    simp only [List.length_cons] at hn
    obtain ⟨d, c1, s7', s8', hd, e⟩ := t_bC c (l.map .fz) (by simp; omega) w (some (.fz x)) s7 s8 s9
    obtain ⟨l', c2, s6', s7'', s8'', h1, h2, e2⟩ := t_loopC w s9 r c1 (l ++ [d]) (some (.fz x)) s7' s8' (by simp; omega) (by
      intro y hy
      rcases List.mem_append.mp hy with h | h
      · exact hl y h
      · rw [List.mem_singleton.mp h]; exact hd)
    refine ⟨l', c2, s6', s7'', s8'', h1, h2, ?_⟩
    simp only [forGo, gNm_ap, Option.bind_some]
    rw [show EV.put (eC w (some (.ptr 1)) s6 s7 s8 s9) 6 (.fz x) = eC w (some (.ptr 1)) (some (.fz x)) s7 s8 s9 from rfl, e]
    simpa using e2
end NS

set_option maxHeartbeats 2000000
set_option linter.all false
set_option maxRecDepth 10000
namespace NS
open PySem Pd L2
def bA : SM := (sSeq (sSet 7 (mSub (mLst (aCons (mC (.str "metric")) (aCons (mC (.str "double")) (aCons (mC (.str "tag")) (aCons (mC (.str "untag")) (aCons (mC (.str "like")) aNil)))))) (mCallF m__law_draw (aCons (mVar 0) (aCons (mIfE (mTB (mBin dEq (mVar 4) (mC (.str "in")))) (mC (.int 5)) (mC (.int 4))) aNil)))))
  (sSeq (sSet 8 (mIfE (mTB (mIn false (mVar 7) (mTup (aCons (mC (.str "tag")) (aCons (mC (.str "untag")) aNil))))) (mCallF m__law_tag (aCons (mVar 0) aNil)) (mIfE (mTB (mBin dEq (mVar 7) (mC (.str "double")))) (mBin dAdd (mC (.int 1)) (mCallF m__law_draw (aCons (mVar 0) (aCons (mC (.int 9)) aNil)))) (mSub (mLst (aCons (mC (.int 0)) (aCons (mC (.int 1)) (aCons (mC (.int 50)) (aCons (mC (.int 100)) (aCons (mC (.int 1000)) aNil)))))) (mCallF m__law_draw (aCons (mVar 0) (aCons (mC (.int 5)) aNil)))))))
  (sEx (mApp (mVar 9) (mTup (aCons (mVar 7) (aCons (mVar 8) aNil)))))))
def goodA (w : PyData) (d : PyData) : Prop := isAct w d = true ∧ okM 13 9 d = true
def numsD : List PyData := [.int 0, .int 1, .int 50, .int 100, .int 1000]
theorem goodA_of (w : PyData) (k : Str) (x : PyData) (h : isAct w (.tuple [.str k, x]) = true) (hk : PyData.strOk k = true ∧ k.length ≤ 1000) (hx : okM 13 8 x = true) : goodA w (.tuple [.str k, x]) := ⟨h, by simp [okM, hx, hk]⟩
def wrd : Bool → Str
  | true => "in"
  | false => "out"
theorem t_bA (c : Dr) (C1 : Cell) (l : List SV) (hl : l.length < 100) (b : Bool) (s6 s7 s8 : Option SV) : ∃ d c' s7' s8', goodA (.str (wrd b)) d ∧ bA (eC (.str (wrd b)) (some (.ptr 1)) s6 s7 s8 (some (.ptr 2))) [c.cell, C1, .lst l] = some (.nx, eC (.str (wrd b)) (some (.ptr 1)) s6 s7' s8' (some (.ptr 2)), [Dr.cell c', C1, .lst (l ++ [.fz d])]) := by
  have hs : l.length < sizeLine := Nat.lt_of_lt_of_le hl (by decide)
  have hq : dEq (.str (wrd b)) (.str "in") = some (.bool b) := by cases b <;> simp [wrd]
  obtain ⟨v, c1, v0, v1, e1⟩ := dr_next c (if b then 5 else 4) (by cases b <;> decide) (by cases b <;> decide)
  have hv : v = 0 ∨ v = 1 ∨ v = 2 ∨ v = 3 ∨ (v = 4 ∧ b = true) := by cases b <;> simp at v1 ⊢ <;> omega
  have okt : ∀ x ∈ tags, isNm' x = true ∧ okM 13 8 x = true := by decide +kernel
  have okn : ∀ x ∈ numsD, isNum x 0 1000 = true ∧ okM 13 8 x = true := by decide +kernel
  have in2 : ∀ (P : Store) (k : Str), SeqAt.shaped (.str k) = true → inOf P (.str k) (.fz (.tuple [.str "tag", .str "untag"])) = some (isE ["tag", "untag"] (.str k)) := fun P k hk => by
    have h2 : SeqAt.shaped (.tuple [.str "tag", .str "untag"]) = true := by decide +kernel
    simp [hk, h2, eqv_str, isE]
  have s1 : SeqAt.shaped (.str "metric") = true ∧ SeqAt.shaped (.str "double") = true ∧ SeqAt.shaped (.str "tag") = true ∧ SeqAt.shaped (.str "untag") = true ∧ SeqAt.shaped (.str "like") = true := by decide +kernel
  obtain ⟨s1, s2, s3, s4, s5⟩ := s1
  rcases hv with rfl | rfl | rfl | rfl | ⟨rfl, hb⟩
  · obtain ⟨v2, c2, a0, a1, e2⟩ := dr_next c1 5 (by decide) (by decide)
    obtain ⟨x, hx, ax⟩ := atI_mem (xs := numsD) a0 a1
    refine ⟨.tuple [.str "metric", x], c2, some (.fz (.str "metric")), some (.fz x), goodA_of _ _ _ (by simp [isAct, isS_str, (okn x hx).1]) (by decide +kernel) (okn x hx).2, ?_⟩
    simp only [numsD] at ax
    cases b <;> simp at e1 <;> simp [bA, hq, e1, in2 _ _ s1, isE, isS_str, -inOf_tup, e2, ax, hs]
  · obtain ⟨v2, c2, a0, a1, e2⟩ := dr_next c1 9 (by decide) (by decide)
    refine ⟨.tuple [.str "double", .int (1 + v2)], c2, some (.fz (.str "double")), some (.fz (.int (1 + v2))), goodA_of _ _ _ (by simp [isAct, isS_str, isNum]; omega) (by decide +kernel) rfl, ?_⟩
    cases b <;> simp at e1 <;> simp [bA, hq, e1, in2 _ _ s2, isE, isS_str, -inOf_tup, e2, hs]
  · obtain ⟨x, c2, hx, e2⟩ := t_tag c1
    refine ⟨.tuple [.str "tag", x], c2, some (.fz (.str "tag")), some (.fz x), goodA_of _ _ _ (by simp [isAct, isS_str, isE, (okt x hx).1]) (by decide +kernel) (okt x hx).2, ?_⟩
    cases b <;> simp at e1 <;> simp [bA, hq, e1, in2 _ _ s3, isE, isS_str, -inOf_tup, e2, hs]
  · obtain ⟨x, c2, hx, e2⟩ := t_tag c1
    refine ⟨.tuple [.str "untag", x], c2, some (.fz (.str "untag")), some (.fz x), goodA_of _ _ _ (by simp [isAct, isS_str, isE, (okt x hx).1]) (by decide +kernel) (okt x hx).2, ?_⟩
    cases b <;> simp at e1 <;> simp [bA, hq, e1, in2 _ _ s4, isE, isS_str, -inOf_tup, e2, hs]
  · subst hb
    obtain ⟨v2, c2, a0, a1, e2⟩ := dr_next c1 5 (by decide) (by decide)
    obtain ⟨x, hx, ax⟩ := atI_mem (xs := numsD) a0 a1
    refine ⟨.tuple [.str "like", x], c2, some (.fz (.str "like")), some (.fz x), goodA_of _ _ _ (by simp [isAct, isS_str, wrd, (okn x hx).1]) (by decide +kernel) (okn x hx).2, ?_⟩
    simp only [numsD] at ax
    simp at e1
    simp [bA, hq, e1, in2 _ _ s5, isE, isS_str, -inOf_tup, e2, ax, hs]
theorem t_loopA (C1 : Cell) (b : Bool) : ∀ (items : List PyData) (c : Dr) (l : List PyData) (s6 s7 s8 : Option SV), l.length + items.length ≤ 10 → (∀ d ∈ l, goodA (.str (wrd b)) d) → ∃ (l' : List PyData) (c' : Dr) (s6' s7' s8' : Option SV), l'.length ≤ 10 ∧ (∀ d ∈ l', goodA (.str (wrd b)) d) ∧ forGo (gNm 6) bA items (eC (.str (wrd b)) (some (.ptr 1)) s6 s7 s8 (some (.ptr 2))) [c.cell, C1, .lst (l.map .fz)] = some (.nx, eC (.str (wrd b)) (some (.ptr 1)) s6' s7' s8' (some (.ptr 2)), [Dr.cell c', C1, .lst (l'.map .fz)])
  | [], c, l, s6, s7, s8, hn, hl => ⟨l, c, s6, s7, s8, by simpa using hn, hl, rfl⟩
  | x :: r, c, l, s6, s7, s8, hn, hl => by
    simp only [List.length_cons] at hn
    obtain ⟨d, c1, s7', s8', hd, e⟩ := t_bA c C1 (l.map .fz) (by simp; omega) b (some (.fz x)) s7 s8
    obtain ⟨l', c2, s6', s7'', s8'', h1, h2, e2⟩ := t_loopA C1 b r c1 (l ++ [d]) (some (.fz x)) s7' s8' (by simp; omega) (by
      intro y hy
      rcases List.mem_append.mp hy with h | h
      · exact hl y h
      · rw [List.mem_singleton.mp h]; exact hd)
    refine ⟨l', c2, s6', s7'', s8'', h1, h2, ?_⟩
    simp only [forGo, gNm_ap, Option.bind_some]
    rw [show EV.put (eC (.str (wrd b)) (some (.ptr 1)) s6 s7 s8 (some (.ptr 2))) 6 (.fz x) = eC (.str (wrd b)) (some (.ptr 1)) (some (.fz x)) s7 s8 (some (.ptr 2)) from rfl, e]
    simpa using e2
theorem rg2 (n : Nat) (hn : n ≤ 1000) : -(2 ^ 62) ≤ (n : Int) ∧ (n : Int) < 2 ^ 62 := by
  have h1 : (0 : Int) ≤ n := Int.natCast_nonneg n
  have h2 : (n : Int) ≤ 1000 := by omega
  exact ⟨Int.le_trans (by decide) h1, Int.lt_of_le_of_lt h2 (by decide)⟩
def rgF (P1 : Store) (l : List SV) : Option (List PyData × SV × Store) := match l with
  | [.fz (.int j)] => if -(2 ^ 62) ≤ j ∧ j < 2 ^ 62 then some (rangeD 0 j.toNat, .fz .none, P1) else none
  | [.fz (.int i), .fz (.int j)] => if -(2 ^ 62) ≤ i ∧ i < 2 ^ 62 ∧ -(2 ^ 62) ≤ j ∧ j < 2 ^ 62 then some (rangeD i (j - i).toNat, .fz .none, P1) else none
  | _ => none
theorem iR (g : AM) (ρ : EV) (P : Store) : iRange g ρ P = (g ρ P).bind fun x => rgF x.2 x.1 := rfl
theorem rgF1 (P1 : Store) (j : Int) : rgF P1 [.fz (.int j)] = if -(2 ^ 62) ≤ j ∧ j < 2 ^ 62 then some (rangeD 0 j.toNat, .fz .none, P1) else none := rfl
theorem rgF2 (P1 : Store) (j : Int) (h : -(2 ^ 62) ≤ j ∧ j < 2 ^ 62) : rgF P1 [.fz (.int j)] = some (rangeD 0 j.toNat, .fz .none, P1) := by
  rw [rgF1]; exact if_pos h
theorem iRange_nat {g : AM} {ρ : EV} {P P1 : Store} {n : Nat} (hg : g ρ P = some ([.fz (.int n)], P1)) (hn : n ≤ 1000) : iRange g ρ P = some (rangeD 0 n, .fz .none, P1) := by
  rw [iR, hg, Option.bind_some]
  show rgF P1 [.fz (.int n)] = _
  rw [rgF2 P1 n (rg2 n hn), Int.toNat_natCast]
/-- the law's right rule -/
theorem t_rule (c : Dr) (b : Bool) : ∃ r c', isRule r = true ∧ okM 13 11 r = true ∧ (∃ x1 x2 x3 x4, r = .tuple [.str (wrd b), x1, x2, x3, x4]) ∧ m__law_rule [.ptr 0, .fz (.str "a"), .fz (.str "b"), .fz (.list nmsD), .fz (.str (wrd b))] [c.cell] = some (.fz r, [Dr.cell c']) := by
  obtain ⟨v, c1, v0, v1, e1⟩ := dr_next c 4 (by decide) (by decide)
  obtain ⟨n1, hn1, an1⟩ : ∃ n : Nat, n ≤ 3 ∧ atI [PyData.int 0, .int 1, .int 1, .int 2] v = some (.int n) := by
    have hv : v = 0 ∨ v = 1 ∨ v = 2 ∨ v = 3 := by omega
    rcases hv with rfl | rfl | rfl | rfl
    · exact ⟨0, by decide, rfl⟩
    · exact ⟨1, by decide, rfl⟩
    · exact ⟨1, by decide, rfl⟩
    · exact ⟨2, by decide, rfl⟩
  obtain ⟨cs, c2, s6, s7, s8, hcl, hcg, e2⟩ := t_loopC (.str (wrd b)) none (rangeD 0 n1) c1 [] none none none (by rw [rangeD_len]; simp; omega) (by simp)
  obtain ⟨v2, c3, v20, v21, e3⟩ := dr_next c2 4 (by decide) (by decide)
  obtain ⟨n2, rfl⟩ := Int.eq_ofNat_of_zero_le v20
  obtain ⟨as, c4, s6', s7', s8', hal, hag, e4⟩ := t_loopA (.lst (cs.map .fz)) b (rangeD 0 n2) c3 [] s6 s7 s8 (by rw [rangeD_len]; simp; omega) (by simp)
  obtain ⟨v3, c5, v30, v31, e5⟩ := dr_next c4 4 (by decide) (by decide)
  obtain ⟨v4, c6, v40, v41, e6⟩ := dr_next c5 4 (by decide) (by decide)
  have hb : b__law_rule = (sSeq (sSet 5 (mLstC aNil))
  (sSeq (sFor (iRange (aCons (mSub (mLst (aCons (mC (.int 0)) (aCons (mC (.int 1)) (aCons (mC (.int 1)) (aCons (mC (.int 2)) aNil))))) (mCallF m__law_draw (aCons (mVar 0) (aCons (mC (.int 4)) aNil)))) aNil)) (gNm 6) bC)
  (sSeq (sSet 9 (mLstC aNil))
  (sSeq (sFor (iRange (aCons (mCallF m__law_draw (aCons (mVar 0) (aCons (mC (.int 4)) aNil))) aNil)) (gNm 6) bA)
  (sSeq (sIf (mTB (mBin dEq (mCallF m__law_draw (aCons (mVar 0) (aCons (mC (.int 4)) aNil))) (mC (.int 0)))) (sSet 9 (mLstC (aCons (mC (.str "refuse")) aNil))) sNx)
  (sRet (mTup (aCons (mVar 4) (aCons (mVar 1) (aCons (mIfE (mTB (mBin dEq (mCallF m__law_draw (aCons (mVar 0) (aCons (mC (.int 4)) aNil))) (mC (.int 0)))) (mC (.str "*")) (mVar 2)) (aCons (mCall gTuple (aCons (mVar 5) aNil)) (aCons (mCall gTuple (aCons (mVar 9) aNil)) aNil)))))))))))) := rfl
  have hz : (0 : Nat) ≤ sizeLine := by decide
  have r1 : (n1 : Int) < 4611686018427387904 := by omega
  have r2 : (n2 : Int) < 4611686018427387904 := by omega
  let x2 : PyData := if v4 = 0 then .str "*" else .str "b"
  let x4 : List PyData := if v3 = 0 then [.str "refuse"] else as
  refine ⟨.tuple [.str (wrd b), .str "a", x2, .tuple cs, .tuple x4], c6, ?_, ?_, ⟨_, _, _, _, rfl⟩, ?_⟩
  · have i1 : isE ["in", "out"] (.str (wrd b)) = true := by cases b <;> simp [wrd, isE, isS_str]
    have i2 : isNm' (.str "a") = true := by decide +kernel
    have i3 : (isS "*" x2 || isNm' x2) = true := by
      simp only [x2]
      split
      · simp [isS_str]
      · decide +kernel
    have i4 : cs.all isCond = true := List.all_eq_true.mpr fun d hd => (hcg d hd).1
    simp only [isRule, i1, i2, i3, i4, tupD, if_true]
    cases hx : one1 "refuse" x4 with
    | true => rfl
    | false =>
      have : x4 = as := by
        simp only [x4]
        split
        · rename_i h; simp [x4, h, one1, isS_str] at hx
        · rfl
      rw [this]
      simpa using fun d hd => (hag d hd).1
  · have j1 : okM 13 10 (.str (wrd b)) = true := by cases b <;> decide +kernel
    have j2 : okM 13 10 (.str "a") = true := by decide +kernel
    have j3 : okM 13 10 x2 = true := by
      simp only [x2]
      split <;> decide +kernel
    have j4 : okM 13 10 (.tuple cs) = true := by
      simp only [okM, Bool.and_eq_true, decide_eq_true_eq, List.all_eq_true]
      exact ⟨by omega, fun d hd => (hcg d hd).2⟩
    have j5 : okM 13 10 (.tuple x4) = true := by
      simp only [x4]
      split
      · decide +kernel
      · simp only [okM, Bool.and_eq_true, decide_eq_true_eq, List.all_eq_true]
        exact ⟨by omega, fun d hd => (hag d hd).2⟩
    have jj : okM 13 11 (.tuple [.str (wrd b), .str "a", x2, .tuple cs, .tuple x4]) = (decide (5 ≤ 13) && (okM 13 10 (.str (wrd b)) && (okM 13 10 (.str "a") && (okM 13 10 x2 && (okM 13 10 (.tuple cs) && (okM 13 10 (.tuple x4) && true)))))) := rfl
    rw [jj, j1, j2, j3, j4, j5]; rfl
  · simp only [m__law_rule, mFun_ap, hb]
    have f1 : fzs (cs.map .fz) = some cs := fzs_map cs
    have f2 : fzs (as.map .fz) = some as := fzs_map as
    simp only [List.map_nil] at e2 e4
    have g1 : iRange (aCons (mSub (mLst (aCons (mC (.int 0)) (aCons (mC (.int 1)) (aCons (mC (.int 1)) (aCons (mC (.int 2)) aNil))))) (mCallF m__law_draw (aCons (mVar 0) (aCons (mC (.int 4)) aNil)))) aNil) (eC (.str (wrd b)) (some (.ptr 1)) none none none none) [c.cell, .lst []] = some (rangeD 0 n1, .fz .none, [c1.cell, .lst []]) := by
      refine iRange_nat ?_ (by omega)
      simp [e1, an1]
    have g2 : iRange (aCons (mCallF m__law_draw (aCons (mVar 0) (aCons (mC (.int 4)) aNil))) aNil) (eC (.str (wrd b)) (some (.ptr 1)) s6 s7 s8 (some (.ptr 2))) [c2.cell, .lst (cs.map .fz), .lst []] = some (rangeD 0 n2, .fz .none, [c3.cell, .lst (cs.map .fz), .lst []]) := by
      refine iRange_nat ?_ (by omega)
      simp [e3]
    simp [startE, hz, -iRange_ap, g1, e2, g2, e4, e5]
    by_cases h3 : v3 = 0 <;> by_cases h4 : v4 = 0 <;> simp [h3, h4, x2, x4, e6, flat, f1, f2, Cell.dat]
end NS

set_option maxHeartbeats 2000000
set_option linter.all false
set_option maxRecDepth 10000
namespace NS
open PySem Pd L2
def bK (self : FM) : SM := (sIf (mTB (mBin dEq (mVar 5) (mC (.int 0)))) (sSet 4 (mBin dAdd (mSl (mVar 4) oNone (oSome (mVar 3))) (mSl (mVar 4) (oSome (mBin dAdd (mVar 3) (mC (.int 1)))) oNone))) (sIf (mTB (mBin dEq (mVar 5) (mC (.int 1)))) (sSet 4 (mBin dAdd (mBin dAdd (mSl (mVar 4) oNone (oSome (mVar 3))) (mLst (aCons (mCallF (m__law_copy 40) (aCons (mSub (mVar 4) (mVar 3)) aNil)) aNil))) (mSl (mVar 4) (oSome (mVar 3)) oNone))) (sIf (mTB (mBin dEq (mVar 5) (mC (.int 2)))) (sSeq (sSet 6 (mCallF m__law_draw (aCons (mVar 0) (aCons (mCall gLen (aCons (mVar 1) aNil)) aNil))))
  (sAsg (mTup (aCons (mSub (mVar 4) (mVar 6)) (aCons (mSub (mVar 4) (mVar 3)) aNil))) (gTu 2 (gsCons (gIx (mVar 4) (mVar 3)) (gsCons (gIx (mVar 4) (mVar 6)) gsNil))))) (sIf (mTB (mBin dEq (mVar 5) (mC (.int 3)))) (sAsg (mCallF m__law_odd (aCons (mVar 0) aNil)) (gIx (mVar 4) (mVar 3))) (sAsg (mCallF self (aCons (mVar 0) (aCons (mSub (mVar 4) (mVar 3)) (aCons (mBin dSub (mVar 2) (mC (.int 1))) aNil)))) (gIx (mVar 4) (mVar 3)))))))
theorem cut_take (ds : List PyData) (a : Nat) (h : a ≤ ds.length) : cutL ds none (some (a : Int)) = ds.take a := by
  simp [cutL, HT.sIx_none, HT.sIx_nat, Nat.min_eq_left h]
theorem cut_drop (ds : List PyData) (a : Nat) (h : a ≤ ds.length) : cutL ds (some (a : Int)) none = ds.drop a := by
  simp [cutL, HT.sIx_none, HT.sIx_nat, Nat.min_eq_left h]
  exact List.take_of_length_le (by simp)
@[simp] theorem dSl_lst (ds : List PyData) (a b : Option Int) : dSl (.list ds) a b = some (.list (cutL ds a b)) := rfl
theorem fl_end (x : Cell) (R : Store) (l : List PyData) : flat (x :: (R ++ [Cell.lst (l.map .fz)])) (.ptr (R.length + 1)) = some (.list l) := by simp [flat, Cell.dat, fzs_map]
theorem ex_end (x : Cell) (R : Store) (l : List PyData) : exitZ (R.length + 1) (.ptr (R.length + 1)) (x :: (R ++ [Cell.lst (l.map .fz)])) = some (.fz (.list l), x :: R) := by
  simp [exitZ, Cell.dat, fzs_map]
theorem sub_end (x : Cell) (R : Store) (l : List PyData) (a : Nat) (h : a < l.length) : subOf (x :: (R ++ [Cell.lst (l.map .fz)])) (.ptr (R.length + 1)) (.int a) = some (.fz l[a]) := by
  rw [subOf_cell (l := l.map .fz) (ds := l) (by simp) (fzs_map l)]
  simp [h]
theorem t_bK (self : FM) (m n k : Nat) (R : Store) (ds : List PyData) (c : Dr) (th : PyData) (a : Nat) (ha : a < ds.length) (hm : 13 ≤ m) (hm2 : ds.length ≤ 900) (hm3 : m ≤ 900) (hn : 2 ≤ n) (hn2 : n ≤ 30) (hd : ∀ d ∈ ds, okM m n d = true) (hg : gLen [th] = some (.int ds.length))
    (hself : ∀ x c, okM m n x = true → ∃ d' c', okM (m + 1) n d' = true ∧ self [.ptr 0, .fz x, .fz (.int k)] (Dr.cell c :: (R ++ [.lst (ds.map .fz)])) = some (.fz d', Dr.cell c' :: (R ++ [.lst (ds.map .fz)]))) (v : Int) :
    ∃ l c' s4 s6 C, (l.length ≤ ds.length + 1 ∧ ∀ x ∈ l, okM (m + 1) n x = true) ∧ flat (Dr.cell c' :: (R ++ [C])) s4 = some (.list l) ∧ exitZ (R.length + 1) s4 (Dr.cell c' :: (R ++ [C])) = some (.fz (.list l), Dr.cell c' :: R) ∧
      bK self ⟨R.length + 1, [some (.ptr 0), some (.fz th), some (.fz (.int ((k : Int) + 1))), some (.fz (.int a)), some (.ptr (R.length + 1)), some (.fz (.int v)), none, none, none, none, none, none, none]⟩ (c.cell :: (R ++ [.lst (ds.map .fz)])) = some (.nx, ⟨R.length + 1, [some (.ptr 0), some (.fz th), some (.fz (.int ((k : Int) + 1))), some (.fz (.int a)), some s4, some (.fz (.int v)), s6, none, none, none, none, none, none]⟩, Dr.cell c' :: (R ++ [C])) := by
  have up : ∀ d ∈ ds, okM (m + 1) n d = true := fun d h => okM_mono (Nat.le_succ m) n n d (Nat.le_refl _) (hd d h)
  have hsz : ds.length + 1 ≤ sizeLine := Nat.le_trans (show ds.length + 1 ≤ 1000 by omega) (by decide)
  have cut1 := cut_take ds a (by omega)
  have cut2 := cut_drop ds a (by omega)
  have cut3 : cutL ds (some ((a : Int) + 1)) none = ds.drop (a + 1) := cut_drop ds (a + 1) (by omega)
  have hset : ∀ (l : List PyData) (x : PyData), (l.map SV.fz).set a (.fz x) = (l.set a x).map .fz := fun l x => by rw [List.map_set]
  by_cases h0 : v = 0
  · refine ⟨ds.take a ++ ds.drop (a + 1), c, .fz (.list (ds.take a ++ ds.drop (a + 1))), none, .lst (ds.map .fz), ⟨by simp; omega, fun x hx => ?_⟩, rfl, by simp, ?_⟩
    · rcases List.mem_append.mp hx with h | h
      · exact up x (List.mem_of_mem_take h)
      · exact up x (List.mem_of_mem_drop h)
    · have had := dAdd_lst (ds.take a) (ds.drop (a + 1)) (by simp; omega)
      simp [bK, h0, fl_end, cut1, cut3, had]
  · by_cases h1 : v = 1
    · refine ⟨ds.take (a + 1) ++ ds.drop a, c, .fz (.list (ds.take (a + 1) ++ ds.drop a)), none, .lst (ds.map .fz), ⟨by simp; omega, fun x hx => ?_⟩, rfl, by simp, ?_⟩
      · rcases List.mem_append.mp hx with h | h
        · exact up x (List.mem_of_mem_take h)
        · exact up x (List.mem_of_mem_drop h)
      · have had := dAdd_lst (ds.take a) [ds[a]] (by simp; omega)
        have had2 := dAdd_lst (ds.take (a + 1)) (ds.drop a) (by simp; omega)
        have hc := t_copy 40 n ds[a] (okM_D (by omega) _ _ (hd _ (List.getElem_mem ha))) (by omega)
        simp [bK, h1, fl_end, cut1, cut2, had, had2, sub_end _ R ds a ha, hc]
    · by_cases h2 : v = 2
      · obtain ⟨w, c1, w0, w1, e⟩ := dr_next c ds.length (by omega) (by omega)
        obtain ⟨o, rfl⟩ := Int.eq_ofNat_of_zero_le w0
        have ho : o < ds.length := by omega
        refine ⟨(ds.set a ds[o]).set o ds[a], c1, .ptr (R.length + 1), some (.fz (.int o)), .lst (((ds.set a ds[o]).set o ds[a]).map .fz), ⟨by simp, fun x hx => ?_⟩, fl_end _ _ _, ex_end _ _ _, ?_⟩
        · rcases List.mem_or_eq_of_mem_set hx with h | h
          · rcases List.mem_or_eq_of_mem_set h with h | h
            · exact up x h
            · rw [h]; exact up _ (List.getElem_mem ho)
          · rw [h]; exact up _ (List.getElem_mem ha)
        · simp [bK, h2, hg, e, sub_end _ R ds a ha, sub_end _ R ds o ho, ha, ho, List.map_set]
      · by_cases h3 : v = 3
        · obtain ⟨d, c1, hod, e⟩ := t_odd c
          refine ⟨ds.set a d, c1, .ptr (R.length + 1), none, .lst ((ds.set a d).map .fz), ⟨by simp, fun x hx => ?_⟩, fl_end _ _ _, ex_end _ _ _, ?_⟩
          · rcases List.mem_or_eq_of_mem_set hx with h | h
            · exact up x h
            · rw [h]; exact okM_mono (by omega) 2 n d hn hod
          · simp [bK, h3, e, ha, List.map_set]
        · obtain ⟨d, c1, hod, e⟩ := hself ds[a] c (hd _ (List.getElem_mem ha))
          refine ⟨ds.set a d, c1, .ptr (R.length + 1), none, .lst ((ds.set a d).map .fz), ⟨by simp, fun x hx => ?_⟩, fl_end _ _ _, ex_end _ _ _, ?_⟩
          · rcases List.mem_or_eq_of_mem_set hx with h | h
            · exact up x h
            · rw [h]; exact hod
          · have ek : (k : Int) + 1 - 1 = k := by omega
            simp [bK, h0, h1, h2, h3, sub_end _ R ds a ha, ek, e, ha, List.map_set]
end NS

set_option maxHeartbeats 2000000
set_option linter.all false
set_option maxRecDepth 10000
namespace NS
open PySem Pd L2
theorem mLCC_map {own : List Nat} {f : IM} {g : GM} {te : XM} {ρ : EV} {P : Store} {items : List PyData} {src : SV} (hf : f ρ P = some (items, src, P)) (hl : items.length ≤ sizeLine)
    (hh : ∀ d ∈ items, ∀ S : Store, ∃ ρ1, g (.fz d) { ρ.wipe own with b := P.length } S = some (ρ1, S) ∧ te ρ1 S = some (.fz d, S)) :
    mLCC own f g bYes te ρ P = some (.ptr P.length, P ++ [.lst (items.map .fz)]) := by
  have := lcGo_pure (g := g) (tt := bYes) (te := te) (ρ := { ρ.wipe own with b := P.length }) (fun _ => true) (fun d => d) items P [] rfl (by simpa using hl) fun d hd S => let ⟨ρ1, a, b⟩ := hh d hd S; ⟨ρ1, a, rfl, fun _ => b⟩
  have e : items.filter (fun _ => true) = items := List.filter_eq_self.mpr fun _ _ => rfl
  rw [e] at this
  simp only [mLCC, hf, Option.bind_some, this, List.nil_append]
  simp [fzs_map]
theorem okM_L {m n : Nat} {ds : List PyData} (h : okM m n (.list ds) = true) : ds.length ≤ m ∧ ∃ k, n = k + 1 ∧ ∀ d ∈ ds, okM m k d = true := by
  cases n with
  | zero => simp [okM] at h
  | succ n =>
    simp only [okM, Bool.and_eq_true, decide_eq_true_eq, List.all_eq_true] at h
    exact ⟨h.1, n, rfl, h.2⟩
theorem okM_T {m n : Nat} {ds : List PyData} (h : okM m n (.tuple ds) = true) : ds.length ≤ m ∧ ∃ k, n = k + 1 ∧ ∀ d ∈ ds, okM m k d = true := by
  cases n with
  | zero => simp [okM] at h
  | succ n =>
    simp only [okM, Bool.and_eq_true, decide_eq_true_eq, List.all_eq_true] at h
    exact ⟨h.1, n, rfl, h.2⟩
theorem b_bend (self : FM) : b__law_bend self = (sSeq (sIf (mTB (mBin dEq (mVar 2) (mC (.int 0)))) (sRet (mCallF m__law_odd (aCons (mVar 0) aNil))) sNx)
  (sSeq (sIf (mAndB (mTB (mIs (fun d => inst .list d || inst .tuple d) (mVar 1))) (mTB (mBin dGt (mCall gLen (aCons (mVar 1) aNil)) (mC (.int 0))))) (sSeq (sSet 3 (mCallF m__law_draw (aCons (mVar 0) (aCons (mCall gLen (aCons (mVar 1) aNil)) aNil))))
  (sSeq (sSet 4 (mLCC [12] (iAny (mVar 1)) (gNm 12) bYes (mCallF (m__law_copy 40) (aCons (mVar 12) aNil))))
  (sSeq (sSet 5 (mCallF m__law_draw (aCons (mVar 0) (aCons (mC (.int 12)) aNil))))
  (sSeq (bK self)
  (sRet (mIfE (mTB (mIs (inst .list) (mVar 1))) (mVar 4) (mCall gTuple (aCons (mVar 4) aNil)))))))) sNx)
  (sSeq (sIf (mAndB (mTB (mIs (inst .dict) (mVar 1))) (mTB (mBin dGt (mCall gLen (aCons (mVar 1) aNil)) (mC (.int 0))))) (sSeq sNo
  (sSeq sNo
  (sSeq sNo
  (sSeq sNo
  (sSeq sNo
  (sSeq sNo
  sNo)))))) sNx)
  (sSeq (sIf (mTB (mCallF m__law_whole (aCons (mVar 1) aNil))) (sRet (mBin dAdd (mVar 1) (mSub (mLst (aCons (mC (.int 1)) (aCons (mUn dNeg (mC (.int 1))) (aCons (mC (.int 1)) (aCons (mUn dNeg (mC (.int 1))) (aCons (mC (.int 2)) (aCons (mC (.int 40)) aNil))))))) (mCallF m__law_draw (aCons (mVar 0) (aCons (mC (.int 6)) aNil)))))) sNx)
  (sRet (mCallF m__law_odd (aCons (mVar 0) aNil))))))) := rfl
theorem t_whole (d : PyData) (P : Store) : m__law_whole [.fz d] P = some (.fz (.bool (match d with | .int _ => true | _ => false)), P) := by
  cases d <;> simp [m__law_whole, mFun_ap, b__law_whole, startE, inst]
def stepsD : List PyData := [.int 1, .int (-1), .int 1, .int (-1), .int 2, .int 40]
theorem t_bend : ∀ (fuel depth m n : Nat) (c : Dr) (d : PyData) (R : Store), depth < fuel → depth + 2 ≤ n → n ≤ 30 → 13 ≤ m → m ≤ 900 → okM m n d = true →
    ∃ d' c', okM (m + 1) n d' = true ∧ m__law_bend fuel [.ptr 0, .fz d, .fz (.int depth)] (c.cell :: R) = some (.fz d', Dr.cell c' :: R) := by
  intro fuel
  induction fuel with
  | zero => intro depth m n c d R h; omega
  | succ fuel ih =>
    intro depth m n c d R hf hn hn2 hm hm2 hd
    simp only [m__law_bend, mFun_ap, b_bend]
    obtain ⟨od, oc, ood, oe⟩ := t_odd c
    have ood' : okM (m + 1) n od = true := okM_mono (by omega) 2 n od (by omega) ood
    cases depth with
    | zero =>
      refine ⟨od, oc, ood', ?_⟩
      simp [startE, oe]
    | succ k =>
      have e1 : ((k : Int) + 1 = 0) ↔ False := by constructor <;> intro z <;> first | omega | exact z.elim
      have hlen : ∀ ds : List PyData, ds ≠ [] → (0 < (ds.length : Int)) := fun ds h => by
        have := List.length_pos_iff.mpr h
        omega
      cases d with
      | list ds =>
        by_cases h0 : ds = []
        · subst h0
          refine ⟨od, oc, ood', ?_⟩
          simp [startE, e1, inst, t_whole, oe]
        · obtain ⟨hl, n', rfl, hi⟩ := okM_L hd
          have hp := hlen ds h0
          have hp2 : 0 < ds.length := by omega
          obtain ⟨a, c1, a0, a1, ea⟩ := dr_next c ds.length hp (by omega)
          obtain ⟨a, rfl⟩ := Int.eq_ofNat_of_zero_le a0
          obtain ⟨v, c2, v0, v1, ev⟩ := dr_next c1 12 (by decide) (by decide)
          have hg : gLen [.list ds] = some (.int ds.length) := rfl
          obtain ⟨l, c3, s4, s6, C, ⟨ol, oi⟩, efl, eex, ek⟩ := t_bK (m__law_bend fuel) m n' k R ds c2 (.list ds) a (by omega) hm (by omega) hm2 (by omega) (by omega) hi hg (fun x c hx => ih k m n' c x _ (by omega) (by omega) (by omega) hm hm2 hx) v
          have emc : mLCC [12] (iAny (mVar 1)) (gNm 12) bYes (mCallF (m__law_copy 40) (aCons (mVar 12) aNil)) ⟨R.length + 1, [some (.ptr 0), some (.fz (.list ds)), some (.fz (.int ((k : Int) + 1))), some (.fz (.int a)), none, none, none, none, none, none, none, none, none]⟩ (c1.cell :: R) = some (.ptr (R.length + 1), c1.cell :: (R ++ [.lst (ds.map .fz)])) := by
            refine mLCC_map (items := ds) (src := .fz (.list ds)) (P := c1.cell :: R) (by simp) (Nat.le_trans (show ds.length ≤ 1000 by omega) (by decide)) fun d hd S => ?_
            refine ⟨_, rfl, ?_⟩
            simp [EV.wipe, t_copy 40 n' d (okM_D (by omega) _ _ (hi d hd)) (by omega)]
          refine ⟨.list l, c3, ?_, ?_⟩
          · simp only [okM, Bool.and_eq_true, decide_eq_true_eq, List.all_eq_true]
            exact ⟨by omega, oi⟩
          · simp [startE, e1, inst, hp, hp2, ea, emc, ev, ek, eex]
      | tuple ds =>
        by_cases h0 : ds = []
        · subst h0
          refine ⟨od, oc, ood', ?_⟩
          simp [startE, e1, inst, t_whole, oe]
        · obtain ⟨hl, n', rfl, hi⟩ := okM_T hd
          have hp := hlen ds h0
          have hp2 : 0 < ds.length := by omega
          obtain ⟨a, c1, a0, a1, ea⟩ := dr_next c ds.length hp (by omega)
          obtain ⟨a, rfl⟩ := Int.eq_ofNat_of_zero_le a0
          obtain ⟨v, c2, v0, v1, ev⟩ := dr_next c1 12 (by decide) (by decide)
          have hg : gLen [.tuple ds] = some (.int ds.length) := rfl
          obtain ⟨l, c3, s4, s6, C, ⟨ol, oi⟩, efl, eex, ek⟩ := t_bK (m__law_bend fuel) m n' k R ds c2 (.tuple ds) a (by omega) hm (by omega) hm2 (by omega) (by omega) hi hg (fun x c hx => ih k m n' c x _ (by omega) (by omega) (by omega) hm hm2 hx) v
          have emc : mLCC [12] (iAny (mVar 1)) (gNm 12) bYes (mCallF (m__law_copy 40) (aCons (mVar 12) aNil)) ⟨R.length + 1, [some (.ptr 0), some (.fz (.tuple ds)), some (.fz (.int ((k : Int) + 1))), some (.fz (.int a)), none, none, none, none, none, none, none, none, none]⟩ (c1.cell :: R) = some (.ptr (R.length + 1), c1.cell :: (R ++ [.lst (ds.map .fz)])) := by
            refine mLCC_map (items := ds) (src := .fz (.tuple ds)) (P := c1.cell :: R) (by simp) (Nat.le_trans (show ds.length ≤ 1000 by omega) (by decide)) fun d hd S => ?_
            refine ⟨_, rfl, ?_⟩
            simp [EV.wipe, t_copy 40 n' d (okM_D (by omega) _ _ (hi d hd)) (by omega)]
          refine ⟨.tuple l, c3, ?_, ?_⟩
          · simp only [okM, Bool.and_eq_true, decide_eq_true_eq, List.all_eq_true]
            exact ⟨by omega, oi⟩
          · simp [startE, e1, inst, hp, hp2, ea, emc, ev, ek, efl]
      | int i =>
        obtain ⟨v, c1, v0, v1, ev⟩ := dr_next c 6 (by decide) (by decide)
        obtain ⟨j, hj⟩ : ∃ j : Int, atI stepsD v = some (.int j) := by
          have hv : v = 0 ∨ v = 1 ∨ v = 2 ∨ v = 3 ∨ v = 4 ∨ v = 5 := by omega
          rcases hv with rfl | rfl | rfl | rfl | rfl | rfl <;> exact ⟨_, rfl⟩
        refine ⟨.int (i + j), c1, by cases n <;> rfl, ?_⟩
        have hneg : dNeg (.int 1) = some (.int (-1)) := rfl
        simp only [stepsD] at hj
        simp [startE, e1, inst, t_whole, ev, hneg, hj]
      | dict kvs => cases n <;> simp [okM] at hd
      | _ => 
        refine ⟨od, oc, ood', ?_⟩
        simp [startE, e1, inst, t_whole, oe]
end NS

set_option maxHeartbeats 2000000
set_option linter.all false
set_option maxRecDepth 10000
namespace NS
open PySem Pd L2
theorem dEq_bool (a b : Bool) : dEq (.bool a) (.bool b) = some (.bool (decide (a = b))) := by cases a <;> cases b <;> rfl
theorem t_same_bool (n : Nat) (b : Bool) (P : Store) : m__law_same (n + 1) [.fz (.bool b), .fz (.bool b)] P = some (.fz (.bool true), P) := by
  simp only [m__law_same, mFun_ap, b__law_same]
  simp [startE, inst, isNon, dEq_bool]
theorem hr_same (bs : List Bool) (hl : bs.length ≤ 100) (P : Store) (x y : Option SV) : iRange (aCons (mCall gLen (aCons (mVar 1) aNil)) aNil) ⟨P.length, [x, some (.fz (.list (bs.map .bool))), some (.fz (.bool true)), y, none]⟩ P = some (rangeD 0 bs.length, .fz .none, P) := by
  refine iRange_nat ?_ (by omega)
  simp
def bS (self : FM) : XM := mLC [3] (iRange (aCons (mCall gLen (aCons (mVar 1) aNil)) aNil)) (gNm 3) bYes (mCallF self (aCons (mSub (mVar 0) (mVar 3)) (aCons (mSub (mVar 1) (mVar 3)) aNil)))
theorem e5_same (n : Nat) (bs : List Bool) (hl : bs.length ≤ 100) (P : Store) : bS (m__law_same (n + 1)) ⟨P.length, [some (.fz (.list (bs.map .bool))), some (.fz (.list (bs.map .bool))), some (.fz (.bool true)), none, none]⟩ P = some (.fz (.list ((rangeD 0 bs.length).map fun d => .bool true)), P) := by
  refine mLC_map (fun _ => .bool true) (hr_same bs hl P _ _) (by rw [rangeD_len]; exact Nat.le_trans hl (by decide)) fun d hd S => ?_
  simp only [rangeD, List.mem_map, List.mem_range] at hd
  obtain ⟨i, hi, rfl⟩ := hd
  refine ⟨_, rfl, ?_⟩
  simp [EV.wipe, hi, t_same_bool]
theorem b_same (self : FM) : b__law_same self = (sSeq (sIf (mTB (mBin (dIs false) (mVar 1) (mC .none))) (sRet (mBin (dIs false) (mVar 0) (mC .none))) sNx)
  (sSeq (sIf (mTB (mIs (inst .bool) (mVar 1))) (sRet (mAndV (mIs (inst .bool) (mVar 0)) (mBin dEq (mVar 0) (mVar 1)))) sNx)
  (sSeq (sIf (mTB (mIs (inst .int) (mVar 1))) (sRet (mAndV (mIs (inst .int) (mVar 0)) (mAndV (mNotV (mIs (inst .bool) (mVar 0))) (mBin dEq (mVar 0) (mVar 1))))) sNx)
  (sSeq (sIf (mTB (mIs (inst .str) (mVar 1))) (sRet (mAndV (mIs (inst .str) (mVar 0)) (mBin dEq (mVar 0) (mVar 1)))) sNx)
  (sSeq (sIf (mTB (mIs (inst .dict) (mVar 1))) (sSeq sNo
  sNo) sNx)
  (sSeq (sIf (mTB (mIs (inst .list) (mVar 1))) (sSet 2 (mIs (inst .list) (mVar 0))) (sSet 2 (mIs (inst .tuple) (mVar 0))))
  (sRet (mAndV (mVar 2) (mAndV (mBin dEq (mCall gLen (aCons (mVar 0) aNil)) (mCall gLen (aCons (mVar 1) aNil))) (mCall gAll (aCons (bS self) aNil))))))))))) := rfl
theorem same_fin (self : FM) (L K : List PyData) (P : Store) (M : XM) (h6 : gAll [.list K] = some (.bool true)) (e5 : M ⟨P.length, [some (.fz (.list L)), some (.fz (.list L)), some (.fz (.bool true)), none, none]⟩ P = some (.fz (.list K), P)) :
    (sRet (mAndV (mVar 2) (mAndV (mBin dEq (mCall gLen (aCons (mVar 0) aNil)) (mCall gLen (aCons (mVar 1) aNil))) (mCall gAll (aCons M aNil))))) ⟨P.length, [some (.fz (.list L)), some (.fz (.list L)), some (.fz (.bool true)), none, none]⟩ P = some (.rt (.fz (.bool true)), ⟨P.length, [some (.fz (.list L)), some (.fz (.list L)), some (.fz (.bool true)), none, none]⟩, P) := by
  simp [e5, h6]
theorem t_same_lst (n : Nat) (bs : List Bool) (hl : bs.length ≤ 100) (P : Store) : m__law_same (n + 2) [.fz (.list (bs.map .bool)), .fz (.list (bs.map .bool))] P = some (.fz (.bool true), P) := by
  rw [m__law_same]
  have e5 := e5_same n bs hl P
  have e6 := gAll_map (fun _ : PyData => true) (rangeD 0 bs.length)
  have e7 : (rangeD 0 bs.length).all (fun _ => true) = true := by rw [List.all_eq_true]; intro _ _; rfl
  rw [e7] at e6
  have e8 := same_fin (m__law_same n) _ _ P _ e6 e5
  simp only [mFun_ap, b_same]
  simp only [sSeq_ap, startE, List.map_cons, List.map_nil, List.length_cons, List.length_nil, List.replicate, Nat.reduceAdd, Nat.reduceSub, List.cons_append, List.nil_append]
  simp [inst, isNon, e8, -sRet_ap]
def bL2 : SM := (sSeq (sSet 5 (mCallF (m__law_bend 40) (aCons (mVar 1) (aCons (mVar 3) (aCons (mC (.int 4)) aNil)))))
  (sIf (mNotB (mTB (mCallF (m__law_same 40) (aCons (mCallF m_is_rule (aCons (mVar 5) aNil)) (aCons (mCallF m__law_is_rule (aCons (mVar 5) aNil)) aNil))))) (sRet (mC (.bool false))) sNx))
def bL3 : SM := (sSeq (sSet 5 (mBin dAdd (mSl (mVar 3) oNone (oSome (mC (.int 4)))) (mTup (aCons (mVar 7) aNil))))
  (sIf (mNotB (mTB (mCallF (m__law_same 40) (aCons (mCallF m_is_rule (aCons (mVar 5) aNil)) (aCons (mCallF m__law_is_rule (aCons (mVar 5) aNil)) aNil))))) (sRet (mC (.bool false))) sNx))
abbrev eL (x : PyData) (s2 s3 s4 s5 s6 s7 : Option SV) : EV := ⟨0, [some (.fz x), some (.ptr 0), s2, s3, s4, s5, s6, s7, none, none, none, none]⟩
theorem t_L2 (x r : PyData) (hr : okM 13 11 r = true) (s2 s6 s7 : Option SV) : ∀ (items : List PyData) (c : Dr) (s4 s5 : Option SV), ∃ c' s4' s5', forGo (gNm 4) bL2 items (eL x s2 (some (.fz r)) s4 s5 s6 s7) [c.cell] = some (.nx, eL x s2 (some (.fz r)) s4' s5' s6 s7, [Dr.cell c'])
  | [], c, s4, s5 => ⟨c, s4, s5, rfl⟩
  | d :: l, c, s4, s5 => by
    obtain ⟨o, c1, ho, e⟩ := t_bend 40 4 13 11 c r [] (by decide) (by decide) (by decide) (by decide) (by decide) hr
    have ho' := okM_D (by decide) _ _ ho
    obtain ⟨c2, s4', s5', e2⟩ := t_L2 x r hr s2 s6 s7 l c1 (some (.fz d)) (some (.fz o))
    refine ⟨c2, s4', s5', ?_⟩
    have e' : m__law_bend 40 [.ptr 0, .fz r, .fz (.int 4)] [c.cell] = some (.fz o, [Dr.cell c1]) := e
    have h1 := t_is_rule o ho' (by decide) [Dr.cell c1]
    have h2 := t_law_is_rule o ho' (by decide) [Dr.cell c1]
    have h3 := t_same_bool 39 (isRule o) [Dr.cell c1]
    simp only [forGo, gNm_ap, Option.bind_some]
    have hb : bL2 (EV.put (eL x s2 (some (.fz r)) s4 s5 s6 s7) 4 (.fz d)) [c.cell] = some (.nx, eL x s2 (some (.fz r)) (some (.fz d)) (some (.fz o)) s6 s7, [Dr.cell c1]) := by
      simp [bL2, e', h1, h2, h3]
    rw [hb]
    exact e2
theorem t_L3 (x w x1 x2 x3 x4 : PyData) (hr : okM 13 11 (.tuple [w, x1, x2, x3, x4]) = true) (s2 s4 s6 : Option SV) : ∀ (items : List PyData) (hi : ∀ d ∈ items, okD 10 d = true) (c : Dr) (s5 s7 : Option SV), ∃ s5' s7', forGo (gNm 7) bL3 items (eL x s2 (some (.fz (.tuple [w, x1, x2, x3, x4]))) s4 s5 s6 s7) [c.cell] = some (.nx, eL x s2 (some (.fz (.tuple [w, x1, x2, x3, x4]))) s4 s5' s6 s7', [Dr.cell c])
  | [], _, c, s5, s7 => ⟨s5, s7, rfl⟩
  | d :: l, hi, c, s5, s7 => by
    have ho : okD 11 (.tuple [w, x1, x2, x3, d]) = true := by
      have h := okM_D (by decide) _ _ hr
      simp only [okD, List.all_cons, List.all_nil, Bool.and_eq_true, Bool.and_true] at h ⊢
      exact ⟨by simp, h.2.1, h.2.2.1, h.2.2.2.1, h.2.2.2.2.1, hi d List.mem_cons_self⟩
    obtain ⟨s5', s7', e2⟩ := t_L3 x w x1 x2 x3 x4 hr s2 s4 s6 l (fun d h => hi d (List.mem_cons_of_mem _ h)) c (some (.fz (.tuple [w, x1, x2, x3, d]))) (some (.fz d))
    refine ⟨s5', s7', ?_⟩
    have h1 := t_is_rule _ ho (by decide) [Dr.cell c]
    have h2 := t_law_is_rule _ ho (by decide) [Dr.cell c]
    have h3 := t_same_bool 39 (isRule (.tuple [w, x1, x2, x3, d])) [Dr.cell c]
    have hc : dSl (.tuple [w, x1, x2, x3, x4]) none (some 4) = some (.tuple [w, x1, x2, x3]) := rfl
    have ha := dAdd_tup [w, x1, x2, x3] [d] (show 5 ≤ sizeLine by decide)
    simp only [List.cons_append, List.nil_append] at ha
    simp only [forGo, gNm_ap, Option.bind_some]
    have hb : bL3 (EV.put (eL x s2 (some (.fz (.tuple [w, x1, x2, x3, x4]))) s4 s5 s6 s7) 7 (.fz d)) [c.cell] = some (.nx, eL x s2 (some (.fz (.tuple [w, x1, x2, x3, x4]))) s4 (some (.fz (.tuple [w, x1, x2, x3, d]))) s6 (some (.fz d)), [Dr.cell c]) := by
      simp [bL3, hc, ha, h1, h2, h3]
    rw [hb]
    exact e2
end NS

set_option maxHeartbeats 2000000
set_option linter.all false
set_option maxRecDepth 10000
namespace NS
open PySem Pd L2
def bL1 : SM := (sSeq (sSet 3 (mCallF m__law_rule (aCons (mVar 1) (aCons (mC (.str "a")) (aCons (mC (.str "b")) (aCons (mLst (aCons (mC (.str "a")) (aCons (mC (.str "b")) (aCons (mC (.str "c")) aNil)))) (aCons (mSub (mLst (aCons (mC (.str "in")) (aCons (mC (.str "out")) aNil))) (mCallF m__law_draw (aCons (mVar 1) (aCons (mC (.int 2)) aNil)))) aNil)))))))
  (sSeq (sIf (mTB (mBin (dIs true) (mCallF m_is_rule (aCons (mCallF (m__law_copy 40) (aCons (mVar 3) aNil)) aNil)) (mC (.bool true)))) (sRet (mC (.bool false))) sNx)
  (sSeq (sFor (iRange (aCons (mC (.int 6)) aNil)) (gNm 4) bL2)
  (sSeq (sSet 6 (mLst (aCons (mTup (aCons (mTup (aCons (mC (.str "like")) (aCons (mC (.int 1000)) aNil))) aNil)) (aCons (mTup (aCons (mTup (aCons (mC (.str "like")) (aCons (mC (.int 1001)) aNil))) aNil)) (aCons (mTup (aCons (mTup (aCons (mC (.str "metric")) (aCons (mC (.int 0)) aNil))) (aCons (mTup (aCons (mC (.str "metric")) (aCons (mUn dNeg (mC (.int 1))) aNil))) aNil))) (aCons (mTup (aCons (mTup (aCons (mC (.str "double")) (aCons (mC (.int 9)) aNil))) aNil)) (aCons (mTup (aCons (mTup (aCons (mC (.str "double")) (aCons (mC (.int 10)) aNil))) aNil)) (aCons (mTup (aCons (mTup (aCons (mC (.str "double")) (aCons (mC (.int 0)) aNil))) aNil)) aNil))))))))
  (sSeq (sSet 6 (mBin dAdd (mVar 6) (mLst (aCons (mTup (aCons (mC (.str "refuse")) (aCons (mTup (aCons (mC (.str "metric")) (aCons (mC (.int 5)) aNil))) aNil))) (aCons (mTup (aCons (mC (.str "refuse")) (aCons (mC (.str "refuse")) aNil))) (aCons (mTup (aCons (mTup (aCons (mC (.str "tag")) (aCons (mC (.str "A")) aNil))) aNil)) (aCons (mTup (aCons (mTup (aCons (mC (.str "like")) (aCons (mC (.bool true)) aNil))) aNil)) aNil)))))))
  (sFor (iAny (mVar 6)) (gNm 7) bL3))))))
theorem b_law_eq : b_law = (sSeq (sSet 1 (mCallF m__law_draws (aCons (mVar 0) aNil)))
  (sSeq (sFor (iRange (aCons (mC (.int 6)) aNil)) (gNm 2) bL1)
  (sSeq (sSet 8 (mTup (aCons (mC (.str "out")) (aCons (mC (.str "a")) (aCons (mC (.str "*")) (aCons (mTup aNil) (aCons (mTup aNil) aNil)))))))
  (sSeq (sSet 9 (mLst (aCons (mC (.bool true)) (aCons (mC (.bool false)) (aCons (mC (.bool false)) (aCons (mC (.bool false)) (aCons (mC (.bool false)) (aCons (mC (.bool true)) (aCons (mC (.bool false)) (aCons (mC (.bool false)) aNil))))))))))
  (sSeq (sSet 10 (mLst (aCons (mVar 8) (aCons (mCall gList (aCons (mVar 8) aNil)) (aCons (mBin dAdd (mTup (aCons (mC (.str "Out")) aNil)) (mSl (mVar 8) (oSome (mC (.int 1))) oNone)) (aCons (mBin dAdd (mBin dAdd (mSl (mVar 8) oNone (oSome (mC (.int 1)))) (mTup (aCons (mC (.str "any")) aNil))) (mSl (mVar 8) (oSome (mC (.int 2))) oNone)) (aCons (mBin dAdd (mBin dAdd (mSl (mVar 8) oNone (oSome (mC (.int 2)))) (mTup (aCons (mC (.str "**")) aNil))) (mSl (mVar 8) (oSome (mC (.int 3))) oNone)) aNil)))))))
  (sSeq (sSet 10 (mBin dAdd (mVar 10) (mLst (aCons (mBin dAdd (mBin dAdd (mSl (mVar 8) oNone (oSome (mC (.int 2)))) (mTup (aCons (mC (.str "b")) aNil))) (mSl (mVar 8) (oSome (mC (.int 3))) oNone)) (aCons (mBin dAdd (mSl (mVar 8) oNone (oSome (mC (.int 3)))) (mTup (aCons (mLst aNil) (aCons (mTup aNil) aNil)))) (aCons (mSl (mVar 8) oNone (oSome (mC (.int 4)))) aNil))))))
  (sRet (mCallF (m__law_same 40) (aCons (mLC [11] (iAny (mVar 10)) (gNm 11) bYes (mCallF m_is_rule (aCons (mVar 11) aNil))) (aCons (mVar 9) aNil)))))))))) := rfl

def actsD : List PyData := [.tuple [.tuple [.str "like", .int 1000]], .tuple [.tuple [.str "like", .int 1001]], .tuple [.tuple [.str "metric", .int 0], .tuple [.str "metric", .int (-1)]], .tuple [.tuple [.str "double", .int 9]], .tuple [.tuple [.str "double", .int 10]], .tuple [.tuple [.str "double", .int 0]]]
def actsE : List PyData := [.tuple [.str "refuse", .tuple [.str "metric", .int 5]], .tuple [.str "refuse", .str "refuse"], .tuple [.tuple [.str "tag", .str "A"]], .tuple [.tuple [.str "like", .bool true]]]
theorem acts_ok : ∀ d ∈ actsD ++ actsE, okD 10 d = true := by decide +kernel
theorem t_six (s3 : Option SV) (ρ : EV) (P : Store) : iRange (aCons (mC (.int 6)) aNil) ρ P = some (rangeD 0 6, .fz .none, P) := iRange_nat (n := 6) rfl (by decide)
theorem sFor_of {f : IM} {g : GM} {body : SM} {ρ : EV} {P P1 : Store} {items : List PyData} {src : SV} (h : f ρ P = some (items, src, P1)) : sFor f g body ρ P = forGo g body items ρ P1 := by simp [h]
theorem t_L1 (x : PyData) (s3 s4 s5 s6 s7 s2 : Option SV) (c : Dr) : ∃ c' s3' s4' s5' s6' s7', bL1 (eL x s2 s3 s4 s5 s6 s7) [c.cell] = some (.nx, eL x s2 s3' s4' s5' s6' s7', [Dr.cell c']) := by
  obtain ⟨v, c1, v0, v1, e1⟩ := dr_next c 2 (by decide) (by decide)
  obtain ⟨b, hb⟩ : ∃ b : Bool, atI [PyData.str "in", .str "out"] v = some (.str (wrd b)) := by
    have hv : v = 0 ∨ v = 1 := by omega
    rcases hv with rfl | rfl
    · exact ⟨true, rfl⟩
    · exact ⟨false, rfl⟩
  obtain ⟨r, c2, hR, hO, ⟨x1, x2, x3, x4, hr⟩, e2⟩ := t_rule c1 b
  have hO' := okM_D (by decide) _ _ hO
  have hc := t_copy 40 11 r hO' (by decide) [Dr.cell c2]
  have hi := t_is_rule r hO' (by decide) [Dr.cell c2]
  rw [hR] at hi
  obtain ⟨c3, s4', s5', e3⟩ := t_L2 x r hO s2 s6 s7 (rangeD 0 6) c2 s4 s5
  subst hr
  obtain ⟨s5'', s7', e4⟩ := t_L3 x _ x1 x2 x3 x4 hO s2 s4' (some (.fz (.list (actsD ++ actsE)))) (actsD ++ actsE) acts_ok c3 s5' s7
  refine ⟨c3, some (.fz (.tuple [.str (wrd b), x1, x2, x3, x4])), s4', s5'', some (.fz (.list (actsD ++ actsE))), s7', ?_⟩
  have hneg : dNeg (.int 1) = some (.int (-1)) := rfl
  have had := dAdd_lst actsD actsE (show 10 ≤ sizeLine by decide)
  have e1' : m__law_draw [.ptr 0, .fz (.int 2)] [c.cell] = _ := e1 []
  simp only [bL1, sSeq_ap, sSet_ap]
  have n1 : (aCons (mVar 1) (aCons (mC (.str "a")) (aCons (mC (.str "b")) (aCons (mLst (aCons (mC (.str "a")) (aCons (mC (.str "b")) (aCons (mC (.str "c")) aNil)))) (aCons (mSub (mLst (aCons (mC (.str "in")) (aCons (mC (.str "out")) aNil))) (mCallF m__law_draw (aCons (mVar 1) (aCons (mC (.int 2)) aNil)))) aNil))))) (eL x s2 s3 s4 s5 s6 s7) [c.cell] = some ([.ptr 0, .fz (.str "a"), .fz (.str "b"), .fz (.list nmsD), .fz (.str (wrd b))], [c1.cell]) := by
    simp [e1', hb, nmsD]
  rw [mCallF_ap, n1]
  simp only [Option.bind_some, e2, Option.map_some]
  rw [show EV.put (eL x s2 s3 s4 s5 s6 s7) 3 (.fz (.tuple [.str (wrd b), x1, x2, x3, x4])) = eL x s2 (some (.fz (.tuple [.str (wrd b), x1, x2, x3, x4]))) s4 s5 s6 s7 from rfl]
  have n2 : (sIf (mTB (mBin (dIs true) (mCallF m_is_rule (aCons (mCallF (m__law_copy 40) (aCons (mVar 3) aNil)) aNil)) (mC (.bool true)))) (sRet (mC (.bool false))) sNx) (eL x s2 (some (.fz (.tuple [.str (wrd b), x1, x2, x3, x4]))) s4 s5 s6 s7) [Dr.cell c2] = some (.nx, eL x s2 (some (.fz (.tuple [.str (wrd b), x1, x2, x3, x4]))) s4 s5 s6 s7, [Dr.cell c2]) := by
    simp [hc, hi]
  rw [n2]
  simp only [Option.bind_some]
  rw [sFor_of (t_six none _ _), e3]
  simp only [Option.bind_some]
  have n3 : (mLst (aCons (mTup (aCons (mTup (aCons (mC (.str "like")) (aCons (mC (.int 1000)) aNil))) aNil)) (aCons (mTup (aCons (mTup (aCons (mC (.str "like")) (aCons (mC (.int 1001)) aNil))) aNil)) (aCons (mTup (aCons (mTup (aCons (mC (.str "metric")) (aCons (mC (.int 0)) aNil))) (aCons (mTup (aCons (mC (.str "metric")) (aCons (mUn dNeg (mC (.int 1))) aNil))) aNil))) (aCons (mTup (aCons (mTup (aCons (mC (.str "double")) (aCons (mC (.int 9)) aNil))) aNil)) (aCons (mTup (aCons (mTup (aCons (mC (.str "double")) (aCons (mC (.int 10)) aNil))) aNil)) (aCons (mTup (aCons (mTup (aCons (mC (.str "double")) (aCons (mC (.int 0)) aNil))) aNil)) aNil))))))) (eL x s2 (some (.fz (.tuple [.str (wrd b), x1, x2, x3, x4]))) s4' s5' s6 s7) [Dr.cell c3] = some (.fz (.list actsD), [Dr.cell c3]) := by
    simp [hneg, actsD]
  rw [n3]
  simp only [Option.map_some, Option.bind_some]
  have n4 : (mBin dAdd (mVar 6) (mLst (aCons (mTup (aCons (mC (.str "refuse")) (aCons (mTup (aCons (mC (.str "metric")) (aCons (mC (.int 5)) aNil))) aNil))) (aCons (mTup (aCons (mC (.str "refuse")) (aCons (mC (.str "refuse")) aNil))) (aCons (mTup (aCons (mTup (aCons (mC (.str "tag")) (aCons (mC (.str "A")) aNil))) aNil)) (aCons (mTup (aCons (mTup (aCons (mC (.str "like")) (aCons (mC (.bool true)) aNil))) aNil)) aNil)))))) (eL x s2 (some (.fz (.tuple [.str (wrd b), x1, x2, x3, x4]))) s4' s5' (some (.fz (.list actsD))) s7) [Dr.cell c3] = some (.fz (.list (actsD ++ actsE)), [Dr.cell c3]) := by
    have had' := had
    rw [show actsE = [.tuple [.str "refuse", .tuple [.str "metric", .int 5]], .tuple [.str "refuse", .str "refuse"], .tuple [.tuple [.str "tag", .str "A"]], .tuple [.tuple [.str "like", .bool true]]] from rfl] at had' ⊢
    simp [had']
  rw [show EV.put (eL x s2 (some (.fz (.tuple [.str (wrd b), x1, x2, x3, x4]))) s4' s5' s6 s7) 6 (.fz (.list actsD)) = eL x s2 (some (.fz (.tuple [.str (wrd b), x1, x2, x3, x4]))) s4' s5' (some (.fz (.list actsD))) s7 from rfl, n4]
  simp only [Option.map_some, Option.bind_some]
  rw [show EV.put (eL x s2 (some (.fz (.tuple [.str (wrd b), x1, x2, x3, x4]))) s4' s5' (some (.fz (.list actsD))) s7) 6 (.fz (.list (actsD ++ actsE))) = eL x s2 (some (.fz (.tuple [.str (wrd b), x1, x2, x3, x4]))) s4' s5' (some (.fz (.list (actsD ++ actsE)))) s7 from rfl]
  rw [sFor_of (P1 := [Dr.cell c3]) (items := actsD ++ actsE) (src := .fz (.list (actsD ++ actsE))) (by simp [eL]), e4]
end NS

set_option maxHeartbeats 2000000
set_option linter.all false
set_option maxRecDepth 10000
namespace NS
open PySem Pd L2
theorem t_loopL (x : PyData) : ∀ (items : List PyData) (c : Dr) (s2 s3 s4 s5 s6 s7 : Option SV), ∃ c' s2' s3' s4' s5' s6' s7', forGo (gNm 2) bL1 items (eL x s2 s3 s4 s5 s6 s7) [c.cell] = some (.nx, eL x s2' s3' s4' s5' s6' s7', [Dr.cell c'])
  | [], c, s2, s3, s4, s5, s6, s7 => ⟨c, s2, s3, s4, s5, s6, s7, rfl⟩
  | d :: l, c, s2, s3, s4, s5, s6, s7 => by
    obtain ⟨c1, t3, t4, t5, t6, t7, e⟩ := t_L1 x s3 s4 s5 s6 s7 (some (.fz d)) c
    obtain ⟨c2, u2, u3, u4, u5, u6, u7, e2⟩ := t_loopL x l c1 (some (.fz d)) t3 t4 t5 t6 t7
    refine ⟨c2, u2, u3, u4, u5, u6, u7, ?_⟩
    simp only [forGo, gNm_ap, Option.bind_some]
    rw [show EV.put (eL x s2 s3 s4 s5 s6 s7) 2 (.fz d) = eL x (some (.fz d)) s3 s4 s5 s6 s7 from rfl, e]
    exact e2
theorem t_draws (ns : List Int) : m__law_draws [.fz (.list (ns.map .int))] [] = some (.ptr 0, [Dr.cell ⟨ns, 0, 0, 1⟩]) := by
  simp [m__law_draws, mFun_ap, b__law_draws, startE, exitC, Dr.cell, Cell.ps, SV.ps]
def right5 : List PyData := [.str "out", .str "a", .str "*", .tuple [], .tuple []]
def things8 : List PyData := [.tuple right5, .list right5, .tuple [.str "Out", .str "a", .str "*", .tuple [], .tuple []], .tuple [.str "out", .str "any", .str "*", .tuple [], .tuple []], .tuple [.str "out", .str "a", .str "**", .tuple [], .tuple []],
  .tuple [.str "out", .str "a", .str "b", .tuple [], .tuple []], .tuple [.str "out", .str "a", .str "*", .list [], .tuple []], .tuple [.str "out", .str "a", .str "*", .tuple []]]
theorem things_ok : ∀ d ∈ things8, okD 10 d = true := by decide +kernel
theorem things_due' : things8.map isRule = [true, false, false, false, false, true, false, false] := by decide +kernel
theorem things_due : things8.map (fun d => PyData.bool (isRule d)) = [true, false, false, false, false, true, false, false].map .bool := by
  rw [← things_due', List.map_map]; rfl
theorem law_true (ns : List Int) (h : ns.length ≤ 63) : m_law [.fz (.list (ns.map .int))] [] = some (.fz (.bool true), []) := by
  rw [show m_law = mFun exitZ 12 b_law from rfl, mFun_ap, b_law_eq]
  generalize hx : PyData.list (ns.map .int) = x
  have hd := t_draws ns
  rw [hx] at hd
  obtain ⟨c, s2, s3, s4, s5, s6, s7, e⟩ := t_loopL x (rangeD 0 6) ⟨ns, 0, 0, 1⟩ none none none none none none
  simp only [sSeq_ap, sSet_ap]
  have n1 : (mCallF m__law_draws (aCons (mVar 0) aNil)) ⟨([] : Store).length, startE 12 [.fz x]⟩ [] = some (.ptr 0, [Dr.cell ⟨ns, 0, 0, 1⟩]) := by
    simp [startE, hd]
  rw [n1]
  simp only [Option.map_some, Option.bind_some]
  rw [show EV.put ⟨([] : Store).length, startE 12 [.fz x]⟩ 1 (.ptr 0) = eL x none none none none none none from rfl, sFor_of (t_six none _ _), e]
  simp only [Option.bind_some]
  have k1 : dSl (.tuple right5) (some 1) none = some (.tuple [.str "a", .str "*", .tuple [], .tuple []]) := rfl
  have k2 : dSl (.tuple right5) none (some 1) = some (.tuple [.str "out"]) := rfl
  have k3 : dSl (.tuple right5) (some 2) none = some (.tuple [.str "*", .tuple [], .tuple []]) := rfl
  have k4 : dSl (.tuple right5) none (some 2) = some (.tuple [.str "out", .str "a"]) := rfl
  have k5 : dSl (.tuple right5) (some 3) none = some (.tuple [.tuple [], .tuple []]) := rfl
  have k6 : dSl (.tuple right5) none (some 3) = some (.tuple [.str "out", .str "a", .str "*"]) := rfl
  have k7 : dSl (.tuple right5) none (some 4) = some (.tuple [.str "out", .str "a", .str "*", .tuple []]) := rfl
  have ad : ∀ xs ys : List PyData, xs.length + ys.length ≤ 16 → dAdd (.tuple xs) (.tuple ys) = some (.tuple (xs ++ ys)) := fun xs ys h => dAdd_tup xs ys (Nat.le_trans h (by decide))
  have al : ∀ xs ys : List PyData, xs.length + ys.length ≤ 16 → dAdd (.list xs) (.list ys) = some (.list (xs ++ ys)) := fun xs ys h => dAdd_lst xs ys (Nat.le_trans h (by decide))
  have hsz : (0 : Nat) ≤ sizeLine := Nat.zero_le _
  have r5 : [PyData.str "out", .str "a", .str "*", .tuple [], .tuple []] = right5 := rfl
  have e5 : ∀ s10 : Option SV, mLC [11] (iAny (mVar 10)) (gNm 11) bYes (mCallF m_is_rule (aCons (mVar 11) aNil)) ⟨0, [some (.fz x), some (.ptr 0), s2, s3, s4, s5, s6, s7, some (.fz (.tuple right5)), some (.fz (.list ([true, false, false, false, false, true, false, false].map .bool))), some (.fz (.list things8)), none]⟩ [c.cell] = some (.fz (.list (things8.map fun d => .bool (isRule d))), [c.cell]) := by
    intro _
    refine mLC_map (items := things8) (src := .fz (.list things8)) _ (by simp) (show 8 ≤ sizeLine by decide) fun d hd S => ?_
    refine ⟨_, rfl, ?_⟩
    simp [EV.wipe, t_is_rule d (things_ok d hd) (by decide)]
  have e5 := e5 none
  rw [things_due] at e5
  have e6 := t_same_lst 38 [true, false, false, false, false, true, false, false] (by decide) [c.cell]
  have t8 : things8 = [.tuple right5, .list right5, .tuple [.str "Out", .str "a", .str "*", .tuple [], .tuple []], .tuple [.str "out", .str "any", .str "*", .tuple [], .tuple []], .tuple [.str "out", .str "a", .str "**", .tuple [], .tuple []], .tuple [.str "out", .str "a", .str "b", .tuple [], .tuple []], .tuple [.str "out", .str "a", .str "*", .list [], .tuple []], .tuple [.str "out", .str "a", .str "*", .tuple []]] := rfl
  rw [t8] at e5
  simp only [List.map_cons, List.map_nil] at e5 e6
  have hr5 : right5.length ≤ sizeLine := show 5 ≤ sizeLine by decide
  simp [eL, hsz, hr5, r5, k1, k2, k3, k4, k5, k6, k7, ad, al, e5, e6]
end NS

set_option Elab.async false
set_option linter.all false
set_option maxRecDepth 100000
set_option maxHeartbeats 4000000
namespace NS
open PySem PySem.Spec PyProof.Rows L2 Pd
theorem all_mk {l : PySem.W.OpenLaw} {w : World} {K : PySem.W.Frag} {h : Heap} {mg : Str → Option Value} {fa : Addr} {f0 : Addr} {od0 an0 : Option Addr} {sl0 : Array (Option Value)} {oc0 kV0 dc0 pm0 cd0 ct0 : Value} {f1 : Addr} {od1 an1 : Option Addr} {sl1 : Array (Option Value)} {oc1 kV1 dc1 pm1 cd1 ct1 : Value} {f2 : Addr} {od2 an2 : Option Addr} {sl2 : Array (Option Value)} {oc2 kV2 dc2 pm2 cd2 ct2 : Value} {f3 : Addr} {od3 an3 : Option Addr} {sl3 : Array (Option Value)} {oc3 kV3 dc3 pm3 cd3 ct3 : Value} {f4 : Addr} {od4 an4 : Option Addr} {sl4 : Array (Option Value)} {oc4 kV4 dc4 pm4 cd4 ct4 : Value} {f5 : Addr} {od5 an5 : Option Addr} {sl5 : Array (Option Value)} {oc5 kV5 dc5 pm5 cd5 ct5 : Value} {f6 : Addr} {od6 an6 : Option Addr} {sl6 : Array (Option Value)} {oc6 kV6 dc6 pm6 cd6 ct6 : Value} {f7 : Addr} {od7 an7 : Option Addr} {sl7 : Array (Option Value)} {oc7 kV7 dc7 pm7 cd7 ct7 : Value} {f8 : Addr} {od8 an8 : Option Addr} {sl8 : Array (Option Value)} {oc8 kV8 dc8 pm8 cd8 ct8 : Value} {f9 : Addr} {od9 an9 : Option Addr} {sl9 : Array (Option Value)} {oc9 kV9 dc9 pm9 cd9 ct9 : Value} {f10 : Addr} {od10 an10 : Option Addr} {sl10 : Array (Option Value)} {oc10 kV10 dc10 pm10 cd10 ct10 : Value} {f11 : Addr} {od11 an11 : Option Addr} {sl11 : Array (Option Value)} {oc11 kV11 dc11 pm11 cd11 ct11 : Value} {f12 : Addr} {od12 an12 : Option Addr} {sl12 : Array (Option Value)} {oc12 kV12 dc12 pm12 cd12 ct12 : Value} {f13 : Addr} {od13 an13 : Option Addr} {sl13 : Array (Option Value)} {oc13 kV13 dc13 pm13 cd13 ct13 : Value} {f14 : Addr} {od14 an14 : Option Addr} {sl14 : Array (Option Value)} {oc14 kV14 dc14 pm14 cd14 ct14 : Value} {f15 : Addr} {od15 an15 : Option Addr} {sl15 : Array (Option Value)} {oc15 kV15 dc15 pm15 cd15 ct15 : Value} {f16 : Addr} {od16 an16 : Option Addr} {sl16 : Array (Option Value)} {oc16 kV16 dc16 pm16 cd16 ct16 : Value} {f17 : Addr} {od17 an17 : Option Addr} {sl17 : Array (Option Value)} {oc17 kV17 dc17 pm17 cd17 ct17 : Value} {f18 : Addr} {od18 an18 : Option Addr} {sl18 : Array (Option Value)} {oc18 kV18 dc18 pm18 cd18 ct18 : Value} {f19 : Addr} {od19 an19 : Option Addr} {sl19 : Array (Option Value)} {oc19 kV19 dc19 pm19 cd19 ct19 : Value} {f20 : Addr} {od20 an20 : Option Addr} {sl20 : Array (Option Value)} {oc20 kV20 dc20 pm20 cd20 ct20 : Value} {f21 : Addr} {od21 an21 : Option Addr} {sl21 : Array (Option Value)} {oc21 kV21 dc21 pm21 cd21 ct21 : Value} {f22 : Addr} {od22 an22 : Option Addr} {sl22 : Array (Option Value)} {oc22 kV22 dc22 pm22 cd22 ct22 : Value} {f23 : Addr} {od23 an23 : Option Addr} {sl23 : Array (Option Value)} {oc23 kV23 dc23 pm23 cd23 ct23 : Value} {f24 : Addr} {od24 an24 : Option Addr} {sl24 : Array (Option Value)} {oc24 kV24 dc24 pm24 cd24 ct24 : Value} {f25 : Addr} {od25 an25 : Option Addr} {sl25 : Array (Option Value)} {oc25 kV25 dc25 pm25 cd25 ct25 : Value} {q0 : Tok} {q1 : Tok} {q2 : Tok} {q3 : Addr} {qd3 : Option Addr} {qs3 : Array (Option Value)} {qn3 : Nat} {q3_0 q3_1 q3_2 q3_3 q3_4 q3_5 q3_6 q3_7 q3_8 q3_9 q3_10 : Tok} {q4 : Tok} {q5 : Tok} {q6 : Tok} {q7 : Tok} (X : K.In h) (G : h.Ns mainGlobals mg) (hfa : mg "law" = some (.ref fa))
  (a0 : PySem.W.nsIn K mainGlobals "_law_copy" = some (some (.ref f0))) (l0 : K.lookup f0 = some ⟨oc0, od0, .func (PySem.W.fnOf "_law_copy" "_law_copy" (defArgs s__law_copy) (defBody s__law_copy) (defScope s__law_copy) .none kV0 dc0 pm0 an0 cd0 ct0), sl0⟩) (c0 : PySem.W.codeIn K cd0 "_law_copy" = true) (k0 : PySem.W.keepIn K (.ref f0) = true)
  (a1 : PySem.W.nsIn K mainGlobals "_law_draw" = some (some (.ref f1))) (l1 : K.lookup f1 = some ⟨oc1, od1, .func (PySem.W.fnOf "_law_draw" "_law_draw" (defArgs s__law_draw) (defBody s__law_draw) (defScope s__law_draw) .none kV1 dc1 pm1 an1 cd1 ct1), sl1⟩) (c1 : PySem.W.codeIn K cd1 "_law_draw" = true) (k1 : PySem.W.keepIn K (.ref f1) = true)
  (a2 : PySem.W.nsIn K mainGlobals "_law_odd" = some (some (.ref f2))) (l2 : K.lookup f2 = some ⟨oc2, od2, .func (PySem.W.fnOf "_law_odd" "_law_odd" (defArgs s__law_odd) (defBody s__law_odd) (defScope s__law_odd) .none kV2 dc2 pm2 an2 cd2 ct2), sl2⟩) (c2 : PySem.W.codeIn K cd2 "_law_odd" = true) (k2 : PySem.W.keepIn K (.ref f2) = true)
  (a3 : PySem.W.nsIn K mainGlobals "_law_whole" = some (some (.ref f3))) (l3 : K.lookup f3 = some ⟨oc3, od3, .func (PySem.W.fnOf "_law_whole" "_law_whole" (defArgs s__law_whole) (defBody s__law_whole) (defScope s__law_whole) .none kV3 dc3 pm3 an3 cd3 ct3), sl3⟩) (c3 : PySem.W.codeIn K cd3 "_law_whole" = true) (k3 : PySem.W.keepIn K (.ref f3) = true)
  (a4 : PySem.W.nsIn K mainGlobals "_law_bend" = some (some (.ref f4))) (l4 : K.lookup f4 = some ⟨oc4, od4, .func (PySem.W.fnOf "_law_bend" "_law_bend" (defArgs s__law_bend) (defBody s__law_bend) (defScope s__law_bend) .none kV4 dc4 pm4 an4 cd4 ct4), sl4⟩) (c4 : PySem.W.codeIn K cd4 "_law_bend" = true) (k4 : PySem.W.keepIn K (.ref f4) = true)
  (a5 : PySem.W.nsIn K mainGlobals "_law_draws" = some (some (.ref f5))) (l5 : K.lookup f5 = some ⟨oc5, od5, .func (PySem.W.fnOf "_law_draws" "_law_draws" (defArgs s__law_draws) (defBody s__law_draws) (defScope s__law_draws) .none kV5 dc5 pm5 an5 cd5 ct5), sl5⟩) (c5 : PySem.W.codeIn K cd5 "_law_draws" = true) (k5 : PySem.W.keepIn K (.ref f5) = true)
  (a6 : PySem.W.nsIn K mainGlobals "_law_is_name" = some (some (.ref f6))) (l6 : K.lookup f6 = some ⟨oc6, od6, .func (PySem.W.fnOf "_law_is_name" "_law_is_name" (defArgs s__law_is_name) (defBody s__law_is_name) (defScope s__law_is_name) .none kV6 dc6 pm6 an6 cd6 ct6), sl6⟩) (c6 : PySem.W.codeIn K cd6 "_law_is_name" = true) (k6 : PySem.W.keepIn K (.ref f6) = true)
  (a7 : PySem.W.nsIn K mainGlobals "_law_is_number" = some (some (.ref f7))) (l7 : K.lookup f7 = some ⟨oc7, od7, .func (PySem.W.fnOf "_law_is_number" "_law_is_number" (defArgs s__law_is_number) (defBody s__law_is_number) (defScope s__law_is_number) .none kV7 dc7 pm7 an7 cd7 ct7), sl7⟩) (c7 : PySem.W.codeIn K cd7 "_law_is_number" = true) (k7 : PySem.W.keepIn K (.ref f7) = true)
  (a8 : PySem.W.nsIn K mainGlobals "_law_is_act" = some (some (.ref f8))) (l8 : K.lookup f8 = some ⟨oc8, od8, .func (PySem.W.fnOf "_law_is_act" "_law_is_act" (defArgs s__law_is_act) (defBody s__law_is_act) (defScope s__law_is_act) .none kV8 dc8 pm8 an8 cd8 ct8), sl8⟩) (c8 : PySem.W.codeIn K cd8 "_law_is_act" = true) (k8 : PySem.W.keepIn K (.ref f8) = true)
  (a9 : PySem.W.nsIn K mainGlobals "is_name" = some (some (.ref f9))) (l9 : K.lookup f9 = some ⟨oc9, od9, .func (PySem.W.fnOf "is_name" "is_name" (defArgs s_is_name) (defBody s_is_name) (defScope s_is_name) .none kV9 dc9 pm9 an9 cd9 ct9), sl9⟩) (c9 : PySem.W.codeIn K cd9 "is_name" = true) (k9 : PySem.W.keepIn K (.ref f9) = true)
  (a10 : PySem.W.nsIn K mainGlobals "fits_in" = some (some (.ref f10))) (l10 : K.lookup f10 = some ⟨oc10, od10, .func (PySem.W.fnOf "fits_in" "fits_in" (defArgs s_fits_in) (defBody s_fits_in) (defScope s_fits_in) .none kV10 dc10 pm10 an10 cd10 ct10), sl10⟩) (c10 : PySem.W.codeIn K cd10 "fits_in" = true) (k10 : PySem.W.keepIn K (.ref f10) = true)
  (a11 : PySem.W.nsIn K mainGlobals "size_of" = some (some (.ref f11))) (l11 : K.lookup f11 = some ⟨oc11, od11, .func (PySem.W.fnOf "size_of" "size_of" (defArgs s_size_of) (defBody s_size_of) (defScope s_size_of) .none kV11 dc11 pm11 an11 cd11 ct11), sl11⟩) (c11 : PySem.W.codeIn K cd11 "size_of" = true) (k11 : PySem.W.keepIn K (.ref f11) = true)
  (a12 : PySem.W.nsIn K mainGlobals "is_pattern" = some (some (.ref f12))) (l12 : K.lookup f12 = some ⟨oc12, od12, .func (PySem.W.fnOf "is_pattern" "is_pattern" (defArgs s_is_pattern) (defBody s_is_pattern) (defScope s_is_pattern) .none kV12 dc12 pm12 an12 cd12 ct12), sl12⟩) (c12 : PySem.W.codeIn K cd12 "is_pattern" = true) (k12 : PySem.W.keepIn K (.ref f12) = true)
  (a13 : PySem.W.nsIn K mainGlobals "_law_is_condition" = some (some (.ref f13))) (l13 : K.lookup f13 = some ⟨oc13, od13, .func (PySem.W.fnOf "_law_is_condition" "_law_is_condition" (defArgs s__law_is_condition) (defBody s__law_is_condition) (defScope s__law_is_condition) .none kV13 dc13 pm13 an13 cd13 ct13), sl13⟩) (c13 : PySem.W.codeIn K cd13 "_law_is_condition" = true) (k13 : PySem.W.keepIn K (.ref f13) = true)
  (a14 : PySem.W.nsIn K mainGlobals "_law_is_rule" = some (some (.ref f14))) (l14 : K.lookup f14 = some ⟨oc14, od14, .func (PySem.W.fnOf "_law_is_rule" "_law_is_rule" (defArgs s__law_is_rule) (defBody s__law_is_rule) (defScope s__law_is_rule) .none kV14 dc14 pm14 an14 cd14 ct14), sl14⟩) (c14 : PySem.W.codeIn K cd14 "_law_is_rule" = true) (k14 : PySem.W.keepIn K (.ref f14) = true)
  (a15 : PySem.W.nsIn K mainGlobals "_law_simple" = some (some (.ref f15))) (l15 : K.lookup f15 = some ⟨oc15, od15, .func (PySem.W.fnOf "_law_simple" "_law_simple" (defArgs s__law_simple) (defBody s__law_simple) (defScope s__law_simple) .none kV15 dc15 pm15 an15 cd15 ct15), sl15⟩) (c15 : PySem.W.codeIn K cd15 "_law_simple" = true) (k15 : PySem.W.keepIn K (.ref f15) = true)
  (a16 : PySem.W.nsIn K mainGlobals "_law_tag" = some (some (.ref f16))) (l16 : K.lookup f16 = some ⟨oc16, od16, .func (PySem.W.fnOf "_law_tag" "_law_tag" (defArgs s__law_tag) (defBody s__law_tag) (defScope s__law_tag) .none kV16 dc16 pm16 an16 cd16 ct16), sl16⟩) (c16 : PySem.W.codeIn K cd16 "_law_tag" = true) (k16 : PySem.W.keepIn K (.ref f16) = true)
  (a17 : PySem.W.nsIn K mainGlobals "_law_rule" = some (some (.ref f17))) (l17 : K.lookup f17 = some ⟨oc17, od17, .func (PySem.W.fnOf "_law_rule" "_law_rule" (defArgs s__law_rule) (defBody s__law_rule) (defScope s__law_rule) .none kV17 dc17 pm17 an17 cd17 ct17), sl17⟩) (c17 : PySem.W.codeIn K cd17 "_law_rule" = true) (k17 : PySem.W.keepIn K (.ref f17) = true)
  (a18 : PySem.W.nsIn K mainGlobals "_law_same" = some (some (.ref f18))) (l18 : K.lookup f18 = some ⟨oc18, od18, .func (PySem.W.fnOf "_law_same" "_law_same" (defArgs s__law_same) (defBody s__law_same) (defScope s__law_same) .none kV18 dc18 pm18 an18 cd18 ct18), sl18⟩) (c18 : PySem.W.codeIn K cd18 "_law_same" = true) (k18 : PySem.W.keepIn K (.ref f18) = true)
  (a19 : PySem.W.nsIn K mainGlobals "is_number" = some (some (.ref f19))) (l19 : K.lookup f19 = some ⟨oc19, od19, .func (PySem.W.fnOf "is_number" "is_number" (defArgs s_is_number) (defBody s_is_number) (defScope s_is_number) .none kV19 dc19 pm19 an19 cd19 ct19), sl19⟩) (c19 : PySem.W.codeIn K cd19 "is_number" = true) (k19 : PySem.W.keepIn K (.ref f19) = true)
  (a20 : PySem.W.nsIn K mainGlobals "is_act" = some (some (.ref f20))) (l20 : K.lookup f20 = some ⟨oc20, od20, .func (PySem.W.fnOf "is_act" "is_act" (defArgs s_is_act) (defBody s_is_act) (defScope s_is_act) .none kV20 dc20 pm20 an20 cd20 ct20), sl20⟩) (c20 : PySem.W.codeIn K cd20 "is_act" = true) (k20 : PySem.W.keepIn K (.ref f20) = true)
  (a21 : PySem.W.nsIn K mainGlobals "is_signs" = some (some (.ref f21))) (l21 : K.lookup f21 = some ⟨oc21, od21, .func (PySem.W.fnOf "is_signs" "is_signs" (defArgs s_is_signs) (defBody s_is_signs) (defScope s_is_signs) .none kV21 dc21 pm21 an21 cd21 ct21), sl21⟩) (c21 : PySem.W.codeIn K cd21 "is_signs" = true) (k21 : PySem.W.keepIn K (.ref f21) = true)
  (a22 : PySem.W.nsIn K mainGlobals "is_prefix" = some (some (.ref f22))) (l22 : K.lookup f22 = some ⟨oc22, od22, .func (PySem.W.fnOf "is_prefix" "is_prefix" (defArgs s_is_prefix) (defBody s_is_prefix) (defScope s_is_prefix) .none kV22 dc22 pm22 an22 cd22 ct22), sl22⟩) (c22 : PySem.W.codeIn K cd22 "is_prefix" = true) (k22 : PySem.W.keepIn K (.ref f22) = true)
  (a23 : PySem.W.nsIn K mainGlobals "is_condition" = some (some (.ref f23))) (l23 : K.lookup f23 = some ⟨oc23, od23, .func (PySem.W.fnOf "is_condition" "is_condition" (defArgs s_is_condition) (defBody s_is_condition) (defScope s_is_condition) .none kV23 dc23 pm23 an23 cd23 ct23), sl23⟩) (c23 : PySem.W.codeIn K cd23 "is_condition" = true) (k23 : PySem.W.keepIn K (.ref f23) = true)
  (a24 : PySem.W.nsIn K mainGlobals "is_rule" = some (some (.ref f24))) (l24 : K.lookup f24 = some ⟨oc24, od24, .func (PySem.W.fnOf "is_rule" "is_rule" (defArgs s_is_rule) (defBody s_is_rule) (defScope s_is_rule) .none kV24 dc24 pm24 an24 cd24 ct24), sl24⟩) (c24 : PySem.W.codeIn K cd24 "is_rule" = true) (k24 : PySem.W.keepIn K (.ref f24) = true)
  (a25 : PySem.W.nsIn K mainGlobals "law" = some (some (.ref f25))) (l25 : K.lookup f25 = some ⟨oc25, od25, .func (PySem.W.fnOf "law" "law" (defArgs s_law) (defBody s_law) (defScope s_law) .none kV25 dc25 pm25 an25 cd25 ct25), sl25⟩) (c25 : PySem.W.codeIn K cd25 "law" = true) (k25 : PySem.W.keepIn K (.ref f25) = true)
  (z0 : PySem.W.nsIn K mainGlobals "all" = some none)
  (z1 : PySem.W.nsIn K mainGlobals "bool" = some none)
  (z2 : PySem.W.nsIn K mainGlobals "dict" = some none)
  (z3 : PySem.W.nsIn K mainGlobals "int" = some none)
  (z4 : PySem.W.nsIn K mainGlobals "isinstance" = some none)
  (z5 : PySem.W.nsIn K mainGlobals "len" = some none)
  (z6 : PySem.W.nsIn K mainGlobals "list" = some none)
  (z7 : PySem.W.nsIn K mainGlobals "range" = some none)
  (z8 : PySem.W.nsIn K mainGlobals "str" = some none)
  (z9 : PySem.W.nsIn K mainGlobals "sum" = some none)
  (z10 : PySem.W.nsIn K mainGlobals "tuple" = some none)
  (y0 : PySem.W.nsIn K mainGlobals "DEEPEST" = some (some (.int 20 q0)))
  (y1 : PySem.W.nsIn K mainGlobals "DOUBLED" = some (some (.int 9 q1)))
  (y2 : PySem.W.nsIn K mainGlobals "FIRST" = some (some (.str "abcdefghijklmnopqrstuvwxyz" q2)))
  (y3 : PySem.W.nsIn K mainGlobals "KEPT" = some (some (.ref q3))) (x3 : K.lookup q3 = some ⟨.type "tuple", qd3, .seq #[.str "any" q3_0, .str "rest" q3_1, .str "many" q3_2, .str "if" q3_3, .str "then" q3_4, .str "and" q3_5, .str "not" q3_6, .str "refuse" q3_7, .str "keep" q3_8, .str "from" q3_9, .str "to" q3_10] qn3, qs3⟩)
  (y4 : PySem.W.nsIn K mainGlobals "MOST_patterns" = some (some (.int 60 q4)))
  (y5 : PySem.W.nsIn K mainGlobals "MOST_rules" = some (some (.int 1000 q5)))
  (y6 : PySem.W.nsIn K mainGlobals "REST" = some (some (.str "abcdefghijklmnopqrstuvwxyz0123456789" q6)))
  (y7 : PySem.W.nsIn K mainGlobals "WIDE" = some (some (.int 8 q7))) :
    ∃ fd : FuncData, (∀ (s : Shared) (v : Value), BindsTo s fd ⟨[v], []⟩ [("script", v)]) ∧ ∀ base : Heap, K.In base → base.Ns mainGlobals mg → FnOk l.prog w K mg base CX0 81 fa fd ["script"] (spM K m_law 1) := by
  have e := hfa.symm.trans (PySem.W.mg_of X G a25)
  cases e
  let T : Txt K mg := {
    a__law_copy := f0, d__law_copy := _, F__law_copy := fun_mk (st := s__law_copy) l0 c0 k0, m__law_copy := PySem.W.mg_of X G a0, b__law_copy := (fun_mk (st := s__law_copy) l0 c0 k0).binds (ps := ["thing"]) (fun _ _ _ _ _ _ us hl => (match us, hl with | [_], _ => rfl)),
    a__law_draw := f1, d__law_draw := _, F__law_draw := fun_mk (st := s__law_draw) l1 c1 k1, m__law_draw := PySem.W.mg_of X G a1, b__law_draw := (fun_mk (st := s__law_draw) l1 c1 k1).binds (ps := ["draws", "limit"]) (fun _ _ _ _ _ _ us hl => (match us, hl with | [_, _], _ => rfl)),
    a__law_odd := f2, d__law_odd := _, F__law_odd := fun_mk (st := s__law_odd) l2 c2 k2, m__law_odd := PySem.W.mg_of X G a2, b__law_odd := (fun_mk (st := s__law_odd) l2 c2 k2).binds (ps := ["draws"]) (fun _ _ _ _ _ _ us hl => (match us, hl with | [_], _ => rfl)),
    a__law_whole := f3, d__law_whole := _, F__law_whole := fun_mk (st := s__law_whole) l3 c3 k3, m__law_whole := PySem.W.mg_of X G a3, b__law_whole := (fun_mk (st := s__law_whole) l3 c3 k3).binds (ps := ["thing"]) (fun _ _ _ _ _ _ us hl => (match us, hl with | [_], _ => rfl)),
    a__law_bend := f4, d__law_bend := _, F__law_bend := fun_mk (st := s__law_bend) l4 c4 k4, m__law_bend := PySem.W.mg_of X G a4, b__law_bend := (fun_mk (st := s__law_bend) l4 c4 k4).binds (ps := ["draws", "thing", "depth"]) (fun _ _ _ _ _ _ us hl => (match us, hl with | [_, _, _], _ => rfl)),
    a__law_draws := f5, d__law_draws := _, F__law_draws := fun_mk (st := s__law_draws) l5 c5 k5, m__law_draws := PySem.W.mg_of X G a5, b__law_draws := (fun_mk (st := s__law_draws) l5 c5 k5).binds (ps := ["script"]) (fun _ _ _ _ _ _ us hl => (match us, hl with | [_], _ => rfl)),
    a__law_is_name := f6, d__law_is_name := _, F__law_is_name := fun_mk (st := s__law_is_name) l6 c6 k6, m__law_is_name := PySem.W.mg_of X G a6, b__law_is_name := (fun_mk (st := s__law_is_name) l6 c6 k6).binds (ps := ["thing"]) (fun _ _ _ _ _ _ us hl => (match us, hl with | [_], _ => rfl)),
    a__law_is_number := f7, d__law_is_number := _, F__law_is_number := fun_mk (st := s__law_is_number) l7 c7 k7, m__law_is_number := PySem.W.mg_of X G a7, b__law_is_number := (fun_mk (st := s__law_is_number) l7 c7 k7).binds (ps := ["thing", "low", "high"]) (fun _ _ _ _ _ _ us hl => (match us, hl with | [_, _, _], _ => rfl)),
    a__law_is_act := f8, d__law_is_act := _, F__law_is_act := fun_mk (st := s__law_is_act) l8 c8 k8, m__law_is_act := PySem.W.mg_of X G a8, b__law_is_act := (fun_mk (st := s__law_is_act) l8 c8 k8).binds (ps := ["thing", "word"]) (fun _ _ _ _ _ _ us hl => (match us, hl with | [_, _], _ => rfl)),
    a_is_name := f9, d_is_name := _, F_is_name := fun_mk (st := s_is_name) l9 c9 k9, m_is_name := PySem.W.mg_of X G a9, b_is_name := (fun_mk (st := s_is_name) l9 c9 k9).binds (ps := ["thing"]) (fun _ _ _ _ _ _ us hl => (match us, hl with | [_], _ => rfl)),
    a_fits_in := f10, d_fits_in := _, F_fits_in := fun_mk (st := s_fits_in) l10 c10 k10, m_fits_in := PySem.W.mg_of X G a10, b_fits_in := (fun_mk (st := s_fits_in) l10 c10 k10).binds (ps := ["thing", "deep"]) (fun _ _ _ _ _ _ us hl => (match us, hl with | [_, _], _ => rfl)),
    a_size_of := f11, d_size_of := _, F_size_of := fun_mk (st := s_size_of) l11 c11 k11, m_size_of := PySem.W.mg_of X G a11, b_size_of := (fun_mk (st := s_size_of) l11 c11 k11).binds (ps := ["pattern"]) (fun _ _ _ _ _ _ us hl => (match us, hl with | [_], _ => rfl)),
    a_is_pattern := f12, d_is_pattern := _, F_is_pattern := fun_mk (st := s_is_pattern) l12 c12 k12, m_is_pattern := PySem.W.mg_of X G a12, b_is_pattern := (fun_mk (st := s_is_pattern) l12 c12 k12).binds (ps := ["thing"]) (fun _ _ _ _ _ _ us hl => (match us, hl with | [_], _ => rfl)),
    a__law_is_condition := f13, d__law_is_condition := _, F__law_is_condition := fun_mk (st := s__law_is_condition) l13 c13 k13, m__law_is_condition := PySem.W.mg_of X G a13, b__law_is_condition := (fun_mk (st := s__law_is_condition) l13 c13 k13).binds (ps := ["thing"]) (fun _ _ _ _ _ _ us hl => (match us, hl with | [_], _ => rfl)),
    a__law_is_rule := f14, d__law_is_rule := _, F__law_is_rule := fun_mk (st := s__law_is_rule) l14 c14 k14, m__law_is_rule := PySem.W.mg_of X G a14, b__law_is_rule := (fun_mk (st := s__law_is_rule) l14 c14 k14).binds (ps := ["thing"]) (fun _ _ _ _ _ _ us hl => (match us, hl with | [_], _ => rfl)),
    a__law_simple := f15, d__law_simple := _, F__law_simple := fun_mk (st := s__law_simple) l15 c15 k15, m__law_simple := PySem.W.mg_of X G a15, b__law_simple := (fun_mk (st := s__law_simple) l15 c15 k15).binds (ps := ["draws", "names", "router"]) (fun _ _ _ _ _ _ us hl => (match us, hl with | [_, _, _], _ => rfl)),
    a__law_tag := f16, d__law_tag := _, F__law_tag := fun_mk (st := s__law_tag) l16 c16 k16, m__law_tag := PySem.W.mg_of X G a16, b__law_tag := (fun_mk (st := s__law_tag) l16 c16 k16).binds (ps := ["draws"]) (fun _ _ _ _ _ _ us hl => (match us, hl with | [_], _ => rfl)),
    a__law_rule := f17, d__law_rule := _, F__law_rule := fun_mk (st := s__law_rule) l17 c17 k17, m__law_rule := PySem.W.mg_of X G a17, b__law_rule := (fun_mk (st := s__law_rule) l17 c17 k17).binds (ps := ["draws", "router", "neighbour", "names", "word"]) (fun _ _ _ _ _ _ us hl => (match us, hl with | [_, _, _, _, _], _ => rfl)),
    a__law_same := f18, d__law_same := _, F__law_same := fun_mk (st := s__law_same) l18 c18 k18, m__law_same := PySem.W.mg_of X G a18, b__law_same := (fun_mk (st := s__law_same) l18 c18 k18).binds (ps := ["x", "due"]) (fun _ _ _ _ _ _ us hl => (match us, hl with | [_, _], _ => rfl)),
    a_is_number := f19, d_is_number := _, F_is_number := fun_mk (st := s_is_number) l19 c19 k19, m_is_number := PySem.W.mg_of X G a19, b_is_number := (fun_mk (st := s_is_number) l19 c19 k19).binds (ps := ["thing", "low", "high"]) (fun _ _ _ _ _ _ us hl => (match us, hl with | [_, _, _], _ => rfl)),
    a_is_act := f20, d_is_act := _, F_is_act := fun_mk (st := s_is_act) l20 c20 k20, m_is_act := PySem.W.mg_of X G a20, b_is_act := (fun_mk (st := s_is_act) l20 c20 k20).binds (ps := ["thing", "word"]) (fun _ _ _ _ _ _ us hl => (match us, hl with | [_, _], _ => rfl)),
    a_is_signs := f21, d_is_signs := _, F_is_signs := fun_mk (st := s_is_signs) l21 c21 k21, m_is_signs := PySem.W.mg_of X G a21, b_is_signs := (fun_mk (st := s_is_signs) l21 c21 k21).binds (ps := ["thing", "most"]) (fun _ _ _ _ _ _ us hl => (match us, hl with | [_, _], _ => rfl)),
    a_is_prefix := f22, d_is_prefix := _, F_is_prefix := fun_mk (st := s_is_prefix) l22 c22 k22, m_is_prefix := PySem.W.mg_of X G a22, b_is_prefix := (fun_mk (st := s_is_prefix) l22 c22 k22).binds (ps := ["thing"]) (fun _ _ _ _ _ _ us hl => (match us, hl with | [_], _ => rfl)),
    a_is_condition := f23, d_is_condition := _, F_is_condition := fun_mk (st := s_is_condition) l23 c23 k23, m_is_condition := PySem.W.mg_of X G a23, b_is_condition := (fun_mk (st := s_is_condition) l23 c23 k23).binds (ps := ["thing"]) (fun _ _ _ _ _ _ us hl => (match us, hl with | [_], _ => rfl)),
    a_is_rule := f24, d_is_rule := _, F_is_rule := fun_mk (st := s_is_rule) l24 c24 k24, m_is_rule := PySem.W.mg_of X G a24, b_is_rule := (fun_mk (st := s_is_rule) l24 c24 k24).binds (ps := ["thing"]) (fun _ _ _ _ _ _ us hl => (match us, hl with | [_], _ => rfl)),
    a_law := fa, d_law := _, F_law := fun_mk (st := s_law) l25 c25 k25, m_law := PySem.W.mg_of X G a25, b_law := (fun_mk (st := s_law) l25 c25 k25).binds (ps := ["script"]) (fun _ _ _ _ _ _ us hl => (match us, hl with | [_], _ => rfl)),
    z_all := PySem.W.mg_none_of X G z0,
    z_bool := PySem.W.mg_none_of X G z1,
    z_dict := PySem.W.mg_none_of X G z2,
    z_int := PySem.W.mg_none_of X G z3,
    z_isinstance := PySem.W.mg_none_of X G z4,
    z_len := PySem.W.mg_none_of X G z5,
    z_list := PySem.W.mg_none_of X G z6,
    z_range := PySem.W.mg_none_of X G z7,
    z_str := PySem.W.mg_none_of X G z8,
    z_sum := PySem.W.mg_none_of X G z9,
    z_tuple := PySem.W.mg_none_of X G z10,
    t_DEEPEST := q0, c_DEEPEST := PySem.W.mg_of X G y0,
    t_DOUBLED := q1, c_DOUBLED := PySem.W.mg_of X G y1,
    t_FIRST := q2, c_FIRST := PySem.W.mg_of X G y2,
    a_KEPT := q3, c_KEPT := PySem.W.mg_of X G y3, k_KEPT := ⟨[.str "any", .str "rest", .str "many", .str "if", .str "then", .str "and", .str "not", .str "refuse", .str "keep", .str "from", .str "to"], .inr ⟨_, _, _, x3, rfl, rfl, (show 11 ≤ sizeLine by decide), (.cons ⟨_, rfl⟩ (.cons ⟨_, rfl⟩ (.cons ⟨_, rfl⟩ (.cons ⟨_, rfl⟩ (.cons ⟨_, rfl⟩ (.cons ⟨_, rfl⟩ (.cons ⟨_, rfl⟩ (.cons ⟨_, rfl⟩ (.cons ⟨_, rfl⟩ (.cons ⟨_, rfl⟩ (.cons ⟨_, rfl⟩ .nil)))))))))))⟩, (.cons (.str _) (.cons (.str _) (.cons (.str _) (.cons (.str _) (.cons (.str _) (.cons (.str _) (.cons (.str _) (.cons (.str _) (.cons (.str _) (.cons (.str _) (.cons (.str _) .nil)))))))))))⟩,
    t_MOST_patterns := q4, c_MOST_patterns := PySem.W.mg_of X G y4,
    t_MOST_rules := q5, c_MOST_rules := PySem.W.mg_of X G y5,
    t_REST := q6, c_REST := PySem.W.mg_of X G y6,
    t_WIDE := q7, c_WIDE := PySem.W.mg_of X G y7 }
  refine ⟨PySem.W.fnOf "law" "law" (defArgs s_law) (defBody s_law) (defScope s_law) .none kV25 dc25 pm25 an25 cd25 ct25, fun s v => .of_eq rfl, fun base _ _ => ?_⟩
  have G__law_copy := ok__law_copy (P := l.prog) (w := w) (base := base) T  40
  have G__law_draw := ok__law_draw (P := l.prog) (w := w) (base := base) T  
  have G__law_odd := ok__law_odd (P := l.prog) (w := w) (base := base) T G__law_draw 
  have G__law_whole := ok__law_whole (P := l.prog) (w := w) (base := base) T  
  have G__law_bend := ok__law_bend (P := l.prog) (w := w) (base := base) T G__law_copy G__law_draw G__law_odd G__law_whole 40
  have G__law_draws := ok__law_draws (P := l.prog) (w := w) (base := base) T  
  have G__law_is_name := ok__law_is_name (P := l.prog) (w := w) (base := base) T  
  have G__law_is_number := ok__law_is_number (P := l.prog) (w := w) (base := base) T  
  have G__law_is_act := ok__law_is_act (P := l.prog) (w := w) (base := base) T G__law_is_name G__law_is_number 
  have G_is_name := ok_is_name (P := l.prog) (w := w) (base := base) T  
  have G_fits_in := ok_fits_in (P := l.prog) (w := w) (base := base) T G_is_name 40
  have G_size_of := ok_size_of (P := l.prog) (w := w) (base := base) T  40
  have G_is_pattern := ok_is_pattern (P := l.prog) (w := w) (base := base) T G_fits_in G_size_of 
  have G__law_is_condition := ok__law_is_condition (P := l.prog) (w := w) (base := base) T G__law_is_name G_is_pattern 
  have G__law_is_rule := ok__law_is_rule (P := l.prog) (w := w) (base := base) T G__law_is_act G__law_is_condition G__law_is_name 
  have G__law_simple := ok__law_simple (P := l.prog) (w := w) (base := base) T G__law_draw 
  have G__law_tag := ok__law_tag (P := l.prog) (w := w) (base := base) T G__law_draw 
  have G__law_rule := ok__law_rule (P := l.prog) (w := w) (base := base) T G__law_draw G__law_simple G__law_tag 
  have G__law_same := ok__law_same (P := l.prog) (w := w) (base := base) T  40
  have G_is_number := ok_is_number (P := l.prog) (w := w) (base := base) T  
  have G_is_act := ok_is_act (P := l.prog) (w := w) (base := base) T G_is_name G_is_number 
  have G_is_signs := ok_is_signs (P := l.prog) (w := w) (base := base) T  
  have G_is_prefix := ok_is_prefix (P := l.prog) (w := w) (base := base) T G_is_signs 
  have G_is_condition := ok_is_condition (P := l.prog) (w := w) (base := base) T G_is_name G_is_pattern G_is_prefix 
  have G_is_rule := ok_is_rule (P := l.prog) (w := w) (base := base) T G_is_act G_is_condition G_is_name 
  have G_law := ok_law (P := l.prog) (w := w) (base := base) T G__law_bend G__law_copy G__law_draw G__law_draws G__law_is_rule G__law_rule G__law_same G_is_rule 
  exact G_law
end NS

set_option Elab.async false
set_option linter.all false
set_option maxRecDepth 100000
set_option maxHeartbeats 4000000
open PySem PySem.W PyProof.Rows
set_option maxHeartbeats 0 in
theorem PySem.Challenge.cw_routesrest_k03_rules_that_are_none_holds : PySem.Challenge.rw_routesrest_k03_rules_that_are_none.Holds := by
  w_on; o_law; k_head; (case hw => w_witness2)
  k_fill
  refine L2.walk_of (l := PySem.Challenge.rw_routesrest_k03_rules_that_are_none) (n := 63) (k := 81) (x := "script") (CX := fun _ => L2.CX0) (sp := fun w => Pd.spM _ NS.m_law 1) rfl (by decide) rfl ⟨rfl, by decide, by decide⟩ (fun w h Y => PySem.W.kIn_of Y) ?F (fun _ _ a ns hl hO hS => Pd.law_of (NS.law_true ns hl) hO hS) (fun _ _ _ _ _ h => h)
  case F =>
    intro w mg fa h KX G hmg
    refine' NS.all_mk KX G hmg ?a0 ?l0 ?c0 ?k0 ?a1 ?l1 ?c1 ?k1 ?a2 ?l2 ?c2 ?k2 ?a3 ?l3 ?c3 ?k3 ?a4 ?l4 ?c4 ?k4 ?a5 ?l5 ?c5 ?k5 ?a6 ?l6 ?c6 ?k6 ?a7 ?l7 ?c7 ?k7 ?a8 ?l8 ?c8 ?k8 ?a9 ?l9 ?c9 ?k9 ?a10 ?l10 ?c10 ?k10 ?a11 ?l11 ?c11 ?k11 ?a12 ?l12 ?c12 ?k12 ?a13 ?l13 ?c13 ?k13 ?a14 ?l14 ?c14 ?k14 ?a15 ?l15 ?c15 ?k15 ?a16 ?l16 ?c16 ?k16 ?a17 ?l17 ?c17 ?k17 ?a18 ?l18 ?c18 ?k18 ?a19 ?l19 ?c19 ?k19 ?a20 ?l20 ?c20 ?k20 ?a21 ?l21 ?c21 ?k21 ?a22 ?l22 ?c22 ?k22 ?a23 ?l23 ?c23 ?k23 ?a24 ?l24 ?c24 ?k24 ?a25 ?l25 ?c25 ?k25 ?z0 ?z1 ?z2 ?z3 ?z4 ?z5 ?z6 ?z7 ?z8 ?z9 ?z10 ?y0 ?y1 ?y2 ?y3 ?x3 ?y4 ?y5 ?y6 ?y7
    (case a0 => k_is); (case l0 => k_is); (case c0 => k_is); (case k0 => k_is); (case a1 => k_is); (case l1 => k_is); (case c1 => k_is); (case k1 => k_is); (case a2 => k_is); (case l2 => k_is); (case c2 => k_is); (case k2 => k_is); (case a3 => k_is); (case l3 => k_is); (case c3 => k_is); (case k3 => k_is); (case a4 => k_is); (case l4 => k_is); (case c4 => k_is); (case k4 => k_is); (case a5 => k_is); (case l5 => k_is); (case c5 => k_is); (case k5 => k_is); (case a6 => k_is); (case l6 => k_is); (case c6 => k_is); (case k6 => k_is); (case a7 => k_is); (case l7 => k_is); (case c7 => k_is); (case k7 => k_is); (case a8 => k_is); (case l8 => k_is); (case c8 => k_is); (case k8 => k_is); (case a9 => k_is); (case l9 => k_is); (case c9 => k_is); (case k9 => k_is); (case a10 => k_is); (case l10 => k_is); (case c10 => k_is); (case k10 => k_is); (case a11 => k_is); (case l11 => k_is); (case c11 => k_is); (case k11 => k_is); (case a12 => k_is); (case l12 => k_is); (case c12 => k_is); (case k12 => k_is); (case a13 => k_is); (case l13 => k_is); (case c13 => k_is); (case k13 => k_is); (case a14 => k_is); (case l14 => k_is); (case c14 => k_is); (case k14 => k_is); (case a15 => k_is); (case l15 => k_is); (case c15 => k_is); (case k15 => k_is); (case a16 => k_is); (case l16 => k_is); (case c16 => k_is); (case k16 => k_is); (case a17 => k_is); (case l17 => k_is); (case c17 => k_is); (case k17 => k_is); (case a18 => k_is); (case l18 => k_is); (case c18 => k_is); (case k18 => k_is); (case a19 => k_is); (case l19 => k_is); (case c19 => k_is); (case k19 => k_is); (case a20 => k_is); (case l20 => k_is); (case c20 => k_is); (case k20 => k_is); (case a21 => k_is); (case l21 => k_is); (case c21 => k_is); (case k21 => k_is); (case a22 => k_is); (case l22 => k_is); (case c22 => k_is); (case k22 => k_is); (case a23 => k_is); (case l23 => k_is); (case c23 => k_is); (case k23 => k_is); (case a24 => k_is); (case l24 => k_is); (case c24 => k_is); (case k24 => k_is); (case a25 => k_is); (case l25 => k_is); (case c25 => k_is); (case k25 => k_is); (case z0 => k_is); (case z1 => k_is); (case z2 => k_is); (case z3 => k_is); (case z4 => k_is); (case z5 => k_is); (case z6 => k_is); (case z7 => k_is); (case z8 => k_is); (case z9 => k_is); (case z10 => k_is); (case y0 => k_is); (case y1 => k_is); (case y2 => k_is); (case y3 => k_is); (case x3 => k_is); (case y4 => k_is); (case y5 => k_is); (case y6 => k_is); (case y7 => k_is)

